import PyProof.Rows.All
import Wide.All
import OpenK.AllK
import Wide.FinOn
import KE.DataEq
import KE.DataCmp
import KE.SortData
import HandS.ForMost
import HandS.ForExc
import HandS.TryMany
import HandS.Wide
import HandS.WideBits
import HandS.IsInst
import HandS.TupAny
import HandS.TupMul
import HandS.Star
import KE.GoesEnum
import HandS.Walk
import HandS.Zip
import HandS.Conv
import HandS.SetFor
import HandS.Strs
import HandS.Flow
import HandS.Style
import HandS.Defaults
import HandS.HeadHook2
import HandS.Head0
import HandS.Head1
import HandS.Head2
import HandS.HeadEnd
import HandS.EndBits
import KE.KStateDown
import KE.KEqNest
import PySem.Challenge.RW_errandwide_k78_whole_deeds_of_copies_jud
set_option Elab.async false
set_option linter.all false
set_option maxRecDepth 100000
set_option maxHeartbeats 2000000
/-! Part 1: data, stores, how they lie in the heap, results. -/
namespace Py
open PySem PySem.Spec PyProof.Rows L2

/-- a value of the program: tuples (tup) and lists that are not changed any more (lst) by what they hold; ref: an object of the store; glo: a def or class of the text; emp: an empty dict that stays so -/
inductive D where
  | non | bl (b : Bool) | int (i : Int) | str (x : Str) | ty (n : String) | ref (n : Nat) | glo (g : Nat) | tup (ds : List D) | lst (ds : List D) | emp

/-- an object of the store: a list; a list that is read only (the script) -/
inductive Ob where
  | lst (ds : List D) | frz (ds : List D)
abbrev Store := List Ob

/-- what the end of a piece of code is: a value, an exception of the text's class c, or out of this evaluator's reach -/
inductive R (α : Type) where
  | ok (a : α) (S : Store) | exc (c : Nat) (S : Store) | bad
abbrev M (α : Type) := Store → R α
def R.bind {α β : Type} (r : R α) (k : α → M β) : R β := match r with
  | .ok a S => k a S
  | .exc c S => .exc c S
  | .bad => .bad
@[simp] theorem R.ok_bind {α β : Type} {S : Store} (a : α) (k : α → M β) : (R.ok a S).bind k = k a S := rfl
@[simp] theorem R.exc_bind {α β : Type} {S : Store} (c : Nat) (k : α → M β) : (R.exc c S : R α).bind k = .exc c S := rfl
@[simp] theorem R.bad_bind {α β : Type} (k : α → M β) : (R.bad : R α).bind k = .bad := rfl

/-! ### data as the library reads it -/
mutual
/-- nothing but data within -/
def D.okd : D → Bool
  | .non => true
  | .bl _ => true
  | .int _ => true
  | .str _ => true
  | .ty _ => false
  | .ref _ => false
  | .glo _ => false
  | .tup ds => okdL ds
  | .lst ds => okdL ds
  | .emp => false
def okdL : List D → Bool
  | [] => true
  | d :: ds => d.okd && okdL ds
end
mutual
def D.py : D → PyData
  | .non => .none
  | .bl b => .bool b
  | .int i => .int i
  | .str x => .str x
  | .ty _ => .none
  | .ref _ => .none
  | .glo _ => .none
  | .tup ds => .tuple (pyL ds)
  | .lst ds => .list (pyL ds)
  | .emp => .none
def pyL : List D → List PyData
  | [] => []
  | d :: ds => d.py :: pyL ds
end
mutual
theorem D.py_plain : ∀ d : D, d.py.plain = true
  | .non => rfl
  | .bl _ => rfl
  | .int _ => rfl
  | .str _ => rfl
  | .ty _ => rfl
  | .ref _ => rfl
  | .glo _ => rfl
  | .tup ds => by rw [D.py, PyData.plain]; exact pyL_plain ds
  | .lst ds => by rw [D.py, PyData.plain]; exact pyL_plain ds
  | .emp => rfl
theorem pyL_plain : ∀ ds : List D, PyData.plainAll (pyL ds) = true
  | [] => rfl
  | d :: ds => by rw [pyL, PyData.plainAll, D.py_plain d, pyL_plain ds]; rfl
end

/-! ### how data lie in the heap -/
/-- the text's own objects: the written part, where each def and class stands -/
structure Gc where
  K : PySem.W.Frag
  ad : Nat → Option Addr

/-- what is mutable where one stands: the store's objects (as, by their numbers), others (O) -/
structure Mu where
  as : List Addr
  O : Addr → Prop
def Mu.has (m : Mu) (a : Addr) : Prop := a ∈ m.as ∨ m.O a

mutual
def Rp (G : Gc) (m : Mu) (H : Hp) : D → V → Prop
  | .non, v => v = .non
  | .bl b, v => v = .bl b
  | .int i, v => v = .int i
  | .str x, v => v = .str x
  | .ty n, v => v = .ty n
  | .ref n, v => ∃ a, v = .ref a ∧ m.as[n]? = some a
  | .glo g, v => ∃ a, v = .ref a ∧ G.ad g = some a
  | .tup ds, v => ∃ a xs, v = .ref a ∧ SqT G.K H a xs ∧ RpL G m H ds xs
  | .lst ds, v => ∃ a xs, v = .ref a ∧ H a = some (.lst xs) ∧ ¬ m.has a ∧ RpL G m H ds xs
  | .emp, v => ∃ a, v = .ref a ∧ H a = some (.dK []) ∧ ¬ m.has a
def RpL (G : Gc) (m : Mu) (H : Hp) : List D → List V → Prop
  | [], xs => xs = []
  | d :: ds, xs => ∃ v r, xs = v :: r ∧ Rp G m H d v ∧ RpL G m H ds r
end
/-- read only, by a primitive: a list may be mutable -/
def Rt (G : Gc) (m : Mu) (H : Hp) (d : D) (v : V) : Prop := match d with
  | .lst ds => ∃ a xs, v = .ref a ∧ H a = some (.lst xs) ∧ a ∉ m.as ∧ RpL G m H ds xs
  | d => Rp G m H d v
/-- a list that one alone holds -/
def Ol (G : Gc) (m : Mu) (H : Hp) (ds : List D) (a : Addr) : Prop := ∃ xs, H a = some (.lst xs) ∧ RpL G m H ds xs
def RpO (G : Gc) (m : Mu) (H : Hp) : Ob → Addr → Prop
  | .lst ds, a => Ol G m H ds a
  | .frz ds, a => ∃ o xs, H a = some (.frz o (.lst xs)) ∧ RpL G m H ds xs

/-- the step from a state to a later one: the store grows by what is new, objects that are not in it stay -/
structure Le (G : Gc) (m : Mu) (H : Hp) (m' : Mu) (H' : Hp) : Prop where
  as : ∃ e, m'.as = m.as ++ e ∧ ∀ a ∈ e, H a = none
  O : m'.O = m.O
  kept : ∀ a o, H a = some o → a ∉ m.as → H' a = some o
  tups : ∀ a xs, SqT G.K H a xs → SqT G.K H' a xs
  there : ∀ a, H a ≠ none → H' a ≠ none
structure Holds (G : Gc) (m : Mu) (H : Hp) (S : Store) : Prop where
  len : m.as.length = S.length
  nd : m.as.Nodup
  ob : ∀ (n : Nat) (ob : Ob) (a : Addr), S[n]? = some ob → m.as[n]? = some a → RpO G m H ob a
  dis : ∀ a, m.O a → a ∉ m.as
  there : ∀ a, m.O a → H a ≠ none

section
variable {G : Gc} {m m' m'' : Mu} {H H' H'' : Hp} {S S' : Store}
mutual
theorem Rp.mono (ha : ∀ (n : Nat) (a : Addr), m.as[n]? = some a → m'.as[n]? = some a) (ht : ∀ a xs, SqT G.K H a xs → SqT G.K H' a xs)
    (hl : ∀ a o, H a = some o → ¬ m.has a → H' a = some o ∧ ¬ m'.has a) : ∀ (d : D) (v : V), Rp G m H d v → Rp G m' H' d v
  | .non, _, h => h
  | .bl _, _, h => h
  | .int _, _, h => h
  | .str _, _, h => h
  | .ty _, _, h => h
  | .ref n, _, ⟨a, e, h⟩ => ⟨a, e, ha n a h⟩
  | .glo _, _, h => h
  | .tup ds, _, ⟨a, xs, e, h1, h2⟩ => ⟨a, xs, e, ht a xs h1, RpL.mono ha ht hl ds xs h2⟩
  | .lst ds, _, ⟨a, xs, e, h1, h2, h3⟩ => ⟨a, xs, e, (hl a _ h1 h2).1, (hl a _ h1 h2).2, RpL.mono ha ht hl ds xs h3⟩
  | .emp, _, ⟨a, e, h1, h2⟩ => ⟨a, e, (hl a _ h1 h2).1, (hl a _ h1 h2).2⟩
theorem RpL.mono (ha : ∀ (n : Nat) (a : Addr), m.as[n]? = some a → m'.as[n]? = some a) (ht : ∀ a xs, SqT G.K H a xs → SqT G.K H' a xs)
    (hl : ∀ a o, H a = some o → ¬ m.has a → H' a = some o ∧ ¬ m'.has a) : ∀ (ds : List D) (xs : List V), RpL G m H ds xs → RpL G m' H' ds xs
  | [], _, h => h
  | d :: ds, _, ⟨v, r, e, h1, h2⟩ => ⟨v, r, e, Rp.mono ha ht hl d v h1, RpL.mono ha ht hl ds r h2⟩
end
theorem rd_some {a : Addr} {u : HO} (h : Rd H a u) : ∃ o, H a = some o := by
  rcases h with h | ⟨o, h⟩
  · exact ⟨_, h⟩
  · exact ⟨_, h⟩
theorem Le.refl : Le G m H m H := ⟨⟨[], by simp, by simp⟩, rfl, fun _ _ h _ => h, fun _ _ h => h, fun _ h => h⟩
theorem Le.ix (l : Le G m H m' H') {n : Nat} {a : Addr} (h : m.as[n]? = some a) : m'.as[n]? = some a := by
  obtain ⟨e, e1, _⟩ := l.as
  rw [e1, List.getElem?_append_left (List.getElem?_eq_some_iff.mp h).1]
  exact h
theorem Le.rd (l : Le G m H m' H') {a : Addr} {u : HO} (h : Rd H a u) (n : a ∉ m.as) : Rd H' a u := by
  rcases h with h | ⟨o, h⟩
  · exact .inl (l.kept a _ h n)
  · exact .inr ⟨o, l.kept a _ h n⟩
theorem Le.nhas (l : Le G m H m' H') {a : Addr} {o : HO} (h : H a = some o) (n : ¬ m.has a) : ¬ m'.has a := by
  obtain ⟨e, e1, e2⟩ := l.as
  rintro (q | q)
  · rw [e1, List.mem_append] at q
    rcases q with q | q
    · exact n (.inl q)
    · rw [e2 a q] at h; cases h
  · rw [l.O] at q
    exact n (.inr q)
theorem Le.lsts (l : Le G m H m' H') (a : Addr) (o : HO) (h : H a = some o) (n : ¬ m.has a) : H' a = some o ∧ ¬ m'.has a := ⟨l.kept a _ h fun z => n (.inl z), l.nhas h n⟩
theorem Le.rp (l : Le G m H m' H') {d : D} {v : V} (h : Rp G m H d v) : Rp G m' H' d v := Rp.mono (fun _ _ => l.ix) l.tups l.lsts d v h
theorem Le.rpL (l : Le G m H m' H') {ds : List D} {xs : List V} (h : RpL G m H ds xs) : RpL G m' H' ds xs := RpL.mono (fun _ _ => l.ix) l.tups l.lsts ds xs h
theorem Le.trans (l : Le G m H m' H') (k : Le G m' H' m'' H'') : Le G m H m'' H'' := by
  obtain ⟨e, e1, e2⟩ := l.as
  obtain ⟨f, f1, f2⟩ := k.as
  have hn : ∀ a o, H a = some o → a ∉ m.as → a ∉ m'.as := fun a o h n q => by
    rw [e1, List.mem_append] at q
    rcases q with q | q
    · exact n q
    · rw [e2 a q] at h; cases h
  refine ⟨⟨e ++ f, by rw [f1, e1, List.append_assoc], fun a ha => ?_⟩, k.O.trans l.O, fun a o h n => k.kept a o (l.kept a o h n) (hn a o h n), fun a xs h => k.tups a xs (l.tups a xs h), fun a h => k.there a (l.there a h)⟩
  rcases List.mem_append.mp ha with q | q
  · exact e2 a q
  · cases h : H a with
    | none => rfl
    | some o => exact absurd (f2 a q) (l.there a (by rw [h]; simp))
theorem Le.nas (l : Le G m H m' H') {a : Addr} {o : HO} (h : H a = some o) (n : a ∉ m.as) : a ∉ m'.as := by
  obtain ⟨e, e1, e2⟩ := l.as
  intro q
  rw [e1, List.mem_append] at q
  rcases q with q | q
  · exact n q
  · rw [e2 a q] at h; cases h
theorem Rp.rt {d : D} {v : V} (h : Rp G m H d v) : Rt G m H d v := by
  cases d with
  | lst ds =>
    obtain ⟨a, xs, e, h1, h2, h3⟩ := h
    exact ⟨a, xs, e, h1, fun z => h2 (.inl z), h3⟩
  | _ => exact h
theorem Le.rt (l : Le G m H m' H') {d : D} {v : V} (h : Rt G m H d v) : Rt G m' H' d v := by
  cases d with
  | lst ds =>
    obtain ⟨a, xs, e, h1, h2, h3⟩ := h
    exact ⟨a, xs, e, l.kept a _ h1 h2, l.nas h1 h2, l.rpL h3⟩
  | _ => exact l.rp h
end

/-! ### behind a piece of code -/
def Aft (G : Gc) (m : Mu) (H : Hp) {α : Type} (X : XK) (r : R α) (Φ : α → Store → Mu → Hp → Prop) : Prop := match r with
  | .ok a S => ∀ m' H', Le G m H m' H' → Holds G m' H' S → Φ a S m' H'
  | .exc c S => ∀ m' H', Le G m H m' H' → Holds G m' H' S → ∀ ca, G.ad c = some ca → X (.ref ca) none H'
  | .bad => False
section
variable {G : Gc} {m m' : Mu} {H H' : Hp} {α β : Type} {X : XK} {r : R α} {Φ Ψ : α → Store → Mu → Hp → Prop}
theorem Aft.later (h : Aft G m H X r Φ) (l : Le G m H m' H') : Aft G m' H' X r Φ := by
  cases r with
  | ok a S => exact fun m2 H2 l2 h2 => h m2 H2 (l.trans l2) h2
  | exc c S => exact fun m2 H2 l2 h2 => h m2 H2 (l.trans l2) h2
  | bad => exact h
theorem Aft.imp (h : Aft G m H X r Φ) (k : ∀ a S m' H', Le G m H m' H' → Holds G m' H' S → Φ a S m' H' → Ψ a S m' H') : Aft G m H X r Ψ := by
  cases r with
  | ok a S => exact fun m2 H2 l2 h2 => k a S m2 H2 l2 h2 (h m2 H2 l2 h2)
  | exc c S => exact h
  | bad => exact h
theorem Aft.impX {X' : XK} (h : Aft G m H X r Φ) (k : ∀ c H', X c none H' → X' c none H') : Aft G m H X' r Φ := by
  cases r with
  | ok a S => exact h
  | exc c S => exact fun m2 H2 l2 h2 ca e => k _ _ (h m2 H2 l2 h2 ca e)
  | bad => exact h
theorem Aft.bind {k : α → M β} {Φ : β → Store → Mu → Hp → Prop} (h : Aft G m H X (r.bind k) Φ) : Aft G m H X r fun a S m' H' => Aft G m' H' X (k a S) Φ := by
  cases r with
  | ok a S => exact fun m2 H2 l2 h2 => Aft.later (show Aft G m H X (k a S) Φ from h) l2
  | exc c S => exact h
  | bad => exact h
theorem Aft.ok {a : α} {S : Store} (h : Aft G m H X (.ok a S) Φ) (hs : Holds G m H S) : Φ a S m H := h m H Le.refl hs
end

/-! ### the slots -/
abbrev Sg := L2.St
/-- a slot: a value, or a list that it alone holds -/
inductive Sl where
  | val (d : D) | own (ds : List D)
abbrev Env := List (Option Sl)
def RpS (G : Gc) (m : Mu) (H : Hp) : Sl → V → Prop
  | .val d, v => Rp G m H d v
  | .own ds, v => ∃ a, v = .ref a ∧ m.O a ∧ a ∉ m.as ∧ Ol G m H ds a
structure RpE (G : Gc) (m : Mu) (H : Hp) (ρ : Env) (σ : Sg) : Prop where
  at_ : ∀ (i : Nat) (s : Sl), ρ[i]? = some (some s) → ∃ v, σ[i]? = some (some v) ∧ RpS G m H s v
  inj : ∀ (i j : Nat) (ds es : List D) (a : Addr), ρ[i]? = some (some (.own ds)) → ρ[j]? = some (some (.own es)) → σ[i]? = some (some (V.ref a)) → σ[j]? = some (some (V.ref a)) → i = j
  len : ρ.length = σ.length
section
variable {G : Gc} {m m' : Mu} {H H' : Hp} {ρ : Env} {σ : Sg}
theorem Le.ol (l : Le G m H m' H') {ds : List D} {a : Addr} (n : a ∉ m.as) (h : Ol G m H ds a) : Ol G m' H' ds a := by
  obtain ⟨xs, e, q⟩ := h
  exact ⟨xs, l.kept a _ e n, l.rpL q⟩
theorem Le.rps (l : Le G m H m' H') {s : Sl} {v : V} (h : RpS G m H s v) : RpS G m' H' s v := by
  cases s with
  | val d => exact l.rp h
  | own ds =>
    obtain ⟨a, e, h1, h2, h3⟩ := h
    obtain ⟨xs, ex, _⟩ := id h3
    exact ⟨a, e, by rw [l.O]; exact h1, l.nas ex h2, l.ol h2 h3⟩
theorem RpE.le (E : RpE G m H ρ σ) (l : Le G m H m' H') : RpE G m' H' ρ σ :=
  ⟨fun i s h => let ⟨v, e, q⟩ := E.at_ i s h; ⟨v, e, l.rps q⟩, E.inj, E.len⟩
/-- all that is tracked stays -/
theorem sqT_same {K : PySem.W.Frag} (s : Same H H') {a : Addr} {xs : List V} (h : SqT K H a xs) : SqT K H' a xs := by
  rcases h with (h | ⟨o, h⟩) | h
  · exact .inl (.inl (s _ _ h))
  · exact .inl (.inr ⟨o, s _ _ h⟩)
  · exact .inr h
theorem Le.same (s : Same H H') : Le G m H m H' := ⟨⟨[], by simp, by simp⟩, rfl, fun a o h _ => s a o h, fun _ _ h => sqT_same s h, fun a h => by
  cases e : H a with
  | none => exact absurd e h
  | some o => rw [s a o e]; simp⟩
theorem Holds.same {S : Store} (h : Holds G m H S) (s : Same H H') : Holds G m H' S :=
  ⟨h.len, h.nd, fun n ob a e1 e2 => by
    have q := h.ob n ob a e1 e2
    cases ob with
    | lst ds =>
      obtain ⟨xs, e, r⟩ := q
      exact ⟨xs, s _ _ e, (Le.same (m := m) s).rpL r⟩
    | frz ds =>
      obtain ⟨o, xs, e, r⟩ := q
      exact ⟨o, xs, s _ _ e, (Le.same (m := m) s).rpL r⟩, h.dis, fun a q => (Le.same (G := G) (m := m) s).there a (h.there a q)⟩
theorem Same.new {p : Addr} {o : HO} (h : H p = none) : Same H (upd H p o) := fun a u e => by
  rw [upd_ne (ne_of_none e h)]
  exact e
end

/-! ### readings of code by what it is -/
abbrev DE := Env → M D
abbrev DT := Env → M Bool
abbrev DA := Env → M (List D)
def Inp (G : Gc) (σ : Sg) (H : Hp) (k : Mu → Env → Store → Prop) : Prop := ∃ m ρ S, Holds G m H S ∧ RpE G m H ρ σ ∧ k m ρ S
def RtL (G : Gc) (m : Mu) (H : Hp) : List D → List V → Prop
  | [], xs => xs = []
  | d :: ds, xs => ∃ v r, xs = v :: r ∧ Rt G m H d v ∧ RtL G m H ds r
def tE (G : Gc) (W : WX) (d : DE) : TE := fun σ H Q => Inp G σ H fun m ρ S => Aft G m H (fun c x H' => W c x σ H') (d ρ S) fun r _ m' H' => ∀ v, Rp G m' H' r v → Q v H'
def tR (G : Gc) (W : WX) (d : DE) : TE := fun σ H Q => Inp G σ H fun m ρ S => Aft G m H (fun c x H' => W c x σ H') (d ρ S) fun r _ m' H' => ∀ v, Rt G m' H' r v → Q v H'
def tT (G : Gc) (W : WX) (d : DT) : TT := fun σ H Q => Inp G σ H fun m ρ S => Aft G m H (fun c x H' => W c x σ H') (d ρ S) fun r _ _ H' => Q r H'
def tA (G : Gc) (W : WX) (d : DA) : TA := fun σ H Q => Inp G σ H fun m ρ S => Aft G m H (fun c x H' => W c x σ H') (d ρ S) fun r _ m' H' => ∀ vs, RpL G m' H' r vs → Q vs H'
def tB (G : Gc) (W : WX) (d : DA) : TA := fun σ H Q => Inp G σ H fun m ρ S => Aft G m H (fun c x H' => W c x σ H') (d ρ S) fun r _ m' H' => ∀ vs, RtL G m' H' r vs → Q vs H'
/-- primitives: they read the store -/
abbrev Pr (α β : Type) := Store → α → Option β
def rRes (G : Gc) (m : Mu) (H : Hp) (S : Store) (r : D) (Q : VK) : Prop := ∀ m' H', Le G m H m' H' → Holds G m' H' S → ∀ v, Rp G m' H' r v → Q v H'
def rO (G : Gc) (f : Store → D → D → Option D) : R2 := fun x y H Q => ∃ m S d e r, Holds G m H S ∧ Rt G m H d x ∧ Rt G m H e y ∧ f S d e = some r ∧ rRes G m H S r Q
def rC (G : Gc) (f : Store → List D → Option D) : List V → Hp → VK → Prop := fun vs H Q => ∃ m S ds r, Holds G m H S ∧ RtL G m H ds vs ∧ f S ds = some r ∧ rRes G m H S r Q
def optM {β : Type} (r : Option β) : M β := fun S => match r with
  | some b => .ok b S
  | none => .bad
def dOp (f : Store → D → D → Option D) (a b : DE) : DE := fun ρ S => (a ρ S).bind fun x S => (b ρ S).bind fun y S => optM (f S x y) S
def dPr (f : Store → List D → Option D) (a : DA) : DE := fun ρ S => (a ρ S).bind fun xs S => optM (f S xs) S
section
variable {G : Gc} {W : WX} {X : Cx} {e a b : Expr} {t t' : TE} {da db : DE} {m : Mu} {H : Hp} {S : Store} {σ : Sg}
theorem pe_imp (h : PE X e t) (k : ∀ σ H Q, t' σ H Q → t σ H Q) : PE X e t' := ⟨fun pins s σ H Q I q => h.run pins s σ H Q I (k σ H Q q)⟩
theorem pt_imp {t t' : TT} (h : PT X e t) (k : ∀ σ H Q, t' σ H Q → t σ H Q) : PT X e t' := ⟨fun pins s σ H Q I q => h.run pins s σ H Q I (k σ H Q q)⟩
theorem pa_imp {es : List Expr} {t t' : TA} (h : PA X es t) (k : ∀ σ H Q, t' σ H Q → t σ H Q) : PA X es t' := ⟨fun pos pins s σ H Q I q => h.run pos pins s σ H Q I (k σ H Q q)⟩
theorem opr_imp {f : Value → Value → Sem Value} {r r' : R2} (h : OpR X f r) (k : ∀ x y H Q, r' x y H Q → r x y H Q) : OpR X f r' := fun pins s σ H x y v u Q I rx ry q => h pins s σ H x y v u Q I rx ry (k x y H Q q)
theorem callr_imp {f : Value} {r r' : List V → Hp → VK → Prop} (h : CallR X f r) (k : ∀ xs H Q, r' xs H Q → r xs H Q) : CallR X f r' := fun pins s σ H xs us Q I rx q => h pins s σ H xs us Q I rx (k xs H Q q)
theorem rRes.here {r : D} {Q : VK} (h : rRes G m H S r Q) (hs : Holds G m H S) {v : V} (q : Rp G m H r v) : Q v H := h m H Le.refl hs v q
theorem rRes.new {r : D} {Q : VK} (h : rRes G m H S r Q) (hs : Holds G m H S) {p : Addr} {o : HO} (hp : H p = none) {v : V} (q : Rp G m (upd H p o) r v) : Q v (upd H p o) :=
  h m _ (Le.same (Same.new hp)) (hs.same (Same.new hp)) v q
theorem rRes.later {r : D} {Q : VK} {m' : Mu} {H' : Hp} (h : rRes G m H S r Q) (l : Le G m H m' H') : rRes G m' H' S r Q := fun m2 H2 l2 h2 => h m2 H2 (l.trans l2) h2
theorem aft_opt {r : Option D} {Y : XK} {Q : VK} (h : Aft G m H Y (optM r S) fun r _ m' H' => ∀ v, Rp G m' H' r v → Q v H') : ∃ d, r = some d ∧ rRes G m H S d Q := by
  cases r with
  | none => exact h.elim
  | some d => exact ⟨d, rfl, fun m' H' l hs v q => h m' H' l hs v q⟩
/-- reading a value twice: the weak reading of a strong one -/
theorem jr_of (h : PE X e (tE G W da)) : PE X e (tR G W da) := pe_imp h fun σ H Q ⟨m, ρ, S, hS, hE, q⟩ => ⟨m, ρ, S, hS, hE, q.imp fun r S' m' H' _ _ z v rv => z v rv.rt⟩
theorem tOp_of {f : Store → D → D → Option D} {Q : VK} (h : tE G W (dOp f da db) σ H Q) : tOp (rO G f) (tR G W da) (tR G W db) σ H Q := by
  obtain ⟨m, ρ, S, hS, hE, h⟩ := h
  refine ⟨m, ρ, S, hS, hE, (Aft.bind h).imp fun x S1 m1 H1 l1 hS1 h1 v rv => ?_⟩
  refine ⟨m1, ρ, S1, hS1, hE.le l1, (Aft.bind h1).imp fun y S2 m2 H2 l2 hS2 h2 u ru => ?_⟩
  obtain ⟨d, e, k⟩ := aft_opt h2
  exact ⟨m2, S2, x, y, d, hS2, l2.rt rv, ru, e, k⟩
theorem je_op {op : Operator} {f : Store → D → D → Option D} {pos : Pos} (ho : OpR X (binaryOp op) (rO G f)) (ha : PE X a (tR G W da)) (hb : PE X b (tR G W db)) : PE X (.BinOp a op b pos) (tE G W (dOp f da db)) :=
  pe_imp (pe_op ho ha hb) fun _ _ _ h => tOp_of h
theorem je_cmp {op : CmpOp} {f : Store → D → D → Option D} {pos : Pos} (ho : OpR X (compareOp op) (rO G f)) (ha : PE X a (tR G W da)) (hb : PE X b (tR G W db)) (hm : behindInMarks op b = false) : PE X (.Compare a [op] [b] pos) (tE G W (dOp f da db)) :=
  pe_imp (pe_cmpR ho ha hb hm) fun _ _ _ h => tOp_of h
end
end Py

/-! Part 2: primitives. -/
namespace Py
open PySem PySem.Spec PyProof.Rows L2

section
variable {G : Gc} {X : Cx} {pins : List (Addr × Obj)} {σ : Sg} {m : Mu} {H : Hp} {s : Shared}
mutual
theorem Rp.reads (I : Inv X pins σ H s) (hK : X.K = G.K) : ∀ (d : D) (v : V) (u : Value), d.okd = true → Rp G m H d v → RelV v u → ∃ as, Reads s.heap u d.py as
  | .non, _, _, _, h, r => by
    have h : _ = V.non := h
    subst h; cases r; exact ⟨_, Reads.none⟩
  | .bl b, _, _, _, h, r => by
    have h : _ = V.bl b := h
    subst h; cases r; exact ⟨_, Reads.bool b⟩
  | .int i, _, _, _, h, r => by
    have h : _ = V.int i := h
    subst h; obtain ⟨t, rfl⟩ := r; exact ⟨_, Reads.int i t⟩
  | .str x, _, _, _, h, r => by
    have h : _ = V.str x := h
    subst h; obtain ⟨t, rfl⟩ := r; exact ⟨_, Reads.str x t⟩
  | .ty n, _, _, k, _, _ => by cases k
  | .ref n, _, _, k, _, _ => by cases k
  | .glo n, _, _, k, _, _ => by cases k
  | .emp, _, _, k, _, _ => by cases k
  | .tup ds, _, _, k, ⟨a, xs, e, h1, h2⟩, r => by
    subst e; cases r
    rw [← hK] at h1
    obtain ⟨its, rv, ⟨o, ho, hc, n, hd⟩, _⟩ := I.tuple h1
    obtain ⟨as, hr⟩ := RpL.reads I hK ds xs its k h2 rv
    exact ⟨_, Reads.tuple ho hc hd hr⟩
  | .lst ds, _, _, k, ⟨a, xs, e, h1, _, h2⟩, r => by
    subst e; cases r
    obtain ⟨its, rv, ⟨o, n, ho, hc, _, hd⟩, _⟩ := I.list (.inl (.inl h1))
    obtain ⟨as, hr⟩ := RpL.reads I hK ds xs its k h2 rv
    exact ⟨_, Reads.list ho hc hd hr⟩
theorem RpL.reads (I : Inv X pins σ H s) (hK : X.K = G.K) : ∀ (ds : List D) (vs : List V) (us : List Value), okdL ds = true → RpL G m H ds vs → Vals vs us → ∃ as, ReadsAll s.heap us (pyL ds) as
  | [], _, _, _, h, r => by
    have h : _ = [] := h
    subst h; cases r; exact ⟨_, ReadsAll.nil⟩
  | d :: ds, _, _, k, ⟨v, r', e, h1, h2⟩, r => by
    subst e
    have k' : (d.okd && okdL ds) = true := k
    rw [Bool.and_eq_true] at k'
    cases r with
    | cons r1 r2 =>
      obtain ⟨as, q1⟩ := Rp.reads I hK d _ _ k'.1 h1 r1
      obtain ⟨bs, q2⟩ := RpL.reads I hK ds _ _ k'.2 h2 r2
      exact ⟨_, ReadsAll.cons q1 q2⟩
end
theorem Rt.reads (I : Inv X pins σ H s) (hK : X.K = G.K) {d : D} {v : V} {u : Value} (k : d.okd = true) (h : Rt G m H d v) (r : RelV v u) : ∃ as, Reads s.heap u d.py as := by
  cases d with
  | lst ds =>
    obtain ⟨a, xs, e, h1, _, h2⟩ := h
    subst e; cases r
    obtain ⟨its, rv, ⟨o, n, ho, hc, _, hd⟩, _⟩ := I.list (.inl (.inl h1))
    obtain ⟨as, hr⟩ := RpL.reads I hK ds xs its k h2 rv
    exact ⟨_, Reads.list ho hc hd hr⟩
  | _ => exact Rp.reads (m := m) I hK _ _ _ k h r
end

/-! ### comparisons of data -/
def shal (d : D) : Bool := d.okd && decide (d.py.depth ≤ 100)
theorem shal_ok {d : D} (h : shal d = true) : d.okd = true ∧ d.py.depth ≤ 100 := by
  unfold shal at h
  rw [Bool.and_eq_true, decide_eq_true_eq] at h
  exact h
def pEq (_ : Store) (d e : D) : Option D := if shal d && shal e then some (.bl (PyData.eqv d.py e.py)) else none
def pNe (_ : Store) (d e : D) : Option D := if shal d && shal e then some (.bl (!PyData.eqv d.py e.py)) else none
def isNonD : D → Bool
  | .non => true
  | _ => false
def cmpOk (d e : D) : Bool := shal d && shal e && PySem.W.alike d.py e.py && !isNonD d
theorem cmpOk_ok {d e : D} (h : cmpOk d e = true) : shal d = true ∧ shal e = true ∧ PySem.W.alike d.py e.py = true ∧ d.py ≠ .none := by
  unfold cmpOk at h
  simp only [Bool.and_eq_true] at h
  obtain ⟨⟨⟨h1, h2⟩, h3⟩, h4⟩ := h
  refine ⟨h1, h2, h3, ?_⟩
  have k := (shal_ok h1).1
  cases d <;> simp_all [D.py, isNonD, D.okd]
def pLt (_ : Store) (d e : D) : Option D := if cmpOk d e then some (.bl (PySem.W.dataLt d.py e.py)) else none
def pGt (_ : Store) (d e : D) : Option D := if cmpOk d e then some (.bl (PySem.W.dataLt e.py d.py)) else none
def pLe (_ : Store) (d e : D) : Option D := if cmpOk d e then some (.bl (!PySem.W.dataLt e.py d.py)) else none
def pGe (_ : Store) (d e : D) : Option D := if cmpOk d e then some (.bl (!PySem.W.dataLt d.py e.py)) else none
def itemsOf : D → Option (List D)
  | .tup ds => some ds
  | .lst ds => some ds
  | _ => none
def pIn (_ : Store) (d e : D) : Option D := match itemsOf e with
  | some ds => if shal d && shal e then some (.bl ((pyL ds).any fun y => PyData.eqv y d.py)) else none
  | none => none
def pNotIn (_ : Store) (d e : D) : Option D := match itemsOf e with
  | some ds => if shal d && shal e then some (.bl (!(pyL ds).any fun y => PyData.eqv y d.py)) else none
  | none => none
section
variable {G : Gc} {X : Cx}
theorem some_if {α : Type} {c : Bool} {a r : α} (h : (if c = true then some a else none) = some r) : c = true ∧ a = r := by
  cases c with
  | true => exact ⟨rfl, Option.some.inj h⟩
  | false => cases h
theorem op_of_data {op : CmpOp} {f : Store → D → D → Option D} (g : D → D → Bool) (c : D → D → Bool) (hK : X.K = G.K) (hf : ∀ S d e r, f S d e = some r → c d e = true ∧ r = .bl (g d e)) (hc : ∀ d e, c d e = true → d.okd = true ∧ e.okd = true)
    (rule : ∀ {E : Value → Shared → Prop} {s : Shared} {a b : Value} {d e : D} {as bs : List Addr} {Q : Value → Shared → Prop}, Reads s.heap a d.py as → Reads s.heap b e.py bs → c d e = true → Q (.bool (g d e)) s → wpAny (model X.prog X.w) X.A (compareOp op a b) Q E s) :
    OpR X (compareOp op) (rO G f) := by
  intro pins s σ H x y v u Q I rx ry ⟨m, S, d, e, r, hS, hx, hy, hf', k⟩
  obtain ⟨h1, rfl⟩ := hf S d e r hf'
  obtain ⟨k1, k2⟩ := hc d e h1
  obtain ⟨as, q1⟩ := hx.reads I hK k1 rx
  obtain ⟨bs, q2⟩ := hy.reads I hK k2 ry
  exact rule q1 q2 h1 ⟨.bl _, H, I, rfl, k.here hS (v := .bl _) rfl⟩
theorem shal2 {d e : D} (h : (shal d && shal e) = true) : (d.okd = true ∧ d.py.depth ≤ 100) ∧ e.okd = true ∧ e.py.depth ≤ 100 := by
  rw [Bool.and_eq_true] at h
  exact ⟨shal_ok h.1, shal_ok h.2⟩
theorem o_eq (hK : X.K = G.K) (hu : X.A.units + 200 < cLine) : OpR X (compareOp .Eq) (rO G pEq) :=
  op_of_data (fun d e => PyData.eqv d.py e.py) (fun d e => shal d && shal e) hK (fun S d e r h => by obtain ⟨h1, h2⟩ := some_if h; exact ⟨h1, h2.symm⟩) (fun d e h => ⟨(shal2 h).1.1, (shal2 h).2.1⟩)
    fun ra rb hc q => SeqAt.eq_plain ra rb (D.py_plain _) (D.py_plain _) (by have h1 := (shal2 hc).1.2; omega) q
theorem o_ne (hK : X.K = G.K) (hu : X.A.units + 200 < cLine) : OpR X (compareOp .NotEq) (rO G pNe) :=
  op_of_data (fun d e => !PyData.eqv d.py e.py) (fun d e => shal d && shal e) hK (fun S d e r h => by obtain ⟨h1, h2⟩ := some_if h; exact ⟨h1, h2.symm⟩) (fun d e h => ⟨(shal2 h).1.1, (shal2 h).2.1⟩)
    fun ra rb hc q => SeqAt.ne_plain ra rb (D.py_plain _) (D.py_plain _) (by have h1 := (shal2 hc).1.2; omega) q
theorem o_lt (hK : X.K = G.K) (hu : X.A.units + 200 < cLine) : OpR X (compareOp .Lt) (rO G pLt) :=
  op_of_data (fun d e => PySem.W.dataLt d.py e.py) cmpOk hK (fun S d e r h => by obtain ⟨h1, h2⟩ := some_if h; exact ⟨h1, h2.symm⟩) (fun d e h => ⟨(shal_ok (cmpOk_ok h).1).1, (shal_ok (cmpOk_ok h).2.1).1⟩)
    fun ra rb hc q => PySem.W.lt_data ra rb (cmpOk_ok hc).2.2.1 (cmpOk_ok hc).2.2.2 (by have h1 := (shal_ok (cmpOk_ok hc).1).2; omega) q
theorem o_gt (hK : X.K = G.K) (hu : X.A.units + 200 < cLine) : OpR X (compareOp .Gt) (rO G pGt) :=
  op_of_data (fun d e => PySem.W.dataLt e.py d.py) cmpOk hK (fun S d e r h => by obtain ⟨h1, h2⟩ := some_if h; exact ⟨h1, h2.symm⟩) (fun d e h => ⟨(shal_ok (cmpOk_ok h).1).1, (shal_ok (cmpOk_ok h).2.1).1⟩)
    fun ra rb hc q => PySem.W.gt_data ra rb (cmpOk_ok hc).2.2.1 (cmpOk_ok hc).2.2.2 (by have h1 := (shal_ok (cmpOk_ok hc).1).2; omega) q
theorem o_le (hK : X.K = G.K) (hu : X.A.units + 200 < cLine) : OpR X (compareOp .LtE) (rO G pLe) :=
  op_of_data (fun d e => !PySem.W.dataLt e.py d.py) cmpOk hK (fun S d e r h => by obtain ⟨h1, h2⟩ := some_if h; exact ⟨h1, h2.symm⟩) (fun d e h => ⟨(shal_ok (cmpOk_ok h).1).1, (shal_ok (cmpOk_ok h).2.1).1⟩)
    fun ra rb hc q => PySem.W.le_data ra rb (cmpOk_ok hc).2.2.1 (cmpOk_ok hc).2.2.2 (by have h1 := (shal_ok (cmpOk_ok hc).1).2; omega) q
theorem o_ge (hK : X.K = G.K) (hu : X.A.units + 200 < cLine) : OpR X (compareOp .GtE) (rO G pGe) :=
  op_of_data (fun d e => !PySem.W.dataLt d.py e.py) cmpOk hK (fun S d e r h => by obtain ⟨h1, h2⟩ := some_if h; exact ⟨h1, h2.symm⟩) (fun d e h => ⟨(shal_ok (cmpOk_ok h).1).1, (shal_ok (cmpOk_ok h).2.1).1⟩)
    fun ra rb hc q => PySem.W.ge_data ra rb (cmpOk_ok hc).2.2.1 (cmpOk_ok hc).2.2.2 (by have h1 := (shal_ok (cmpOk_ok hc).1).2; omega) q
theorem in_ok {e : D} {ds : List D} (h : itemsOf e = some ds) (k : shal e = true) : (e = .tup ds ∨ e = .lst ds) ∧ PyData.depthAll (pyL ds) < 100 := by
  obtain ⟨k1, k2⟩ := shal_ok k
  cases e <;> simp only [itemsOf] at h <;> first | cases h | skip
  all_goals
    rw [D.py, PyData.depth] at k2
    exact ⟨by simp, by omega⟩
theorem pIn_ok {S : Store} {d e r : D} (h : pIn S d e = some r) : ∃ ds, itemsOf e = some ds ∧ (shal d && shal e) = true ∧ r = .bl ((pyL ds).any fun y => PyData.eqv y d.py) := by
  unfold pIn at h
  split at h
  · rename_i ds hd
    obtain ⟨h1, h2⟩ := some_if h
    exact ⟨ds, hd, h1, h2.symm⟩
  · cases h
theorem pNotIn_ok {S : Store} {d e r : D} (h : pNotIn S d e = some r) : ∃ ds, itemsOf e = some ds ∧ (shal d && shal e) = true ∧ r = .bl (!(pyL ds).any fun y => PyData.eqv y d.py) := by
  unfold pNotIn at h
  split at h
  · rename_i ds hd
    obtain ⟨h1, h2⟩ := some_if h
    exact ⟨ds, hd, h1, h2.symm⟩
  · cases h
theorem o_in (hK : X.K = G.K) (hu : X.A.units + 200 < cLine) : OpR X (compareOp .In) (rO G pIn) := by
  intro pins s σ H x y v u Q I rx ry ⟨m, S, d, e, r, hS, hx, hy, hf', k⟩
  obtain ⟨ds, hd, hs, rfl⟩ := pIn_ok hf'
  obtain ⟨⟨k1, k3⟩, k2, k4⟩ := shal2 hs
  obtain ⟨as, q1⟩ := hx.reads I hK k1 rx
  obtain ⟨bs, q2⟩ := hy.reads I hK k2 ry
  have hb := (in_ok hd (by rw [Bool.and_eq_true] at hs; exact hs.2)).2
  rcases (in_ok hd (by rw [Bool.and_eq_true] at hs; exact hs.2)).1 with rfl | rfl
  · rw [D.py] at q2
    exact SeqAt.in_tuple_data q2 q1 (pyL_plain ds) (D.py_plain d) (by omega) ⟨.bl _, H, I, rfl, k.here hS (v := .bl _) rfl⟩
  · rw [D.py] at q2
    exact SeqAt.in_list_data q2 q1 (pyL_plain ds) (D.py_plain d) (by omega) ⟨.bl _, H, I, rfl, k.here hS (v := .bl _) rfl⟩
theorem o_notIn (hK : X.K = G.K) (hu : X.A.units + 200 < cLine) : OpR X (compareOp .NotIn) (rO G pNotIn) := by
  intro pins s σ H x y v u Q I rx ry ⟨m, S, d, e, r, hS, hx, hy, hf', k⟩
  obtain ⟨ds, hd, hs, rfl⟩ := pNotIn_ok hf'
  obtain ⟨⟨k1, k3⟩, k2, k4⟩ := shal2 hs
  obtain ⟨as, q1⟩ := hx.reads I hK k1 rx
  obtain ⟨bs, q2⟩ := hy.reads I hK k2 ry
  have hb := (in_ok hd (by rw [Bool.and_eq_true] at hs; exact hs.2)).2
  rcases (in_ok hd (by rw [Bool.and_eq_true] at hs; exact hs.2)).1 with rfl | rfl
  · rw [D.py] at q2
    exact SeqAt.notIn_tuple_data q2 q1 (pyL_plain ds) (D.py_plain d) (by omega) ⟨.bl _, H, I, rfl, k.here hS (v := .bl _) rfl⟩
  · rw [D.py] at q2
    exact SeqAt.notIn_list_data q2 q1 (pyL_plain ds) (D.py_plain d) (by omega) ⟨.bl _, H, I, rfl, k.here hS (v := .bl _) rfl⟩
end
end Py

/-! Part 3: primitives on numbers, texts, tuples, lists. -/
namespace Py
open PySem PySem.Spec PyProof.Rows L2

section
variable {G : Gc} {m : Mu} {H : Hp}
theorem RpL.length : ∀ {ds : List D} {xs : List V}, RpL G m H ds xs → xs.length = ds.length
  | [], _, h => by
    have h : _ = [] := h
    rw [h]; rfl
  | d :: ds, _, ⟨v, r, e, _, h⟩ => by
    rw [e, List.length_cons, List.length_cons, RpL.length h]
theorem RpL.append : ∀ {ds es : List D} {xs ys : List V}, RpL G m H ds xs → RpL G m H es ys → RpL G m H (ds ++ es) (xs ++ ys)
  | [], _, _, _, h, k => by
    have h : _ = [] := h
    rw [h]; exact k
  | d :: ds, es, _, ys, ⟨v, r, e, h1, h⟩, k => ⟨v, r ++ ys, by rw [e]; rfl, h1, RpL.append h k⟩
theorem RpL.get : ∀ {ds : List D} {xs : List V} {i : Nat} {d : D}, RpL G m H ds xs → ds[i]? = some d → ∃ v, xs[i]? = some v ∧ Rp G m H d v
  | [], _, _, _, _, e => by simp at e
  | d :: ds, _, 0, _, ⟨v, r, e, h1, h⟩, k => by
    simp at k; subst k; subst e
    exact ⟨v, rfl, h1⟩
  | d :: ds, _, i + 1, d', ⟨v, r, e, h1, h⟩, k => by
    subst e
    obtain ⟨u, q1, q2⟩ := RpL.get (i := i) h (by simpa using k)
    exact ⟨u, by simpa using q1, q2⟩
theorem RpL.getV : ∀ {ds : List D} {xs : List V} {i : Nat} {v : V}, RpL G m H ds xs → xs[i]? = some v → ∃ d, ds[i]? = some d ∧ Rp G m H d v
  | [], _, _, _, h, e => by
    have h : _ = [] := h
    rw [h] at e; simp at e
  | d :: ds, _, 0, _, ⟨v, r, e, h1, h⟩, k => by
    subst e
    simp at k; subst k
    exact ⟨d, rfl, h1⟩
  | d :: ds, _, i + 1, d', ⟨v, r, e, h1, h⟩, k => by
    subst e
    obtain ⟨u, q1, q2⟩ := RpL.getV (i := i) h (by simpa using k)
    exact ⟨u, by simpa using q1, q2⟩
theorem RpL.take : ∀ (n : Nat) {ds : List D} {xs : List V}, RpL G m H ds xs → RpL G m H (ds.take n) (xs.take n)
  | 0, ds, xs, _ => by
    show RpL G m H [] []
    rfl
  | n + 1, [], _, h => by
    have h : _ = [] := h
    rw [h]; rfl
  | n + 1, d :: ds, _, ⟨v, r, e, h1, h⟩ => by
    subst e
    exact ⟨v, r.take n, rfl, h1, RpL.take n h⟩
theorem RpL.drop : ∀ (n : Nat) {ds : List D} {xs : List V}, RpL G m H ds xs → RpL G m H (ds.drop n) (xs.drop n)
  | 0, ds, xs, h => h
  | n + 1, [], _, h => by
    have h : _ = [] := h
    rw [h]; rfl
  | n + 1, d :: ds, _, ⟨v, r, e, h1, h⟩ => by
    subst e
    exact RpL.drop n h
theorem RpL.nil : RpL G m H [] [] := rfl
theorem RpL.rep {ds : List D} {xs : List V} (h : RpL G m H ds xs) : ∀ n : Nat, RpL G m H (List.replicate n ds).flatten (List.replicate n xs).flatten
  | 0 => rfl
  | n + 1 => by
    rw [List.replicate_succ, List.flatten_cons, List.replicate_succ, List.flatten_cons]
    exact h.append (RpL.rep h n)
theorem RpL.set : ∀ {ds : List D} {xs : List V} {i : Nat} {d : D} {v : V}, RpL G m H ds xs → Rp G m H d v → RpL G m H (ds.set i d) (xs.set i v)
  | [], _, _, _, _, h, _ => by
    have h : _ = [] := h
    rw [h]; exact rfl
  | d :: ds, _, 0, _, _, ⟨v, r, e, h1, h⟩, k => by
    subst e
    exact ⟨_, _, rfl, k, h⟩
  | d :: ds, _, i + 1, _, _, ⟨v, r, e, h1, h⟩, k => by
    subst e
    exact ⟨_, _, rfl, h1, RpL.set h k⟩
theorem RpL.inj_ints {ds : List D} : ∀ {ns : List Int} {xs : List V}, RpL G m H (ns.map D.int) xs → xs = ns.map V.int
  | [], _, h => h
  | n :: ns, _, ⟨v, r, e, h1, h⟩ => by
    have h1 : v = V.int n := h1
    rw [e, h1, RpL.inj_ints (ds := ds) h]; rfl
end

/-! ### numbers -/
def pAdd (_ : Store) : D → D → Option D
  | .int i, .int j => some (.int (i + j))
  | .str a, .str b => if a.length + b.length ≤ sizeLine then some (.str (a ++ b)) else none
  | .tup a, .tup b => if a.length + b.length ≤ sizeLine then some (.tup (a ++ b)) else none
  | .lst a, .lst b => if a.length + b.length ≤ sizeLine then some (.lst (a ++ b)) else none
  | _, _ => none
def pSub (_ : Store) : D → D → Option D
  | .int i, .int j => some (.int (i - j))
  | _, _ => none
def pMul (_ : Store) : D → D → Option D
  | .int i, .int j => if Builtin.Int.intBits i + Builtin.Int.intBits j ≤ 134217728 then some (.int (i * j)) else none
  | .tup a, .int k => if a ≠ [] ∧ 2 ≤ k.toNat ∧ k.toNat ≤ 1000 ∧ a.length ≤ 1000 then some (.tup (List.replicate k.toNat a).flatten) else none
  | .lst a, .int k => if k.natAbs < 2 ^ 63 ∧ a.length * k.toNat ≤ sizeLine then some (.lst (List.replicate k.toNat a).flatten) else none
  | _, _ => none
def pDiv (_ : Store) : D → D → Option D
  | .int i, .int j => if 0 < j ∧ j.natAbs.log2 < 9000 then some (.int (i / j)) else none
  | _, _ => none
def pMod (_ : Store) : D → D → Option D
  | .int i, .int j => if 0 < j then some (.int (i % j)) else none
  | _, _ => none
def pPow (_ : Store) : D → D → Option D
  | .int i, .int j => if 0 ≤ j ∧ Builtin.Int.intBits i * j.toNat ≤ 134217728 then some (.int (i ^ j.toNat)) else none
  | _, _ => none
theorem some_ifp {α : Type} {c : Prop} [Decidable c] {a r : α} (h : (if c then some a else none) = some r) : c ∧ a = r := by
  by_cases k : c
  · rw [if_pos k] at h; exact ⟨k, Option.some.inj h⟩
  · rw [if_neg k] at h; cases h
section
variable {G : Gc} {X : Cx} {m : Mu} {H : Hp} {S : Store}
theorem Rt.tup_get {ds : List D} {v : V} (h : Rt G m H (.tup ds) v) : ∃ a xs, v = .ref a ∧ SqT G.K H a xs ∧ RpL G m H ds xs := h
theorem Rt.lst_get {ds : List D} {v : V} (h : Rt G m H (.lst ds) v) : ∃ a xs, v = .ref a ∧ H a = some (.lst xs) ∧ a ∉ m.as ∧ RpL G m H ds xs := h
/-- a new tuple | list -/
theorem rRes.tup {ds : List D} {xs : List V} {Q : VK} {p : Addr} (k : rRes G m H S (.tup ds) Q) (hS : Holds G m H S) (hp : H p = none) (h : RpL G m H ds xs) : Q (.ref p) (upd H p (.tup xs)) :=
  k.new hS hp (show Rp G m _ (.tup ds) _ from ⟨p, xs, rfl, SqT.of upd_same, (Le.same (Same.new hp)).rpL h⟩)
theorem Holds.fresh (hS : Holds G m H S) {p : Addr} (hp : H p = none) : ¬ m.has p := by
  rintro (q | q)
  · obtain ⟨n, hn⟩ := List.getElem?_of_mem q
    have hl : n < S.length := by rw [← hS.len]; exact (List.getElem?_eq_some_iff.mp hn).1
    have z := hS.ob n S[n] p (by simp [hl]) hn
    generalize S[n] = ob at z
    cases ob with
    | lst ds =>
      obtain ⟨xs, e, _⟩ := z
      rw [hp] at e; cases e
    | frz ds =>
      obtain ⟨o, xs, e, _⟩ := z
      rw [hp] at e; cases e
  · exact hS.there p q hp
theorem rRes.lst {ds : List D} {xs : List V} {Q : VK} {p : Addr} (k : rRes G m H S (.lst ds) Q) (hS : Holds G m H S) (hp : H p = none) (h : RpL G m H ds xs) : Q (.ref p) (upd H p (.lst xs)) :=
  k.new hS hp (show Rp G m _ (.lst ds) _ from ⟨p, xs, rfl, upd_same, hS.fresh hp, (Le.same (Same.new hp)).rpL h⟩)
theorem o_add (hK : X.K = G.K) : OpR X (binaryOp .Add) (rO G pAdd) := by
  refine opr_imp (OpR.or op_add (OpR.or op_add_str (OpR.or op_catA op_cat))) fun x y H Q ⟨m, S, d, e, r, hS, hx, hy, hf, k⟩ => ?_
  cases d <;> cases e <;> simp only [pAdd] at hf <;> first | cases hf; done | skip
  · obtain rfl := Option.some.inj hf
    have hx : x = V.int _ := hx
    have hy : y = V.int _ := hy
    exact .inl ⟨_, _, hx, hy, k.here hS (v := .int _) rfl⟩
  · obtain ⟨hc, rfl⟩ := some_ifp hf
    have hx : x = V.str _ := hx
    have hy : y = V.str _ := hy
    exact .inr (.inl ⟨_, _, hx, hy, hc, k.here hS (v := .str _) rfl⟩)
  · obtain ⟨hc, rfl⟩ := some_ifp hf
    obtain ⟨a, xs, rfl, h1, h2⟩ := hx.tup_get
    obtain ⟨b, ys, rfl, h3, h4⟩ := hy.tup_get
    refine .inr (.inr (.inl ⟨a, b, xs, ys, rfl, rfl, by rw [hK]; exact h1, by rw [hK]; exact h3, by rw [h2.length, h4.length]; exact hc, fun e => ?_, fun _ e => ?_, fun _ _ p hp => k.tup hS hp (h2.append h4)⟩))
    · subst e
      have := h2.append h4
      rw [List.nil_append] at this
      exact k.here hS (show Rp G m H (.tup _) _ from ⟨b, ys, rfl, h3, this⟩)
    · subst e
      have := h2.append h4
      rw [List.append_nil] at this
      exact k.here hS (show Rp G m H (.tup _) _ from ⟨a, xs, rfl, h1, this⟩)
  · obtain ⟨hc, rfl⟩ := some_ifp hf
    obtain ⟨a, xs, rfl, h1, _, h2⟩ := hx.lst_get
    obtain ⟨b, ys, rfl, h3, _, h4⟩ := hy.lst_get
    exact .inr (.inr (.inr ⟨a, b, xs, ys, rfl, rfl, h1, h3, by rw [h2.length, h4.length]; exact hc, fun p hp => k.lst hS hp (h2.append h4)⟩))
theorem o_sub : OpR X (binaryOp .Sub) (rO G pSub) := by
  refine opr_imp op_sub fun x y H Q ⟨m, S, d, e, r, hS, hx, hy, hf, k⟩ => ?_
  cases d <;> cases e <;> simp only [pSub] at hf <;> first | cases hf; done | skip
  obtain rfl := Option.some.inj hf
  have hx : x = V.int _ := hx
  have hy : y = V.int _ := hy
  exact ⟨_, _, hx, hy, k.here hS (v := .int _) rfl⟩
theorem mul_cond {i j : Int} (h : Builtin.Int.intBits i + Builtin.Int.intBits j ≤ 134217728) : (Builtin.Int.intBits i : Int) + (Builtin.Int.intBits j : Int) ≤ 134217728 := by omega
theorem o_mul (hK : X.K = G.K) : OpR X (binaryOp .Mult) (rO G pMul) := by
  refine opr_imp (OpR.or op_mulX (OpR.or op_repT op_rep)) fun x y H Q ⟨m, S, d, e, r, hS, hx, hy, hf, k⟩ => ?_
  cases d <;> cases e <;> simp only [pMul] at hf <;> first | cases hf; done | skip
  · obtain ⟨hc, rfl⟩ := some_ifp hf
    have hx : x = V.int _ := hx
    have hy : y = V.int _ := hy
    exact .inl ⟨_, _, hx, hy, mul_cond hc, k.here hS (v := .int _) rfl⟩
  · obtain ⟨⟨c1, c2, c3, c4⟩, rfl⟩ := some_ifp hf
    obtain ⟨a, xs, rfl, h1, h2⟩ := hx.tup_get
    have hy : y = V.int _ := hy
    refine .inr (.inl ⟨a, _, xs, rfl, hy, by rw [hK]; exact h1, fun e => ?_, by omega, by omega, by rw [h2.length]; exact c4, fun p hp => k.tup hS hp (h2.rep _)⟩)
    subst e
    have := h2.length
    exact c1 (List.eq_nil_of_length_eq_zero this.symm)
  · obtain ⟨⟨c1, c3⟩, rfl⟩ := some_ifp hf
    obtain ⟨a, xs, rfl, h1, _, h2⟩ := hx.lst_get
    have hy : y = V.int _ := hy
    exact .inr (.inr ⟨a, _, xs, rfl, hy, h1, by omega, by omega, by rw [h2.length]; exact c3, fun p hp => k.lst hS hp (h2.rep _)⟩)
theorem o_div : OpR X (binaryOp .FloorDiv) (rO G pDiv) := by
  refine opr_imp op_fdivW fun x y H Q ⟨m, S, d, e, r, hS, hx, hy, hf, k⟩ => ?_
  cases d <;> cases e <;> simp only [pDiv] at hf <;> first | cases hf; done | skip
  obtain ⟨hc, rfl⟩ := some_ifp hf
  have hx : x = V.int _ := hx
  have hy : y = V.int _ := hy
  exact ⟨_, _, hx, hy, hc, k.here hS (v := .int _) rfl⟩
theorem o_mod : OpR X (binaryOp .Mod) (rO G pMod) := by
  refine opr_imp op_mod fun x y H Q ⟨m, S, d, e, r, hS, hx, hy, hf, k⟩ => ?_
  cases d <;> cases e <;> simp only [pMod] at hf <;> first | cases hf; done | skip
  obtain ⟨hc, rfl⟩ := some_ifp hf
  have hx : x = V.int _ := hx
  have hy : y = V.int _ := hy
  exact ⟨_, _, hx, hy, hc, k.here hS (v := .int _) rfl⟩
theorem o_pow : OpR X (binaryOp .Pow) (rO G pPow) := by
  refine opr_imp (opI (f := binaryOp .Pow) (C := fun i j => 0 ≤ j ∧ (Builtin.Int.intBits i : Int) * j ≤ 2 ^ 27) (g := fun i j => i ^ j.toNat) fun _ _ _ _ _ _ _ hc q => pow_int hc.1 hc.2 q) fun x y H Q ⟨m, S, d, e, r, hS, hx, hy, hf, k⟩ => ?_
  cases d <;> cases e <;> simp only [pPow] at hf <;> first | cases hf; done | skip
  obtain ⟨hc, rfl⟩ := some_ifp hf
  have hx : x = V.int _ := hx
  have hy : y = V.int _ := hy
  exact ⟨_, _, hx, hy, ⟨hc.1, by
    have h2 := hc.2
    rw [← Int.toNat_of_nonneg hc.1]
    exact_mod_cast h2⟩, k.here hS (v := .int _) rfl⟩
/-- is None, is not None -/
def pIs (_ : Store) : D → D → Option D
  | .glo _, .non => none
  | d, .non => some (.bl (isNonD d))
  | _, _ => none
def pIsNot (_ : Store) : D → D → Option D
  | .glo _, .non => none
  | d, .non => some (.bl (!isNonD d))
  | _, _ => none
theorem isNon_rt {d : D} {x : V} (h : Rt G m H d x) : decide (x = .non) = isNonD d := by
  cases d with
  | non => have h : x = _ := h; subst h; rfl
  | bl _ => have h : x = _ := h; subst h; rfl
  | int _ => have h : x = _ := h; subst h; rfl
  | str _ => have h : x = _ := h; subst h; rfl
  | ty _ => have h : x = _ := h; subst h; rfl
  | ref _ => obtain ⟨a, rfl, _⟩ := h; rfl
  | glo _ => obtain ⟨a, rfl, _⟩ := h; rfl
  | tup _ => obtain ⟨a, _, rfl, _⟩ := h; rfl
  | lst _ => obtain ⟨a, _, rfl, _⟩ := h; rfl
  | emp => obtain ⟨a, rfl, _⟩ := h; rfl
theorem o_is : OpR X (compareOp .Is) (rO G pIs) := by
  refine opr_imp op_isN fun x y H Q ⟨m, S, d, e, r, hS, hx, hy, hf, k⟩ => ?_
  cases e <;> (cases d <;> simp only [pIs] at hf <;> first | cases hf; done | skip)
  all_goals
    obtain rfl := Option.some.inj hf
    have hy : y = V.non := hy
    rw [isNon_rt hx]
    exact ⟨hy, k.here hS (v := .bl _) rfl⟩
theorem o_isNot : OpR X (compareOp .IsNot) (rO G pIsNot) := by
  refine opr_imp op_notN fun x y H Q ⟨m, S, d, e, r, hS, hx, hy, hf, k⟩ => ?_
  cases e <;> (cases d <;> simp only [pIsNot] at hf <;> first | cases hf; done | skip)
  all_goals
    obtain rfl := Option.some.inj hf
    have hy : y = V.non := hy
    rw [isNon_rt hx]
    exact ⟨hy, k.here hS (v := .bl _) rfl⟩
end
end Py

/-! Part 4: names, constants, tests, subscripts, displays, calls of what is built in. -/
namespace Py
open PySem PySem.Spec PyProof.Rows L2

/-! ### forms of syntax -/
def starB : Expr → Bool
  | .Starred .. => true
  | _ => false
theorem starEach_plain {e : Expr} {es : List Expr} {env : PySem.Env} (h : starB e = false) : starEach (e :: es) env = (false, eval e env) :: starEach es env := by
  cases e <;> first | rfl | cases h
theorem backTo_plain {env : PySem.Env} {pos : Pos} : ∀ {es : List Expr}, es.any starB = false → (backTo pos (starEach es env)).any (·.1) = false
  | [], _ => by rfl
  | e :: es, h => by
    rw [List.any_cons, Bool.or_eq_false_iff] at h
    rw [starEach_plain h.1]
    show (false || (backTo pos (starEach es env)).any (·.1)) = false
    rw [backTo_plain h.2]; rfl

section
variable {G : Gc} {W : WX} {X : Cx} {e a b c : Expr} {m : Mu} {H : Hp} {S : Store} {σ : Sg} {pos : Pos}
/-! ### names, constants -/
def slV (ρ : Env) (i : Nat) : Option D := match ρ[i]? with
  | some (some (.val d)) => some d
  | _ => none
def slR (ρ : Env) (i : Nat) : Option D := match ρ[i]? with
  | some (some (.val d)) => some d
  | some (some (.own ds)) => some (.lst ds)
  | _ => none
def dVar (i : Nat) : DE := fun ρ => optM (slV ρ i)
/-- a slot that holds a list of its own, read by a primitive -/
def dRd (i : Nat) : DE := fun ρ => optM (slR ρ i)
theorem slV_ok {ρ : Env} {i : Nat} {d : D} (h : slV ρ i = some d) : ρ[i]? = some (some (.val d)) := by
  unfold slV at h
  split at h
  · rename_i d' hd
    rw [hd, Option.some.inj h]
  · cases h
theorem slR_ok {ρ : Env} {i : Nat} {d : D} (h : slR ρ i = some d) : ρ[i]? = some (some (.val d)) ∨ ∃ ds, d = .lst ds ∧ ρ[i]? = some (some (.own ds)) := by
  unfold slR at h
  split at h
  · rename_i d' hd
    rw [hd, Option.some.inj h]; exact .inl rfl
  · rename_i ds hd
    exact .inr ⟨ds, (Option.some.inj h).symm, hd⟩
  · cases h
theorem RpE.rt {ρ : Env} {i : Nat} {d : D} (E : RpE G m H ρ σ) (h : slR ρ i = some d) : ∃ v, σ[i]? = some (some v) ∧ Rt G m H d v := by
  rcases slR_ok h with k | ⟨ds, rfl, k⟩
  · obtain ⟨v, h1, h2⟩ := E.at_ i _ k
    exact ⟨v, h1, Rp.rt h2⟩
  · obtain ⟨v, h1, a, e, q1, q2, xs, q3, q4⟩ := E.at_ i _ k
    exact ⟨v, h1, a, xs, e, q3, q2, q4⟩
theorem RpE.rp {ρ : Env} {i : Nat} {d : D} (E : RpE G m H ρ σ) (h : slV ρ i = some d) : ∃ v, σ[i]? = some (some v) ∧ Rp G m H d v := E.at_ i _ (slV_ok h)
theorem aft_optG {α : Type} {r : Option α} {Y : XK} {Φ : α → Store → Mu → Hp → Prop} (h : Aft G m H Y (optM r S) Φ) (hS : Holds G m H S) : ∃ d, r = some d ∧ Φ d S m H := by
  cases r with
  | none => exact h.elim
  | some d => exact ⟨d, rfl, h.ok hS⟩
def dCst (d : D) : DE := fun _ S => .ok d S
theorem je_var {i : Nat} {x : Str} (hN : X.N[i]? = some x) (hv : Vis X.env.scope x) (hd : (x == ("__debug__" : Str)) = false) (hcd : (x == ("__classdict__" : Str)) = false) : PE X (.Name x pos) (tE G W (dVar i)) := by
  refine pe_imp (pe_var hN hv hd hcd) fun σ H Q ⟨m, ρ, S, hS, hE, h⟩ => ?_
  obtain ⟨d, e, k⟩ := aft_optG h hS
  obtain ⟨v, h1, h2⟩ := hE.rp e
  exact ⟨v, h1, k v h2⟩
theorem jr_rd {i : Nat} {x : Str} (hN : X.N[i]? = some x) (hv : Vis X.env.scope x) (hd : (x == ("__debug__" : Str)) = false) (hcd : (x == ("__classdict__" : Str)) = false) : PE X (.Name x pos) (tR G W (dRd i)) := by
  refine pe_imp (pe_var hN hv hd hcd) fun σ H Q ⟨m, ρ, S, hS, hE, h⟩ => ?_
  obtain ⟨d, e, k⟩ := aft_optG h hS
  obtain ⟨v, h1, h2⟩ := hE.rt e
  exact ⟨v, h1, k v h2⟩
theorem je_c {e : Expr} {v : V} {d : D} (h : PE X e (tC v)) (r : ∀ (m : Mu) (H : Hp), Rp G m H d v) : PE X e (tE G W (dCst d)) :=
  pe_imp h fun σ H Q ⟨m, ρ, S, hS, hE, h⟩ => h.ok hS v (r m H)

/-! ### tests -/
def asB : D → Option Bool
  | .bl b => some b
  | _ => none
def dTest (d : DE) : DT := fun ρ S => (d ρ S).bind fun x S => optM (asB x) S
def plainTest : Expr → Bool
  | .UnaryOp .Not _ _ => false
  | .BoolOp .. => false
  | .IfExp .. => false
  | .Compare .. => false
  | _ => true
theorem plain_isTrue {env : PySem.Env} (h : plainTest e = true) (whole : Sem Value) : isTrue e env whole = (do let v ← whole; standAt e.pos; holding [v] (truthy v)) := by
  cases e with
  | UnaryOp op x p => cases op <;> first | rfl | cases h
  | BoolOp => cases h
  | IfExp => cases h
  | Compare => cases h
  | _ => rfl
theorem asB_ok {d : D} {b : Bool} {v : V} (h : asB d = some b) (r : Rt G m H d v) : v = .bl b := by
  cases d <;> simp only [asB] at h <;> first | cases h; done | skip
  have := Option.some.inj h
  subst this
  exact r
theorem aft_optT {r : Option Bool} {Y : XK} {Q : Bool → Hp → Prop} (h : Aft G m H Y (optM r S) fun r _ _ H' => Q r H') (hS : Holds G m H S) : ∃ b, r = some b ∧ Q b H := by
  cases r with
  | none => exact h.elim
  | some d => exact ⟨d, rfl, h.ok hS⟩
theorem test_of {d : DE} {Q : Bool → Hp → Prop} (h : tT G W (dTest d) σ H Q) : tR G W d σ H fun x H' => ∃ k, x = .bl k ∧ Q k H' := by
  obtain ⟨m, ρ, S, hS, hE, h⟩ := h
  refine ⟨m, ρ, S, hS, hE, (Aft.bind h).imp fun x S1 m1 H1 l1 hS1 h1 v rv => ?_⟩
  obtain ⟨b, e, q⟩ := aft_optT h1 hS1
  exact ⟨b, asB_ok e rv, q⟩
theorem jt_val {d : DE} (h : PE X e (tR G W d)) (he : plainTest e = true) : PT X e (tT G W (dTest d)) :=
  pt_imp (pt_val h fun whole => plain_isTrue he whole) fun _ _ _ q => test_of q
def dChain (f g : Store → D → D → Option D) (a b c : DE) : DE := fun ρ S => (a ρ S).bind fun x S => (b ρ S).bind fun y S => match (f S x y).bind asB with
  | some true => (c ρ S).bind fun z S => optM (g S y z) S
  | some false => .ok (.bl false) S
  | none => .bad
theorem tChain_of {f g : Store → D → D → Option D} {da db dc : DE} {Q : VK} (h : tE G W (dChain f g da db dc) σ H Q) : tChain (rO G f) (rO G g) (tR G W da) (tR G W db) (tR G W dc) σ H Q := by
  obtain ⟨m, ρ, S, hS, hE, h⟩ := h
  refine ⟨m, ρ, S, hS, hE, (Aft.bind h).imp fun x S1 m1 H1 l1 hS1 h1 v rv => ?_⟩
  refine ⟨m1, ρ, S1, hS1, hE.le l1, (Aft.bind h1).imp fun y S2 m2 H2 l2 hS2 h2 u ru => ?_⟩
  cases hf : f S2 x y with
  | none => rw [hf] at h2; exact h2.elim
  | some d =>
    rw [hf] at h2
    refine ⟨m2, S2, x, y, d, hS2, l2.rt rv, ru, hf, fun m3 H3 l3 hS3 w rw => ?_⟩
    cases hb : asB d with
    | none =>
      have h2 : Aft G m2 H2 _ (match (asB d) with | some true => _ | some false => _ | none => R.bad) _ := h2
      rw [hb] at h2
      exact h2.elim
    | some k =>
      refine ⟨k, asB_ok hb rw.rt, ?_⟩
      have h2 : Aft G m2 H2 _ (match (asB d) with | some true => _ | some false => _ | none => R.bad) _ := h2
      rw [hb] at h2
      cases k with
      | false => exact h2 m3 H3 l3 hS3 (.bl false) rfl
      | true =>
        refine ⟨m3, ρ, S2, hS3, (hE.le l1).le (l2.trans l3), (Aft.bind (h2.later l3)).imp fun z S4 m4 H4 l4 hS4 h4 w' rw' => ?_⟩
        obtain ⟨d', e', k'⟩ := aft_opt h4
        exact ⟨m4, S4, y, z, d', hS4, l4.rt (l3.rt ru), rw', e', k'⟩
theorem je_chain {op op' : CmpOp} {f g : Store → D → D → Option D} {da db dc : DE} (ho : OpR X (compareOp op) (rO G f)) (ho' : OpR X (compareOp op') (rO G g)) (ha : PE X a (tR G W da)) (hb : PE X b (tR G W db)) (hc : PE X c (tR G W dc))
    (hm : behindInMarks op' c = false) : PE X (.Compare a [op, op'] [b, c] pos) (tE G W (dChain f g da db dc)) :=
  pe_imp (pe_chain ho ho' ha hb hc (show lastMarks [op, op'] [b, c] = false from hm)) fun _ _ _ h => tChain_of h
/-- what a test asks of a value that comes as tE -/
theorem tE_test {d : DE} {Q : Bool → Hp → Prop} (h : tT G W (dTest d) σ H Q) : tE G W d σ H fun x H' => ∃ k, x = .bl k ∧ Q k H' := by
  obtain ⟨m, ρ, S, hS, hE, h⟩ := h
  refine ⟨m, ρ, S, hS, hE, (Aft.bind h).imp fun x S1 m1 H1 l1 hS1 h1 v rv => ?_⟩
  obtain ⟨b, e, q⟩ := aft_optT h1 hS1
  exact ⟨b, asB_ok e (Rp.rt rv), q⟩
theorem jt_cmp {op : CmpOp} {f : Store → D → D → Option D} {da db : DE} (ho : OpR X (compareOp op) (rO G f)) (ha : PE X a (tR G W da)) (hb : PE X b (tR G W db)) (hm : behindInMarks op b = false) : PT X (.Compare a [op] [b] pos) (tT G W (dTest (dOp f da db))) :=
  pt_imp (pt_cmpR ho ha hb hm) fun _ _ _ h => tOp_of (tE_test h)
theorem jt_chain {op op' : CmpOp} {f g : Store → D → D → Option D} {da db dc : DE} (ho : OpR X (compareOp op) (rO G f)) (ho' : OpR X (compareOp op') (rO G g)) (ha : PE X a (tR G W da)) (hb : PE X b (tR G W db)) (hc : PE X c (tR G W dc))
    (hm : behindInMarks op' c = false) : PT X (.Compare a [op, op'] [b, c] pos) (tT G W (dTest (dChain f g da db dc))) :=
  pt_imp (pt_chain ho ho' ha hb hc (show lastMarks [op, op'] [b, c] = false from hm)) fun _ _ _ h => tChain_of (tE_test h)
def dAnd (t u : DT) : DT := fun ρ S => (t ρ S).bind fun b S => if b then u ρ S else .ok false S
def dOr (t u : DT) : DT := fun ρ S => (t ρ S).bind fun b S => if b then .ok true S else u ρ S
def dNot (t : DT) : DT := fun ρ S => (t ρ S).bind fun b S => .ok (!b) S
variable {da db dc : DE} {ta tb : DT}
theorem tAnd_of {Q : Bool → Hp → Prop} (h : tT G W (dAnd ta tb) σ H Q) : tAnd (tT G W ta) (tT G W tb) σ H Q := by
  obtain ⟨m, ρ, S, hS, hE, h⟩ := h
  refine ⟨m, ρ, S, hS, hE, (Aft.bind h).imp fun x S1 m1 H1 l1 hS1 h1 => ?_⟩
  cases x with
  | true => exact ⟨m1, ρ, S1, hS1, hE.le l1, h1⟩
  | false => exact h1.ok hS1
theorem tOr_of {Q : Bool → Hp → Prop} (h : tT G W (dOr ta tb) σ H Q) : tOr (tT G W ta) (tT G W tb) σ H Q := by
  obtain ⟨m, ρ, S, hS, hE, h⟩ := h
  refine ⟨m, ρ, S, hS, hE, (Aft.bind h).imp fun x S1 m1 H1 l1 hS1 h1 => ?_⟩
  cases x with
  | false => exact ⟨m1, ρ, S1, hS1, hE.le l1, h1⟩
  | true => exact h1.ok hS1
theorem pw_imp {t t' : TT} (h : PW X e t) (k : ∀ σ H Q, t' σ H Q → t σ H Q) : PW X e t' := ⟨fun wh pins s σ H Q I q => h.run wh pins s σ H Q I (k σ H Q q)⟩
theorem jw_and {rest : List Expr} (ha : PT X a (tT G W ta)) (hb : PW X (.BoolOp .And (b :: rest) pos) (tT G W tb)) : PW X (.BoolOp .And (a :: b :: rest) pos) (tT G W (dAnd ta tb)) := pw_imp (pw_and ha hb) fun _ _ _ h => tAnd_of h
theorem jw_or {rest : List Expr} (ha : PT X a (tT G W ta)) (hb : PW X (.BoolOp .Or (b :: rest) pos) (tT G W tb)) : PW X (.BoolOp .Or (a :: b :: rest) pos) (tT G W (dOr ta tb)) := pw_imp (pw_or ha hb) fun _ _ _ h => tOr_of h
theorem jt_not (ha : PT X a (tT G W ta)) : PT X (.UnaryOp .Not a pos) (tT G W (dNot ta)) := pt_imp (pt_not ha) fun σ H Q ⟨m, ρ, S, hS, hE, h⟩ =>
  ⟨m, ρ, S, hS, hE, (Aft.bind h).imp fun x S1 m1 H1 l1 hS1 h1 => h1.ok hS1⟩
/-- a test's answer as a value: and, or, not of bools -/
def dBl (t : DT) : DE := fun ρ S => (t ρ S).bind fun b S => .ok (.bl b) S
def dAndV (a b : DE) : DE := fun ρ S => (a ρ S).bind fun x S => match asB x with
  | some true => b ρ S
  | some false => .ok (.bl false) S
  | none => .bad
def dOrV (a b : DE) : DE := fun ρ S => (a ρ S).bind fun x S => match asB x with
  | some true => .ok (.bl true) S
  | some false => b ρ S
  | none => .bad
def dNotV (a : DE) : DE := fun ρ S => (a ρ S).bind fun x S => match asB x with
  | some k => .ok (.bl (!k)) S
  | none => .bad
theorem je_and {rest : List Expr} (ha : PE X a (tE G W da)) (hb : PE X (.BoolOp .And (b :: rest) pos) (tE G W db)) : PE X (.BoolOp .And (a :: b :: rest) pos) (tE G W (dAndV da db)) :=
  pe_imp (pe_and ha hb) fun σ H Q ⟨m, ρ, S, hS, hE, h⟩ => ⟨m, ρ, S, hS, hE, (Aft.bind h).imp fun x S1 m1 H1 l1 hS1 h1 v rv => by
    cases hb : asB x with
    | none =>
      rw [hb] at h1
      exact h1.elim
    | some k =>
      rw [hb] at h1
      refine ⟨k, asB_ok hb (Rp.rt rv), ?_⟩
      cases k with
      | true => exact ⟨m1, ρ, S1, hS1, hE.le l1, h1⟩
      | false => exact h1.ok hS1 (.bl false) rfl⟩
theorem je_or {rest : List Expr} (ha : PE X a (tE G W da)) (hb : PE X (.BoolOp .Or (b :: rest) pos) (tE G W db)) : PE X (.BoolOp .Or (a :: b :: rest) pos) (tE G W (dOrV da db)) :=
  pe_imp (pe_or ha hb) fun σ H Q ⟨m, ρ, S, hS, hE, h⟩ => ⟨m, ρ, S, hS, hE, (Aft.bind h).imp fun x S1 m1 H1 l1 hS1 h1 v rv => by
    cases hb : asB x with
    | none =>
      rw [hb] at h1
      exact h1.elim
    | some k =>
      rw [hb] at h1
      refine ⟨k, asB_ok hb (Rp.rt rv), ?_⟩
      cases k with
      | false => exact ⟨m1, ρ, S1, hS1, hE.le l1, h1⟩
      | true => exact h1.ok hS1 (.bl true) rfl⟩
theorem je_not (ha : PE X a (tE G W da)) : PE X (.UnaryOp .Not a pos) (tE G W (dNotV da)) :=
  pe_imp (pe_not ha) fun σ H Q ⟨m, ρ, S, hS, hE, h⟩ => ⟨m, ρ, S, hS, hE, (Aft.bind h).imp fun x S1 m1 H1 l1 hS1 h1 v rv => by
    cases hb : asB x with
    | none =>
      rw [hb] at h1
      exact h1.elim
    | some k =>
      rw [hb] at h1
      exact ⟨k, asB_ok hb (Rp.rt rv), h1.ok hS1 (.bl _) rfl⟩⟩
def dIf (t : DT) (a b : DE) : DE := fun ρ S => (t ρ S).bind fun k S => if k then a ρ S else b ρ S
theorem je_if (hc : PT X c (tT G W ta)) (ha : PE X a (tE G W da)) (hb : PE X b (tE G W db)) : PE X (.IfExp c a b pos) (tE G W (dIf ta da db)) :=
  pe_imp (pe_ifExp hc ha hb) fun σ H Q ⟨m, ρ, S, hS, hE, h⟩ => ⟨m, ρ, S, hS, hE, (Aft.bind h).imp fun x S1 m1 H1 l1 hS1 h1 => by
    cases x with
    | true => exact ⟨m1, ρ, S1, hS1, hE.le l1, h1⟩
    | false => exact ⟨m1, ρ, S1, hS1, hE.le l1, h1⟩⟩
def dNeg (a : DE) : DE := fun ρ S => (a ρ S).bind fun x S => match x with
  | .int i => .ok (.int (-i)) S
  | _ => .bad
theorem je_neg (ha : PE X a (tE G W da)) : PE X (.UnaryOp .USub a pos) (tE G W (dNeg da)) :=
  pe_imp (pe_un un_neg ha) fun σ H Q ⟨m, ρ, S, hS, hE, h⟩ => ⟨m, ρ, S, hS, hE, (Aft.bind h).imp fun x S1 m1 H1 l1 hS1 h1 v rv => by
    cases x with
    | int i => exact ⟨i, rv, h1.ok hS1 (.int _) rfl⟩
    | _ => exact h1.elim⟩
end
end Py

/-! Part 5: subscripts, slices, displays, arguments. -/
namespace Py
open PySem PySem.Spec PyProof.Rows L2

/-- what a list, tuple or list of the store holds -/
def seqOf (S : Store) : D → Option (List D)
  | .tup ds => some ds
  | .lst ds => some ds
  | .ref n => match S[n]? with
    | some (.lst ds) => some ds
    | some (.frz ds) => some ds
    | none => none
  | _ => none
def pIdx (S : Store) (d e : D) : Option D := match e with
  | .int i => (match d with
    | .str z => if z.length ≤ sizeLine then (atI z.cps.toList i).map fun c => D.str ⟨#[c]⟩ else none
    | d => (seqOf S d).bind fun ds => atI ds i)
  | _ => none
section
variable {G : Gc} {W : WX} {X : Cx} {e a b c : Expr} {m : Mu} {H : Hp} {S : Store} {σ : Sg} {pos : Pos}
theorem seq_ok {d : D} {ds : List D} {v : V} (hS : Holds G m H S) (h : seqOf S d = some ds) (r : Rt G m H d v) : ∃ p xs, v = .ref p ∧ (SqL G.K H p xs ∨ SqT G.K H p xs) ∧ RpL G m H ds xs := by
  cases d <;> simp only [seqOf] at h <;> first | cases h; done | skip
  · rename_i n
    obtain ⟨p, rfl, hp⟩ := r
    split at h
    · rename_i es he
      cases h
      obtain ⟨xs, q1, q2⟩ := hS.ob n _ p he hp
      exact ⟨p, xs, rfl, .inl (SqL.of q1), q2⟩
    · rename_i es he
      cases h
      obtain ⟨o, xs, q1, q2⟩ := hS.ob n _ p he hp
      exact ⟨p, xs, rfl, .inl (.inl (.inr ⟨o, q1⟩)), q2⟩
    · cases h
  · cases h
    obtain ⟨p, xs, rfl, q1, q2⟩ := r
    exact ⟨p, xs, rfl, .inr q1, q2⟩
  · cases h
    obtain ⟨p, xs, rfl, q1, _, q2⟩ := r
    exact ⟨p, xs, rfl, .inl (SqL.of q1), q2⟩
theorem RpL.atI {ds : List D} {xs : List V} {i : Int} {d : D} (h : RpL G m H ds xs) (e : L2.atI ds i = some d) : ∃ v, L2.atI xs i = some v ∧ Rp G m H d v := by
  unfold L2.atI at e ⊢
  rw [h.length]
  cases q : ixN ds.length i with
  | none => rw [q] at e; cases e
  | some j =>
    rw [q] at e
    exact h.get e
theorem i_idx (hK : X.K = G.K) : IxR X (rO G pIdx) := by
  have base : IxR X (rIx X.K) := ix_seq
  intro value slice pins s σ H x y v u Q I rx ry ⟨m, S, d, e, r, hS, hx, hy, hf, k⟩ hs
  refine base value slice pins s σ H x y v u Q I rx ry ?_ hs
  cases e <;> simp only [pIdx] at hf <;> first | cases hf; done | skip
  rename_i i
  have hy : y = V.int i := hy
  have gen : ∀ ds, seqOf S d = some ds → L2.atI ds i = some r → rIx X.K x y H Q := fun ds h1 h2 => by
    obtain ⟨p, xs, rfl, q1, q2⟩ := seq_ok hS h1 hx
    obtain ⟨v, q3, q4⟩ := q2.atI h2
    rcases q1 with q1 | q1
    · exact .inl ⟨p, xs, i, v, rfl, hy, by rw [hK]; exact q1, q3, k.here hS q4⟩
    · exact .inr (.inl ⟨p, xs, i, v, rfl, hy, by rw [hK]; exact q1, q3, k.here hS q4⟩)
  cases d with
  | str z =>
    have hx : x = V.str z := hx
    have hf : (if z.length ≤ sizeLine then (L2.atI z.cps.toList i).map fun c => D.str ⟨#[c]⟩ else none) = some r := hf
    by_cases hz : z.length ≤ sizeLine
    · rw [if_pos hz] at hf
      cases q : L2.atI z.cps.toList i with
      | none => rw [q] at hf; cases hf
      | some c =>
        rw [q] at hf
        have := Option.some.inj hf
        subst this
        exact .inr (.inr ⟨z, i, c, hx, hy, hz, q, k.here hS (v := .str _) rfl⟩)
    · rw [if_neg hz] at hf; cases hf
  | _ =>
    simp only [Option.bind_eq_some_iff] at hf
    obtain ⟨ds, h1, h2⟩ := hf
    exact gen ds h1 h2
def sliceB : Expr → Bool
  | .Slice .. => true
  | _ => false
theorem plainIx_of (h : sliceB b = false) : PlainIx b := by
  intro o i
  cases b <;> first | rfl | cases h
theorem je_ix {f : Store → D → D → Option D} {da db : DE} (hr : IxR X (rO G f)) (ha : PE X a (tR G W da)) (hb : PE X b (tR G W db)) (hs : sliceB b = false) : PE X (.Subscript a b pos) (tE G W (dOp f da db)) :=
  pe_imp (pe_ix hr ha hb (plainIx_of hs)) fun _ _ _ h => tOp_of h

/-! ### slices -/
def cutD (ds : List D) (lo hi : Option Int) : List D := (ds.drop (HT.sIx ds.length 0 lo)).take (HT.sIx ds.length ds.length hi - HT.sIx ds.length 0 lo)
def pSl (S : Store) (d : D) (lo hi : Option Int) : Option D := match d with
  | .tup ds => some (.tup (cutD ds lo hi))
  | .str z => if z.length ≤ sizeLine then some (.str (cutS z lo hi)) else none
  | d => (seqOf S d).map fun ds => .lst (cutD ds lo hi)
def rSl (G : Gc) : V → Option Int → Option Int → Hp → VK → Prop := fun x lo hi H Q => ∃ m S d r, Holds G m H S ∧ Rt G m H d x ∧ pSl S d lo hi = some r ∧ rRes G m H S r Q
theorem RpL.cut {ds : List D} {xs : List V} (h : RpL G m H ds xs) (lo hi : Option Int) : RpL G m H (cutD ds lo hi) (cutV xs lo hi) := by
  unfold cutD cutV
  rw [h.length]
  exact (h.drop _).take _
theorem cutD_whole {ds : List D} {lo hi : Option Int} (h : HT.sIx ds.length 0 lo = 0 ∧ HT.sIx ds.length ds.length hi = ds.length) : cutD ds lo hi = ds := by
  unfold cutD
  rw [h.1, h.2]
  simp
theorem s_sl (hK : X.K = G.K) : SlR X (rSl G) := by
  have base := (SlR.or (sl_tupA (X := X)) (SlR.or sl_list sl_str))
  intro pins s σ H x v vl vu lo hi sl Q I rx hs pl pu ⟨m, S, d, r, hS, hx, hf, k⟩
  refine base pins s σ H x v vl vu lo hi sl Q I rx hs pl pu ?_
  have gen : ∀ ds, seqOf S d = some ds → (∀ es, d ≠ .tup es) → r = .lst (cutD ds lo hi) → rSlL X.K x lo hi H Q := fun ds h1 h2 h3 => by
    subst h3
    obtain ⟨p, xs, rfl, q1, q2⟩ := seq_ok hS h1 hx
    rcases q1 with q1 | q1
    · exact ⟨p, xs, rfl, by rw [hK]; exact q1, fun p hp => k.lst hS hp (q2.cut lo hi)⟩
    · -- only a tuple
      exfalso
      cases d <;> simp only [seqOf] at h1 <;> first | cases h1; done | exact h2 _ rfl | skip
      · rename_i n
        obtain ⟨p', e', hp⟩ := hx
        cases e'
        split at h1
        · rename_i es he
          obtain ⟨ys, z1, _⟩ := hS.ob n _ p he hp
          obtain ⟨_, _, pl, _⟩ := I.list (SqL.of z1)
          obtain ⟨_, _, pt, _⟩ := I.tuple (by rw [hK]; exact q1)
          obtain ⟨o, _, e1, c1, _⟩ := pl
          obtain ⟨o', e2, c2, _⟩ := pt
          rw [e1] at e2; cases e2
          rw [c1] at c2; exact absurd c2 (by decide)
        · rename_i es he
          obtain ⟨o, ys, z1, _⟩ := hS.ob n _ p he hp
          obtain ⟨_, _, pl, _⟩ := I.list (.inl (.inr ⟨o, z1⟩))
          obtain ⟨_, _, pt, _⟩ := I.tuple (by rw [hK]; exact q1)
          obtain ⟨o, _, e1, c1, _⟩ := pl
          obtain ⟨o', e2, c2, _⟩ := pt
          rw [e1] at e2; cases e2
          rw [c1] at c2; exact absurd c2 (by decide)
        · cases h1
      · obtain ⟨p', ys, e', z1, _, _⟩ := hx
        cases e'
        obtain ⟨_, _, pl, _⟩ := I.list (SqL.of z1)
        obtain ⟨_, _, pt, _⟩ := I.tuple (by rw [hK]; exact q1)
        obtain ⟨o, _, e1, c1, _⟩ := pl
        obtain ⟨o', e2, c2, _⟩ := pt
        rw [e1] at e2; cases e2
        rw [c1] at c2; exact absurd c2 (by decide)
  cases d with
  | tup ds =>
    have hf : some (D.tup (cutD ds lo hi)) = some r := hf
    obtain rfl := Option.some.inj hf
    obtain ⟨p, xs, rfl, q1, q2⟩ := hx
    refine .inl ⟨p, xs, rfl, by rw [hK]; exact q1, fun hw => ?_, fun _ p hp => k.tup hS hp (q2.cut lo hi)⟩
    rw [q2.length] at hw
    rw [cutD_whole hw] at k
    exact k.here hS (show Rp G m H (.tup _) _ from ⟨p, xs, rfl, q1, q2⟩)
  | str z =>
    have hf : (if z.length ≤ sizeLine then some (D.str (cutS z lo hi)) else none) = some r := hf
    obtain ⟨hz, rfl⟩ := some_ifp hf
    exact .inr (.inr ⟨z, hx, hz, k.here hS (v := .str _) rfl⟩)
  | _ =>
    simp only [pSl, Option.map_eq_some_iff] at hf
    obtain ⟨ds, h1, h2⟩ := hf
    exact .inr (.inl (gen ds h1 (fun _ z => by cases z) h2.symm))
abbrev DO := Env → M (Option Int)
def tOo (G : Gc) (W : WX) (d : DO) : TO := fun σ H Q => Inp G σ H fun m ρ S => Aft G m H (fun c x H' => W c x σ H') (d ρ S) fun r _ m' H' => Q r H'
def dNo : DO := fun _ S => .ok none S
def dSo (d : DE) : DO := fun ρ S => (d ρ S).bind fun x S => match x with
  | .int i => .ok (some i) S
  | _ => .bad
theorem po_imp {t t' : TO} {o : Option Expr} (h : PO X o t) (k : ∀ σ H Q, t' σ H Q → t σ H Q) : PO X o t' := ⟨fun pins s σ H Q I q => h.run pins s σ H Q I (k σ H Q q)⟩
theorem jo_none : PO X none (tOo G W dNo) := po_imp po_none fun σ H Q ⟨m, ρ, S, hS, hE, h⟩ => h.ok hS
theorem jo_some {d : DE} (h : PE X e (tE G W d)) : PO X (some e) (tOo G W (dSo d)) := po_imp (po_some h) fun σ H Q ⟨m, ρ, S, hS, hE, h⟩ =>
  ⟨m, ρ, S, hS, hE, (Aft.bind h).imp fun x S1 m1 H1 l1 hS1 h1 v rv => by
    cases x with
    | int i => exact ⟨i, rv, h1.ok hS1⟩
    | _ => exact h1.elim⟩
def dSl (a : DE) (lo hi : DO) : DE := fun ρ S => (a ρ S).bind fun x S => (lo ρ S).bind fun l S => (hi ρ S).bind fun u S => optM (pSl S x l u) S
theorem je_sl {lo hi : Option Expr} {da : DE} {dl dh : DO} {p2 : Pos} (hK : X.K = G.K) (ha : PE X a (tR G W da)) (hl : PO X lo (tOo G W dl)) (hh : PO X hi (tOo G W dh)) : PE X (.Subscript a (.Slice lo hi none p2) pos) (tE G W (dSl da dl dh)) :=
  pe_imp (pe_slice (s_sl (G := G) hK) ha hl hh) fun σ H Q ⟨m, ρ, S, hS, hE, h⟩ =>
    ⟨m, ρ, S, hS, hE, (Aft.bind h).imp fun x S1 m1 H1 l1 hS1 h1 v rv => ⟨m1, ρ, S1, hS1, hE.le l1, (Aft.bind h1).imp fun l S2 m2 H2 l2 hS2 h2 => ⟨m2, ρ, S2, hS2, (hE.le l1).le l2, (Aft.bind h2).imp fun u S3 m3 H3 l3 hS3 h3 => by
      obtain ⟨d, e, k⟩ := aft_opt h3
      exact ⟨m3, S3, x, d, hS3, (l2.trans l3).rt rv, e, k⟩⟩⟩⟩

/-! ### arguments, items -/
def dNil : DA := fun _ S => .ok [] S
def dCons (a : DE) (r : DA) : DA := fun ρ S => (a ρ S).bind fun x S => (r ρ S).bind fun xs S => .ok (x :: xs) S
def dStar (a : DE) (r : DA) : DA := fun ρ S => (a ρ S).bind fun x S => match seqOf S x with
  | some ds => (match x with
    | .ref _ => .bad
    | _ => (r ρ S).bind fun xs S => .ok (ds ++ xs) S)
  | none => .bad
theorem ja_nil : PA X [] (tA G W dNil) := pa_imp pa_nil fun σ H Q ⟨m, ρ, S, hS, hE, h⟩ => h.ok hS [] rfl
theorem jb_nil : PA X [] (tB G W dNil) := pa_imp pa_nil fun σ H Q ⟨m, ρ, S, hS, hE, h⟩ => h.ok hS [] rfl
theorem ja_cons {es : List Expr} {da : DE} {dr : DA} (hs : starB e = false) (ha : PE X e (tE G W da)) (hr : PA X es (tA G W dr)) : PA X (e :: es) (tA G W (dCons da dr)) :=
  pa_imp (pa_cons ha hr (starEach_plain hs)) fun σ H Q ⟨m, ρ, S, hS, hE, h⟩ =>
    ⟨m, ρ, S, hS, hE, (Aft.bind h).imp fun x S1 m1 H1 l1 hS1 h1 v rv => ⟨m1, ρ, S1, hS1, hE.le l1, (Aft.bind h1).imp fun xs S2 m2 H2 l2 hS2 h2 vs rvs => h2.ok hS2 (v :: vs) ⟨v, vs, rfl, l2.rp rv, rvs⟩⟩⟩
theorem jb_cons {es : List Expr} {da : DE} {dr : DA} (hs : starB e = false) (ha : PE X e (tR G W da)) (hr : PA X es (tB G W dr)) : PA X (e :: es) (tB G W (dCons da dr)) :=
  pa_imp (pa_cons ha hr (starEach_plain hs)) fun σ H Q ⟨m, ρ, S, hS, hE, h⟩ =>
    ⟨m, ρ, S, hS, hE, (Aft.bind h).imp fun x S1 m1 H1 l1 hS1 h1 v rv => ⟨m1, ρ, S1, hS1, hE.le l1, (Aft.bind h1).imp fun xs S2 m2 H2 l2 hS2 h2 vs rvs => h2.ok hS2 (v :: vs) ⟨v, vs, rfl, l2.rt rv, rvs⟩⟩⟩
theorem ja_star {es : List Expr} {da : DE} {dr : DA} {p : Pos} (hK : X.K = G.K) (ha : PE X e (tR G W da)) (hr : PA X es (tA G W dr)) : PA X (.Starred e p :: es) (tA G W (dStar da dr)) :=
  pa_imp (StX.pa_star ha hr) fun σ H Q ⟨m, ρ, S, hS, hE, h⟩ =>
    ⟨m, ρ, S, hS, hE, (Aft.bind h).imp fun x S1 m1 H1 l1 hS1 h1 v rv => by
      cases hq : seqOf S1 x with
      | none => rw [hq] at h1; exact h1.elim
      | some ds =>
        rw [hq] at h1
        obtain ⟨q, xs, e, k1, k2⟩ := seq_ok hS1 hq rv
        have fin : Aft G m1 H1 (fun c x H' => W c x σ H') ((dr ρ S1).bind fun xs S => .ok (ds ++ xs) S) (fun r _ m' H' => ∀ vs, RpL G m' H' r vs → Q vs H') → _ := fun h1 =>
          (show ∃ p xs, v = V.ref p ∧ (SqT X.K H1 p xs ∨ SqL X.K H1 p xs) ∧ tA G W dr σ H1 fun ys H2 => Q (xs ++ ys) H2 from
            ⟨q, xs, e, by rw [hK]; exact k1.symm, m1, ρ, S1, hS1, hE.le l1, (Aft.bind h1).imp fun ys S2 m2 H2 l2 hS2 h2 vs rvs => h2.ok hS2 (xs ++ vs) ((l2.rpL k2).append rvs)⟩)
        cases x with
        | ref n => exact h1.elim
        | _ => exact fin h1⟩
/-- a tuple display -/
def dTup (r : DA) : DE := fun ρ S => (r ρ S).bind fun xs S => if xs.length ≤ sizeLine then .ok (.tup xs) S else .bad
theorem aft_if {α β : Type} {c : Prop} [Decidable c] {a : β} {Y : XK} {Φ : β → Store → Mu → Hp → Prop} (h : Aft G m H Y (if c then .ok a S else .bad) Φ) : c ∧ Aft G m H Y (.ok a S) Φ := by
  by_cases k : c
  · rw [if_pos k] at h; exact ⟨k, h⟩
  · rw [if_neg k] at h; exact h.elim
theorem je_tup {es : List Expr} {dr : DA} {x1} (h : PA X es (tA G W dr)) : PE X (.Tuple es x1 pos) (tE G W (dTup dr)) :=
  pe_imp (pe_tup h) fun σ H Q ⟨m, ρ, S, hS, hE, h⟩ => ⟨m, ρ, S, hS, hE, (Aft.bind h).imp fun xs S1 m1 H1 l1 hS1 h1 vs rvs => by
    obtain ⟨hc, h1⟩ := aft_if (α := D) h1
    refine ⟨by rw [rvs.length]; exact hc, fun p hp => h1 m1 _ (Le.same (Same.new hp)) (hS1.same (Same.new hp)) (.ref p) ⟨p, vs, rfl, SqT.of upd_same, (Le.same (Same.new hp)).rpL rvs⟩⟩⟩
/-! ### a list just made -/
def Mu.add (m : Mu) (p : Addr) : Mu := ⟨m.as, fun a => m.O a ∨ a = p⟩
def AftL (G : Gc) (m : Mu) (H : Hp) (Y : XK) (r : R (List D)) (Q : VK) : Prop := match r with
  | .ok ds S => ∀ m' H' p, Le G m H m' H' → H p = none → Holds G (m'.add p) H' S → Ol G (m'.add p) H' ds p → Q (.ref p) H'
  | .exc c S => ∀ m' H', Le G m H m' H' → Holds G m' H' S → ∀ ca, G.ad c = some ca → Y (.ref ca) none H'
  | .bad => False
def tL (G : Gc) (W : WX) (d : DA) : TE := fun σ H Q => Inp G σ H fun m ρ S => AftL G m H (fun c x H' => W c x σ H') (d ρ S) Q
theorem Mu.add_rp {p : Addr} {d : D} {v : V} (h : Rp G (m.add p) H d v) : Rp G m H d v := Rp.mono (m := m.add p) (m' := m) (H := H) (H' := H) (fun _ _ z => z) (fun _ _ z => z) (fun a o z n => ⟨z, fun q => n (Or.elim q Or.inl fun q => Or.inr (Or.inl q))⟩) d v h
theorem Mu.add_rpL {p : Addr} {d : List D} {v : List V} (h : RpL G (m.add p) H d v) : RpL G m H d v := RpL.mono (m := m.add p) (m' := m) (H := H) (H' := H) (fun _ _ z => z) (fun _ _ z => z) (fun a o z n => ⟨z, fun q => n (Or.elim q Or.inl fun q => Or.inr (Or.inl q))⟩) d v h
theorem Holds.drop {p : Addr} (h : Holds G (m.add p) H S) : Holds G m H S :=
  ⟨h.len, h.nd, fun n ob a e1 e2 => by
    have q := h.ob n ob a e1 e2
    cases ob with
    | lst ds =>
      obtain ⟨xs, e, r⟩ := q
      exact ⟨xs, e, Mu.add_rpL r⟩
    | frz ds =>
      obtain ⟨o, xs, e, r⟩ := q
      exact ⟨o, xs, e, Mu.add_rpL r⟩, fun a q => h.dis a (.inl q), fun a q => h.there a (.inl q)⟩
def dLst (r : DA) : DE := fun ρ S => (r ρ S).bind fun xs S => .ok (.lst xs) S
/-- a list that is not changed any more -/
theorem je_lst {d : DA} (h : PE X e (tL G W d)) : PE X e (tE G W (dLst d)) :=
  pe_imp h fun σ H Q ⟨m, ρ, S, hS, hE, h⟩ => ⟨m, ρ, S, hS, hE, by
    have h : Aft G m H _ ((d ρ S).bind fun xs S => R.ok (D.lst xs) S) _ := h
    cases hd : d ρ S with
    | bad =>
      rw [hd] at h
      exact h.elim
    | exc c S1 =>
      rw [hd] at h
      show AftL G m H _ (d ρ S) Q
      rw [hd]
      exact h
    | ok ds S1 =>
      rw [hd] at h
      show AftL G m H _ (d ρ S) Q
      rw [hd]
      intro m' H' p l hp hS' ⟨xs, e1, e2⟩
      refine h m' H' l hS'.drop (.ref p) ⟨p, xs, rfl, e1, ?_, Mu.add_rpL e2⟩
      rintro (q | q)
      · exact hS'.dis p (.inr rfl) q
      · rw [l.O] at q
        exact hS.there p q hp⟩
end
end Py

/-! Part 6: enumerate over a tuple. -/
namespace PySem
open Sem (wp)
theorem meets_enum_new1 {v : Value} {o : Obj} {H : Heap → Prop} (B : Begins v o H) :
    Meets (Builtin.«enumerate.__new__» ⟨[.type "enumerate", v], []⟩) (fun _ R s => H s.heap ∧
      R (.ok (.ret (.ref (s.heap.push o).objs.size))) { s with heap := (s.heap.push o).push { cls := .type "enumerate", data := .fields #[.none, .bool false, .ref s.heap.objs.size, rawInt 0, .none, .none] } }) :=
  .of_wp fun prog w A R s h => by
    obtain ⟨hp, g, d, tk, os⟩ := s; obtain ⟨h1, h⟩ := h
    have hsub := sub_enumerate
    have q1 : ∀ {A' : Around} {E : Value → Shared → Prop} {Q : Value → Shared → Prop}, Q (.ref hp.objs.size) ⟨hp.push o, g, d, tk, os⟩ → wpAny (model prog w) A' (pyIter v) Q E ⟨hp, g, d, tk, os⟩ :=
      fun q => B.iter prog w _ _ ⟨hp, g, d, tk, os⟩ _ h1 q
    wp_walk using q1
    refine wpAny_stack_any fun st => wpAny_pure ?_
    split
    · rename_i c _ _ _ _ _
      cases (c == Value.type "enumerate")
      · wp_walk using q1
        exact ⟨_, rfl, h⟩
      · wp_walk using q1
        exact ⟨_, rfl, h⟩
    · wp_walk using q1
      exact ⟨_, rfl, h⟩
section
variable {prog : Program} {w : World} {A : Around} {E : Value → Shared → Prop} {s : Shared}
theorem enum_begins1 {v : Value} {o : Obj} {H : Heap → Prop} {Q : Value → Shared → Prop} (B : Begins v o H) (h1 : H s.heap)
    (h : ∀ h', IsEnum h' (s.heap.objs.size + 1) s.heap.objs.size 0 .none → h'.get? s.heap.objs.size = some o → h'.objs.size = s.heap.objs.size + 2 →
      (∀ b o, s.heap.get? b = some o → h'.get? b = some o) → Q (.ref (s.heap.objs.size + 1)) { s with heap := h' }) :
    wpAny (model prog w) A (call (.type "enumerate") [v]) Q E s := by
  refine callType_new F.called_enumerate (by decide) (F.typeCall_enumerate_1 _) (F.newCall_enumerate_1 _) (fun obj => F.args_object_init_2 obj _) F.entry_enumerate_new
    (meets_enum_new1 B) ⟨h1, ?_⟩
  have hz : (s.heap.push o).objs.size = s.heap.objs.size + 1 := Heap.size_push ..
  show _ ∧ _
  rw [hz]
  have he : IsEnum ((s.heap.push o).push { cls := .type "enumerate", data := .fields #[.none, .bool false, .ref s.heap.objs.size, rawInt 0, .none, .none] }) (s.heap.objs.size + 1) s.heap.objs.size 0 .none := by
    have := Heap.get?_push_size (s.heap.push o) (o := { cls := .type "enumerate", data := .fields #[.none, .bool false, .ref s.heap.objs.size, rawInt 0, .none, .none] }) rfl
    rw [hz] at this; exact this
  refine ⟨⟨_, he, rfl⟩, h _ he (Heap.get?_push_of_some _ (Heap.get?_push_size _ B.free)) (by rw [Heap.size_push, hz]) fun b o x => Heap.get?_push_of_some _ (Heap.get?_push_of_some _ x)⟩
end
end PySem
namespace L2
open PySem PySem.Spec PyProof.Rows
/-- the tuple at a, each item in a new pair -/
def IteT (K : PySem.W.Frag) (a : Addr) : It :=
  ⟨fun i H => ∃ (xs : List V) (x : V), SqT K H a xs ∧ xs[i]? = some x, fun i H v H' => ∃ T x, v = .ref T ∧ H T = none ∧ H' = upd H T (.tup [.int (i : Nat), x]) ∧ ∀ xs, SqT K H a xs → xs[i]? = some x, fun i H => ∃ xs : List V, SqT K H a xs ∧ xs.length ≤ i⟩
theorem turn_enumT {P : Program} {w : World} {K : PySem.W.Frag} {elts : List Expr} {kk : Nat} {tpos : Pos} (a e it : Addr) (hat : a ≠ it) :
    Turn P w K (.Tuple elts kk tpos) (IteT K a) [e, it] e (fun i h => (∃ old, IsEnum h e it ((i : Nat) : Int) old) ∧ h.IsTupleIter it a i ∧ e ≠ it) where
  mem := by simp
  obj := fun i h st b hb => by
    obtain ⟨⟨old, he⟩, ⟨o, ho, hc, hd⟩, _⟩ := st
    have e' : b = e ∨ b = it := by simpa using hb
    rcases e' with z | z
    · rw [z]; exact ⟨_, he, fun v q => nomatch q⟩
    · rw [z]; exact ⟨o, ho, fun v q => by rw [hd] at q; cases q⟩
  keep := fun i h h' st k => let ⟨⟨old, he⟩, hi, hne⟩ := st; ⟨⟨old, k e (by simp) _ he⟩, hi.at fun o q => k it (by simp) o q, hne⟩
  item := by
    intro X hP hw hK hc i pins s σ H E I hf st hg
    subst hP hw hK
    obtain ⟨⟨old, he⟩, hit, hne⟩ := st
    obtain ⟨xs, x, hq, hx⟩ := hg
    obtain ⟨its, rv, p, hz⟩ := I.tuple hq
    obtain ⟨u, hu, ru⟩ := rv.get hx
    have pt : s.heap.IsTuple a its.toArray := p
    have hel : e < s.heap.objs.size := Heap.lt_size he
    have hil : it < s.heap.objs.size := by obtain ⟨_, q, _⟩ := hit; exact Heap.lt_size q
    have hae : a ≠ e := fun z => by
      obtain ⟨o, e1, c1, _⟩ := pt
      rw [z] at e1
      have e2 : s.heap.get? e = _ := he
      rw [e1] at e2
      cases e2
      have c2 : Value.type "enumerate" = Value.type "tuple" := c1
      injection c2 with c3
      exact absurd c3 (by decide)
    refine wpAny_pyNext_enum_itemD (n := its.toArray.size) (Draws.tuple (A := X.A.in1) (I.ok.hd hc) it a hat its.toArray) he ⟨hit, pt⟩ (i := i) ?_ hne ?_ fun y h' tk hP ho st' hT hsz hk => ?_
    · have := (List.getElem?_eq_some_iff.mp hu).1
      simpa using this
    · simp only [List.mem_cons, List.not_mem_nil, or_false, not_or]
      exact ⟨hne, fun z => hae z.symm⟩
    · have ey : y = u := by
        have hP : its.toArray[i]? = some y := hP
        rw [List.getElem?_toArray, hu] at hP
        exact (Option.some.inj hP).symm
      subst ey
      refine ⟨_, rfl, wpAny_letOwnedTupleGo_enum (s := { s with heap := h', toks := tk + 1 }) ho fun h'' he' sb => ?_⟩
      have hT2 : h''.get? s.heap.objs.size = some { cls := .type "tuple", data := .seq #[.int i tk, y] } := (sb.2 _ (Nat.ne_of_gt hel)).trans hT
      have new : ObjOk X.prog X.w (upd H s.heap.objs.size (.tup [.int (i : Nat), x])) h'' s.heap.objs.size (.tup [.int (i : Nat), x]) :=
        ⟨by show 2 ≤ sizeLine; decide, [.int i tk, y], .cons ⟨_, rfl⟩ (.cons ru .nil), ⟨_, hT2, rfl, _, rfl⟩⟩
      have I1 : Inv X pins σ (upd H s.heap.objs.size (.tup [.int (i : Nat), x])) { s with heap := h'', toks := tk + 1 } :=
        I.turnedNew (ch := [e, it]) (fun b ob hb q => (sb.2 b (fun z => hb (by simp [z]))).trans (hk b ob (fun z => hb (by simp [z])) (fun z => hb (by simp [z])) q)) hf (Nat.le_refl _) new
      refine ⟨.ref s.heap.objs.size, _, I1, rfl, ⟨_, x, rfl, I.hok.fresh (Nat.le_refl _), rfl, fun ys hy => by rw [I.tuple_inj hy hq]; exact hx⟩, ⟨⟨y, ?_⟩, st'.1.at fun o q => (sb.2 it (Ne.symm hne)).trans q, hne⟩, fun b hb => ?_⟩
      · have e1 : ((i + 1 : Nat) : Int) = (i : Int) + 1 := by omega
        rw [e1]; exact he'
      · have hb' : b < s.heap.objs.size := by
          have e' : b = e ∨ b = it := by simpa using hb
          rcases e' with z | z
          · rw [z]; exact hel
          · rw [z]; exact hil
        rw [upd_ne (Nat.ne_of_lt hb')]
        exact (hf b hb).1
  done := by
    intro X hP hw hK hc i pins s σ H E I hf st hg
    subst hP hw hK
    obtain ⟨⟨old, he⟩, hit, hne⟩ := st
    obtain ⟨xs, hq, hx⟩ := hg
    obtain ⟨its, rv, p, hz⟩ := I.tuple hq
    obtain ⟨f0, f1, f2, f3, f4, f5⟩ := hf it (by simp)
    have hl := rv.length
    -- the end is told at the number of items: past it the iterator has stood there, too
    have hT : s.TypeIs (.ref e) "enumerate" := ⟨_, he, rfl⟩
    unfold pyNext
    refine wpAny_bind (wpAny_attempt (wpAny_callSpecial?_slot (name := Str.ofString "__next__") hT F.slot_enumerate_next
      (wpAny_call_entry F.slot_enumerate_next hT F.entry_enumerate_next ?_ (F.args_enumerate_next_1 _))))
    show wpAny _ _ (field (.ref e) 2 >>= _) _ _ _
    refine wpAny_bind (wpAny_field he rfl (x := .ref it) rfl ?_)
    refine wpAny_bind (wpAny_nextOf_tuple_end (A := X.A.in1) (I.ok.hd hc) hit (show s.heap.IsTuple a its.toArray from p) (by simp; omega) fun h' x he' hx' => ?_)
    obtain ⟨o, ho, hc'⟩ := hx'
    refine wpAny_bind (wpAny_isInstance (T := "StopIteration") (b := true) ⟨o, ho, hc'⟩ isSubtype_stop ?_)
    exact wpAny_pure ⟨rfl, I.turned (t' := s.toks) (fun b o hb q => he' b o hb q) f0 f1 f3 f4 f5⟩
  self := fun A i s Q E st h => let ⟨⟨_, he⟩, _⟩ := st; wpAny_pyIter_enum he h
def iEnumT (K : PySem.W.Frag) (ta : TA) : TI := fun σ H R => ta σ H fun vs H1 => ∃ a xs, vs = [.ref a] ∧ ((SqL K H1 a xs ∧ R (Ite K a) H1) ∨ (SqT K H1 a xs ∧ R (IteT K a) H1))
theorem pi_enumT {X : Cx} {e : Expr} {ta : TA} {p pos tpos : Pos} {elts : List Expr} {kk : Nat} (hg : Gl X "enumerate") (hm : X.mg "enumerate" = none) (ha : PA X [e] ta) (hs : starEach [e] X.env = [(false, eval e X.env)] := by rfl) :
    PI X (.Tuple elts kk tpos) (.Call (.Name "enumerate" p) [e] [] pos) (iEnumT X.K ta) := by
  refine ⟨fun pins s σ H R I h => ?_⟩
  refine Call_ (ld_blt I hg hm boot_enumerate (PyProof.Rows.callWith_type1 (thn (ha.run pos pins s σ H _ I h) fun us s1 ⟨vs, H1, I1, r1, q1⟩ => ?_) hs rfl))
  obtain ⟨a, xs, ex, q1⟩ := q1
  subst ex
  cases r1 with
  | cons r rr =>
    cases rr
    cases r
    have fre : ∀ b ∈ [s1.heap.objs.size + 1, s1.heap.objs.size], FpOk X pins H1 b := fun b hb => by
      have e' : b = s1.heap.objs.size + 1 ∨ b = s1.heap.objs.size := by simpa using hb
      have hle : s1.heap.objs.size ≤ b := by
        rcases e' with z | z
        · rw [z]; exact Nat.le_add_right _ _
        · rw [z]; exact Nat.le_refl _
      exact I1.fpOk hle (I1.hok.fresh hle)
    rcases q1 with ⟨hq, q⟩ | ⟨hq, q⟩
    · obtain ⟨its, rv, p', hz⟩ := I1.list hq
      refine call_enumerate_list p'.isList fun h' he hit hsz hk => wpAny_pyIter_enum he ?_
      have I2 : Inv X pins σ H1 { s1 with heap := h' } := I1.kept (t' := s1.toks) hk
      exact ⟨s1.heap.objs.size + 1, [s1.heap.objs.size + 1, s1.heap.objs.size], _, _, H1, rfl, I2, turn_enum a (s1.heap.objs.size + 1) s1.heap.objs.size, ⟨⟨.none, he⟩, hit, Nat.succ_ne_self _⟩, fre, q⟩
    · obtain ⟨its, rv, p', hz⟩ := I1.tuple hq
      have pt : s1.heap.IsTuple a its.toArray := p'
      obtain ⟨o1, ho1, _⟩ := id pt
      refine enum_begins1 (begins_tuple a its.toArray) pt fun h' he hit hsz hk => wpAny_pyIter_enum he ?_
      have I2 : Inv X pins σ H1 { s1 with heap := h' } := I1.kept (t' := s1.toks) hk
      exact ⟨s1.heap.objs.size + 1, [s1.heap.objs.size + 1, s1.heap.objs.size], _, _, H1, rfl, I2, turn_enumT a (s1.heap.objs.size + 1) s1.heap.objs.size (Nat.ne_of_lt (Heap.lt_size ho1)), ⟨⟨.none, he⟩, ⟨_, hit, rfl, rfl⟩, Nat.succ_ne_self _⟩, fre, q⟩
theorem walk_enumT {K : PySem.W.Frag} {a : Addr} {xs : List V} : Walk (IteT K a) xs.length (fun H => SqT K H a xs) (YPair (fun i => some (.int (i : Nat))) (fun i => xs[i]?)) := by
  refine ⟨fun i _ hi q => ⟨xs, xs[i], q, by simp [hi]⟩, fun _ q => ⟨xs, q, Nat.le_refl _⟩, fun i H v H' _ q y => ?_⟩
  obtain ⟨T, x, h1, h2, h3, h4⟩ := y
  exact ⟨T, .int (i : Nat), x, h1, h2, h3, rfl, h4 xs q⟩
theorem walk_zipT {K : PySem.W.Frag} {a b : Addr} {xs ys : List V} {n : Nat} (hn : n = min xs.length ys.length) : Walk (RZ.ItzT K a b) n (fun H => SqT K H a xs ∧ SqT K H b ys) (YPair (fun i => xs[i]?) (fun i => ys[i]?)) := by
  subst hn
  refine ⟨fun i _ hi q => ?_, fun _ q => ⟨xs, ys, q.1, q.2, by omega⟩, fun i H v H' _ q y => ?_⟩
  · have h1 : i < xs.length := by omega
    have h2 : i < ys.length := by omega
    exact ⟨xs, ys, xs[i], ys[i], q.1, q.2, by simp [h1], by simp [h2]⟩
  · obtain ⟨T, x, z, h1, h2, h3, h4, h5⟩ := y
    exact ⟨T, x, z, h1, h2, h3, h4 xs q.1, h5 ys q.2⟩
end L2

/-! Part 7: what is walked; targets; comprehensions. -/
namespace Py
open PySem PySem.Spec PyProof.Rows L2

/-- the weak step: what others hold stays; of what one holds (m.O) only what kp names -/
structure Lx (G : Gc) (kp : Addr → Prop) (m : Mu) (H : Hp) (m' : Mu) (H' : Hp) : Prop where
  as : ∃ e, m'.as = m.as ++ e ∧ ∀ a ∈ e, H a = none
  O1 : ∀ a, m'.O a → m.O a ∨ H a = none
  O2 : ∀ a, m.O a → kp a → m'.O a
  kept : ∀ a o, H a = some o → a ∉ m.as → (m.O a → kp a) → H' a = some o
  tups : ∀ a xs, SqT G.K H a xs → SqT G.K H' a xs
  there : ∀ a, H a ≠ none → H' a ≠ none
abbrev kAll : Addr → Prop := fun _ => True
section
variable {G : Gc} {kp : Addr → Prop} {m m' m'' : Mu} {H H' H'' : Hp} {S S' : Store}
theorem Le.lx (l : Le G m H m' H') : Lx G kp m H m' H' := ⟨l.as, fun a h => .inl (by rw [l.O] at h; exact h), fun a h _ => by rw [l.O]; exact h, fun a o h n _ => l.kept a o h n, l.tups, l.there⟩
theorem Lx.refl : Lx G kp m H m H := Le.refl.lx
theorem Lx.nas (l : Lx G kp m H m' H') {a : Addr} {o : HO} (h : H a = some o) (n : a ∉ m.as) : a ∉ m'.as := by
  obtain ⟨e, e1, e2⟩ := l.as
  intro q
  rw [e1, List.mem_append] at q
  rcases q with q | q
  · exact n q
  · rw [e2 a q] at h; cases h
theorem Lx.trans (l : Lx G kp m H m' H') (k : Lx G kp m' H' m'' H'') : Lx G kp m H m'' H'' := by
  have ob : ∀ a, H a = none ∨ ∃ o, H a = some o := fun a => by
    cases h : H a with
    | none => exact .inl rfl
    | some o => exact .inr ⟨o, rfl⟩
  have back : ∀ a, H' a = none → H a = none := fun a h => by
    rcases ob a with q | ⟨o, q⟩
    · exact q
    · exact absurd h (l.there a (by rw [q]; simp))
  obtain ⟨e, e1, e2⟩ := l.as
  obtain ⟨f, f1, f2⟩ := k.as
  refine ⟨⟨e ++ f, by rw [f1, e1, List.append_assoc], fun a ha => ?_⟩, fun a h => ?_, fun a h q => k.O2 a (l.O2 a h q) q, fun a o h n q => ?_, fun a xs h => k.tups a xs (l.tups a xs h), fun a h => k.there a (l.there a h)⟩
  · rcases List.mem_append.mp ha with q | q
    · exact e2 a q
    · exact back a (f2 a q)
  · rcases k.O1 a h with q | q
    · exact l.O1 a q
    · exact .inr (back a q)
  · refine k.kept a o (l.kept a o h n q) (l.nas h n) fun z => ?_
    rcases l.O1 a z with z | z
    · exact q z
    · rw [z] at h; cases h
theorem Lx.ix (l : Lx G kp m H m' H') {n : Nat} {a : Addr} (h : m.as[n]? = some a) : m'.as[n]? = some a := by
  obtain ⟨e, e1, _⟩ := l.as
  rw [e1, List.getElem?_append_left (List.getElem?_eq_some_iff.mp h).1]
  exact h
theorem Lx.lsts (l : Lx G kp m H m' H') (a : Addr) (o : HO) (h : H a = some o) (n : ¬ m.has a) : H' a = some o ∧ ¬ m'.has a :=
  ⟨l.kept a _ h (fun z => n (.inl z)) fun z => absurd (.inr z) n, by
    rintro (q | q)
    · exact l.nas h (fun z => n (.inl z)) q
    · rcases l.O1 a q with z | z
      · exact n (.inr z)
      · rw [z] at h; cases h⟩
theorem Lx.rp (l : Lx G kp m H m' H') {d : D} {v : V} (h : Rp G m H d v) : Rp G m' H' d v := Rp.mono (fun _ _ => l.ix) l.tups l.lsts d v h
theorem Lx.rpL (l : Lx G kp m H m' H') {d : List D} {v : List V} (h : RpL G m H d v) : RpL G m' H' d v := RpL.mono (fun _ _ => l.ix) l.tups l.lsts d v h
theorem Lx.rps (l : Lx G kAll m H m' H') {s : Sl} {v : V} (h : RpS G m H s v) : RpS G m' H' s v := by
  cases s with
  | val d => exact l.rp h
  | own ds =>
    obtain ⟨a, e, h1, h2, xs, ex, q⟩ := h
    exact ⟨a, e, l.O2 a h1 trivial, l.nas ex h2, xs, l.kept a _ ex h2 fun _ => trivial, l.rpL q⟩
theorem RpE.lx {ρ : Env} {σ : Sg} (E : RpE G m H ρ σ) (l : Lx G kAll m H m' H') : RpE G m' H' ρ σ :=
  ⟨fun i s h => let ⟨v, e, q⟩ := E.at_ i s h; ⟨v, e, l.rps q⟩, E.inj, E.len⟩
/-- a new list at p -/
theorem Lx.add {p : Addr} (l : Le G m H m' H') (hp : H p = none) : Lx G kp m H (m'.add p) H' :=
  ⟨l.as, fun a h => by
    rcases h with h | h
    · exact .inl (by rw [l.O] at h; exact h)
    · subst h; exact .inr hp, fun a h _ => .inl (by rw [l.O]; exact h), fun a o h n _ => l.kept a o h n, l.tups, l.there⟩
end

/-! ### what is walked -/
/-- J gives the items ds, however things go on by Lx -/
def Serv (G : Gc) (kp : Addr → Prop) (m : Mu) (H : Hp) (ds : List D) (J : It) : Prop := ∃ (Gd : Hp → Prop) (Y : Nat → Hp → V → Hp → Prop), Walk J ds.length Gd Y ∧
  (∀ m' H', Lx G kp m H m' H' → Gd H') ∧ ∀ m' H' i x H'', Lx G kp m H m' H' → i < ds.length → Y i H' x H'' → Same H' H'' ∧ ∃ d, ds[i]? = some d ∧ ∀ m2, Lx G kp m H m2 H' → Rp G m2 H'' d x
abbrev DI := Env → M (List D)
def tI (G : Gc) (W : WX) (d : DI) : TI := fun σ H R => ∃ kp, Inp G σ H fun m ρ S => Aft G m H (fun c x H' => W c x σ H') (d ρ S) fun ds S' m' H' => ∀ J, Serv G kp m' H' ds J → R J H'
/-- within an expression: also a list of one's own -/
def tIw (G : Gc) (W : WX) (d : DI) : TI := fun σ H R => Inp G σ H fun m ρ S => Aft G m H (fun c x H' => W c x σ H') (d ρ S) fun ds S' m' H' => ∀ J, Serv G kAll m' H' ds J → R J H'
section
variable {G : Gc} {W : WX} {X : Cx} {e a b c tg : Expr} {m m' : Mu} {H H' : Hp} {S : Store} {σ : Sg} {pos p : Pos} {kp : Addr → Prop}
theorem pi_imp {t t' : TI} (h : PI X tg e t) (k : ∀ σ H R, t' σ H R → t σ H R) : PI X tg e t' := ⟨fun pins s σ H R I q => h.run pins s σ H R I (k σ H R q)⟩
theorem jiw_of {d : DI} (h : PI X tg e (tI G W d)) : PI X tg e (tIw G W d) := pi_imp h fun _ _ _ q => ⟨_, q⟩

theorem serv_list {p : Addr} {xs : List V} {ds : List D} (h : H p = some (.lst xs)) (n : p ∉ m.as) (k : m.O p → kp p) (r : RpL G m H ds xs) : Serv G kp m H ds (Itl G.K p) := by
  refine ⟨fun H => SqL G.K H p xs, YAt xs, r.length ▸ walk_list, fun m' H' l => SqL.of (l.kept p _ h n k), fun m' H' i x H'' l hi y => ?_⟩
  obtain ⟨e, y⟩ := y
  subst e
  refine ⟨fun _ _ z => z, ?_⟩
  obtain ⟨d, e, q⟩ := r.getV y
  exact ⟨d, e, fun m2 l2 => l2.rp q⟩
theorem serv_tup {p : Addr} {xs : List V} {ds : List D} (h : SqT G.K H p xs) (r : RpL G m H ds xs) : Serv G kp m H ds (Itt G.K p) := by
  refine ⟨fun H => SqT G.K H p xs, YAt xs, r.length ▸ walk_tup, fun m' H' l => l.tups p xs h, fun m' H' i x H'' l hi y => ?_⟩
  obtain ⟨e, y⟩ := y
  subst e
  refine ⟨fun _ _ z => z, ?_⟩
  obtain ⟨d, e, q⟩ := r.getV y
  exact ⟨d, e, fun m2 l2 => l2.rp q⟩
/-- a list that is written in the text -/
theorem serv_range {lo : Int} {n : Nat} : Serv G kp m H ((List.range n).map fun (i : Nat) => D.int (lo + i)) (Itr lo n) := by
  refine ⟨fun _ => True, YFn fun i => .int (lo + i), ?_, fun _ _ _ => trivial, fun m' H' i x H'' l hi y => ?_⟩
  · have e : ((List.range n).map fun (i : Nat) => D.int (lo + i)).length = n := by simp
    rw [e]
    exact walk_range
  · obtain ⟨e, y⟩ := y
    subst e
    have hi : i < n := by simpa using hi
    refine ⟨fun _ _ z => z, .int (lo + i), by simp [hi], fun _ _ => y⟩
theorem serv_pair {J : It} {n : Nat} {Gd : Hp → Prop} {xs ys : Nat → Option V} {ds : List D} (hn : ds.length = n) (w : Walk J n Gd (YPair xs ys)) (hg : ∀ m' H', Lx G kp m H m' H' → Gd H')
    (hd : ∀ i x y, i < n → xs i = some x → ys i = some y → ∃ d e, ds[i]? = some (.tup [d, e]) ∧ Rp G m H d x ∧ Rp G m H e y) : Serv G kp m H ds J := by
  subst hn
  refine ⟨Gd, _, w, hg, fun m' H' i v H'' l hi y => ?_⟩
  obtain ⟨T, x, y, rfl, hT, rfl, h1, h2⟩ := y
  obtain ⟨d, e, q1, q2, q3⟩ := hd i x y hi h1 h2
  have sm : Same H' (upd H' T (.tup [x, y])) := Same.new hT
  refine ⟨sm, _, q1, fun m2 l2 => ⟨T, [x, y], rfl, SqT.of upd_same, x, [y], rfl, (Le.same sm).rp (l2.rp q2), y, [], rfl, (Le.same sm).rp (l2.rp q3), rfl⟩⟩
theorem serv_str {z : Str} : Serv G kp m H (z.cps.toList.map fun c => D.str ⟨#[c]⟩) (Its z) := by
  have e : (z.cps.toList.map fun c => D.str ⟨#[c]⟩).length = z.cps.size := by simp
  refine ⟨fun _ => True, _, e ▸ walk_str, fun _ _ _ => trivial, fun m' H' i x H'' l hi y => ?_⟩
  obtain ⟨e, c, h1, h2⟩ := y
  subst e h2
  refine ⟨fun _ _ z => z, .str ⟨#[c]⟩, ?_, fun _ _ => rfl⟩
  have h3 : z.cps.toList[i]? = some c := by simpa using h1
  rw [List.getElem?_map, h3]; rfl

/-! a value that is walked -/
def iSeq (K : PySem.W.Frag) (tl : TE) : TI := fun σ H R => tl σ H fun x H1 => (∃ a, x = .ref a ∧ (∃ xs, SqL K H1 a xs) ∧ R (Itl K a) H1) ∨ (∃ a, x = .ref a ∧ (∃ xs, SqT K H1 a xs) ∧ R (Itt K a) H1) ∨ ∃ z, x = .str z ∧ R (Its z) H1
theorem pi_val {l : Expr} {tl : TE} (hl : PE X l tl) : PI X tg l (iSeq X.K tl) := by
  refine ⟨fun pins s σ H R I h => ?_⟩
  refine thn (hl.run pins s σ H _ I h) fun v s1 ⟨x, H1, I1, r1, q1⟩ => ?_
  rcases q1 with ⟨a, e, ⟨xs, hq⟩, q⟩ | ⟨a, e, ⟨xs, hq⟩, q⟩ | ⟨z, e, q⟩
  · subst e
    cases r1
    obtain ⟨its, rv, p, hz⟩ := I1.list hq
    refine wpAny_pyIter_list p.isList ?_
    refine ⟨s1.heap.objs.size, [s1.heap.objs.size], _, _, H1, rfl, I1.kept (t' := s1.toks) fun b o e => Heap.get?_push_of_some _ e, turn_list a _, ⟨_, Heap.get?_push_size _ rfl, rfl, rfl⟩, fun b hb => ?_, q⟩
    have e : b = s1.heap.objs.size := by simpa using hb
    subst e
    exact I1.fpOk (Nat.le_refl _) (I1.hok.fresh (Nat.le_refl _))
  · subst e
    cases r1
    obtain ⟨its, rv, p, hz⟩ := I1.tuple hq
    refine wpAny_pyIter_tuple (show s1.heap.IsTuple a its.toArray from p) ?_
    refine ⟨s1.heap.objs.size, [s1.heap.objs.size], _, _, H1, rfl, I1.kept (t' := s1.toks) fun b o e => Heap.get?_push_of_some _ e, turn_tuple a _, ⟨_, Heap.get?_push_size _ rfl, rfl, rfl⟩, fun b hb => ?_, q⟩
    have e : b = s1.heap.objs.size := by simpa using hb
    subst e
    exact I1.fpOk (Nat.le_refl _) (I1.hok.fresh (Nat.le_refl _))
  · subst e
    obtain ⟨t, rfl⟩ := r1
    cases ha : z.cps.all (· < 128)
    · exact wpAny_pyIter_wide ha (pi_one (tk := s1.toks) I1 _ (turn_str _ z t "str_iterator" (.inr rfl)) ⟨_, Heap.get?_push_size _ rfl, rfl, rfl⟩ q)
    · exact wpAny_pyIter_ascii ha (pi_one (tk := s1.toks) I1 _ (turn_str _ z t "str_ascii_iterator" (.inl rfl)) ⟨_, Heap.get?_push_size _ rfl, rfl, rfl⟩ q)
def itms : D → Option (List D)
  | .tup ds => some ds
  | .lst ds => some ds
  | .str z => some (z.cps.toList.map fun c => D.str ⟨#[c]⟩)
  | _ => none
theorem serv_val {d : D} {ds : List D} {v : V} {R : It → Hp → Prop} (h : itms d = some ds) (r : Rp G m H d v) (k : ∀ J, Serv G kp m H ds J → R J H) :
    (∃ a, v = .ref a ∧ (∃ xs, SqL G.K H a xs) ∧ R (Itl G.K a) H) ∨ (∃ a, v = .ref a ∧ (∃ xs, SqT G.K H a xs) ∧ R (Itt G.K a) H) ∨ ∃ z, v = .str z ∧ R (Its z) H := by
  cases d <;> simp only [itms] at h <;> first | cases h; done | skip
  · cases h
    exact .inr (.inr ⟨_, r, k _ serv_str⟩)
  · cases h
    obtain ⟨a, xs, e, h1, h2⟩ := r
    exact .inr (.inl ⟨a, e, ⟨xs, h1⟩, k _ (serv_tup h1 h2)⟩)
  · cases h
    obtain ⟨a, xs, e, h1, h2, h3⟩ := r
    exact .inl ⟨a, e, ⟨xs, SqL.of h1⟩, k _ (serv_list h1 (fun z => h2 (.inl z)) (fun z => absurd (.inr z) h2) h3)⟩
theorem serv_valW {d : D} {ds : List D} {v : V} {R : It → Hp → Prop} (h : itms d = some ds) (r : Rt G m H d v) (k : ∀ J, Serv G kAll m H ds J → R J H) :
    (∃ a, v = .ref a ∧ (∃ xs, SqL G.K H a xs) ∧ R (Itl G.K a) H) ∨ (∃ a, v = .ref a ∧ (∃ xs, SqT G.K H a xs) ∧ R (Itt G.K a) H) ∨ ∃ z, v = .str z ∧ R (Its z) H := by
  cases d <;> simp only [itms] at h <;> first | cases h; done | skip
  · cases h
    exact .inr (.inr ⟨_, r, k _ serv_str⟩)
  · cases h
    obtain ⟨a, xs, e, h1, h2⟩ := r
    exact .inr (.inl ⟨a, e, ⟨xs, h1⟩, k _ (serv_tup h1 h2)⟩)
  · cases h
    obtain ⟨a, xs, e, h1, h2, h3⟩ := r
    exact .inl ⟨a, e, ⟨xs, SqL.of h1⟩, k _ (serv_list h1 h2 (fun _ => trivial) h3)⟩
def dItems (d : DE) : DI := fun ρ S => (d ρ S).bind fun x S => optM (itms x) S
theorem ji_val {d : DE} (hK : X.K = G.K) (h : PE X e (tE G W d)) : PI X tg e (tI G W (dItems d)) :=
  pi_imp (pi_val h) fun σ H R ⟨kp, m, ρ, S, hS, hE, h⟩ => ⟨m, ρ, S, hS, hE, (Aft.bind h).imp fun x S1 m1 H1 l1 hS1 h1 v rv => by
    obtain ⟨ds, e, k⟩ := aft_optG h1 hS1
    rw [hK]
    exact serv_val e rv k⟩
theorem ji_valW {d : DE} (hK : X.K = G.K) (h : PE X e (tR G W d)) : PI X tg e (tIw G W (dItems d)) :=
  pi_imp (pi_val h) fun σ H R ⟨m, ρ, S, hS, hE, h⟩ => ⟨m, ρ, S, hS, hE, (Aft.bind h).imp fun x S1 m1 H1 l1 hS1 h1 v rv => by
    obtain ⟨ds, e, k⟩ := aft_optG h1 hS1
    rw [hK]
    exact serv_valW e rv k⟩
/-! range -/
def rgD (lo : Int) (n : Nat) : List D := (List.range n).map fun (i : Nat) => D.int (lo + i)
def rg1 : List D → Option (List D)
  | [.int j] => if j.natAbs < 2 ^ 62 then some (rgD 0 j.toNat) else none
  | _ => none
def rg2 : List D → Option (List D)
  | [.int i, .int j] => if i.natAbs < 2 ^ 62 ∧ j.natAbs < 2 ^ 62 then some (rgD i (j - i).toNat) else none
  | _ => none
def dRg (f : List D → Option (List D)) (r : DA) : DI := fun ρ S => (r ρ S).bind fun xs S => optM (f xs) S
theorem ji_rg1 {r : DA} (hg : Gl X "range") (hm : X.mg "range" = none) (ha : PA X [a] (tA G W r)) (hs : starB a = false) : PI X tg (.Call (.Name "range" p) [a] [] pos) (tI G W (dRg rg1 r)) :=
  pi_imp (pi_range1 hg hm ha (starEach_plain hs)) fun σ H R ⟨kp, m, ρ, S, hS, hE, h⟩ => ⟨m, ρ, S, hS, hE, (Aft.bind h).imp fun x S1 m1 H1 l1 hS1 h1 vs rvs => by
    obtain ⟨ds, e, k⟩ := aft_optG h1 hS1
    unfold rg1 at e
    split at e
    · obtain ⟨b1, e⟩ := some_ifp e
      obtain ⟨v, r, rfl, q, r0⟩ := rvs
      obtain rfl : v = .int _ := q
      obtain rfl : r = [] := r0
      exact ⟨_, rfl, by omega, by omega, k _ (e ▸ serv_range)⟩
    · cases e⟩
theorem ji_rg2 {r : DA} (hg : Gl X "range") (hm : X.mg "range" = none) (ha : PA X [a, b] (tA G W r)) (hs : starB a = false) (hs2 : starB b = false) : PI X tg (.Call (.Name "range" p) [a, b] [] pos) (tI G W (dRg rg2 r)) :=
  pi_imp (pi_range2 hg hm ha ((starEach_plain hs).trans (congrArg _ (starEach_plain hs2))) (starEach_plain hs2)) fun σ H R ⟨kp, m, ρ, S, hS, hE, h⟩ => ⟨m, ρ, S, hS, hE, (Aft.bind h).imp fun x S1 m1 H1 l1 hS1 h1 vs rvs => by
    obtain ⟨ds, e, k⟩ := aft_optG h1 hS1
    unfold rg2 at e
    split at e
    · obtain ⟨b, e⟩ := some_ifp e
      obtain ⟨v, r, rfl, q, v2, r2, rfl, q2, r0⟩ := rvs
      obtain rfl : v = .int _ := q
      obtain rfl : v2 = .int _ := q2
      obtain rfl : r2 = [] := r0
      exact ⟨_, _, rfl, ⟨by omega, by omega, by omega, by omega⟩, k _ (e ▸ serv_range)⟩
    · cases e⟩
/-! enumerate, zip -/
def enumD (ds : List D) : List D := ds.mapIdx fun i d => .tup [.int (i : Nat), d]
def en1 : List D → Option (List D)
  | [.tup ds] => some (enumD ds)
  | [.lst ds] => some (enumD ds)
  | _ => none
def zp2 : List D → Option (List D)
  | [.tup ds, .tup es] => some ((ds.zip es).map fun x => .tup [x.1, x.2])
  | [.lst ds, .lst es] => some ((ds.zip es).map fun x => .tup [x.1, x.2])
  | _ => none
theorem enum_at {ds : List D} {xs : List V} (r : RpL G m H ds xs) (i : Nat) (x y : V) (hi : i < xs.length) (h1 : some (V.int (i : Nat)) = some x) (h2 : xs[i]? = some y) :
    ∃ d e, (enumD ds)[i]? = some (.tup [d, e]) ∧ Rp G m H d x ∧ Rp G m H e y := by
  obtain ⟨d, e, q⟩ := r.getV h2
  refine ⟨.int (i : Nat), d, by unfold enumD; rw [List.getElem?_mapIdx, e]; rfl, (Option.some.inj h1).symm, q⟩
theorem zip_at {ds es : List D} {xs ys : List V} (r : RpL G m H ds xs) (r2 : RpL G m H es ys) (i : Nat) (x y : V) (h1 : xs[i]? = some x) (h2 : ys[i]? = some y) :
    ∃ d e, ((ds.zip es).map fun x => D.tup [x.1, x.2])[i]? = some (.tup [d, e]) ∧ Rp G m H d x ∧ Rp G m H e y := by
  obtain ⟨d, e, q⟩ := r.getV h1
  obtain ⟨d', e', q'⟩ := r2.getV h2
  refine ⟨d, d', ?_, q, q'⟩
  have hz : (ds.zip es)[i]? = some (d, d') := by rw [List.getElem?_zip_eq_some]; exact ⟨e, e'⟩
  rw [List.getElem?_map, hz]; rfl
theorem serv_enum {d : List D} {ds : List D} {vs : List V} {R : It → Hp → Prop} (h : en1 d = some ds) (r : RpL G m H d vs) (k : ∀ J, Serv G kp m H ds J → R J H) :
    ∃ a xs, vs = [.ref a] ∧ ((SqL G.K H a xs ∧ R (Ite G.K a) H) ∨ (SqT G.K H a xs ∧ R (IteT G.K a) H)) := by
  unfold en1 at h
  split at h
  · cases h
    obtain ⟨v, t, rfl, ⟨a, xs, rfl, q1, q2⟩, rfl⟩ := r
    exact ⟨a, xs, rfl, .inr ⟨q1, k _ (serv_pair (n := xs.length) (by simp [enumD, q2.length]) walk_enumT (fun m' H' l => l.tups a xs q1) fun i x y hi e1 e2 => enum_at q2 i x y hi e1 e2)⟩⟩
  · cases h
    obtain ⟨v, t, rfl, ⟨a, xs, rfl, q1, q3, q2⟩, rfl⟩ := r
    exact ⟨a, xs, rfl, .inl ⟨SqL.of q1, k _ (serv_pair (n := xs.length) (by simp [enumD, q2.length]) walk_enum (fun m' H' l => SqL.of (l.lsts a _ q1 q3).1) fun i x y hi e1 e2 => enum_at q2 i x y hi e1 e2)⟩⟩
  · cases h
theorem serv_zip {d : List D} {ds : List D} {vs : List V} {R : It → Hp → Prop} (h : zp2 d = some ds) (r : RpL G m H d vs) (k : ∀ J, Serv G kp m H ds J → R J H) :
    ∃ a b xs ys, vs = [.ref a, .ref b] ∧ ((SqL G.K H a xs ∧ SqL G.K H b ys ∧ R (Itz G.K a b) H) ∨ (SqT G.K H a xs ∧ SqT G.K H b ys ∧ R (RZ.ItzT G.K a b) H)) := by
  unfold zp2 at h
  split at h
  · cases h
    obtain ⟨v, t, rfl, ⟨a, xs, rfl, q1, q2⟩, v', t', rfl, ⟨b, ys, rfl, p1, p2⟩, rfl⟩ := r
    refine ⟨a, b, xs, ys, rfl, .inr ⟨q1, p1, k _ (serv_pair (n := min xs.length ys.length) (by simp [q2.length, p2.length]) (walk_zipT rfl) (fun m' H' l => ⟨l.tups a xs q1, l.tups b ys p1⟩) fun i x y hi e1 e2 => zip_at q2 p2 i x y e1 e2)⟩⟩
  · cases h
    obtain ⟨v, t, rfl, ⟨a, xs, rfl, q1, q3, q2⟩, v', t', rfl, ⟨b, ys, rfl, p1, p3, p2⟩, rfl⟩ := r
    refine ⟨a, b, xs, ys, rfl, .inl ⟨SqL.of q1, SqL.of p1, k _ (serv_pair (n := min xs.length ys.length) (by simp [q2.length, p2.length]) (walk_zip rfl) (fun m' H' l => ⟨SqL.of (l.lsts a _ q1 q3).1, SqL.of (l.lsts b _ p1 p3).1⟩) fun i x y hi e1 e2 => zip_at q2 p2 i x y e1 e2)⟩⟩
  · cases h
theorem ji_enum {r : DA} {elts : List Expr} {kk : Nat} {tpos : Pos} (hK : X.K = G.K) (hg : Gl X "enumerate") (hm : X.mg "enumerate" = none) (ha : PA X [a] (tA G W r)) (hs : starB a = false) : PI X (.Tuple elts kk tpos) (.Call (.Name "enumerate" p) [a] [] pos) (tI G W (dRg en1 r)) :=
  pi_imp (pi_enumT hg hm ha (starEach_plain hs)) fun σ H R ⟨kp, m, ρ, S, hS, hE, h⟩ => ⟨m, ρ, S, hS, hE, (Aft.bind h).imp fun x S1 m1 H1 l1 hS1 h1 vs rvs => by
    obtain ⟨ds, e, k⟩ := aft_optG h1 hS1
    rw [hK]
    exact serv_enum e rvs k⟩
theorem ji_zip {r : DA} {elts : List Expr} {kk : Nat} {tpos : Pos} (hK : X.K = G.K) (hg : Gl X "zip") (hm : X.mg "zip" = none) (ha : PA X [a, b] (tA G W r)) (hs : starB a = false) (hs2 : starB b = false) : PI X (.Tuple elts kk tpos) (.Call (.Name "zip" p) [a, b] [] pos) (tI G W (dRg zp2 r)) :=
  pi_imp (RZ.pi_zipA hg hm ha (starEach_plain hs) (backTo_plain (by simp [hs2]))) fun σ H R ⟨kp, m, ρ, S, hS, hE, h⟩ => ⟨m, ρ, S, hS, hE, (Aft.bind h).imp fun x S1 m1 H1 l1 hS1 h1 vs rvs => by
    obtain ⟨ds, e, k⟩ := aft_optG h1 hS1
    rw [hK]
    exact serv_zip e rvs k⟩
end
end Py

/-! Part 8: targets; comprehensions. -/
namespace Py
open PySem PySem.Spec PyProof.Rows L2

section
variable {G : Gc} {m m' : Mu} {H H' : Hp} {ρ : Env} {σ : Sg}
theorem set_get {α : Type} {l : List (Option α)} {i j : Nat} {x y : α} (h : (l.set i (some x))[j]? = some (some y)) : (j = i ∧ i < l.length ∧ y = x) ∨ (j ≠ i ∧ l[j]? = some (some y)) := by
  rw [List.getElem?_set] at h
  split at h
  · rename_i e
    subst e
    split at h
    · cases h; exact .inl ⟨rfl, by assumption, rfl⟩
    · cases h
  · rename_i e
    exact .inr ⟨fun z => e z.symm, h⟩
theorem RpE.set {d : D} {v : V} (E : RpE G m H ρ σ) (r : Rp G m H d v) (i : Nat) : RpE G m H (ρ.set i (some (.val d))) (σ.set i (some v)) := by
  refine ⟨fun j s h => ?_, fun j k ds es a h1 h2 h3 h4 => ?_, by simp [E.len]⟩
  · rcases set_get h with ⟨e, hl, e2⟩ | ⟨e, h⟩
    · subst e e2
      have : j < σ.length := E.len ▸ hl
      exact ⟨v, by simp [this], r⟩
    · obtain ⟨w, q1, q2⟩ := E.at_ j s h
      exact ⟨w, by rw [List.getElem?_set_ne (fun z => e z.symm)]; exact q1, q2⟩
  · rcases set_get h1 with ⟨_, _, e⟩ | ⟨e, h1⟩
    · cases e
    rcases set_get h2 with ⟨_, _, e'⟩ | ⟨e', h2⟩
    · cases e'
    rw [List.getElem?_set_ne (fun z => e z.symm)] at h3
    rw [List.getElem?_set_ne (fun z => e' z.symm)] at h4
    exact E.inj j k ds es a h1 h2 h3 h4
def wipeE (ρ : Env) : List Nat → Env
  | [] => ρ
  | v :: vs => (wipeE ρ vs).set v none
theorem none_get {α : Type} {l : List (Option α)} {i j : Nat} {y : α} (h : (l.set i none)[j]? = some (some y)) : j ≠ i ∧ l[j]? = some (some y) := by
  rw [List.getElem?_set] at h
  split at h
  · split at h
    · cases h
    · cases h
  · rename_i e
    exact ⟨fun z => e z.symm, h⟩
theorem RpE.wipe (E : RpE G m H ρ σ) : ∀ vs : List Nat, RpE G m H (wipeE ρ vs) (wipe σ vs)
  | [] => E
  | v :: vs => by
    have F := RpE.wipe E vs
    unfold wipeE L2.wipe
    refine ⟨fun j s h => ?_, fun j k ds es a h1 h2 h3 h4 => ?_, by simp [F.len]⟩
    · obtain ⟨e, h⟩ := none_get h
      obtain ⟨w, q1, q2⟩ := F.at_ j s h
      exact ⟨w, by rw [List.getElem?_set_ne (fun z => e z.symm)]; exact q1, q2⟩
    · obtain ⟨e, h1⟩ := none_get h1
      obtain ⟨e', h2⟩ := none_get h2
      rw [List.getElem?_set_ne (fun z => e z.symm)] at h3
      rw [List.getElem?_set_ne (fun z => e' z.symm)] at h4
      exact F.inj j k ds es a h1 h2 h3 h4
theorem wipe_set {i : Nat} {x : Option V} : ∀ {vs : List Nat}, i ∈ vs → L2.wipe (σ.set i x) vs = L2.wipe σ vs
  | v :: vs, h => by
    unfold L2.wipe
    by_cases e : i ∈ vs
    · rw [wipe_set e]
    · rcases List.mem_cons.mp h with e1 | e1
      · subst e1
        have comm : ∀ ws : List Nat, i ∉ ws → L2.wipe (σ.set i x) ws = (L2.wipe σ ws).set i x := by
          intro ws
          induction ws with
          | nil => intro _; rfl
          | cons w ws ih =>
            intro hn
            rw [List.mem_cons, not_or] at hn
            unfold L2.wipe
            rw [ih hn.2, List.set_comm _ _ hn.1]
        rw [comm vs e, List.set_set]
      · exact absurd e1 e
theorem wipe_sub {vs : List Nat} : ∀ {ws : List Nat}, (∀ w ∈ ws, w ∈ vs) → L2.wipe (L2.wipe σ ws) vs = L2.wipe σ vs
  | [], _ => rfl
  | w :: ws, h => by
    rw [show L2.wipe σ (w :: ws) = (L2.wipe σ ws).set w none from rfl, wipe_set (h w List.mem_cons_self)]
    exact wipe_sub fun x hx => h x (List.mem_cons_of_mem _ hx)
theorem wipe_wipe {vs : List Nat} : L2.wipe (L2.wipe σ vs) vs = L2.wipe σ vs := wipe_sub fun _ h => h
end

abbrev DG := D → Env → Option Env
abbrev DGs := List D → Env → Option Env
/-- what is bound: slots of vs only; lists of one's own elsewhere stay -/
structure Bnds (G : Gc) (vs : List Nat) (m : Mu) (H : Hp) (ρ : Env) (σ : Sg) (ρ' : Env) (σ' : Sg) : Prop where
  rp : RpE G m H ρ' σ'
  wp : L2.wipe σ' vs = L2.wipe σ vs
  own : ∀ (i : Nat) (ds : List D), ρ'[i]? = some (some (.own ds)) → ρ[i]? = some (some (.own ds)) ∧ σ'[i]? = σ[i]?
def tG (G : Gc) (vs : List Nat) (g : DG) : TG := fun v σ H Q => ∃ m ρ S d, Holds G m H S ∧ RpE G m H ρ σ ∧ Rp G m H d v ∧ ∃ ρ', g d ρ = some ρ' ∧ ∀ σ', Bnds G vs m H ρ σ ρ' σ' → Q σ' H
def tGs (G : Gc) (vs : List Nat) (g : DGs) : TGs := fun v σ H Q => ∃ m ρ S d, Holds G m H S ∧ RpE G m H ρ σ ∧ RpL G m H d v ∧ ∃ ρ', g d ρ = some ρ' ∧ ∀ σ', Bnds G vs m H ρ σ ρ' σ' → Q σ' H
def gN (i : Nat) : DG := fun d ρ => some (ρ.set i (some (.val d)))
def gT (n : Nat) (g : DGs) : DG := fun d ρ => match d with
  | .tup ds => if ds.length = n then g ds ρ else none
  | _ => none
def gs0 : DGs := fun ds ρ => match ds with
  | [] => some ρ
  | _ => none
def gsC (g : DG) (gs : DGs) : DGs := fun ds ρ => match ds with
  | d :: ds => (g d ρ).bind fun ρ => gs ds ρ
  | [] => none
section
variable {G : Gc} {W : WX} {X : Cx} {e a b c tg : Expr} {m m' : Mu} {H H' : Hp} {S : Store} {σ : Sg} {pos p : Pos} {vs : List Nat} {g : DG} {gs : DGs}
theorem pg_imp {t t' : TG} (h : PG X e t) (k : ∀ v σ H Q, t' v σ H Q → t v σ H Q) : PG X e t' := ⟨fun pins s σ H v u Q I r q => h.run pins s σ H v u Q I r (k v σ H Q q)⟩
theorem pgs_imp {es : List Expr} {t t' : TGs} (h : PGs X es t) (k : ∀ v σ H Q, t' v σ H Q → t v σ H Q) : PGs X es t' := ⟨fun pins s σ H v u Q I r q => h.run pins s σ H v u Q I r (k v σ H Q q)⟩
theorem Bnds.refl {ρ : Env} (h : RpE G m H ρ σ) : Bnds G vs m H ρ σ ρ σ := ⟨h, rfl, fun _ _ z => ⟨z, rfl⟩⟩
theorem Bnds.trans {ρ ρ' ρ'' : Env} {σ' σ'' : Sg} (h : Bnds G vs m H ρ σ ρ' σ') (k : Bnds G vs m H ρ' σ' ρ'' σ'') : Bnds G vs m H ρ σ ρ'' σ'' :=
  ⟨k.rp, k.wp.trans h.wp, fun i ds q => let ⟨a, b⟩ := k.own i ds q; let ⟨a', b'⟩ := h.own i ds a; ⟨a', b.trans b'⟩⟩
theorem Bnds.set {ρ : Env} {d : D} {v : V} {i : Nat} (E : RpE G m H ρ σ) (r : Rp G m H d v) (hi : i ∈ vs) : Bnds G vs m H ρ σ (ρ.set i (some (.val d))) (σ.set i (some v)) :=
  ⟨E.set r i, wipe_set hi, fun j ds h => by
    rcases set_get h with ⟨_, _, e⟩ | ⟨e, h⟩
    · cases e
    · exact ⟨h, by rw [List.getElem?_set_ne (fun z => e z.symm)]⟩⟩
theorem jg_name {i : Nat} {x : Str} (hN : X.N.Nodup) (hi : X.N[i]? = some x) (hx : Loc X.env.scope x) (hf : X.fn x = true ∨ X.env.scope.names.lookup x = some .local) (hv : i ∈ vs) : PG X (.Name x pos) (tG G vs (gN i)) :=
  pg_imp (pg_name hN hi hx hf) fun v σ H Q ⟨m, ρ, S, d, hS, hE, r, ρ', e, k⟩ => by
    cases e
    exact k _ (Bnds.set hE r hv)
theorem jgs_nil : PGs X [] (tGs G vs gs0) := pgs_imp pgs_nil fun v σ H Q ⟨m, ρ, S, d, hS, hE, r, ρ', e, k⟩ => by
  unfold gs0 at e
  split at e
  · cases e
    exact ⟨r, k σ (Bnds.refl hE)⟩
  · cases e
def subB : Expr → Bool
  | .Name .. => true
  | .Tuple .. => true
  | .Subscript .. => true
  | .Attribute .. => true
  | _ => false
theorem jgs_cons {es : List Expr} (h1 : PG X e (tG G vs g)) (h2 : PGs X es (tGs G vs gs))
    (hs : (assignEach (e :: es) X.env).map (·.2) = assign e X.env :: (assignEach es X.env).map (·.2) := by rfl) : PGs X (e :: es) (tGs G vs (gsC g gs)) :=
  pgs_imp (pgs_cons h1 h2 hs) fun v σ H Q ⟨m, ρ, S, d, hS, hE, r, ρ', e, k⟩ => by
    unfold gsC at e
    split at e
    · rename_i ds d
      obtain ⟨v1, rest, rfl, r1, r2⟩ := r
      obtain ⟨ρ1, e1, e2⟩ := Option.bind_eq_some_iff.mp e
      refine ⟨v1, rest, rfl, m, ρ, S, _, hS, hE, r1, ρ1, e1, fun σ1 b1 => ?_⟩
      exact ⟨m, ρ1, S, _, hS, b1.rp, r2, ρ', e2, fun σ2 b2 => k σ2 (b1.trans b2)⟩
    · cases e
theorem jg_tup {es : List Expr} {k n : Nat} (hK : X.K = G.K) (hc : X.calm = true) (h : PGs X es (tGs G vs gs))
    (hn : (assignEach es X.env).length = n := by rfl) (hst : (assignEach es X.env).findIdx? (·.1) = none := by rfl) : PG X (.Tuple es k pos) (tG G vs (gT n gs)) :=
  pg_imp (pg_tup hc h hn hst) fun v σ H Q ⟨m, ρ, S, d, hS, hE, r, ρ', e, k⟩ => by
    unfold gT at e
    split at e
    · rename_i ds
      obtain ⟨e0, e⟩ : ds.length = n ∧ gs ds ρ = some ρ' := by
        by_cases q : ds.length = n
        · rw [if_pos q] at e; exact ⟨q, e⟩
        · rw [if_neg q] at e; cases e
      obtain ⟨a, xs, rfl, q1, q2⟩ := r
      exact ⟨a, xs, rfl, by rw [hK]; exact q1, by rw [q2.length, e0], m, ρ, S, ds, hS, hE, q2, ρ', e, k⟩
    · cases e

/-! ### comprehensions -/
def noX {α : Type} : R α → R α
  | .ok a S => .ok a S
  | _ => .bad
theorem aft_noX {α : Type} {r : R α} {Y Y' : XK} {Φ : α → Store → Mu → Hp → Prop} (h : Aft G m H Y (noX r) Φ) : Aft G m H Y' r Φ := by
  cases r with
  | ok a S => exact h
  | exc c S => exact h.elim
  | bad => exact h.elim
/-- the turns of a comprehension: acc is what was put so far -/
def lcRun (g : DG) (t : DT) (e : DE) (ρ : Env) : List D → List D → M (List D)
  | [], acc => fun S => .ok acc S
  | d :: ds, acc => fun S => match g d ρ with
    | none => .bad
    | some ρ' => (t ρ' S).bind fun b S => if b = true then (e ρ' S).bind fun y S => if acc.length < sizeLine then lcRun g t e ρ ds (acc ++ [y]) S else .bad else lcRun g t e ρ ds acc S
def dLc (di : DI) (g : DG) (t : DT) (e : DE) (vs : List Nat) : DA := fun ρ S => (di ρ S).bind fun ds S => noX (lcRun g t e (wipeE ρ vs) ds [] S)
abbrev WN : WX := fun _ _ _ _ => False
theorem AftL.of {α : Type} {r : R α} {k : α → M (List D)} {Y : XK} {Q : VK} (h : AftL G m H Y (r.bind k) Q) : Aft G m H Y r fun a S m' H' => AftL G m' H' Y (k a S) Q := by
  cases r with
  | ok a S =>
    intro m' H' l hS
    have h : AftL G m H Y (k a S) Q := h
    show AftL G m' H' Y (k a S) Q
    cases q : k a S with
    | ok ds S2 =>
      rw [q] at h
      exact fun m2 H2 p l2 hp => h m2 H2 p (l.trans l2) (by
        cases z : H p with
        | none => rfl
        | some o => exact absurd hp (l.there p (by rw [z]; simp)))
    | exc c S2 =>
      rw [q] at h
      exact fun m2 H2 l2 => h m2 H2 (l.trans l2)
    | bad =>
      rw [q] at h
      exact h
  | exc c S => exact h
  | bad => exact h
theorem Holds.laid {p : Addr} {o : HO} (h : Holds G m H S) (hp : H p = none) : Holds G m (upd H p o) S := h.same (Same.new hp)
/-- a fresh list joins what one holds -/
theorem Holds.join {p : Addr} {o : HO} {H0 : Hp} {m0 : Mu} (h : Holds G m H S) (l : Le G m0 H0 m H) (hp : H p = none) (ho : (upd H p o) p ≠ none) : Holds G (m.add p) (upd H p o) S := by
  have s : Same H (upd H p o) := Same.new hp
  have l2 : Lx G kAll m H (m.add p) (upd H p o) := Lx.add (Le.same s) hp
  refine ⟨h.len, h.nd, fun n ob a e1 e2 => ?_, fun a q => ?_, fun a q => ?_⟩
  · have q := h.ob n ob a e1 e2
    cases ob with
    | lst ds =>
      obtain ⟨xs, e, r⟩ := q
      exact ⟨xs, s _ _ e, l2.rpL r⟩
    | frz ds =>
      obtain ⟨o', xs, e, r⟩ := q
      exact ⟨o', xs, s _ _ e, l2.rpL r⟩
  · rcases q with q | q
    · exact h.dis a q
    · subst q
      intro z
      obtain ⟨n, hn⟩ := List.getElem?_of_mem z
      have hl : n < S.length := by rw [← h.len]; exact (List.getElem?_eq_some_iff.mp hn).1
      have w := h.ob n S[n] a (by simp [hl]) hn
      revert w
      generalize S[n] = ob
      cases ob with
      | lst ds => rintro ⟨xs, e, _⟩; rw [hp] at e; cases e
      | frz ds => rintro ⟨o, xs, e, _⟩; rw [hp] at e; cases e
  · rcases q with q | q
    · exact (Le.same (G := G) (m := m) s).there a (h.there a q)
    · subst q; exact ho
theorem tups_put {K : PySem.W.Frag} {L a : Addr} {ys xs : List V} {o : HO} (h : H L = some (.lst ys)) (t : SqT K H a xs) : SqT K (upd H L o) a xs := by
  have ne : ∀ b u, H b = some u → (∀ zs, u ≠ .lst zs) → b ≠ L := fun b u e n z => by
    subst z
    rw [h] at e; cases e
    exact n ys rfl
  rcases t with (t | ⟨q, t⟩) | t
  · exact .inl (.inl (by rw [upd_ne (ne a _ t (fun _ z => by cases z))]; exact t))
  · exact .inl (.inr ⟨q, by rw [upd_ne (ne a _ t (fun _ z => by cases z))]; exact t⟩)
  · exact .inr t
/-- a list of one's own changes -/
theorem Lx.put {L : Addr} {ys xs : List V} (hO : m.O L) (h : H L = some (.lst ys)) : Lx G (fun a => a ≠ L) m H m (upd H L (.lst xs)) :=
  ⟨⟨[], by simp, by simp⟩, fun a q => .inl q, fun a q _ => q, fun a o e n k => by
    by_cases z : a = L
    · exact absurd z (k (z ▸ hO))
    · rw [upd_ne z]; exact e, fun a xs t => tups_put h t, fun a q => by
    by_cases z : a = L
    · subst z; rw [upd_same]; simp
    · rw [upd_ne z]; exact q⟩
theorem Holds.put {L : Addr} {ys xs : List V} (hS : Holds G m H S) (hO : m.O L) (h : H L = some (.lst ys)) : Holds G m (upd H L (.lst xs)) S := by
  have l : Lx G (fun a => a ≠ L) m H m (upd H L (.lst xs)) := Lx.put hO h
  refine ⟨hS.len, hS.nd, fun n ob a e1 e2 => ?_, hS.dis, fun a q => l.there a (hS.there a q)⟩
  have ne : a ≠ L := fun z => hS.dis L hO (z ▸ List.mem_of_getElem? e2)
  have q := hS.ob n ob a e1 e2
  cases ob with
  | lst ds =>
    obtain ⟨xs, e, r⟩ := q
    exact ⟨xs, by rw [upd_ne ne]; exact e, l.rpL r⟩
  | frz ds =>
    obtain ⟨o, xs, e, r⟩ := q
    exact ⟨o, xs, by rw [upd_ne ne]; exact e, l.rpL r⟩
theorem Le.put {L : Addr} {m1 : Mu} {H1 : Hp} {ys xs : List V} (l : Le G m1 H1 m H) (hL : H1 L = none) (h : H L = some (.lst ys)) : Le G m1 H1 m (upd H L (.lst xs)) :=
  ⟨l.as, l.O, fun a o e n => by
    rw [upd_ne (ne_of_none e hL)]
    exact l.kept a o e n, fun a xs t => tups_put h (l.tups a xs t), fun a q => by
    by_cases z : a = L
    · subst z; rw [upd_same]; simp
    · rw [upd_ne z]; exact l.there a q⟩
/-- behind a comprehension -/
def FinL (G : Gc) (m : Mu) (H : Hp) (L : Addr) (r : R (List D)) (Q : VK) : Prop := match r with
  | .ok ds S => ∀ m' H', Le G m H m' H' → Holds G (m'.add L) H' S → Ol G (m'.add L) H' ds L → Q (.ref L) H'
  | _ => False
theorem getElem_split {α : Type} {ds : List α} {i : Nat} {d : α} (h : ds[i]? = some d) : ds.drop i = d :: ds.drop (i + 1) := by
  obtain ⟨hl, e⟩ := List.getElem?_eq_some_iff.mp h
  rw [List.drop_eq_getElem_cons hl, e]
/-- inside a comprehension: the list at L is the comprehension's alone -/
theorem Le.del {L : Addr} {m1 : Mu} {H1 : Hp} (l : Le G m1 H1 m H) (hD : H1 L = none) (k : Le G (m.add L) H m' H') : Le G m1 H1 ⟨m'.as, m.O⟩ H' := by
  have l2 : Lx G kAll m1 H1 (m.add L) H := Lx.add l hD
  have l3 : Lx G kAll m1 H1 m' H' := l2.trans k.lx
  exact ⟨l3.as, l.O, fun a o h n => l3.kept a o h n fun _ => trivial, l3.tups, l3.there⟩
theorem Mu.eta {m' : Mu} {L : Addr} (h : m'.O = (m.add L).O) : (⟨m'.as, m.O⟩ : Mu).add L = m' := by
  cases m' with
  | mk as O =>
    have h : O = (m.add L).O := h
    subst h
    rfl
theorem lcT {di : DI} {t : DT} {de : DE} {ρ : Env} {Q : VK} (vs : List Nat) (hS : Holds G m H S) (hE : RpE G m H ρ σ) (h : AftL G m H (fun c x H' => W c x σ H') (dLc di g t de vs ρ S) Q) :
    tLc (tIw G W di) (tG G vs g) (tT G WN t) (tE G WN de) vs σ H Q := by
  refine ⟨m, ρ, S, hS, hE, (AftL.of h).imp fun ds S1 m1 H1 l1 hS1 h1 J sv => ?_⟩
  intro L hD
  obtain ⟨Gd, Y, wk, hGd, hY⟩ := sv
  have sD : Same H1 (upd H1 L (.lst [])) := Same.new hD
  have fin : FinL G m1 H1 L (lcRun g t de (wipeE ρ vs) ds [] S1) Q := by
    revert h1
    cases q : lcRun g t de (wipeE ρ vs) ds [] S1 with
    | ok r S2 => exact fun h1 m' H' l hS' ho => h1 m' H' L l hD hS' ho
    | exc c S2 => exact fun h1 => h1.elim
    | bad => exact fun h1 => h1.elim
  refine lc_it wk (fun i H2 => ∃ m2 acc S2, Le G m1 H1 m2 H2 ∧ Holds G (m2.add L) H2 S2 ∧ Ol G (m2.add L) H2 acc L ∧ FinL G m1 H1 L (lcRun g t de (wipeE ρ vs) (ds.drop i) acc S2) Q) ?_ ?_ ?_ ?_
  · refine ⟨m1, [], S1, Le.same sD, hS1.join Le.refl hD (by rw [upd_same]; simp), ⟨[], upd_same, rfl⟩, fin⟩
  · rintro i H2 hi ⟨m2, acc, S2, l2, _⟩
    exact hGd _ H2 (Lx.add l2 hD)
  · rintro i x H2 H3 hi ⟨m2, acc, S2, l2, hS2, ho, fn⟩ y
    have lx2 : Lx G kAll m1 H1 (m2.add L) H2 := Lx.add l2 hD
    obtain ⟨s3, d, hd, rd⟩ := hY _ H2 i x H3 lx2 hi y
    rw [getElem_split hd] at fn
    have hE3 : RpE G (m2.add L) H3 (wipeE ρ vs) (L2.wipe σ vs) := ((hE.le l1).lx (lx2.trans (Le.same s3).lx)).wipe vs
    have hS3 : Holds G (m2.add L) H3 S2 := hS2.same s3
    have l3 : Le G m1 H1 m2 H3 := l2.trans (Le.same s3)
    have ho3 : Ol G (m2.add L) H3 acc L := by
      obtain ⟨xs, e, q⟩ := ho
      exact ⟨xs, s3 _ _ e, (Le.same s3).rpL q⟩
    unfold lcRun at fn
    cases hgd : g d (wipeE ρ vs) with
    | none => rw [hgd] at fn; exact fn.elim
    | some ρ' =>
      rw [hgd] at fn
      refine ⟨m2.add L, wipeE ρ vs, S2, d, hS3, hE3, rd _ lx2, ρ', hgd, fun σ' bn => ⟨bn.wp.trans wipe_wipe, m2.add L, ρ', S2, hS3, bn.rp, ?_⟩⟩
      dsimp only at fn
      cases ht : t ρ' S2 with
      | exc c S => rw [ht] at fn; exact fn.elim
      | bad => rw [ht] at fn; exact fn.elim
      | ok b S4 =>
        rw [ht] at fn ⊢
        intro m4 H4 l4 hS4
        have l34 := Le.del l3 hD l4
        cases b with
        | false =>
          refine iteF ?_
          refine ⟨⟨m4.as, m2.O⟩, acc, S4, l34, by rw [Mu.eta l4.O]; exact hS4, ?_, fn⟩
          rw [Mu.eta l4.O]
          exact l4.ol (hS3.dis L (.inr rfl)) ho3
        | true =>
          refine iteT ?_
          have fn : FinL G m1 H1 L ((de ρ' S4).bind fun y S => if acc.length < sizeLine then lcRun g t de (wipeE ρ vs) (ds.drop (i + 1)) (acc ++ [y]) S else .bad) Q := fn
          refine ⟨m4, ρ', S4, hS4, bn.rp.le l4, ?_⟩
          cases hd : de ρ' S4 with
          | exc c S => rw [hd] at fn; exact fn.elim
          | bad => rw [hd] at fn; exact fn.elim
          | ok y S5 =>
            rw [hd] at fn ⊢
            have fn : FinL G m1 H1 L (if acc.length < sizeLine then lcRun g t de (wipeE ρ vs) (ds.drop (i + 1)) (acc ++ [y]) S5 else .bad) Q := fn
            intro m5 H5 l5 hS5 v rv
            by_cases hz : acc.length < sizeLine
            · rw [if_pos hz] at fn
              have l35 := Le.del l3 hD (l4.trans l5)
              have nD : L ∉ m5.as := hS5.dis L (by rw [l5.O, l4.O]; exact .inr rfl)
              obtain ⟨xs, e, q⟩ := (l4.trans l5).ol (hS3.dis L (.inr rfl)) ho3
              refine ⟨xs, e, by rw [q.length]; exact hz, ⟨m5.as, m2.O⟩, acc ++ [y], S5, ?_, ?_, ?_, fn⟩
              · exact l35.put hD e
              · rw [Mu.eta (l5.O.trans l4.O)]
                exact hS5.put (by rw [l5.O, l4.O]; exact .inr rfl) e
              · rw [Mu.eta (l5.O.trans l4.O)]
                exact ⟨xs ++ [v], upd_same, (Lx.put (by rw [l5.O, l4.O]; exact .inr rfl) e).rpL (q.append ⟨v, [], rfl, rv, rfl⟩)⟩
            · rw [if_neg hz] at fn; exact fn.elim
  · rintro H2 ⟨m2, acc, S2, l2, hS2, ho, fn⟩
    rw [show ds.drop ds.length = [] by simp] at fn
    exact fn m2 H2 l2 hS2 ho
theorem je_lc {elt iter : Expr} {scope : Scope} {own : List (Str × Nat)} {ifs : List Expr} {di : DI} {t : DT} {de : DE} (hc : X.calm = true) (hN : X.N.Nodup) (hi : PI X tg iter (tIw G W di)) (ok : BlkOk X.N X.env.scope scope own)
    (hg : ∀ (s : Shared) (H : Hp) (C : Addr) (cl : List (Str × Addr)) (fp : List Addr), PG (X.blk s H scope (compEnvC scope cl C X.env) fp) tg (tG G (own.map (·.2)) g)) (ht : ∀ (s : Shared) (H : Hp) (C : Addr) (cl : List (Str × Addr)) (fp : List Addr), PTs (X.blk s H scope (compEnvC scope cl C X.env) fp) ifs (tT G WN t))
    (he : ∀ (s : Shared) (H : Hp) (C : Addr) (cl : List (Str × Addr)) (fp : List Addr), PE (X.blk s H scope (compEnvC scope cl C X.env) fp) elt (tE G WN de)) (hs : ∀ x, foldedSetIterable iter X.env x = pure x) :
    PE X (.ListComp elt [⟨tg, iter, ifs, 0⟩] scope pos) (tL G W (dLc di g t de (own.map (·.2)))) := by
  refine pe_imp (pe_lc hc hN hi ok hg ht he hs) fun σ H Q ⟨m, ρ, S, hS, hE, h⟩ => ?_
  exact lcT (own.map (·.2)) hS hE h
end
end Py

/-! Part 9: calls of what is built in. -/
namespace L2
open PySem PySem.Spec PyProof.Rows
/-- set(t), t a tuple of ints -/
def rSetTI (K : PySem.W.Frag) (w : World) : List V → Hp → VK → Prop := fun xs H Q => ∃ (p : Addr) (ns : List Int), xs = [.ref p] ∧ SqT K H p (ns.map V.int) ∧ ns.length ≤ 1000 ∧
  ∀ (a : Addr) (S : Int → Bool) (n : Nat), H a = none → (∀ k : Int, S k = decide (k ∈ ns)) → n ≤ ns.length → Q (.ref a) (upd H a (SetO w a S n))
theorem cr_setTI {X : Cx} (hc : X.calm = true) : CallR X (.type "set") (rSetTI X.K X.w) := by
  intro pins s σ H xs us Q I r h
  obtain ⟨p, ns, rfl, hq, hl, q⟩ := h
  rw [Vals.ref1 r]
  obtain ⟨its, rv, pt, hz⟩ := I.tuple hq
  have hi : IntsAre its.toArray.toList ns := ints_of_vals rv
  refine call_set_tupI ns (I.ok.hd hc) (show s.heap.IsTuple p its.toArray from pt) hi (by unfold scanBound; omega) fun h' tk c R hcn k => ?_
  exact ⟨.ref s.heap.objs.size, upd H s.heap.objs.size (SetO X.w s.heap.objs.size (fun j => decide (j ∈ ns)) c), I.laid (t' := tk) k (Nat.le_refl _) (setO_new R), rfl, q _ _ _ (I.hok.fresh (Nat.le_refl _)) (fun _ => rfl) hcn⟩
end L2
namespace Py
open PySem PySem.Spec PyProof.Rows L2

/-! ### results -/
def pLen (S : Store) : List D → Option D
  | [.str z] => if z.length ≤ sizeLine then some (.int (z.length : Nat)) else none
  | [d] => (seqOf S d).map fun ds => .int (ds.length : Nat)
  | _ => none
def pInt (_ : Store) : List D → Option D
  | [.int i] => some (.int i)
  | [.bl b] => some (.int (if b then 1 else 0))
  | [.str z] => if z.length ≤ 640 then (PySem.intText? z).map .int else none
  | _ => none
def pAbs (_ : Store) : List D → Option D
  | [.int i] => some (.int (if i < 0 then -i else i))
  | _ => none
def pStr (_ : Store) : List D → Option D
  | [.int i] => if i.natAbs.log2 < 1920 then some (.str (toString i)) else none
  | [.str z] => some (.str z)
  | _ => none
def intsD : List D → Option (List Int)
  | [] => some []
  | .int i :: ds => (intsD ds).map (i :: ·)
  | _ => none
def blsD : List D → Option (List Bool)
  | [] => some []
  | .bl i :: ds => (blsD ds).map (i :: ·)
  | _ => none
def maxI : List Int → Int
  | [] => 0
  | [x] => x
  | x :: xs => let m := maxI xs; if m > x then m else x
def minI : List Int → Int
  | [] => 0
  | [x] => x
  | x :: xs => let m := minI xs; if m < x then m else x
def pMax (_ : Store) : List D → Option D
  | [.int i, .int j] => some (.int (if j > i then j else i))
  | [.lst ds] => (intsD ds).bind fun ns => if ns = [] then none else some (.int (maxI ns))
  | _ => none
def pMin (_ : Store) : List D → Option D
  | [.int i, .int j] => some (.int (if j < i then j else i))
  | [.lst ds] => (intsD ds).bind fun ns => if ns = [] then none else some (.int (minI ns))
  | _ => none
def pSum (_ : Store) : List D → Option D
  | [.lst ds] => (intsD ds).map fun ns => .int ns.sum
  | _ => none
def pAll (_ : Store) : List D → Option D
  | [.lst ds] => (blsD ds).map fun bs => .bl (bs.all id)
  | _ => none
def pAny (_ : Store) : List D → Option D
  | [.lst ds] => (blsD ds).map fun bs => .bl (bs.any id)
  | _ => none
def pTuple (_ : Store) : List D → Option D
  | [.lst ds] => some (.tup ds)
  | [.tup ds] => some (.tup ds)
  | _ => none
/-- the built-in type of a value -/
def tyD : D → Option String
  | .non => some "NoneType"
  | .bl _ => some "bool"
  | .int _ => some "int"
  | .str _ => some "str"
  | .tup _ => some "tuple"
  | .lst _ => some "list"
  | .emp => some "dict"
  | _ => none
def pIsi (_ : Store) : List D → Option D
  | [d, .ty t] => (tyD d).bind fun a => (kitB a t).map .bl
  | _ => none
def pOrd (_ : Store) : List D → Option D
  | [.str z] => if z.length = 1 then some (.int (z.cps.getD 0 0 : Nat)) else none
  | _ => none
section
variable {G : Gc} {W : WX} {X : Cx} {e a b c tg : Expr} {m m' : Mu} {H H' : Hp} {S : Store} {σ : Sg} {pos p : Pos}
theorem intsD_map : ∀ {ds : List D} {ns : List Int}, intsD ds = some ns → ds = ns.map D.int
  | [], ns, h => by cases h; rfl
  | d :: ds, ns, h => by
    cases d <;> simp only [intsD] at h <;> first | cases h; done | skip
    obtain ⟨r, e, e2⟩ := Option.map_eq_some_iff.mp h
    subst e2
    rw [intsD_map e]; rfl
theorem blsD_map : ∀ {ds : List D} {ns : List Bool}, blsD ds = some ns → ds = ns.map D.bl
  | [], ns, h => by cases h; rfl
  | d :: ds, ns, h => by
    cases d <;> simp only [blsD] at h <;> first | cases h; done | skip
    obtain ⟨r, e, e2⟩ := Option.map_eq_some_iff.mp h
    subst e2
    rw [blsD_map e]; rfl
theorem RpL.ints : ∀ {ns : List Int} {xs : List V}, RpL G m H (ns.map D.int) xs → xs = ns.map V.int
  | [], _, h => h
  | n :: ns, _, ⟨v, r, e, h1, h2⟩ => by
    subst e
    obtain rfl : v = V.int n := h1
    rw [RpL.ints h2]; rfl
theorem RpL.bls : ∀ {ns : List Bool} {xs : List V}, RpL G m H (ns.map D.bl) xs → xs = ns.map V.bl
  | [], _, h => h
  | n :: ns, _, ⟨v, r, e, h1, h2⟩ => by
    subst e
    obtain rfl : v = V.bl n := h1
    rw [RpL.bls h2]; rfl
theorem RpL.ofInts : ∀ (ns : List Int), RpL G m H (ns.map D.int) (ns.map V.int)
  | [] => rfl
  | n :: ns => ⟨_, _, rfl, rfl, RpL.ofInts ns⟩
theorem maxI_mem : ∀ {ns : List Int}, ns ≠ [] → maxI ns ∈ ns ∧ ∀ y ∈ ns, y ≤ maxI ns
  | [], h => absurd rfl h
  | [x], _ => by simp [maxI]
  | x :: y :: r, _ => by
    obtain ⟨h1, h2⟩ := maxI_mem (ns := y :: r) (by simp)
    have e : maxI (x :: y :: r) = if maxI (y :: r) > x then maxI (y :: r) else x := rfl
    rw [e]
    split
    · exact ⟨List.mem_cons_of_mem _ h1, fun z hz => by
        rcases List.mem_cons.mp hz with q | q
        · subst q; omega
        · exact h2 z q⟩
    · exact ⟨List.mem_cons_self, fun z hz => by
        rcases List.mem_cons.mp hz with q | q
        · subst q; omega
        · have := h2 z q; omega⟩
theorem minI_mem : ∀ {ns : List Int}, ns ≠ [] → minI ns ∈ ns ∧ ∀ y ∈ ns, minI ns ≤ y
  | [], h => absurd rfl h
  | [x], _ => by simp [minI]
  | x :: y :: r, _ => by
    obtain ⟨h1, h2⟩ := minI_mem (ns := y :: r) (by simp)
    have e : minI (x :: y :: r) = if minI (y :: r) < x then minI (y :: r) else x := rfl
    rw [e]
    split
    · exact ⟨List.mem_cons_of_mem _ h1, fun z hz => by
        rcases List.mem_cons.mp hz with q | q
        · subst q; omega
        · exact h2 z q⟩
    · exact ⟨List.mem_cons_self, fun z hz => by
        rcases List.mem_cons.mp hz with q | q
        · subst q; omega
        · have := h2 z q; omega⟩
theorem RtL.one {d : D} {vs : List V} (h : RtL G m H [d] vs) : ∃ v, vs = [v] ∧ Rt G m H d v := by
  obtain ⟨v, r, e, q, r0⟩ := h
  obtain rfl : r = [] := r0
  exact ⟨v, e, q⟩
theorem RtL.two {d d' : D} {vs : List V} (h : RtL G m H [d, d'] vs) : ∃ v v', vs = [v, v'] ∧ Rt G m H d v ∧ Rt G m H d' v' := by
  obtain ⟨v, r, e, q, v', r', e', q', r0⟩ := h
  subst e'
  obtain rfl : r' = [] := r0
  exact ⟨v, v', e, q, q'⟩
theorem c_len (hK : X.K = G.K) : CallR X (.builtin "len") (rC G pLen) := callr_imp call_len fun vs H Q ⟨m, S, ds, r, hS, hr, hf, k⟩ => by
  match ds, hr, hf with
  | [], hr, hf => cases hf
  | d :: d' :: t, hr, hf => cases d <;> cases hf
  | [d], hr, hf =>
    obtain ⟨v, rfl, rv⟩ := hr.one
    have gen : ∀ es, seqOf S d = some es → r = .int (es.length : Nat) → ∃ x n, [v] = [x] ∧ LenV X.K x H n ∧ Q (.int n) H := fun es h1 h2 => by
      subst h2
      obtain ⟨p, xs, rfl, q1, q2⟩ := seq_ok hS h1 rv
      refine ⟨.ref p, xs.length, rfl, ?_, k.here hS (v := .int _) (by rw [q2.length]; rfl)⟩
      rw [hK]
      rcases q1 with q1 | q1
      · exact .inl ⟨xs, q1, rfl⟩
      · exact .inr ⟨xs, q1, rfl⟩
    cases d with
    | str z =>
      have hf : (if z.length ≤ sizeLine then some (D.int (z.length : Nat)) else none) = some r := hf
      obtain ⟨hz, rfl⟩ := some_ifp hf
      exact ⟨.str z, z.length, by rw [show v = V.str z from rv], ⟨hz, rfl⟩, k.here hS (v := .int _) rfl⟩
    | _ =>
      simp only [pLen, Option.map_eq_some_iff] at hf
      obtain ⟨es, h1, h2⟩ := hf
      exact gen es h1 h2.symm
theorem c_int : CallR X (.type "int") (rC G pInt) := callr_imp (CallR.or call_int1 call_int_str) fun vs H Q ⟨m, S, ds, r, hS, hr, hf, k⟩ => by
  unfold pInt at hf
  split at hf
  · cases hf
    obtain ⟨v, rfl, rv⟩ := hr.one
    obtain rfl : v = V.int _ := rv
    exact .inl (.inl ⟨_, rfl, k.here hS (v := .int _) rfl⟩)
  · cases hf
    obtain ⟨v, rfl, rv⟩ := hr.one
    obtain rfl : v = V.bl _ := rv
    exact .inl (.inr ⟨_, rfl, k.here hS (v := .int _) rfl⟩)
  · rename_i z
    obtain ⟨hz, hf⟩ : z.length ≤ 640 ∧ (PySem.intText? z).map D.int = some r := by
      by_cases hz : z.length ≤ 640
      · rw [if_pos hz] at hf; exact ⟨hz, hf⟩
      · rw [if_neg hz] at hf; cases hf
    obtain ⟨n, e, rfl⟩ := Option.map_eq_some_iff.mp hf
    obtain ⟨v, rfl, rv⟩ := hr.one
    obtain rfl : v = V.str _ := rv
    exact .inr ⟨_, n, rfl, e, hz, k.here hS (v := .int _) rfl⟩
  · cases hf
theorem c_abs : CallR X (.builtin "abs") (rC G pAbs) := callr_imp call_abs fun vs H Q ⟨m, S, ds, r, hS, hr, hf, k⟩ => by
  unfold pAbs at hf
  split at hf
  · cases hf
    obtain ⟨v, rfl, rv⟩ := hr.one
    obtain rfl : v = V.int _ := rv
    exact ⟨_, rfl, k.here hS (v := .int _) rfl⟩
  · cases hf
theorem c_ord : CallR X (.builtin "ord") (rC G pOrd) := callr_imp call_ord fun vs H Q ⟨m, S, ds, r, hS, hr, hf, k⟩ => by
  unfold pOrd at hf
  split at hf
  · obtain ⟨hz, rfl⟩ := some_ifp hf
    obtain ⟨v, rfl, rv⟩ := hr.one
    obtain rfl : v = V.str _ := rv
    exact ⟨_, rfl, hz, k.here hS (v := .int _) rfl⟩
  · cases hf
theorem c_max (hc : X.calm = true) (hK : X.K = G.K) : CallR X (.builtin "max") (rC G pMax) := callr_imp (CallR.or (call_max2 hc) (cr_max hc)) fun vs H Q ⟨m, S, ds, r, hS, hr, hf, k⟩ => by
  unfold pMax at hf
  split at hf
  · cases hf
    obtain ⟨v, v', rfl, rv, rv'⟩ := hr.two
    obtain rfl : v = V.int _ := rv
    obtain rfl : v' = V.int _ := rv'
    exact .inl ⟨_, _, rfl, k.here hS (v := .int _) rfl⟩
  · obtain ⟨ns, e, hf⟩ := Option.bind_eq_some_iff.mp hf
    obtain ⟨hn, hf⟩ : ns ≠ [] ∧ some (D.int (maxI ns)) = some r := by
      split at hf
      · cases hf
      · exact ⟨by assumption, hf⟩
    cases hf
    obtain ⟨v, rfl, rv⟩ := hr.one
    obtain ⟨a, xs, rfl, q1, _, q2⟩ := rv
    rw [intsD_map e] at q2
    obtain rfl := q2.ints
    refine .inr ⟨a, ns, rfl, by rw [hK]; exact SqL.of q1, List.length_pos_iff.mpr hn, fun z h1 h2 => ?_⟩
    obtain ⟨m1, m2⟩ := maxI_mem hn
    have : z = maxI ns := Int.le_antisymm (m2 z h1) (h2 _ m1)
    subst this
    exact k.here hS (v := .int _) rfl
  · cases hf
theorem c_min (hc : X.calm = true) (hK : X.K = G.K) : CallR X (.builtin "min") (rC G pMin) := callr_imp (CallR.or (call_min2 hc) (cr_min hc)) fun vs H Q ⟨m, S, ds, r, hS, hr, hf, k⟩ => by
  unfold pMin at hf
  split at hf
  · cases hf
    obtain ⟨v, v', rfl, rv, rv'⟩ := hr.two
    obtain rfl : v = V.int _ := rv
    obtain rfl : v' = V.int _ := rv'
    exact .inl ⟨_, _, rfl, k.here hS (v := .int _) rfl⟩
  · obtain ⟨ns, e, hf⟩ := Option.bind_eq_some_iff.mp hf
    obtain ⟨hn, hf⟩ : ns ≠ [] ∧ some (D.int (minI ns)) = some r := by
      split at hf
      · cases hf
      · exact ⟨by assumption, hf⟩
    cases hf
    obtain ⟨v, rfl, rv⟩ := hr.one
    obtain ⟨a, xs, rfl, q1, _, q2⟩ := rv
    rw [intsD_map e] at q2
    obtain rfl := q2.ints
    refine .inr ⟨a, ns, rfl, by rw [hK]; exact SqL.of q1, List.length_pos_iff.mpr hn, fun z h1 h2 => ?_⟩
    obtain ⟨m1, m2⟩ := minI_mem hn
    have : z = minI ns := Int.le_antisymm (h2 _ m1) (m2 z h1)
    subst this
    exact k.here hS (v := .int _) rfl
  · cases hf
theorem c_sum (hc : X.calm = true) (hK : X.K = G.K) : CallR X (.builtin "sum") (rC G pSum) := callr_imp (cr_sum hc) fun vs H Q ⟨m, S, ds, r, hS, hr, hf, k⟩ => by
  unfold pSum at hf
  split at hf
  · obtain ⟨ns, e, rfl⟩ := Option.map_eq_some_iff.mp hf
    obtain ⟨v, rfl, rv⟩ := hr.one
    obtain ⟨a, xs, rfl, q1, _, q2⟩ := rv
    rw [intsD_map e] at q2
    obtain rfl := q2.ints
    exact ⟨a, ns, rfl, by rw [hK]; exact SqL.of q1, k.here hS (v := .int _) rfl⟩
  · cases hf
theorem c_all (hc : X.calm = true) (hK : X.K = G.K) : CallR X (.builtin "all") (rC G pAll) := callr_imp (cr_all hc) fun vs H Q ⟨m, S, ds, r, hS, hr, hf, k⟩ => by
  unfold pAll at hf
  split at hf
  · obtain ⟨ns, e, rfl⟩ := Option.map_eq_some_iff.mp hf
    obtain ⟨v, rfl, rv⟩ := hr.one
    obtain ⟨a, xs, rfl, q1, _, q2⟩ := rv
    rw [blsD_map e] at q2
    obtain rfl := q2.bls
    exact ⟨a, ns, rfl, by rw [hK]; exact SqL.of q1, k.here hS (v := .bl _) rfl⟩
  · cases hf
theorem c_any (hc : X.calm = true) (hK : X.K = G.K) : CallR X (.builtin "any") (rC G pAny) := callr_imp (cr_any hc) fun vs H Q ⟨m, S, ds, r, hS, hr, hf, k⟩ => by
  unfold pAny at hf
  split at hf
  · obtain ⟨ns, e, rfl⟩ := Option.map_eq_some_iff.mp hf
    obtain ⟨v, rfl, rv⟩ := hr.one
    obtain ⟨a, xs, rfl, q1, _, q2⟩ := rv
    rw [blsD_map e] at q2
    obtain rfl := q2.bls
    exact ⟨a, ns, rfl, by rw [hK]; exact SqL.of q1, k.here hS (v := .bl _) rfl⟩
  · cases hf
theorem c_tuple (hK : X.K = G.K) : CallR X (.type "tuple") (rC G pTuple) := callr_imp call_tuple_of fun vs H Q ⟨m, S, ds, r, hS, hr, hf, k⟩ => by
  unfold pTuple at hf
  split at hf
  · cases hf
    obtain ⟨v, rfl, rv⟩ := hr.one
    obtain ⟨a, xs, rfl, q1, _, q2⟩ := rv
    exact ⟨a, xs, rfl, .inl ⟨by rw [hK]; exact SqL.of q1, fun l hl => k.new hS hl ⟨l, xs, rfl, SqT.of upd_same, (Le.same (Same.new hl)).rpL q2⟩⟩⟩
  · cases hf
    obtain ⟨v, rfl, rv⟩ := hr.one
    obtain ⟨a, xs, rfl, q1, q2⟩ := rv
    exact ⟨a, xs, rfl, .inr ⟨by rw [hK]; exact q1, k.here hS (v := .ref a) ⟨a, xs, rfl, q1, q2⟩⟩⟩
  · cases hf
theorem tyx {d : D} {v : V} {n : String} (h : tyD d = some n) (r : Rt G m H d v) : TyX G.K H v (.type n) := by
  cases d <;> simp only [tyD] at h <;> first | cases h; done | skip
  · cases h; obtain rfl : v = _ := r; exact .base .non
  · cases h; obtain rfl : v = _ := r; exact .base (.bl _)
  · cases h; obtain rfl : v = _ := r; exact .base (.int _)
  · cases h; obtain rfl : v = _ := r; exact .base (.str _)
  · cases h
    obtain ⟨a, xs, rfl, q1, _⟩ := r
    rcases q1 with (q1 | ⟨o, q1⟩) | ⟨o, its, n, q1, q2, _⟩
    · exact .base (.tup q1)
    · exact .fTuple q1
    · exact .kTuple q1 q2
  · cases h
    obtain ⟨a, xs, rfl, q1, _⟩ := r
    exact .base (.lst q1)
  · cases h
    obtain ⟨a, rfl, q1, _⟩ := r
    exact .base (.dK q1)
theorem c_isi (hK : X.K = G.K) : CallR X (.builtin "isinstance") (rC G pIsi) := callr_imp call_isi fun vs H Q ⟨m, S, ds, r, hS, hr, hf, k⟩ => by
  unfold pIsi at hf
  split at hf
  · obtain ⟨a, e, hf⟩ := Option.bind_eq_some_iff.mp hf
    obtain ⟨b, e2, rfl⟩ := Option.map_eq_some_iff.mp hf
    obtain ⟨v, v', rfl, rv, rv'⟩ := hr.two
    obtain rfl : v' = V.ty _ := rv'
    exact ⟨v, _, _, _, b, rfl, .ty _, by rw [hK]; exact tyx e rv, kit_ty e2, k.here hS (v := .bl _) rfl⟩
  · cases hf
theorem tCB_of {f : Store → List D → Option D} {r : DA} {Q : VK} (h : tE G W (dPr f r) σ H Q) : tCB (rC G f) (tB G W r) σ H Q := by
  obtain ⟨m, ρ, S, hS, hE, h⟩ := h
  refine ⟨m, ρ, S, hS, hE, (Aft.bind h).imp fun xs S1 m1 H1 l1 hS1 h1 vs rvs => ?_⟩
  obtain ⟨d, e, k⟩ := aft_opt h1
  exact ⟨m1, S1, xs, d, hS1, rvs, e, k⟩
theorem je_callB {id x : String} {f : Store → List D → Option D} {es : List Expr} {r : DA} (hc : CallR X (.builtin id) (rC G f)) (hg : Gl X x) (hm : X.mg x = none) (hv : bootBuiltins x = some (.builtin id)) (ha : PA X (e :: es) (tB G W r)) (hs : (e :: es).any starB = false)
    (hn : (x : Str) ≠ "__name__" := by decide) (hdb : ((x : Str) == ("__debug__" : Str)) = false := by decide) : PE X (.Call (.Name x p) (e :: es) [] pos) (tE G W (dPr f r)) := by
  rw [List.any_cons, Bool.or_eq_false_iff] at hs
  exact pe_imp (pe_callB hc hg hm hv ha hn hdb (starEach_plain hs.1) (backTo_plain hs.2)) fun _ _ _ h => tCB_of h
theorem je_callT {id x : String} {f : Store → List D → Option D} {es : List Expr} {r : DA} (hc : CallR X (.type id) (rC G f)) (hg : Gl X x) (hm : X.mg x = none) (hv : bootBuiltins x = some (.type id)) (ha : PA X (e :: es) (tB G W r)) (hs : (e :: es).any starB = false)
    (hn : (x : Str) ≠ "__name__" := by decide) (hdb : ((x : Str) == ("__debug__" : Str)) = false := by decide) : PE X (.Call (.Name x p) (e :: es) [] pos) (tE G W (dPr f r)) := by
  rw [List.any_cons, Bool.or_eq_false_iff] at hs
  exact pe_imp (pe_callTy hc hg hm hv ha hn hdb (starEach_plain hs.1) (backTo_plain hs.2)) fun _ _ _ h => tCB_of h
/-! ### what makes a new list -/
/-- a new list of ds -/
theorem AftL.new {ds : List D} {vs : List V} {Y : XK} {Q : VK} (h : AftL G m H Y (.ok ds S) Q) (hS : Holds G m H S) (r : RpL G m H ds vs) {l : Addr} (hl : H l = none) : Q (.ref l) (upd H l (.lst vs)) := by
  have s : Same H (upd H l (.lst vs)) := Same.new hl
  have lx : Lx G kAll m H (m.add l) (upd H l (.lst vs)) := Lx.add (Le.same s) hl
  refine h m _ l (Le.same s) hl ?_ ⟨vs, upd_same, lx.rpL r⟩
  exact hS.join Le.refl hl (by rw [upd_same]; simp)
def qList (_ : Store) : List D → Option (List D)
  | [.lst ds] => some ds
  | [.tup ds] => some ds
  | _ => none
def dPrL (f : Store → List D → Option (List D)) (r : DA) : DA := fun ρ S => (r ρ S).bind fun xs S => optM (f S xs) S
theorem aftL_opt {r : Option (List D)} {Y : XK} {Q : VK} (h : AftL G m H Y (optM r S) Q) : ∃ ds, r = some ds ∧ AftL G m H Y (.ok ds S) Q := by
  cases r with
  | none => exact h.elim
  | some d => exact ⟨d, rfl, h⟩
/-- [a, b, ..] -/
theorem jl_lst {es : List Expr} {r : DA} {k : Nat} (ha : PA X es (tA G W r)) : PE X (.List es pos) (tL G W (fun ρ S => (r ρ S).bind fun xs S => if xs.length ≤ sizeLine then .ok xs S else .bad)) :=
  pe_imp (pe_lst ha) fun σ H Q ⟨m, ρ, S, hS, hE, h⟩ => ⟨m, ρ, S, hS, hE, (AftL.of h).imp fun xs S1 m1 H1 l1 hS1 h1 vs rvs => by
    by_cases hz : xs.length ≤ sizeLine
    · rw [if_pos hz] at h1
      exact ⟨by rw [rvs.length]; exact hz, fun p hp => AftL.new h1 hS1 rvs hp⟩
    · rw [if_neg hz] at h1; exact h1.elim⟩
/-- list(x) -/
theorem jl_list {r : DA} {es : List Expr} (hK : X.K = G.K) (hg : Gl X "list") (hm : X.mg "list" = none) (ha : PA X (e :: es) (tB G W r)) (hs : (e :: es).any starB = false) : PE X (.Call (.Name "list" p) (e :: es) [] pos) (tL G W (dPrL qList r)) := by
  rw [List.any_cons, Bool.or_eq_false_iff] at hs
  exact pe_imp (pe_callTy call_list_of hg hm PyProof.Rows.boot_list ha (by decide) (by decide) (starEach_plain hs.1) (backTo_plain hs.2)) fun σ H Q ⟨m, ρ, S, hS, hE, h⟩ => ⟨m, ρ, S, hS, hE, (AftL.of h).imp fun xs S1 m1 H1 l1 hS1 h1 vs rvs => by
    obtain ⟨ds, e, h1⟩ := aftL_opt h1
    unfold qList at e
    split at e
    · cases e
      obtain ⟨v, rfl, rv⟩ := rvs.one
      obtain ⟨a, xs, rfl, q1, _, q2⟩ := rv
      exact ⟨a, xs, rfl, .inl (by rw [hK]; exact SqL.of q1), fun l hl => AftL.new h1 hS1 q2 hl⟩
    · cases e
      obtain ⟨v, rfl, rv⟩ := rvs.one
      obtain ⟨a, xs, rfl, q1, q2⟩ := rv
      exact ⟨a, xs, rfl, .inr (by rw [hK]; exact q1), fun l hl => AftL.new h1 hS1 q2 hl⟩
    · cases e⟩
/-- list(range(a)) -/
def lrg (d : D) : Option (List D) := match d with
  | .int j => if j.natAbs ≤ 2 ^ 24 then some (rgD 0 j.toNat) else none
  | _ => none
def dLrg (d : DE) : DA := fun ρ S => (d ρ S).bind fun x S => optM (lrg x) S
theorem rgV_eq (a b : Int) : RpL G m H (rgD a (b - a).toNat) (rgV a b) := by
  unfold rgD rgV
  induction (List.range (b - a).toNat) with
  | nil => exact rfl
  | cons i l ih => exact ⟨_, _, rfl, rfl, ih⟩
theorem jl_rg {d : DE} {p2 q : Pos} (hc : X.calm = true) (hg : Gl X "list") (hm : X.mg "list" = none) (hg2 : Gl X "range") (hm2 : X.mg "range" = none) (ha : PE X a (tE G W d)) (hs : starB a = false) :
    PE X (.Call (.Name "list" p) [.Call (.Name "range" p2) [a] [] q] [] pos) (tL G W (dLrg d)) :=
  pe_imp (pe_listRg hc hg hm (prg_1 hg2 hm2 ha (starEach_plain hs)) (by rfl)) fun σ H Q ⟨m, ρ, S, hS, hE, h⟩ => ⟨m, ρ, S, hS, hE, (AftL.of h).imp fun x S1 m1 H1 l1 hS1 h1 v rv => by
    obtain ⟨ds, e, h1⟩ := aftL_opt h1
    unfold lrg at e
    split at e
    · rename_i j
      obtain ⟨b1, e⟩ := some_ifp e
      subst e
      refine ⟨j, rv, ⟨by omega, by omega, by omega, by omega, by omega⟩, fun l hl => AftL.new h1 hS1 ?_ hl⟩
      have := rgV_eq (G := G) (m := m1) (H := H1) 0 j
      rw [Int.sub_zero] at this
      exact this
    · cases e⟩
/-- sorted(set(t)), t a tuple of ints -/
def insI (x : Int) : List Int → List Int
  | [] => [x]
  | y :: ys => if x < y then x :: y :: ys else if x = y then y :: ys else y :: insI x ys
def setI : List Int → List Int
  | [] => []
  | x :: xs => insI x (setI xs)
theorem insI_mem {x k : Int} : ∀ {ys : List Int}, k ∈ insI x ys ↔ k = x ∨ k ∈ ys
  | [] => by simp [insI]
  | y :: ys => by
    unfold insI
    split
    · simp
    · split
      · rename_i h; subst h; simp
      · simp only [List.mem_cons, insI_mem (ys := ys)]
        constructor
        · rintro (h | h | h) <;> simp [h]
        · rintro (h | h | h) <;> simp [h]
theorem insI_pw {x : Int} : ∀ {ys : List Int}, ys.Pairwise (· < ·) → (insI x ys).Pairwise (· < ·)
  | [], _ => by simp [insI]
  | y :: ys, h => by
    obtain ⟨h1, h2⟩ := List.pairwise_cons.mp h
    unfold insI
    split
    · rename_i hl
      exact List.pairwise_cons.mpr ⟨fun z hz => by
        rcases List.mem_cons.mp hz with q | q
        · subst q; exact hl
        · have := h1 z q; omega, h⟩
    · split
      · exact h
      · rename_i n1 n2
        refine List.pairwise_cons.mpr ⟨fun z hz => ?_, insI_pw h2⟩
        rcases insI_mem.mp hz with q | q
        · subst q; omega
        · exact h1 z q
theorem setI_mem {k : Int} : ∀ {xs : List Int}, k ∈ setI xs ↔ k ∈ xs
  | [] => by simp [setI]
  | x :: xs => by
    unfold setI
    rw [insI_mem, setI_mem, List.mem_cons]
theorem setI_pw : ∀ {xs : List Int}, (setI xs).Pairwise (· < ·)
  | [] => List.Pairwise.nil
  | x :: xs => insI_pw setI_pw
theorem pw_unique : ∀ {xs ys : List Int}, xs.Pairwise (· < ·) → ys.Pairwise (· < ·) → (∀ k, k ∈ xs ↔ k ∈ ys) → xs = ys
  | [], [], _, _, _ => rfl
  | [], y :: ys, _, _, h => absurd ((h y).mpr List.mem_cons_self) (by simp)
  | x :: xs, [], _, _, h => absurd ((h x).mp List.mem_cons_self) (by simp)
  | x :: xs, y :: ys, h1, h2, h => by
    obtain ⟨a1, a2⟩ := List.pairwise_cons.mp h1
    obtain ⟨b1, b2⟩ := List.pairwise_cons.mp h2
    have e : x = y := by
      rcases List.mem_cons.mp ((h x).mp List.mem_cons_self) with q | q
      · exact q
      · rcases List.mem_cons.mp ((h y).mpr List.mem_cons_self) with q' | q'
        · exact q'.symm
        · have := b1 x q; have := a1 y q'; omega
    subst e
    rw [pw_unique a2 b2 fun k => ⟨fun hk => by
      rcases List.mem_cons.mp ((h k).mp (List.mem_cons_of_mem _ hk)) with q | q
      · subst q; have := a1 k hk; omega
      · exact q, fun hk => by
      rcases List.mem_cons.mp ((h k).mpr (List.mem_cons_of_mem _ hk)) with q | q
      · subst q; have := b1 k hk; omega
      · exact q⟩]
def qSortSet (d : D) : Option (List D) := match d with
  | .tup ds => (intsD ds).bind fun ns => if ns.length < 64 then some ((setI ns).map D.int) else none
  | _ => none
def dSortSet (d : DE) : DA := fun ρ S => (d ρ S).bind fun x S => optM (qSortSet x) S
theorem jl_sortSet {d : DE} {p2 q : Pos} (hc : X.calm = true) (hK : X.K = G.K) (hg : Gl X "sorted") (hm : X.mg "sorted" = none) (hg2 : Gl X "set") (hm2 : X.mg "set" = none) (ha : PE X a (tE G W d)) (hs : starB a = false) :
    PE X (.Call (.Name "sorted" p) [.Call (.Name "set" p2) [a] [] q] [] pos) (tL G W (dSortSet d)) :=
  pe_imp (pe_callB (cr_sortedSet hc) hg hm PyProof.Rows.boot_sorted (pa_cons (pe_callTy (cr_setTI hc) hg2 hm2 PyProof.Rows.boot_set (pa_cons ha pa_nil (starEach_plain hs)) (by decide) (by decide) (starEach_plain hs) (by rfl)) pa_nil (by rfl)) (by decide) (by decide) (by rfl) (by rfl))
    fun σ H Q ⟨m, ρ, S, hS, hE, h⟩ => ⟨m, ρ, S, hS, hE, (AftL.of h).imp fun x S1 m1 H1 l1 hS1 h1 v rv => by
    obtain ⟨ds, e, h1⟩ := aftL_opt h1
    unfold qSortSet at e
    split at e
    · obtain ⟨ns, e0, e⟩ := Option.bind_eq_some_iff.mp e
      obtain ⟨hl, rfl⟩ := some_ifp e
      obtain ⟨a, xs, rfl, q1, q2⟩ := rv
      rw [intsD_map e0] at q2
      obtain rfl := q2.ints
      refine ⟨a, ns, rfl, by rw [hK]; exact q1, by omega, fun b T n hb hT hn => ⟨b, T, n, rfl, upd_same, by omega, fun ms p hp hm _ hpn => ?_⟩⟩
      have sm : Same H1 (upd H1 b (SetO X.w b T n)) := Same.new hb
      have e1 : ms = setI ns := pw_unique hp setI_pw fun k => by rw [hm k, setI_mem, hT k, decide_eq_true_iff]
      subst e1
      have h2 : AftL G m1 (upd H1 b (SetO X.w b T n)) (fun c x H' => W c x σ H') (.ok ((setI ns).map D.int) S1) Q := fun m' H' p' l hp' => h1 m' H' p' ((Le.same sm).trans l) (sm.free hp')
      exact AftL.new h2 (hS1.same sm) (RpL.ofInts _) hpn
    · cases e⟩
end
end Py

/-! Part 10: statements. -/
namespace Py
open PySem PySem.Spec PyProof.Rows L2

/-! ### slots' values: values, fresh lists -/
abbrev DQ := Env → M Sl
/-- what an expression gives to a slot -/
def AftQ (G : Gc) (m : Mu) (H : Hp) (Y : XK) (r : R Sl) (Q : VK) : Prop := match r with
  | .ok s S => ∀ m' H' v, Lx G kAll m H m' H' → (∀ a, m'.O a → m.O a ∨ ∃ ds, s = .own ds ∧ v = .ref a ∧ H a = none) → Holds G m' H' S → RpS G m' H' s v → (∀ ds a, s = .own ds → v = .ref a → H a = none) → Q v H'
  | .exc c S => ∀ m' H', Le G m H m' H' → Holds G m' H' S → ∀ ca, G.ad c = some ca → Y (.ref ca) none H'
  | .bad => False
def tQ (G : Gc) (W : WX) (q : DQ) : TE := fun σ H Q => Inp G σ H fun m ρ S => AftQ G m H (fun c x H' => W c x σ H') (q ρ S) Q
def qV (d : DE) : DQ := fun ρ S => (d ρ S).bind fun x S => .ok (.val x) S
def qO (d : DA) : DQ := fun ρ S => (d ρ S).bind fun x S => .ok (.own x) S
section
variable {G : Gc} {W : WX} {X : Cx} {e a b c tg : Expr} {m m' : Mu} {H H' : Hp} {S : Store} {σ : Sg} {pos p : Pos}
theorem tE_of {d : DE} {Q : VK} (h : tQ G W (qV d) σ H Q) : tE G W d σ H Q := by
  obtain ⟨m, ρ, S, hS, hE, h⟩ := h
  refine ⟨m, ρ, S, hS, hE, ?_⟩
  have h : AftQ G m H _ ((d ρ S).bind fun x S => .ok (.val x) S) Q := h
  show Aft G m H _ (d ρ S) fun r _ m' H' => ∀ v, Rp G m' H' r v → Q v H'
  cases q : d ρ S with
  | ok x S1 =>
    rw [q] at h
    exact fun m' H' l hS' v rv => h m' H' v l.lx (fun a z => .inl (by rw [l.O] at z; exact z)) hS' rv (fun _ _ z => by cases z)
  | exc c S1 =>
    rw [q] at h
    exact h
  | bad =>
    rw [q] at h
    exact h
theorem tL_of {d : DA} {Q : VK} (h : tQ G W (qO d) σ H Q) : tL G W d σ H Q := by
  obtain ⟨m, ρ, S, hS, hE, h⟩ := h
  refine ⟨m, ρ, S, hS, hE, ?_⟩
  have h : AftQ G m H _ ((d ρ S).bind fun x S => .ok (.own x) S) Q := h
  show AftL G m H _ (d ρ S) Q
  cases q : d ρ S with
  | ok x S1 =>
    rw [q] at h
    exact fun m' H' p l hp hS' ho => h (m'.add p) H' (.ref p) (Lx.add l hp) (fun a z => by
      rcases z with z | z
      · exact .inl (by rw [l.O] at z; exact z)
      · exact .inr ⟨x, rfl, by rw [z], by rw [z]; exact hp⟩) hS' ⟨p, rfl, .inr rfl, hS'.dis p (.inr rfl), ho⟩ (fun ds a _ z => by cases z; exact hp)
  | exc c S1 =>
    rw [q] at h
    exact h
  | bad =>
    rw [q] at h
    exact h
/-- a new list as a value that does not change any more -/
theorem tL_frz {d : DA} {Q : VK} (h : tE G W (dLst d) σ H Q) : tL G W d σ H Q := by
  obtain ⟨m, ρ, S, hS, hE, h⟩ := h
  refine ⟨m, ρ, S, hS, hE, ?_⟩
  have h : Aft G m H _ ((d ρ S).bind fun xs S => R.ok (D.lst xs) S) _ := h
  cases hd : d ρ S with
  | bad =>
    rw [hd] at h
    exact h.elim
  | exc c S1 =>
    rw [hd] at h
    show AftL G m H _ (d ρ S) Q
    rw [hd]
    exact h
  | ok ds S1 =>
    rw [hd] at h
    show AftL G m H _ (d ρ S) Q
    rw [hd]
    intro m' H' p l hp hS' ⟨xs, e1, e2⟩
    refine h m' H' l hS'.drop (.ref p) ⟨p, xs, rfl, e1, ?_, Mu.add_rpL e2⟩
    rintro (q | q)
    · exact hS'.dis p (.inr rfl) q
    · rw [l.O] at q
      exact hS.there p q hp
/-- a new list as an object of the store -/
def dNew (r : DA) : DE := fun ρ S => (r ρ S).bind fun xs S => .ok (.ref S.length) (S ++ [.lst xs])
theorem Le.grow {p : Addr} (l : Le G m H m' H') (hp : H p = none) : Le G m H ⟨m'.as ++ [p], m'.O⟩ H' := by
  obtain ⟨e, e1, e2⟩ := l.as
  refine ⟨⟨e ++ [p], by rw [e1, List.append_assoc], fun a ha => ?_⟩, l.O, l.kept, l.tups, l.there⟩
  rcases List.mem_append.mp ha with q | q
  · exact e2 a q
  · rw [List.mem_singleton.mp q]; exact hp
theorem rp_grow {p : Addr} {ds : List D} {xs : List V} (h : RpL G (m.add p) H ds xs) : RpL G ⟨m.as ++ [p], m.O⟩ H ds xs :=
  RpL.mono (m := m.add p) (m' := ⟨m.as ++ [p], m.O⟩) (H := H) (H' := H) (fun n a q => by
    have q : m.as[n]? = some a := q
    show (m.as ++ [p])[n]? = some a
    rw [List.getElem?_append_left (List.getElem?_eq_some_iff.mp q).1]; exact q) (fun _ _ z => z) (fun a o z n => ⟨z, fun q => n (by
    rcases q with q | q
    · rcases List.mem_append.mp q with q | q
      · exact .inl q
      · exact .inr (.inr (List.mem_singleton.mp q))
    · exact .inr (.inl q))⟩) ds xs h
theorem Holds.grow {p : Addr} {ds : List D} (h : Holds G (m.add p) H S) (ho : Ol G (m.add p) H ds p) (hn : ¬ m.O p) : Holds G ⟨m.as ++ [p], m.O⟩ H (S ++ [.lst ds]) := by
  have pn : p ∉ m.as := h.dis p (.inr rfl)
  have hl : m.as.length = S.length := h.len
  refine ⟨by simp [hl], ?_, fun n ob a e1 e2 => ?_, fun a q z => ?_, fun a q => h.there a (.inl q)⟩
  · show (m.as ++ [p]).Nodup
    rw [List.nodup_append]
    exact ⟨h.nd, by simp, fun a ha b hb => by
      rw [List.mem_singleton.mp hb]
      exact fun z => pn (z ▸ ha)⟩
  · have e2 : (m.as ++ [p])[n]? = some a := e2
    by_cases hn : n < S.length
    · rw [List.getElem?_append_left hn] at e1
      rw [List.getElem?_append_left (by rw [hl]; exact hn)] at e2
      have q := h.ob n ob a e1 e2
      cases ob with
      | lst ds =>
        obtain ⟨xs, e, r⟩ := q
        exact ⟨xs, e, rp_grow r⟩
      | frz ds =>
        obtain ⟨o, xs, e, r⟩ := q
        exact ⟨o, xs, e, rp_grow r⟩
    · rw [List.getElem?_append_right (by omega)] at e1
      rw [List.getElem?_append_right (by rw [hl]; omega)] at e2
      have hn2 : n - S.length = 0 := by
        have := (List.getElem?_eq_some_iff.mp e1).1
        simp at this
        omega
      rw [hn2] at e1
      rw [hl, hn2] at e2
      cases e1
      cases e2
      obtain ⟨xs, e, r⟩ := ho
      exact ⟨xs, e, rp_grow r⟩
  · have z : a ∈ m.as ++ [p] := z
    rcases List.mem_append.mp z with z | z
    · exact h.dis a (.inl q) z
    · rw [List.mem_singleton.mp z] at q
      exact hn q
theorem tL_new {d : DA} {Q : VK} (h : tE G W (dNew d) σ H Q) : tL G W d σ H Q := by
  obtain ⟨m, ρ, S, hS, hE, h⟩ := h
  refine ⟨m, ρ, S, hS, hE, ?_⟩
  have h : Aft G m H _ ((d ρ S).bind fun xs S => R.ok (D.ref S.length) (S ++ [Ob.lst xs])) _ := h
  cases hd : d ρ S with
  | bad =>
    rw [hd] at h
    exact h.elim
  | exc c S1 =>
    rw [hd] at h
    show AftL G m H _ (d ρ S) Q
    rw [hd]
    exact h
  | ok ds S1 =>
    rw [hd] at h
    show AftL G m H _ (d ρ S) Q
    rw [hd]
    intro m' H' p l hp hS' ho
    have hn : ¬ m'.O p := fun q => by
      rw [l.O] at q
      exact hS.there p q hp
    refine h _ H' (l.grow hp) (hS'.grow ho hn) (.ref p) ⟨p, rfl, ?_⟩
    have hl : m'.as.length = S1.length := hS'.len
    show (m'.as ++ [p])[S1.length]? = some p
    rw [← hl]
    simp
theorem je_new {d : DA} (h : PE X e (tL G W d)) : PE X e (tE G W (dNew d)) := pe_imp h fun _ _ _ q => tL_new q
end

/-! ### statements: what they do -/
inductive Out where
  | nx (ρ : Env) | br (ρ : Env) | ct (ρ : Env) | rt (d : D) | ex (c : Nat) (ρ : Env)
abbrev Res := Option (Out × Store)
abbrev DS := Env → Store → Res
def rS {α : Type} (r : R α) (ρ : Env) (k : α → Store → Res) : Res := match r with
  | .ok a S => k a S
  | .exc c S => some (.ex c ρ, S)
  | .bad => none
def dSeq (a b : DS) : DS := fun ρ S => match a ρ S with
  | some (.nx ρ', S') => b ρ' S'
  | r => r
def dNop : DS := fun ρ S => some (.nx ρ, S)
def dSet (i : Nat) (q : DQ) : DS := fun ρ S => rS (q ρ S) ρ fun s S => some (.nx (ρ.set i (some s)), S)
def dBnd (d : DE) (g : DG) : DS := fun ρ S => rS (d ρ S) ρ fun x S => match g x ρ with
  | some ρ' => some (.nx ρ', S)
  | none => none
def dPar2 (i j : Nat) (q q' : DQ) : DS := fun ρ S => rS (q ρ S) ρ fun s S => rS (q' ρ S) ρ fun s' S => some (.nx ((ρ.set i (some s)).set j (some s')), S)
def dPar3 (i j l : Nat) (q q' q'' : DQ) : DS := fun ρ S => rS (q ρ S) ρ fun s S => rS (q' ρ S) ρ fun s' S => rS (q'' ρ S) ρ fun s'' S => some (.nx (((ρ.set i (some s)).set j (some s')).set l (some s'')), S)
def dRet (d : DE) : DS := fun ρ S => rS (d ρ S) ρ fun x S => some (.rt x, S)
def dRetN : DS := fun ρ S => some (.rt .non, S)
def dDrop (d : DE) : DS := fun ρ S => rS (d ρ S) ρ fun x S => some (.nx ρ, S)
def dIfS (t : DT) (a b : DS) : DS := fun ρ S => rS (t ρ S) ρ fun c S => if c = true then a ρ S else b ρ S
def dBrk : DS := fun ρ S => some (.br ρ, S)
def dCnt : DS := fun ρ S => some (.ct ρ, S)
def dBad : DS := fun _ _ => none
/-- a list of one's own does not change any more -/
def dFrz (i : Nat) : DS := fun ρ S => match ρ[i]? with
  | some (some (.own ds)) => some (.nx (ρ.set i (some (.val (.lst ds)))), S)
  | _ => none
/-- x.append(e) -/
def dApp (i : Nat) (d : DE) : DS := fun ρ S => rS (d ρ S) ρ fun y S => match ρ[i]? with
  | some (some (.own ds)) => if ds.length < sizeLine then some (.nx (ρ.set i (some (.own (ds ++ [y])))), S) else none
  | _ => none
/-- o[i] = v, o a list of the store -/
def stSet (S : Store) (o i v : D) : Option Store := match o, i with
  | .ref n, .int k => match S[n]? with
    | some (.lst ds) => (ixN ds.length k).map fun j => S.set n (.lst (ds.set j v))
    | _ => none
  | _, _ => none
def dSto (v o i : DE) : DS := fun ρ S => rS (v ρ S) ρ fun x S => rS (o ρ S) ρ fun y S => rS (i ρ S) ρ fun z S => match stSet S y z x with
  | some S' => some (.nx ρ, S')
  | none => none
def forRun (g : DG) (b : DS) : List D → DS
  | [], ρ, S => some (.nx ρ, S)
  | d :: ds, ρ, S => match g d ρ with
    | none => none
    | some ρ' => match b ρ' S with
      | some (.nx ρ2, S2) => forRun g b ds ρ2 S2
      | some (.ct ρ2, S2) => forRun g b ds ρ2 S2
      | some (.br ρ2, S2) => some (.nx ρ2, S2)
      | r => r
def dFor (di : DI) (g : DG) (b : DS) : DS := fun ρ S => rS (di ρ S) ρ fun ds S => forRun g b ds ρ S
def whRun (t : DT) (b : DS) : Nat → DS
  | 0, _, _ => none
  | n + 1, ρ, S => rS (t ρ S) ρ fun c S => if c = true then match b ρ S with
      | some (.nx ρ2, S2) => whRun t b n ρ2 S2
      | some (.ct ρ2, S2) => whRun t b n ρ2 S2
      | some (.br ρ2, S2) => some (.nx ρ2, S2)
      | r => r
    else some (.nx ρ, S)

/-! ### .. read -/
structure RpF (G : Gc) (kp : Addr → Prop) (m : Mu) (H : Hp) (ρ : Env) (σ : Sg) : Prop where
  rp : RpE G m H ρ σ
  sub : ∀ a, kp a → m.O a
  own : ∀ (i : Nat) (ds : List D) (a : Addr), ρ[i]? = some (some (.own ds)) → σ[i]? = some (some (.ref a)) → ¬ kp a
def AftS (G : Gc) (W : WX) (kp : Addr → Prop) (m : Mu) (H : Hp) (D : Ends) (r : Res) : Prop := match r with
  | none => False
  | some (.nx ρ, S) => ∀ m' H' σ', Lx G kp m H m' H' → Holds G m' H' S → RpF G kp m' H' ρ σ' → D.nx σ' H'
  | some (.br ρ, S) => ∀ m' H' σ', Lx G kp m H m' H' → Holds G m' H' S → RpF G kp m' H' ρ σ' → D.bk σ' H'
  | some (.ct ρ, S) => ∀ m' H' σ', Lx G kp m H m' H' → Holds G m' H' S → RpF G kp m' H' ρ σ' → D.ct σ' H'
  | some (.rt d, S) => ∀ m' H' v, Lx G kp m H m' H' → (∀ a, kp a → m'.O a) → Holds G m' H' S → Rp G m' H' d v → D.rt v H'
  | some (.ex c ρ, S) => ∀ m' H' σ', Lx G kp m H m' H' → Holds G m' H' S → RpF G kp m' H' ρ σ' → ∀ ca, G.ad c = some ca → W (.ref ca) none σ' H'
def tS (G : Gc) (W : WX) (d : DS) : TS := fun D σ H => ∃ kp m ρ S, Holds G m H S ∧ RpF G kp m H ρ σ ∧ AftS G W kp m H D (d ρ S)
section
variable {G : Gc} {W : WX} {X : Cx} {e a b c tg : Expr} {m m' : Mu} {H H' : Hp} {S : Store} {σ : Sg} {pos p : Pos} {kp : Addr → Prop} {ρ : Env} {st : Stmt} {rest : List Stmt} {Dn Dn' : Ends} {r : Res}
theorem AftS.later (h : AftS G W kp m H Dn r) (l : Lx G kp m H m' H') : AftS G W kp m' H' Dn r := by
  cases r with
  | none => exact h
  | some x =>
    obtain ⟨o, S⟩ := x
    cases o with
    | nx ρ => exact fun m2 H2 σ2 l2 => h m2 H2 σ2 (l.trans l2)
    | br ρ => exact fun m2 H2 σ2 l2 => h m2 H2 σ2 (l.trans l2)
    | ct ρ => exact fun m2 H2 σ2 l2 => h m2 H2 σ2 (l.trans l2)
    | rt d => exact fun m2 H2 v l2 => h m2 H2 v (l.trans l2)
    | ex c ρ => exact fun m2 H2 σ2 l2 => h m2 H2 σ2 (l.trans l2)
theorem RpF.le (F : RpF G kp m H ρ σ) (l : Le G m H m' H') : RpF G kp m' H' ρ σ := ⟨F.rp.le l, fun a h => by rw [l.O]; exact F.sub a h, F.own⟩
theorem ps_imp {t t' : TS} (h : PS X st t) (k : ∀ D σ H, t' D σ H → t D σ H) : PS X st t' := ⟨fun pins s σ H D I q => h.run pins s σ H D I (k D σ H q)⟩
theorem pss_imp {sts : List Stmt} {t t' : TS} (h : PSs X sts t) (k : ∀ D σ H, t' D σ H → t D σ H) : PSs X sts t' := ⟨fun pins s σ H D I q => h.run pins s σ H D I (k D σ H q)⟩
/-- a statement that begins with an expression's value -/
theorem AftS.rS {α : Type} {q : R α} {k : α → Store → Res} (h : AftS G W kp m H Dn (Py.rS q ρ k)) (F : RpF G kp m H ρ σ) : Aft G m H (fun c x H' => W c x σ H') q fun a S m' H' => AftS G W kp m' H' Dn (k a S) := by
  cases q with
  | ok a S => exact fun m' H' l hS => AftS.later (show AftS G W kp m H Dn (k a S) from h) l.lx
  | exc c S => exact fun m' H' l hS ca e => h m' H' σ l.lx hS (F.le l) ca e
  | bad => exact h
theorem jss_nil : PSs X [] (tS G W dNop) := pss_imp pss_nil fun D σ H ⟨kp, m, ρ, S, hS, F, h⟩ => h m H σ Lx.refl hS F
theorem seq_of {a b : DS} (h : tS G W (dSeq a b) Dn σ H) : tS G W a { Dn with nx := tS G W b Dn } σ H := by
  obtain ⟨kp, m, ρ, S, hS, F, h⟩ := h
  refine ⟨kp, m, ρ, S, hS, F, ?_⟩
  unfold dSeq at h
  cases q : a ρ S with
  | none => rw [q] at h; exact h
  | some x =>
    obtain ⟨o, S1⟩ := x
    rw [q] at h
    cases o with
    | nx ρ1 => exact fun m' H' σ' l hS' F' => ⟨kp, m', ρ1, S1, hS', F', AftS.later h l⟩
    | br ρ1 => exact h
    | ct ρ1 => exact h
    | rt d => exact h
    | ex c ρ1 => exact h
theorem jss_cons {a b : DS} (h1 : PS X st (tS G W a)) (h2 : PSs X rest (tS G W b)) : PSs X (st :: rest) (tS G W (dSeq a b)) := pss_imp (pss_cons h1 h2) fun D σ H h => seq_of h
theorem jss_one {a : DS} (h1 : PS X st (tS G W a)) : PSs X [st] (tS G W a) := pss_one h1
theorem js_pass : PS X (.Pass pos) (tS G W dNop) := ps_imp ps_pass fun D σ H ⟨kp, m, ρ, S, hS, F, h⟩ => h m H σ Lx.refl hS F
theorem js_brk : PS X (.Break pos) (tS G W dBrk) := ps_imp ps_break fun D σ H ⟨kp, m, ρ, S, hS, F, h⟩ => h m H σ Lx.refl hS F
theorem js_cnt : PS X (.Continue pos) (tS G W dCnt) := ps_imp ps_continue fun D σ H ⟨kp, m, ρ, S, hS, F, h⟩ => h m H σ Lx.refl hS F
/-- code that is not come to -/
theorem js_bad : PS X st (tS G W dBad) := ps_imp ps_never fun D σ H ⟨kp, m, ρ, S, hS, F, h⟩ => h
theorem js_ret {d : DE} (h : PE X e (tE G W d)) : PS X (.Return (some e) pos) (tS G W (dRet d)) := ps_imp (ps_ret h) fun D σ H ⟨kp, m, ρ, S, hS, F, h⟩ =>
  ⟨m, ρ, S, hS, F.rp, (AftS.rS h F).imp fun x S1 m1 H1 l1 hS1 h1 v rv => h1 m1 H1 v Lx.refl (fun a z => by rw [l1.O]; exact F.sub a z) hS1 rv⟩
theorem js_retN : PS X (.Return none pos) (tS G W dRetN) := ps_imp ps_retN fun D σ H ⟨kp, m, ρ, S, hS, F, h⟩ => h m H .non Lx.refl F.sub hS rfl
theorem js_if {t : DT} {x y : DS} {sa sb : List Stmt} (hc : PT X c (tT G W t)) (ha : PSs X sa (tS G W x)) (hb : PSs X sb (tS G W y)) : PS X (.If c sa sb pos) (tS G W (dIfS t x y)) :=
  ps_imp (ps_if hc ha hb) fun D σ H ⟨kp, m, ρ, S, hS, F, h⟩ => ⟨m, ρ, S, hS, F.rp, (AftS.rS h F).imp fun c S1 m1 H1 l1 hS1 h1 => by
    cases c with
    | true => exact iteT ⟨kp, m1, ρ, S1, hS1, F.le l1, h1⟩
    | false => exact iteF ⟨kp, m1, ρ, S1, hS1, F.le l1, h1⟩⟩
theorem js_drop {d : DE} (he : PE X e (tE G W d)) (hs : swapsWith e none pos.line X.env = pure false) : PS X (.Expr e pos) (tS G W (dDrop d)) := ps_imp (ps_expr he hs) fun D σ H ⟨kp, m, ρ, S, hS, F, h⟩ =>
  ⟨m, ρ, S, hS, F.rp, (AftS.rS h F).imp fun x S1 m1 H1 l1 hS1 h1 v rv => h1 m1 H1 σ Lx.refl hS1 (F.le l1)⟩

/-! slots -/
theorem RpE.setS {s : Sl} {v : V} (E : RpE G m H ρ σ) (r : RpS G m H s v) (i : Nat) (fr : ∀ ds a, s = .own ds → v = .ref a → ∀ j es, j ≠ i → ρ[j]? = some (some (.own es)) → σ[j]? ≠ some (some (V.ref a))) : RpE G m H (ρ.set i (some s)) (σ.set i (some v)) := by
  refine ⟨fun j s' h => ?_, fun j k ds es a h1 h2 h3 h4 => ?_, by simp [E.len]⟩
  · rcases set_get h with ⟨e, hl, e2⟩ | ⟨e, h⟩
    · subst e e2
      have : j < σ.length := E.len ▸ hl
      exact ⟨v, by simp [this], r⟩
    · obtain ⟨w, q1, q2⟩ := E.at_ j s' h
      exact ⟨w, by rw [List.getElem?_set_ne (fun z => e z.symm)]; exact q1, q2⟩
  · rcases set_get h1 with ⟨e1, l1, e⟩ | ⟨e, g1⟩
    · rcases set_get h2 with ⟨e2, l2, e'⟩ | ⟨e', g2⟩
      · rw [e1, e2]
      · subst e1 e
        have hv : v = .ref a := by
          have : j < σ.length := E.len ▸ l1
          rw [List.getElem?_set_self this] at h3
          exact Option.some.inj (Option.some.inj h3)
        rw [List.getElem?_set_ne (fun z => e' z.symm)] at h4
        exact absurd h4 (fr ds a rfl hv k es e' g2)
    · rcases set_get h2 with ⟨e2, l2, e'⟩ | ⟨e', g2⟩
      · subst e2 e'
        have hv : v = .ref a := by
          have : k < σ.length := E.len ▸ l2
          rw [List.getElem?_set_self this] at h4
          exact Option.some.inj (Option.some.inj h4)
        rw [List.getElem?_set_ne (fun z => e z.symm)] at h3
        exact absurd h3 (fr es a rfl hv j ds e g1)
      · rw [List.getElem?_set_ne (fun z => e z.symm)] at h3
        rw [List.getElem?_set_ne (fun z => e' z.symm)] at h4
        exact E.inj j k ds es a g1 g2 h3 h4
theorem RpF.setS {s : Sl} {v : V} (F : RpF G kp m H ρ σ) (r : RpS G m H s v) (i : Nat) (fr : ∀ ds a, s = .own ds → v = .ref a → ¬ kp a ∧ ∀ j es, j ≠ i → ρ[j]? = some (some (.own es)) → σ[j]? ≠ some (some (V.ref a))) : RpF G kp m H (ρ.set i (some s)) (σ.set i (some v)) :=
  ⟨F.rp.setS r i fun ds a e1 e2 => (fr ds a e1 e2).2, F.sub, fun j ds a h1 h2 => by
    rcases set_get h1 with ⟨e, hl, e2⟩ | ⟨e, h⟩
    · subst e
      have : j < σ.length := F.rp.len ▸ hl
      rw [List.getElem?_set_self this] at h2
      exact (fr ds a e2.symm (Option.some.inj (Option.some.inj h2))).1
    · rw [List.getElem?_set_ne (fun z => e z.symm)] at h2
      exact F.own j ds a h h2⟩
/-- the address of a list of one's own is known -/
theorem RpE.known (E : RpE G m H ρ σ) {j : Nat} {es : List D} {a : Addr} (h : ρ[j]? = some (some (.own es))) (h2 : σ[j]? = some (some (V.ref a))) : m.O a ∧ a ∉ m.as ∧ ∃ xs, H a = some (.lst xs) ∧ RpL G m H es xs := by
  obtain ⟨v, q1, b, e, q2, q3, xs, q4, q5⟩ := E.at_ j _ h
  rw [h2] at q1
  cases Option.some.inj q1
  cases e
  exact ⟨q2, q3, xs, q4, q5⟩
/-- a slot takes what an expression gave -/
theorem RpF.take {s : Sl} {v : V} (F : RpF G kp m H ρ σ) (hS : Holds G m H S) (l : Lx G kAll m H m' H') (r : RpS G m' H' s v) (fr : ∀ ds a, s = .own ds → v = .ref a → H a = none) (i : Nat) : RpF G kp m' H' (ρ.set i (some s)) (σ.set i (some v)) := by
  have F1 : RpF G kp m' H' ρ σ := ⟨F.rp.lx l, fun a h => l.O2 a (F.sub a h) trivial, F.own⟩
  refine F1.setS r i fun ds a e1 e2 => ⟨fun q => hS.there a (F.sub a q) (fr ds a e1 e2), fun j es _ h1 h2 => ?_⟩
  obtain ⟨_, _, xs, q, _⟩ := F.rp.known h1 h2
  rw [fr ds a e1 e2] at q; cases q
theorem Lx.weak (l : Lx G kAll m H m' H') : Lx G kp m H m' H' := ⟨l.as, l.O1, fun a h _ => l.O2 a h trivial, fun a o h n _ => l.kept a o h n fun _ => trivial, l.tups, l.there⟩
theorem AftS.rQ {q : R Sl} {k : Sl → Store → Res} (h : AftS G W kp m H Dn (Py.rS q ρ k)) (F : RpF G kp m H ρ σ) {Q : VK}
    (hk : ∀ s S m' H' v, Lx G kAll m H m' H' → Holds G m' H' S → RpS G m' H' s v → (∀ ds a, s = .own ds → v = .ref a → H a = none) → AftS G W kp m' H' Dn (k s S) → Q v H') : AftQ G m H (fun c x H' => W c x σ H') q Q := by
  cases q with
  | ok s S => exact fun m' H' v l _ hS r fr => hk s S m' H' v l hS r fr (AftS.later (show AftS G W kp m H Dn (k s S) from h) l.weak)
  | exc c S => exact fun m' H' l hS ca e => h m' H' σ l.lx hS (F.le l) ca e
  | bad => exact h
/-- x = e -/
theorem js_set {i : Nat} {q : DQ} (h : PS X st (tAsg (tQ G W q) (gName i))) : PS X st (tS G W (dSet i q)) := ps_imp h fun D σ H ⟨kp, m, ρ, S, hS, F, h⟩ =>
  ⟨m, ρ, S, hS, F.rp, AftS.rQ h F fun s S1 m1 H1 v l hS1 r fr h1 => h1 m1 H1 _ Lx.refl hS1 (F.take hS l r fr i)⟩
theorem asg_imp {te te' : TE} {g : TG} (h : PS X st (tAsg te g)) (k : ∀ σ H Q, te' σ H Q → te σ H Q) : PS X st (tAsg te' g) := ps_imp h fun D σ H q => k _ _ _ q
/-- pattern = e -/
theorem js_bnd {d : DE} {g : DG} {vs : List Nat} (h : PS X st (tAsg (tE G W d) (tG G vs g))) : PS X st (tS G W (dBnd d g)) := ps_imp h fun D σ H ⟨kp, m, ρ, S, hS, F, h⟩ =>
  ⟨m, ρ, S, hS, F.rp, (AftS.rS h F).imp fun x S1 m1 H1 l1 hS1 h1 v rv => by
    cases q : g x ρ with
    | none => rw [q] at h1; exact h1.elim
    | some ρ' =>
      rw [q] at h1
      have F1 := F.le l1
      refine ⟨m1, ρ, S1, x, hS1, F1.rp, rv, ρ', q, fun σ' bn => h1 m1 H1 σ' Lx.refl hS1 ⟨bn.rp, F1.sub, fun i ds a e1 e2 => ?_⟩⟩
      obtain ⟨k1, k2⟩ := bn.own i ds e1
      exact F1.own i ds a k1 (by rw [← k2]; exact e2)⟩
theorem js_par2 {i j : Nat} {q q' : DQ} (h : PS X st (tPar i j (tCons (tQ G W q) (tCons (tQ G W q') tNil)))) : PS X st (tS G W (dPar2 i j q q')) := ps_imp h fun D σ H ⟨kp, m, ρ, S, hS, F, h⟩ =>
  ⟨m, ρ, S, hS, F.rp, AftS.rQ h F fun s S1 m1 H1 v l hS1 r fr h1 => by
    have F1 : RpF G kp m1 H1 ρ σ := ⟨F.rp.lx l, fun a h => l.O2 a (F.sub a h) trivial, F.own⟩
    refine ⟨m1, ρ, S1, hS1, F1.rp, AftS.rQ h1 F1 fun s' S2 m2 H2 v' l2 hS2 r' fr' h2 => ⟨v, v', rfl, h2 m2 H2 _ Lx.refl hS2 ?_⟩⟩
    have F2 : RpF G kp m2 H2 (ρ.set i (some s)) (σ.set i (some v)) := F.take hS (l.trans l2) (l2.rps r) fr i
    refine F2.setS r' j fun ds a e1 e2 => ⟨fun z => hS1.there a (F1.sub a z) (fr' ds a e1 e2), fun k es _ k1 k2 => ?_⟩
    have F3 : RpF G kp m1 H1 (ρ.set i (some s)) (σ.set i (some v)) := F.take hS l r fr i
    obtain ⟨_, _, xs, z, _⟩ := F3.rp.known k1 k2
    rw [fr' ds a e1 e2] at z; cases z⟩
theorem js_par3 {i j n : Nat} {q q' q'' : DQ} (h : PS X st (tPar3 i j n (tCons (tQ G W q) (tCons (tQ G W q') (tCons (tQ G W q'') tNil))))) : PS X st (tS G W (dPar3 i j n q q' q'')) := ps_imp h fun D σ H ⟨kp, m, ρ, S, hS, F, h⟩ =>
  ⟨m, ρ, S, hS, F.rp, AftS.rQ h F fun s S1 m1 H1 v l hS1 r fr h1 => by
    have F1 : RpF G kp m1 H1 ρ σ := ⟨F.rp.lx l, fun a h => l.O2 a (F.sub a h) trivial, F.own⟩
    refine ⟨m1, ρ, S1, hS1, F1.rp, AftS.rQ h1 F1 fun s' S2 m2 H2 v' l2 hS2 r' fr' h2 => ?_⟩
    have F2 : RpF G kp m2 H2 ρ σ := ⟨F1.rp.lx l2, fun a h => l2.O2 a (F1.sub a h) trivial, F1.own⟩
    refine ⟨m2, ρ, S2, hS2, F2.rp, AftS.rQ h2 F2 fun s'' S3 m3 H3 v'' l3 hS3 r'' fr'' h3 => ⟨v, v', v'', rfl, h3 m3 H3 _ Lx.refl hS3 ?_⟩⟩
    have A1 : RpF G kp m1 H1 (ρ.set i (some s)) (σ.set i (some v)) := F.take hS l r fr i
    have A2 : ∀ (m2 : Mu) (H2 : Hp), Lx G kAll m1 H1 m2 H2 → RpS G m2 H2 s' v' → RpF G kp m2 H2 ((ρ.set i (some s)).set j (some s')) ((σ.set i (some v)).set j (some v')) := fun m2 H2 l2 r' => A1.take hS1 l2 r' fr' j
    exact (A2 m2 H2 l2 r').take hS2 l3 r'' fr'' n⟩
end
end Py

/-! Part 11: lists of one's own, stores, loops, calls, defs. -/
namespace Py
open PySem PySem.Spec PyProof.Rows L2
section
variable {G : Gc} {W : WX} {X : Cx} {e a b c tg : Expr} {m m' : Mu} {H H' : Hp} {S : Store} {σ : Sg} {pos p : Pos} {kp : Addr → Prop} {ρ : Env} {st : Stmt} {rest : List Stmt} {Dn Dn' : Ends} {r : Res}

/-! ### a list of one's own does not change any more -/
def Mu.del (m : Mu) (p : Addr) : Mu := ⟨m.as, fun b => m.O b ∧ b ≠ p⟩
theorem Mu.del_lx {p : Addr} (hk : ¬ kp p) : Lx G kp m H (m.del p) H :=
  ⟨⟨[], by simp [Mu.del], by simp⟩, fun a h => .inl h.1, fun a h k => ⟨h, fun z => hk (z ▸ k)⟩, fun a o h _ _ => h, fun _ _ h => h, fun _ h => h⟩
theorem Holds.del {p : Addr} (h : Holds G m H S) (hk : ¬ kp p) : Holds G (m.del p) H S :=
  ⟨h.len, h.nd, fun n ob a e1 e2 => by
    have l : Lx G kp m H (m.del p) H := Mu.del_lx hk
    have q := h.ob n ob a e1 e2
    cases ob with
    | lst ds =>
      obtain ⟨xs, e, r⟩ := q
      exact ⟨xs, e, l.rpL r⟩
    | frz ds =>
      obtain ⟨o, xs, e, r⟩ := q
      exact ⟨o, xs, e, l.rpL r⟩, fun a q => h.dis a q.1, fun a q => h.there a q.1⟩
theorem RpF.frz {i : Nat} {ds : List D} {a : Addr} (F : RpF G kp m H ρ σ) (h : ρ[i]? = some (some (.own ds))) (h2 : σ[i]? = some (some (.ref a))) : RpF G kp (m.del a) H (ρ.set i (some (.val (.lst ds)))) σ := by
  have hk := F.own i ds a h h2
  have l : Lx G kp m H (m.del a) H := Mu.del_lx hk
  obtain ⟨kO, ka, xs, e, r⟩ := F.rp.known h h2
  refine ⟨⟨fun j s q => ?_, fun j k es fs b q1 q2 q3 q4 => ?_, by simp [F.rp.len]⟩, fun b z => ⟨F.sub b z, fun q => hk (q ▸ z)⟩, fun j es b q1 q2 => ?_⟩
  · rcases set_get q with ⟨e1, hl, e2⟩ | ⟨e1, q⟩
    · subst e1 e2
      exact ⟨_, h2, a, xs, rfl, e, fun z => by
        rcases z with z | z
        · exact ka z
        · exact z.2 rfl, l.rpL r⟩
    · obtain ⟨v, q1, q2⟩ := F.rp.at_ j s q
      refine ⟨v, q1, ?_⟩
      cases s with
      | val d => exact l.rp q2
      | own es =>
        obtain ⟨b, e3, o1, o2, ys, o3, o4⟩ := q2
        subst e3
        exact ⟨b, rfl, ⟨o1, fun z => e1 (F.rp.inj j i es ds a q h (z ▸ q1) h2)⟩, o2, ys, o3, l.rpL o4⟩
  · rcases set_get q1 with ⟨_, _, z⟩ | ⟨e1, q1⟩
    · cases z
    rcases set_get q2 with ⟨_, _, z⟩ | ⟨e2, q2⟩
    · cases z
    exact F.rp.inj j k es fs b q1 q2 q3 q4
  · rcases set_get q1 with ⟨_, _, z⟩ | ⟨e1, q1⟩
    · cases z
    exact F.own j es b q1 q2
theorem AftS.back (l : Lx G kp m H m' H') (h : AftS G W kp m H Dn r) : AftS G W kp m' H' Dn r := AftS.later h l
theorem frz_of {i : Nat} {d : DS} (h : tS G W (dSeq (dFrz i) d) Dn σ H) : tS G W d Dn σ H := by
  obtain ⟨kp, m, ρ, S, hS, F, h⟩ := h
  unfold dSeq dFrz at h
  split at h
  · rename_i ρ' S' e
    split at e
    · rename_i ds hd
      cases e
      obtain ⟨v, q1, a, e, q2, q3, q4⟩ := F.rp.at_ i _ hd
      subst e
      have hk := F.own i ds a hd q1
      exact ⟨kp, m.del a, _, S, hS.del hk, F.frz hd q1, AftS.later h (Mu.del_lx hk)⟩
    · cases e
  · rename_i h2
    revert h
    split at h2
    · exact absurd rfl (h2 _ _)
    · exact fun h => h.elim
theorem jss_frz {i : Nat} {d : DS} {sts : List Stmt} (h : PSs X sts (tS G W d)) : PSs X sts (tS G W (dSeq (dFrz i) d)) := pss_imp h fun _ _ _ q => frz_of q

/-! ### it grows -/
theorem Lx.putK {L : Addr} {ys xs : List V} (hk : ¬ kp L) (hO : m.O L) (h : H L = some (.lst ys)) : Lx G kp m H m (upd H L (.lst xs)) := by
  have l : Lx G (fun a => a ≠ L) m H m (upd H L (.lst xs)) := Lx.put hO h
  exact ⟨l.as, l.O1, fun a q _ => q, fun a o e n k => l.kept a o e n fun z => fun q => hk (q ▸ k z), l.tups, l.there⟩
theorem RpF.upd {i : Nat} {ds ds' : List D} {a : Addr} {xs ys : List V} (F : RpF G kp m H ρ σ) (h : ρ[i]? = some (some (.own ds))) (h2 : σ[i]? = some (some (.ref a))) (e : H a = some (.lst ys)) (r : RpL G m H ds' xs) :
    RpF G kp m (upd H a (.lst xs)) (ρ.set i (some (.own ds'))) σ := by
  obtain ⟨kO, ka, _⟩ := F.rp.known h h2
  have l : Lx G (fun b => b ≠ a) m H m (L2.upd H a (.lst xs)) := Lx.put kO e
  refine ⟨⟨fun j s q => ?_, fun j k es fs b q1 q2 q3 q4 => ?_, by simp [F.rp.len]⟩, F.sub, fun j es b q1 q2 => ?_⟩
  · rcases set_get q with ⟨e1, hl, e2⟩ | ⟨e1, q⟩
    · subst e1 e2
      exact ⟨_, h2, a, rfl, kO, ka, xs, upd_same, l.rpL r⟩
    · obtain ⟨v, q1, q2⟩ := F.rp.at_ j s q
      refine ⟨v, q1, ?_⟩
      cases s with
      | val d => exact l.rp q2
      | own es =>
        obtain ⟨b, e3, o1, o2, zs, o3, o4⟩ := q2
        subst e3
        have ne : b ≠ a := fun z => e1 (F.rp.inj j i es ds a q h (z ▸ q1) h2)
        exact ⟨b, rfl, o1, o2, zs, by rw [upd_ne ne]; exact o3, l.rpL o4⟩
  · rcases set_get q1 with ⟨z1, _, z⟩ | ⟨e1, g1⟩
    · rcases set_get q2 with ⟨z2, _, z'⟩ | ⟨e2, g2⟩
      · exact z1.trans z2.symm
      · exact F.rp.inj j k ds fs b (by rw [z1]; exact h) g2 q3 q4
    · rcases set_get q2 with ⟨z2, _, z'⟩ | ⟨e2, g2⟩
      · exact F.rp.inj j k es ds b g1 (by rw [z2]; exact h) q3 q4
      · exact F.rp.inj j k es fs b g1 g2 q3 q4
  · rcases set_get q1 with ⟨z1, _, z⟩ | ⟨e1, g1⟩
    · exact F.own j ds b (by rw [z1]; exact h) q2
    · exact F.own j es b g1 q2
/-- a method of a list of one's own: what it holds by what it held and a value -/
def dOwn (i : Nat) (f : List D → D → Option (List D)) (d : DE) : DS := fun ρ S => match ρ[i]? with
  | some (some (.own ds)) => rS (d ρ S) ρ fun y S => match f ds y with
    | some ds' => some (.nx (ρ.set i (some (.own ds'))), S)
    | none => none
  | _ => none
def fApp (ds : List D) (y : D) : Option (List D) := if ds.length < sizeLine then some (ds ++ [y]) else none
theorem js_app {i : Nat} {x : Str} {d : DE} {apos cpos : Pos} (hK : X.K = G.K) (hN : X.N[i]? = some x) (hv : Vis X.env.scope x) (hd : (x == ("__debug__" : Str)) = false) (hcd : (x == ("__classdict__" : Str)) = false) (ha : PE X e (tE G W d)) (hs : starB e = false)
    (hbase : attributeBase (.Name x p) "append" X.env (eval (.Name x p) X.env) = eval (.Name x p) X.env)
    (hfew : ((backTo cpos (starEach [e] X.env)).all (fun x => !x.1) && (backToKw cpos (keywordEach [] X.env)).all (fun x => x.1.isSome)
      && decide (([e] : List Expr).length + ([] : List Keyword).length + (if ([] : List Keyword).isEmpty then 0 else 1) < 30)) = true)
    (hline : (apos.endLine == cpos.line) = true) (hsw : swapsWith (.Call (.Attribute (.Name x p) "append" apos) [e] [] cpos) none pos.line X.env = pure false) :
    PS X (.Expr (.Call (.Attribute (.Name x p) "append" apos) [e] [] cpos) pos) (tS G W (dOwn i fApp d)) := by
  refine ps_imp (ps_expr (pe_bm F.plainAttrs_list F.slot_list_append F.type_list_append mt_append (pe_var hN hv hd hcd) (pa_cons ha pa_nil (starEach_plain hs)) hbase hfew hline (starEach_plain hs) (by rfl)) hsw) fun D σ H ⟨kp, m, ρ, S, hS, F, h⟩ => ?_
  unfold dOwn at h
  split at h
  · rename_i ds hd
    obtain ⟨v, q1, a, e, q2, q3, q4⟩ := F.rp.at_ i _ hd
    subst e
    have hk := F.own i ds a hd q1
    obtain ⟨xs0, e0, r0⟩ := id q4
    refine ⟨.ref a, q1, .inl ⟨rfl, xs0, by rw [hK]; exact SqL.of e0⟩, m, ρ, S, hS, F.rp, (AftS.rS h F).imp fun y S1 m1 H1 l1 hS1 h1 v rv => ?_⟩
    unfold fApp at h1
    by_cases hz : ds.length < sizeLine
    · rw [if_pos hz] at h1
      have F1 := F.le l1
      obtain ⟨kO, ka, xs, e, rx⟩ := F1.rp.known hd q1
      exact ⟨a, xs, v, rfl, rfl, e, by rw [rx.length]; exact hz, h1 m1 _ σ (Lx.putK hk kO e) (hS1.put kO e) (F1.upd hd q1 e (rx.append ⟨v, [], rfl, rv, rfl⟩))⟩
    · rw [if_neg hz] at h1; exact h1.elim
  · exact h.elim

/-! ### a list of the store is written -/
theorem Lx.sto {L : Addr} {ys xs : List V} (hO : L ∈ m.as) (h : H L = some (.lst ys)) : Lx G kp m H m (upd H L (.lst xs)) :=
  ⟨⟨[], by simp, by simp⟩, fun a q => .inl q, fun a q _ => q, fun a o e n k => by
    by_cases z : a = L
    · exact absurd (z ▸ hO) n
    · rw [upd_ne z]; exact e, fun a xs t => tups_put h t, fun a q => by
    by_cases z : a = L
    · subst z; rw [upd_same]; simp
    · rw [upd_ne z]; exact q⟩
theorem nodup_at {α : Type} {l : List α} (h : l.Nodup) {i j : Nat} {x : α} (h1 : l[i]? = some x) (h2 : l[j]? = some x) : i = j := by
  obtain ⟨a1, a2⟩ := List.getElem?_eq_some_iff.mp h1
  obtain ⟨b1, b2⟩ := List.getElem?_eq_some_iff.mp h2
  exact (List.getElem?_inj a1 h).mp (h1.trans h2.symm)
theorem Holds.sto {n : Nat} {L : Addr} {ds : List D} {ys xs : List V} (hS : Holds G m H S) (hn : m.as[n]? = some L) (h : H L = some (.lst ys)) (r : RpL G m H ds xs) : Holds G m (upd H L (.lst xs)) (S.set n (.lst ds)) := by
  have hO : L ∈ m.as := List.mem_of_getElem? hn
  have l : Lx G kAll m H m (L2.upd H L (.lst xs)) := Lx.sto hO h
  refine ⟨by simp [hS.len], hS.nd, fun k ob a e1 e2 => ?_, hS.dis, fun a q => l.there a (hS.there a q)⟩
  rw [List.getElem?_set] at e1
  split at e1
  · rename_i e
    subst e
    split at e1
    · cases e1
      rw [hn] at e2
      cases e2
      exact ⟨xs, upd_same, l.rpL r⟩
    · cases e1
  · rename_i ne
    have na : a ≠ L := fun z => ne (nodup_at hS.nd hn (z ▸ e2))
    have q := hS.ob k ob a e1 e2
    cases ob with
    | lst ds =>
      obtain ⟨xs, e, r⟩ := q
      exact ⟨xs, by rw [upd_ne na]; exact e, l.rpL r⟩
    | frz ds =>
      obtain ⟨o, xs, e, r⟩ := q
      exact ⟨o, xs, by rw [upd_ne na]; exact e, l.rpL r⟩
theorem RpF.sto {L : Addr} {ys xs : List V} (F : RpF G kp m H ρ σ) (hO : L ∈ m.as) (h : H L = some (.lst ys)) : RpF G kp m (L2.upd H L (.lst xs)) ρ σ := by
  have l : Lx G kp m H m (L2.upd H L (.lst xs)) := Lx.sto hO h
  refine ⟨⟨fun j s q => ?_, F.rp.inj, F.rp.len⟩, F.sub, F.own⟩
  obtain ⟨v, q1, q2⟩ := F.rp.at_ j s q
  refine ⟨v, q1, ?_⟩
  cases s with
  | val d => exact l.rp q2
  | own es =>
    obtain ⟨b, e3, o1, o2, zs, o3, o4⟩ := q2
    have nb : b ≠ L := fun z => o2 (by rw [z]; exact hO)
    exact ⟨b, e3, o1, o2, zs, by rw [L2.upd_ne nb]; exact o3, l.rpL o4⟩
theorem js_sto {o i : Expr} {dv di do_ : DE} {tp : Pos} (hK : X.K = G.K) (hv : PE X e (tE G W dv)) (ho : PE X o (tE G W do_)) (hi : PE X i (tE G W di)) (hs : swapsWithSole [.Subscript o i tp] e pos.line X.env = pure false) (hw : swappedStores [.Subscript o i tp] e X.env = pure none)
    (h1 : (assignEach [.Subscript o i tp] X.env).map (·.2) = [assign (.Subscript o i tp) X.env])
    (ha : ∀ v, assign (.Subscript o i tp) X.env v = (do
      let ov ← holding [v] (eval o X.env)
      let iv ← holding [v, ov] (eval i X.env)
      standAt tp
      holding [v, ov, iv] (setItem ov iv v)
      release [v, ov, iv] [])) : PS X (.Assign [.Subscript o i tp] e pos) (tS G W (dSto dv do_ di)) := by
  refine ps_imp (ps_asg hv (pg_sub ho hi set_list ha) hs hw h1) fun D σ H ⟨kp, m, ρ, S, hS, F, h⟩ => ?_
  refine ⟨m, ρ, S, hS, F.rp, (AftS.rS h F).imp fun x S1 m1 H1 l1 hS1 h1 v rv => ?_⟩
  have F1 := F.le l1
  refine ⟨m1, ρ, S1, hS1, F1.rp, (AftS.rS h1 F1).imp fun y S2 m2 H2 l2 hS2 h2 u ru => ?_⟩
  have F2 := F1.le l2
  refine ⟨m2, ρ, S2, hS2, F2.rp, (AftS.rS h2 F2).imp fun z S3 m3 H3 l3 hS3 h3 t rt => ?_⟩
  have F3 := F2.le l3
  have rv3 := (l2.trans l3).rp rv
  have ru3 := l3.rp ru
  unfold stSet at h3
  split at h3
  · rename_i S' e
    split at e
    · rename_i n k
      split at e
      · rename_i ds hn
        obtain ⟨j, ej, rfl⟩ := Option.map_eq_some_iff.mp e
        obtain ⟨L, rfl, hL⟩ := ru3
        obtain ⟨xs, q1, q2⟩ := hS3.ob n _ L hn hL
        refine ⟨L, xs, k, j, rfl, rt, q1, by rw [q2.length]; exact ej, ?_⟩
        exact h3 m3 _ σ (Lx.sto (List.mem_of_getElem? hL) q1) (hS3.sto hL q1 (q2.set rv3)) (F3.sto (List.mem_of_getElem? hL) q1)
      · cases e
    · cases e
  · exact h3.elim

/-! ### loops -/
theorem js_for {iter : Expr} {body : List Stmt} {di : DI} {g : DG} {d : DS} {vs : List Nat} (hp : PassesOwn (model X.prog X.w) X.A X.env X.xe) (hc : X.calm = true) (hi : PI X tg iter (tI G W di)) (hg : PG X tg (tG G vs g)) (hb : PSs X body (tS G W d))
    (hs : ∀ x, foldedSetIterable iter X.env x = pure x) : PS X (.For tg iter body [] pos) (tS G W (dFor di g d)) := by
  refine ps_imp (ps_for hp hc hi hg hb hs) fun Dn σ H ⟨kp, m, ρ, S, hS, F, h⟩ => ?_
  refine ⟨kp, m, ρ, S, hS, F.rp, (AftS.rS h F).imp fun ds S1 m1 H1 l1 hS1 h1 J sv => ?_⟩
  obtain ⟨Gd, Y, wk, hGd, hY⟩ := sv
  refine for_it wk (fun i σ H => ∃ m2 ρ2 S2, Lx G kp m1 H1 m2 H ∧ Holds G m2 H S2 ∧ RpF G kp m2 H ρ2 σ ∧ AftS G W kp m2 H Dn (forRun g d (ds.drop i) ρ2 S2)) ?_ ?_ ?_ ?_
  · exact ⟨m1, ρ, S1, Lx.refl, hS1, F.le l1, h1⟩
  · rintro i σ H hi ⟨m2, ρ2, S2, l2, _⟩
    exact hGd _ H l2
  · rintro i x σ2 H2 H3 hi ⟨m2, ρ2, S2, l2, hS2, F2, h2⟩ y
    obtain ⟨s3, dd, hd, rd⟩ := hY _ H2 i x H3 l2 hi y
    rw [getElem_split hd] at h2
    have F3 : RpF G kp m2 H3 ρ2 σ2 := F2.le (Le.same s3)
    have hS3 : Holds G m2 H3 S2 := hS2.same s3
    have l3 : Lx G kp m1 H1 m2 H3 := l2.trans (Le.same s3).lx
    have h3 := AftS.later h2 (Le.same (G := G) s3).lx
    unfold forRun at h3
    cases hgd : g dd ρ2 with
    | none => rw [hgd] at h3; exact h3.elim
    | some ρ' =>
      rw [hgd] at h3
      refine ⟨m2, ρ2, S2, dd, hS3, F3.rp, rd _ l2, ρ', hgd, fun σ' bn => ?_⟩
      have F4 : RpF G kp m2 H3 ρ' σ' := ⟨bn.rp, F3.sub, fun i ds a e1 e2 => by
        obtain ⟨k1, k2⟩ := bn.own i ds e1
        exact F3.own i ds a k1 (by rw [← k2]; exact e2)⟩
      refine ⟨kp, m2, ρ', S2, hS3, F4, ?_⟩
      dsimp only at h3
      cases hr : d ρ' S2 with
      | none => rw [hr] at h3; exact h3
      | some o =>
        obtain ⟨o, S5⟩ := o
        rw [hr] at h3
        cases o with
        | nx ρ5 => exact fun m' H' σ5 l5 hS5 F5 => ⟨m', ρ5, S5, l3.trans l5, hS5, F5, AftS.later h3 l5⟩
        | ct ρ5 => exact fun m' H' σ5 l5 hS5 F5 => ⟨m', ρ5, S5, l3.trans l5, hS5, F5, AftS.later h3 l5⟩
        | br ρ5 => exact h3
        | rt v => exact h3
        | ex c ρ5 => exact h3
  · rintro σ H ⟨m2, ρ2, S2, l2, hS2, F2, h2⟩
    rw [show ds.drop ds.length = [] by simp] at h2
    exact h2 m2 H σ Lx.refl hS2 F2
theorem js_while {body : List Stmt} {t : DT} {d : DS} {n : Nat} (hp : PassesOwn (model X.prog X.w) X.A X.env X.xe) (hc : PT X c (tT G W t)) (hb : PSs X body (tS G W d)) : PS X (.While c body [] pos) (tS G W (whRun t d n)) := by
  refine ps_imp (ps_while hp hc hb) fun Dn σ H0 ⟨kp, m, ρ, S, hS, F, h⟩ => ?_
  refine ⟨fun k σ H => ∃ m2 ρ2 S2, Lx G kp m H0 m2 H ∧ Holds G m2 H S2 ∧ RpF G kp m2 H ρ2 σ ∧ AftS G W kp m2 H Dn (whRun t d k ρ2 S2), ⟨n, m, ρ, S, Lx.refl, hS, F, h⟩, ?_⟩
  rintro k σ2 H2 ⟨m2, ρ2, S2, l2, hS2, F2, h2⟩
  cases k with
  | zero => exact h2.elim
  | succ k =>
    refine ⟨m2, ρ2, S2, hS2, F2.rp, (AftS.rS h2 F2).imp fun c S3 m3 H3 l3 hS3 h3 => ?_⟩
    cases c with
    | false => exact iteF (h3 m3 H3 σ2 Lx.refl hS3 (F2.le l3))
    | true =>
      refine iteT ⟨fun σ H => ∃ m2 ρ2 S2, Lx G kp m H0 m2 H ∧ Holds G m2 H S2 ∧ RpF G kp m2 H ρ2 σ ∧ AftS G W kp m2 H Dn (whRun t d k ρ2 S2), fun σ' H' q => ⟨k, Nat.lt_succ_self k, q⟩, kp, m3, ρ2, S3, hS3, F2.le l3, ?_⟩
      have h3 : AftS G W kp m3 H3 Dn (match d ρ2 S3 with
        | some (.nx ρ2, S2) => whRun t d k ρ2 S2
        | some (.ct ρ2, S2) => whRun t d k ρ2 S2
        | some (.br ρ2, S2) => some (.nx ρ2, S2)
        | r => r) := h3
      have l23 := l2.trans l3.lx
      cases hr : d ρ2 S3 with
      | none => rw [hr] at h3; exact h3
      | some o =>
        obtain ⟨o, S5⟩ := o
        rw [hr] at h3
        cases o with
        | nx ρ5 => exact fun m' H' σ5 l5 hS5 F5 => ⟨m', ρ5, S5, l23.trans l5, hS5, F5, AftS.later h3 l5⟩
        | ct ρ5 => exact fun m' H' σ5 l5 hS5 F5 => ⟨m', ρ5, S5, l23.trans l5, hS5, F5, AftS.later h3 l5⟩
        | br ρ5 => exact h3
        | rt v => exact h3
        | ex c ρ5 => exact h3
end
end Py

/-! Part 12: calls, defs. -/
namespace Py
open PySem PySem.Spec PyProof.Rows L2
/-- a def's promise: what run does -/
def spF (G : Gc) (n : Nat) (run : List D → M D) : Sp := fun vs H Q E => ∃ m S ds, ds.length = n ∧ Holds G m H S ∧ RpL G m H ds vs ∧ Aft G m H E (run ds S) fun r _ m' H' => ∀ v, Rp G m' H' r v → Q v H'
def fnEnv (N : Nat) (ds : List D) : Env := ds.map (fun d => some (Sl.val d)) ++ List.replicate (N - ds.length) none
def endR : Res → R D
  | some (.nx _, S) => .ok .non S
  | some (.rt d, S) => .ok d S
  | some (.ex c _, S) => .exc c S
  | _ => .bad
def dFn (n N : Nat) (b : DS) : List D → M D := fun ds S => if ds.length = n then endR (b (fnEnv N ds) S) else .bad
def dCall (n : Nat) (run : List D → M D) (r : DA) : DE := fun ρ S => (r ρ S).bind fun xs S => if xs.length = n then run xs S else .bad
section
variable {G : Gc} {W : WX} {X : Cx} {e a b c tg : Expr} {m m' : Mu} {H H' : Hp} {S : Store} {σ : Sg} {pos p : Pos} {kp : Addr → Prop} {ρ : Env}
theorem RpL.start : ∀ {ds : List D} {vs : List V}, RpL G m H ds vs → ∀ (k : Nat) (i : Nat) (s : Sl), (ds.map (fun d => some (Sl.val d)) ++ List.replicate k none)[i]? = some (some s) → ∃ d v, s = .val d ∧ (vs.map some ++ List.replicate k none)[i]? = some (some v) ∧ Rp G m H d v
  | [], vs, h, k, i, s, e => by
    have e : (List.replicate k (none : Option Sl))[i]? = some (some s) := e
    rw [List.getElem?_replicate] at e
    split at e <;> cases e
  | d :: ds, vs, h, k, i, s, e => by
    obtain ⟨v, r, rfl, h1, h2⟩ := h
    cases i with
    | zero =>
      cases e
      exact ⟨d, v, rfl, rfl, h1⟩
    | succ i => exact RpL.start h2 k i s e
theorem fn_start {N : List Str} {ds : List D} {vs : List V} (hS : Holds G m H S) (r : RpL G m H ds vs) : RpF G m.O m H (fnEnv N.length ds) (L2.start N vs) := by
  have hl := r.length
  refine ⟨⟨fun i s e => ?_, fun i j es fs b e1 e2 => ?_, ?_⟩, fun a h => h, fun i es b e1 => ?_⟩
  · obtain ⟨d, v, rfl, q1, q2⟩ := r.start (N.length - ds.length) i s e
    refine ⟨v, ?_, q2⟩
    unfold L2.start
    rw [hl]
    exact q1
  · obtain ⟨d, v, z, _⟩ := r.start (N.length - ds.length) i _ e1
    cases z
  · unfold fnEnv L2.start
    simp [hl]
  · obtain ⟨d, v, z, _⟩ := r.start (N.length - ds.length) i _ e1
    cases z
/-- behind a def's body -/
theorem fn_end {r : Res} {E : XK} {Q : VK} (h : Aft G m H E (endR r) fun r _ m' H' => ∀ v, Rp G m' H' r v → Q v H') :
    AftS G (fun c x _ H' => E c x H') m.O m H { nx := fun _ H' => Q .non H', rt := Q } r := by
  have lw : ∀ {m' : Mu} {H' : Hp}, Lx G m.O m H m' H' → Le G m H ⟨m'.as, m.O⟩ H' := fun l => ⟨l.as, rfl, fun a o h n => l.kept a o h n id, l.tups, l.there⟩
  have rw' : ∀ {m' : Mu} {H' : Hp}, (∀ a, m.O a → m'.O a) → Lx G m.O m' H' ⟨m'.as, m.O⟩ H' := fun hO => ⟨⟨[], by simp, by simp⟩, fun a q => .inl (hO a q), fun a _ k => k, fun a o h _ _ => h, fun _ _ h => h, fun _ h => h⟩
  have hw : ∀ {m' : Mu} {H' : Hp} {S : Store}, (∀ a, m.O a → m'.O a) → Holds G m' H' S → Holds G ⟨m'.as, m.O⟩ H' S := fun {m' H' S} hO h => ⟨h.len, h.nd, fun n ob a e1 e2 => by
    have l := rw' (H' := H') hO
    have q := h.ob n ob a e1 e2
    cases ob with
    | lst ds =>
      obtain ⟨xs, e, r⟩ := q
      exact ⟨xs, e, l.rpL r⟩
    | frz ds =>
      obtain ⟨o, xs, e, r⟩ := q
      exact ⟨o, xs, e, l.rpL r⟩, fun a q => h.dis a (hO a q), fun a q => h.there a (hO a q)⟩
  cases r with
  | none => exact h
  | some x =>
    obtain ⟨o, S⟩ := x
    cases o with
    | nx ρ => exact fun m' H' σ' l hS F => h _ H' (lw l) (hw F.sub hS) .non rfl
    | br ρ => exact h.elim
    | ct ρ => exact h.elim
    | rt d => exact fun m' H' v l hO hS rv => h _ H' (lw l) (hw hO hS) v ((rw' hO).rp rv)
    | ex c ρ => exact fun m' H' σ' l hS F ca e => h _ H' (lw l) (hw F.sub hS) ca e
variable {P : Program} {w : World} {mg : Str → Option Value} {base : Heap}
/-- THE RULE for a def -/
theorem fn_ok {x qual : Str} {params : Arguments} {body : List Stmt} {scope : Scope} {dvs : List V} {kws : List (Str × V)} {f : Addr} {fd : FuncData} {N ps : List Str} {k n : Nat} {d : DS} (F : FunD G.K x qual params body scope dvs kws f fd) (Sc : FnScope N ps scope) (hn : ps.length = n)
    (hb : ∀ (cdv : Value) (A : Around) (outer : List PySem.Env) (s : Shared) (H : Hp) (E : XK), Room k (A.deeper (envOfC qual scope s.heap.objs.size f cdv)) →
      PSs (cxOf (L2.CX P w) P w G.K mg base N qual scope f cdv A outer s H E) body (tS G (fun c x _ H' => E c x H') d)) :
    FnOk P w G.K mg base (L2.CX P w) (k + 1) f fd ps (spF G n (dFn n N.length d)) := by
  refine F.ok Sc (fun vs H Q E ⟨m, S, ds, hl, hS, r, h⟩ => by rw [r.length, hl, hn]) fun cdv A outer s H vs Q E hr ⟨m, S, ds, hl, hS, r, h⟩ => ?_
  refine ⟨tS G (fun c x _ H' => E c x H') d, hb cdv A outer s H E hr, m.O, m, fnEnv N.length ds, S, hS, fn_start hS r, ?_⟩
  unfold dFn at h
  rw [if_pos hl] at h
  exact fn_end h
theorem je_call {f : Addr} {fd : FuncData} {ps : List Str} {n k j : Nat} {run : List D → M D} {x : Str} {es : List Expr} {r : DA} (Fn : FnOk X.prog X.w X.K X.mg X.base (L2.CX X.prog X.w) j f fd ps (spF G n run)) (hr : Room k X.A) (hj : j ≤ k) (hg : Gl X x) (hm : X.mg x = some (.ref f)) (hk : PySem.W.keepIn X.K (.ref f) = true)
    (hb : Binds X.K fd ps []) (tk : Takes X W) (ha : PA X (e :: es) (tA G W r)) (hs : (e :: es).any starB = false) (hdb : (x == ("__debug__" : Str)) = false := by decide) : PE X (.Call (.Name x p) (e :: es) [] pos) (tE G W (dCall n run r)) := by
  rw [List.any_cons, Bool.or_eq_false_iff] at hs
  refine pe_imp (pe_callS Fn (hr.mono hj) hg hm hk hb (passAt tk) ha hdb (starEach_plain hs.1) (backTo_plain hs.2)) fun σ H Q ⟨m, ρ, S, hS, hE, h⟩ => ?_
  refine ⟨m, ρ, S, hS, hE, (Aft.bind h).imp fun xs S1 m1 H1 l1 hS1 h1 vs rvs => ?_⟩
  by_cases hl : xs.length = n
  · rw [if_pos hl] at h1
    exact ⟨m1, S1, xs, hl, hS1, rvs, h1⟩
  · rw [if_neg hl] at h1; exact h1.elim
theorem je_int {x : Str} {i : Int} {t : Tok} (hg : Gl X x) (hm : X.mg x = some (.int i t)) (hd : (x == ("__debug__" : Str)) = false) : PE X (.Name x pos) (tE G W (dCst (.int i))) := je_c (pe_glob (v := .int i) hg hm ⟨t, rfl⟩ hd) fun _ _ => rfl
theorem je_str {x z : Str} {t : Tok} (hg : Gl X x) (hm : X.mg x = some (.str z t)) (hd : (x == ("__debug__" : Str)) = false) : PE X (.Name x pos) (tE G W (dCst (.str z))) := je_c (pe_glob (v := .str z) hg hm ⟨t, rfl⟩ hd) fun _ _ => rfl
theorem je_ty {x : Str} {n : String} (hg : Gl X x) (hm : X.mg x = none) (hv : bootBuiltins x = some (.type n)) (hn : x ≠ "__name__") (hd : (x == ("__debug__" : Str)) = false) : PE X (.Name x pos) (tE G W (dCst (.ty n))) := je_c (pe_bltn (v := .ty n) hg hm hv rfl hn hd) fun _ _ => rfl
end
end Py

/-! Part 13: a text's defs, by tables of facts. -/
namespace Py
open PySem PySem.Spec PyProof.Rows L2
/-- what the head's facts tell -/
structure Zf (G : Gc) (mg : Str → Option Value) (fa : List He.Fa) (fn : List He.DefD) : Prop where
  says : He.SaysD fa fn G.K
  inn : ∃ h : Heap, G.K.In h ∧ h.Ns mainGlobals mg
section
variable {G : Gc} {W : WX} {X : Cx} {e a b c tg : Expr} {m m' : Mu} {H H' : Hp} {S : Store} {σ : Sg} {pos p : Pos} {kp : Addr → Prop} {ρ : Env} {mg : Str → Option Value} {fa : List He.Fa} {fn : List He.DefD} {P : Program} {w : World} {base : Heap}
theorem Zf.glo (Z : Zf G mg fa fn) (i : Nat) {x : Str} (h : fa[i]? = some (.glo x)) : mg x = some (.ref (He.ga G.K x)) := let ⟨_, h1, h2⟩ := Z.inn; He.glo_ok h1 h2 (Z.says.fact i h)
theorem Zf.free (Z : Zf G mg fa fn) (i : Nat) {x : Str} (h : fa[i]? = some (.free x)) : mg x = none := let ⟨_, h1, h2⟩ := Z.inn; He.free_ok h1 h2 (Z.says.fact i h)
theorem Zf.int (Z : Zf G mg fa fn) (i : Nat) {x : Str} {z : Int} (h : fa[i]? = some (.int x z)) : ∃ t, mg x = some (.int z t) := let ⟨_, h1, h2⟩ := Z.inn; He.int_ok h1 h2 (Z.says.fact i h)
theorem Zf.str (Z : Zf G mg fa fn) (i : Nat) {x z : Str} (h : fa[i]? = some (.str x z)) : ∃ t, mg x = some (.str z t) := let ⟨_, h1, h2⟩ := Z.inn; He.str_ok h1 h2 (Z.says.fact i h)
def Callee (P : Program) (w : World) (G : Gc) (mg : Str → Option Value) (base : Heap) (x : Str) (k n : Nat) (ps : List Str) (run : List D → M D) : Prop :=
  ∃ f fd, mg x = some (.ref f) ∧ PySem.W.keepIn G.K (.ref f) = true ∧ Binds G.K fd ps [] ∧ FnOk P w G.K mg base (L2.CX P w) k f fd ps (spF G n run) ∧
    (∀ (s : Shared) (us : List Value), us.length = ps.length → BindsTo s fd ⟨us, []⟩ (ps.zip us)) ∧ ∃ oc od osl, G.K.lookup f = some ⟨oc, od, .func fd, osl⟩
def dfD (x : Str) (st : Stmt) : He.DefD := ⟨(x, none), x, x, defArgs st, defBody st, defScope st, [], []⟩
theorem callee_of (Z : Zf G mg fa fn) (i j : Nat) {x : Str} {st : Stmt} {N ps : List Str} {k n : Nat} {d : DS} (hi : fn[i]? = some (dfD x st)) (hj : fa[j]? = some (.glo x)) (Sc : FnScope N ps (defScope st)) (hn : ps.length = n)
    (hbd : ∀ (kV doc pm : Value) (an : Option Addr) (cdv ct : Value) (us : List Value), us.length = ps.length → bindArgs (PySem.W.fnOf x x (defArgs st) (defBody st) (defScope st) .none kV doc pm an cdv ct) ⟨us, []⟩ = pure (ps.zip us))
    (hb : ∀ (f : Addr) (cdv : Value) (A : Around) (outer : List PySem.Env) (s : Shared) (H : Hp) (E : XK), Room k (A.deeper (envOfC x (defScope st) s.heap.objs.size f cdv)) →
      PSs (cxOf (L2.CX P w) P w G.K mg base N x (defScope st) f cdv A outer s H E) (defBody st) (tS G (fun c x _ H' => E c x H') d)) : Callee P w G mg base x (k + 1) n ps (dFn n N.length d) := by
  obtain ⟨fd, F⟩ := Z.says.def_ i hi
  have F : FunD G.K x x (defArgs st) (defBody st) (defScope st) [] [] (He.ga G.K x) fd := F
  obtain ⟨oc, od, dV, kV, doc, pm, an, cdv, ct, osl, e, lk, _⟩ := F.ex
  exact ⟨_, fd, Z.glo j hj, F.kp, F.bindsN hbd, fn_ok F Sc hn (hb _), F.bindsA hbd, oc, od, osl, lk⟩
theorem je_cal {ps : List Str} {n k j : Nat} {run : List D → M D} {x : Str} {es : List Expr} {r : DA} (Fn : Callee X.prog X.w G X.mg X.base x j n ps run) (hK : X.K = G.K) (hr : Room k X.A) (hj : j ≤ k) (hg : Gl X x)
    (tk : Takes X W) (ha : PA X (e :: es) (tA G W r)) (hs : (e :: es).any starB = false) (hdb : (x == ("__debug__" : Str)) = false := by decide) : PE X (.Call (.Name x p) (e :: es) [] pos) (tE G W (dCall n run r)) := by
  obtain ⟨f, fd, h1, h2, h3, h4, _⟩ := Fn
  rw [← hK] at h2 h3 h4
  exact je_call h4 hr hj hg h1 h2 h3 tk ha hs hdb
theorem je_gint {x : Str} {i : Int} (hg : Gl X x) (hm : ∃ t, X.mg x = some (.int i t)) (hd : (x == ("__debug__" : Str)) = false := by decide) : PE X (.Name x pos) (tE G W (dCst (.int i))) := let ⟨_, h⟩ := hm; je_int hg h hd
theorem je_gstr {x z : Str} (hg : Gl X x) (hm : ∃ t, X.mg x = some (.str z t)) (hd : (x == ("__debug__" : Str)) = false := by decide) : PE X (.Name x pos) (tE G W (dCst (.str z))) := let ⟨_, h⟩ := hm; je_str hg h hd
theorem cst_int {i : Int} {j : Nat} : PE X (.Constant (.int i) j pos) (tE G W (dCst (.int i))) := je_c pe_int fun _ _ => rfl
theorem cst_bl {i : Bool} {j : Nat} : PE X (.Constant (.bool i) j pos) (tE G W (dCst (.bl i))) := je_c pe_bl fun _ _ => rfl
theorem cst_str {i : Str} {j : Nat} : PE X (.Constant (.str i) j pos) (tE G W (dCst (.str i))) := je_c pe_str fun _ _ => rfl
theorem cst_non {j : Nat} : PE X (.Constant .none j pos) (tE G W (dCst .non)) := je_c pe_non fun _ _ => rfl
def dYes : DT := fun _ S => .ok true S
theorem jts_nil : PTs X [] (tT G W dYes) := ⟨fun pins s σ H Q I ⟨m, ρ, S, hS, hE, h⟩ => pts_nil.run pins s σ H Q I (h.ok hS)⟩
theorem jts_one {t : DT} (h : PT X c (tT G W t)) : PTs X [c] (tT G W t) := pts_one h
theorem jw1_and {t : DT} (h : PT X a (tT G W t)) : PW X (.BoolOp .And [a] pos) (tT G W t) := pw_and1 h
theorem jw1_or {t : DT} (h : PT X a (tT G W t)) : PW X (.BoolOp .Or [a] pos) (tT G W t) := pw_or1 h
theorem lc_of {di : DI} {g : DG} {t : DT} {de : DE} {vs : List Nat} {Q : VK} (h : tL G W (dLc di g t de vs) σ H Q) : tLc (tIw G W di) (tG G vs g) (tT G WN t) (tE G WN de) vs σ H Q :=
  let ⟨_, _, _, hS, hE, h⟩ := h; lcT vs hS hE h
theorem huR {k : Nat} {A : Around} (hr : Room k A) : A.units + 200 < cLine := by have := hr.un; omega
theorem js_setV {i : Nat} {d : DE} {st : Stmt} (h : PS X st (tAsg (tE G W d) (gName i))) : PS X st (tS G W (dSet i (qV d))) := js_set (asg_imp h fun _ _ _ q => tE_of q)
theorem js_setO {i : Nat} {d : DA} {st : Stmt} (h : PS X st (tAsg (tL G W d) (gName i))) : PS X st (tS G W (dSet i (qO d))) := js_set (asg_imp h fun _ _ _ q => tL_of q)
theorem js_lcV {i : Nat} {di : DI} {g : DG} {t : DT} {de : DE} {vs : List Nat} {st : Stmt} (h : PS X st (tAsg (tLc (tIw G W di) (tG G vs g) (tT G WN t) (tE G WN de) vs) (gName i))) : PS X st (tS G W (dSet i (qV (dLst (dLc di g t de vs))))) :=
  js_set (asg_imp h fun _ _ _ q => lc_of (tL_frz (tE_of q)))
theorem js_lcO {i : Nat} {di : DI} {g : DG} {t : DT} {de : DE} {vs : List Nat} {st : Stmt} (h : PS X st (tAsg (tLc (tIw G W di) (tG G vs g) (tT G WN t) (tE G WN de) vs) (gName i))) : PS X st (tS G W (dSet i (qO (dLc di g t de vs)))) :=
  js_set (asg_imp h fun _ _ _ q => lc_of (tL_of q))
theorem qV_of {d : DE} (h : PE X e (tE G W d)) : PE X e (tQ G W (qV d)) := pe_imp h fun _ _ _ q => tE_of q
theorem qO_of {d : DA} (h : PE X e (tL G W d)) : PE X e (tQ G W (qO d)) := pe_imp h fun _ _ _ q => tL_of q
end
end Py

/-! Part 14: pairs of values bound to names one after the other. -/
namespace Py
open PySem PySem.Spec PyProof.Rows L2
section
variable {G : Gc} {W : WX} {X : Cx} {e a b c tg : Expr} {m m' : Mu} {H H' : Hp} {S : Store} {σ : Sg} {pos p : Pos} {kp : Addr → Prop} {ρ : Env} {st : Stmt} {Dn : Ends}
def dDisp (r : DA) : DA := fun ρ S => (r ρ S).bind fun xs S => if xs.length ≤ sizeLine then .ok xs S else .bad
theorem jl_disp {es : List Expr} {r : DA} (ha : PA X es (tA G W r)) : PE X (.List es pos) (tL G W (dDisp r)) := jl_lst (k := 0) ha
/-- a new tuple of what was just made -/
theorem RpF.laid {q : Addr} {o : HO} (F : RpF G kp m H ρ σ) (hp : H q = none) : RpF G kp m (L2.upd H q o) ρ σ := F.le (Le.same (Same.new hp))
theorem js_tup2 {i j : Nat} {q q' : DQ} (hK : X.K = G.K) (h : PS X st (tAsg (tTup (tCons (tQ G W q) (tCons (tQ G W q') tNil))) (gTup X.K 2 (gCons (gName i) (gCons (gName j) gNil))))) : PS X st (tS G W (dPar2 i j q q')) := ps_imp h fun D σ H ⟨kp, m, ρ, S, hS, F, h⟩ =>
  ⟨m, ρ, S, hS, F.rp, AftS.rQ h F fun s S1 m1 H1 v l hS1 r fr h1 => by
    have F1 : RpF G kp m1 H1 ρ σ := ⟨F.rp.lx l, fun a h => l.O2 a (F.sub a h) trivial, F.own⟩
    refine ⟨m1, ρ, S1, hS1, F1.rp, AftS.rQ h1 F1 fun s' S2 m2 H2 v' l2 hS2 r' fr' h2 => ⟨by show 2 ≤ sizeLine; decide, fun T hT => ?_⟩⟩
    have F2 : RpF G kp m2 H2 (ρ.set i (some s)) (σ.set i (some v)) := F.take hS (l.trans l2) (l2.rps r) fr i
    have F4 : RpF G kp m2 H2 ((ρ.set i (some s)).set j (some s')) ((σ.set i (some v)).set j (some v')) := by
      refine F2.setS r' j fun ds a e1 e2 => ⟨fun z => hS1.there a (F1.sub a z) (fr' ds a e1 e2), fun k es _ k1 k2 => ?_⟩
      have F3 : RpF G kp m1 H1 (ρ.set i (some s)) (σ.set i (some v)) := F.take hS l r fr i
      obtain ⟨_, _, xs, z, _⟩ := F3.rp.known k1 k2
      rw [fr' ds a e1 e2] at z; cases z
    exact ⟨T, [v, v'], rfl, SqT.of upd_same, rfl, v, [v'], rfl, v', [], rfl, rfl, h2 m2 _ _ (Le.same (Same.new hT)).lx (hS2.laid hT) (F4.laid hT)⟩⟩
theorem js_tup3 {i j n : Nat} {q q' q'' : DQ} (hK : X.K = G.K) (h : PS X st (tAsg (tTup (tCons (tQ G W q) (tCons (tQ G W q') (tCons (tQ G W q'') tNil)))) (gTup X.K 3 (gCons (gName i) (gCons (gName j) (gCons (gName n) gNil)))))) : PS X st (tS G W (dPar3 i j n q q' q'')) := ps_imp h fun D σ H ⟨kp, m, ρ, S, hS, F, h⟩ =>
  ⟨m, ρ, S, hS, F.rp, AftS.rQ h F fun s S1 m1 H1 v l hS1 r fr h1 => by
    have F1 : RpF G kp m1 H1 ρ σ := ⟨F.rp.lx l, fun a h => l.O2 a (F.sub a h) trivial, F.own⟩
    refine ⟨m1, ρ, S1, hS1, F1.rp, AftS.rQ h1 F1 fun s' S2 m2 H2 v' l2 hS2 r' fr' h2 => ?_⟩
    have F2 : RpF G kp m2 H2 ρ σ := ⟨F1.rp.lx l2, fun a h => l2.O2 a (F1.sub a h) trivial, F1.own⟩
    refine ⟨m2, ρ, S2, hS2, F2.rp, AftS.rQ h2 F2 fun s'' S3 m3 H3 v'' l3 hS3 r'' fr'' h3 => ⟨by show 3 ≤ sizeLine; decide, fun T hT => ?_⟩⟩
    have A1 : RpF G kp m1 H1 (ρ.set i (some s)) (σ.set i (some v)) := F.take hS l r fr i
    have A2 : RpF G kp m2 H2 ((ρ.set i (some s)).set j (some s')) ((σ.set i (some v)).set j (some v')) := A1.take hS1 l2 r' fr' j
    have A3 := A2.take hS2 l3 r'' fr'' n
    exact ⟨T, [v, v', v''], rfl, SqT.of upd_same, rfl, v, [v', v''], rfl, v', [v''], rfl, v'', [], rfl, rfl, h3 m3 _ _ (Le.same (Same.new hT)).lx (hS3.laid hT) (A3.laid hT)⟩⟩
end
end Py

/-! Part 15: the law's end. -/
namespace Py
open PySem PySem.Spec PyProof.Rows L2
/-- no list among the text's own objects -/
def noL (K : PySem.W.Frag) : Bool := K.all fun x => match x.2.cls with
  | .type c => c != "list"
  | _ => true
theorem mem_lk {a : Addr} {o : Obj} : ∀ {K : PySem.W.Frag}, K.lookup a = some o → (a, o) ∈ K
  | [], e => nomatch (show (none : Option Obj) = some o from e)
  | (b, u) :: r, e => by
    have e2 : (match a == b with | true => some u | false => List.lookup a r) = some o := e
    cases q : (a == b) with
    | true =>
      rw [q] at e2
      rw [beq_iff_eq.mp q, Option.some.inj e2]
      exact List.mem_cons_self
    | false =>
      rw [q] at e2
      exact List.mem_cons_of_mem _ (mem_lk e2)
theorem noL_ok {K : PySem.W.Frag} {a : Addr} {o : Obj} (h : noL K = true) (e : K.lookup a = some o) (c : o.cls = .type "list") : False := by
  have hm : (a, o) ∈ K := mem_lk e
  have := List.all_eq_true.mp h _ hm
  rw [c] at this
  exact absurd this (by decide)
def obN (n : Nat) (fa : List He.Fa) (fn : List He.DefD) (g : Addr → Option Obj) : Bool × He.AlD := (noL (He.frG g (He.asD g n)), He.obsD fa fn (He.frG g (He.asD g n)))
def hookN (n : Nat) (fa : List He.Fa) (fn : List He.DefD) : PySem.W.Hook where
  α := Bool × He.AlD
  obs := fun s => obN n fa fn s.heap.get?
  val := fun _ => (true, He.valD fn)
  says := fun _ h => ∃ K : PySem.W.Frag, K.In h ∧ He.SaysD fa fn K ∧ noL K = true
  of := fun _ _ e => ⟨_, He.frG_in, congrArg Prod.snd e, congrArg Prod.fst e⟩
  keeps := fun _ _ _ ⟨K, hK, c⟩ k => ⟨K, PySem.W.Frag.In.keeps hK k, c⟩
theorem obN_eq {n : Nat} {fa : List He.Fa} {fn : List He.DefD} {g : Addr → Option Obj} {s : Shared} (h : ∀ a, g a = s.heap.get? a) : obN n fa fn g = (hookN n fa fn).obs s := by
  have e : g = s.heap.get? := funext h
  rw [e] <;> rfl
/-- a law: as walk_ofE, the bits told, no list in the text -/
theorem walk_N {l : PySem.W.OpenLaw} {n k : Nat} {q : Program} {loose : List Str} {XP : (Str → Option Value) → Heap → Prop} {YP : World → Heap → Prop} {d : DefRec} {CX : Program → World → CXT} {x : Str}
    (hn : l.most = some n) (hn2 : n ≤ sizeLine) (hdf : d.params.defaults = []) (hr : Room k callerA)
    (F : ∀ (w : World) (mg : Str → Option Value) (fa : Addr) (h : Heap), YP w h → h.Ns mainGlobals mg → mg d.name = some (.ref fa) →
      ∃ (K : PySem.W.Frag) (fd : FuncData) (sp : Sp), K.In h ∧ (∀ (s : Shared) (u : Value), BindsTo s fd ⟨[u], []⟩ [(x, u)]) ∧
        (∀ (H : Hp) (a : Addr) (ns : List Int), ns.length ≤ n → (∀ z ∈ ns, Builtin.Int.intBits z ≤ 1048576) → Only H → SqL K H a (ns.map V.int) → sp [.ref a] H (fun v _ => v = .bl true) fun _ _ _ => False) ∧
        ∀ base : Heap, K.In base → base.Ns mainGlobals mg → FnOk l.prog w K mg base (CX l.prog w) k fa fd [x] sp)
    (hCX : ∀ (w : World) (H : Hp) (s : Shared) (e : Value) (s' : Shared), CX l.prog w [] H s (fun _ _ _ => False) e s' → False) :
    PySem.W.WalkO q loose XP YP l.row.toRowW d [] (fun f vs => PySem.call f vs) := by
  refine Att.attach_callB hn hdf fun w s₀ s₁ mg mb fa o pm cd doc a vs ns G Y ho hd hcd hmg hobj hints hlen hbits hg => ?_
  obtain ⟨K, fd, sp, KX, hb, hsp, hF⟩ := F w mg fa _ Y G.T.g hmg
  exact law_call KX G.T.g G.T.b G.T.builtins G.T.nolimit hg hobj hints (Nat.le_trans hlen hn2) hr hF hb (fun H hO hS => hsp H a ns hlen hbits hO hS) fun H e s' => hCX w H s₁ e s'
/-- the law's def on the script gives True -/
theorem sp_law {G : Gc} {run : List D → M D} {H : Hp} {a : Addr} {ns : List Int} (nl : noL G.K = true) (hO : Only H) (hS : SqL G.K H a (ns.map V.int)) (h : ∃ S', run [.ref 0] [.frz (ns.map D.int)] = .ok (.bl true) S') :
    spF G 1 run [.ref a] H (fun v _ => v = .bl true) fun _ _ _ => False := by
  obtain ⟨o, hf⟩ : ∃ o, H a = some (.frz o (.lst (ns.map V.int))) := by
    rcases hS with (q | ⟨o, q⟩) | ⟨o, its, n, q1, q2, _⟩
    · rcases hO a with z | ⟨o, xs, z⟩
      · rw [q] at z; cases z
      · rw [q] at z; cases z
    · exact ⟨o, q⟩
    · exact (noL_ok nl q1 q2).elim
  obtain ⟨S', hr⟩ := h
  refine ⟨⟨[a], fun _ => False⟩, [.frz (ns.map D.int)], [.ref 0], rfl, ⟨rfl, by simp, fun n ob b e1 e2 => ?_, fun _ z => z.elim, fun _ z => z.elim⟩, ⟨.ref a, [], rfl, ⟨a, rfl, rfl⟩, rfl⟩, ?_⟩
  · cases n with
    | zero =>
      cases e1
      cases e2
      exact ⟨o, ns.map V.int, hf, RpL.ofInts ns⟩
    | succ n => cases e1
  · rw [hr]
    exact fun m' H' l hS v rv => rv
theorem cx_none {P : Program} {w : World} {outer : List PySem.Env} {H : Hp} {s : Shared} {e : Value} {s' : Shared} (h : L2.CX P w outer H s (fun _ _ _ => False) e s') : False := by
  obtain ⟨_, _, _, _, _, _, _, _, _, _, _, _, z⟩ := h
  exact z
/-- the end, from the law's def as one of the text's -/
theorem end_of {P : Program} {w : World} {mg : Str → Option Value} {fa : Addr} {h : Heap} {fas : List He.Fa} {fn : List He.DefD} {k : Nat} {run : List D → M D} {n : Nat}
    (ok : ∀ (G : Gc) (base : Heap), Zf G mg fas fn → Callee P w G mg base "law" k 1 ["script"] run)
    (Y : ∃ K : PySem.W.Frag, K.In h ∧ He.SaysD fas fn K ∧ noL K = true) (G : h.Ns mainGlobals mg) (hmg : mg "law" = some (.ref fa))
    (hl : ∀ ns : List Int, ns.length ≤ n → (∀ z ∈ ns, Builtin.Int.intBits z ≤ 1048576) → ∃ S', run [.ref 0] [.frz (ns.map D.int)] = .ok (.bl true) S') :
    ∃ (K : PySem.W.Frag) (fd : FuncData) (sp : Sp), K.In h ∧ (∀ (s : Shared) (u : Value), BindsTo s fd ⟨[u], []⟩ [("script", u)]) ∧
        (∀ (H : Hp) (a : Addr) (ns : List Int), ns.length ≤ n → (∀ z ∈ ns, Builtin.Int.intBits z ≤ 1048576) → Only H → SqL K H a (ns.map V.int) → sp [.ref a] H (fun v _ => v = .bl true) fun _ _ _ => False) ∧
        ∀ base : Heap, K.In base → base.Ns mainGlobals mg → FnOk P w K mg base (L2.CX P w) k fa fd ["script"] sp := by
  obtain ⟨K, KX, c, nl⟩ := Y
  have Z : Zf ⟨K, fun _ => none⟩ mg fas fn := ⟨c, h, KX, G⟩
  obtain ⟨f, fd, h1, h2, h3, _, h5, oc, od, osl, h6⟩ := ok ⟨K, fun _ => none⟩ h Z
  rw [hmg] at h1
  cases h1
  refine ⟨K, fd, spF ⟨K, fun _ => none⟩ 1 run, KX, fun s u => h5 s [u] rfl, fun H a ns hlen hb hO hS => sp_law (G := ⟨K, fun _ => none⟩) nl hO hS (hl ns hlen hb), fun base _ _ => ?_⟩
  obtain ⟨f', fd', k1, k2, k3, k4, k5, oc', od', osl', k6⟩ := ok ⟨K, fun _ => none⟩ base Z
  rw [hmg] at k1
  cases k1
  have e : some (⟨oc, od, .func fd, osl⟩ : Obj) = some ⟨oc', od', .func fd', osl'⟩ := h6.symm.trans k6
  cases e
  exact k4
end Py

set_option maxHeartbeats 4000000
/-! Part 16: an empty dict, slices with a step, a list that is a sum, == of tuples of anything and (). -/
namespace Py
open PySem PySem.Spec PyProof.Rows L2
section
variable {G : Gc} {X : Cx} {W : WX} {m : Mu} {H : Hp} {S : Store} {e a b : Expr} {pos : Pos}
/-- {} -/
theorem je_emp : PE X (.Dict [] [] pos) (tE G W (dCst .emp)) :=
  pe_imp pe_dnewK fun σ H Q ⟨m, ρ, S, hS, hE, h⟩ => fun p hp => h m _ (Le.same (Same.new hp)) (hS.same (Same.new hp)) (.ref p) ⟨p, rfl, upd_same, hS.fresh hp⟩
/-- xs + ys, a list of its own -/
def dCatL (a b : DE) : DA := fun ρ S => (a ρ S).bind fun x S => (b ρ S).bind fun y S => match x, y with
  | .lst ds, .lst es => if ds.length + es.length ≤ sizeLine then .ok (ds ++ es) S else .bad
  | _, _ => .bad
theorem jl_cat {da db : DE} (ha : PE X a (tR G W da)) (hb : PE X b (tR G W db)) : PE X (.BinOp a .Add b pos) (tL G W (dCatL da db)) :=
  pe_imp (pe_op op_cat ha hb) fun σ H Q ⟨m, ρ, S, hS, hE, h⟩ => ⟨m, ρ, S, hS, hE, (AftL.of h).imp fun x S1 m1 H1 l1 hS1 h1 v rv => ⟨m1, ρ, S1, hS1, hE.le l1, (AftL.of h1).imp fun y S2 m2 H2 l2 hS2 h2 u ru => by
    cases x with
    | lst ds =>
      cases y with
      | lst es =>
        have h2 : AftL G m2 H2 (fun c x H' => W c x σ H') (if ds.length + es.length ≤ sizeLine then R.ok (ds ++ es) S2 else R.bad) Q := h2
        by_cases hz : ds.length + es.length ≤ sizeLine
        · rw [if_pos hz] at h2
          have rv := l2.rt rv
          obtain ⟨p, xs, rfl, q1, _, q2⟩ := rv
          obtain ⟨p', ys, rfl, q3, _, q4⟩ := ru
          exact ⟨p, p', xs, ys, rfl, rfl, q1, q3, by rw [q2.length, q4.length]; exact hz, fun l hl => AftL.new h2 hS2 (q2.append q4) hl⟩
        · rw [if_neg hz] at h2; exact h2.elim
      | _ => exact h2.elim
    | _ => exact h2.elim⟩⟩
/-! ### slices with a step -/
theorem Vals.pick {xs : List V} {us : List Value} (r : Vals xs us) : ∀ l : List Nat, Vals (l.filterMap (xs[·]?)) (l.filterMap (us[·]?))
  | [] => .nil
  | i :: l => by
    cases e : xs[i]? with
    | none =>
      have e2 := r.none_of e
      rw [List.filterMap_cons_none e, List.filterMap_cons_none e2]
      exact Vals.pick r l
    | some x =>
      obtain ⟨u, e2, q⟩ := r.get e
      rw [List.filterMap_cons_some e, List.filterMap_cons_some e2]
      exact .cons q (Vals.pick r l)
theorem RpL.pick {ds : List D} {xs : List V} (r : RpL G m H ds xs) : ∀ l : List Nat, RpL G m H (l.filterMap (ds[·]?)) (l.filterMap (xs[·]?))
  | [] => rfl
  | i :: l => by
    cases e : ds[i]? with
    | none =>
      have e2 : xs[i]? = none := by
        rw [List.getElem?_eq_none_iff] at e ⊢
        rw [r.length]; exact e
      rw [List.filterMap_cons_none e, List.filterMap_cons_none e2]
      exact RpL.pick r l
    | some x =>
      obtain ⟨u, e2, q⟩ := r.get e
      rw [List.filterMap_cons_some e, List.filterMap_cons_some e2]
      exact ⟨u, _, rfl, q, RpL.pick r l⟩
theorem RpL.rev : ∀ {ds : List D} {xs : List V}, RpL G m H ds xs → RpL G m H ds.reverse xs.reverse
  | [], _, h => by
    have h : _ = [] := h
    rw [h]; rfl
  | d :: ds, _, ⟨v, r, e, h1, h⟩ => by
    subst e
    rw [List.reverse_cons, List.reverse_cons]
    exact (RpL.rev h).append ⟨v, [], rfl, h1, rfl⟩
/-- the places of [::k] -/
def stepIx (n : Nat) (k : Int) : List Nat := sliceRange (sliceBounds none none (some k) n).1 (sliceBounds none none (some k) n).2.1 (sliceBounds none none (some k) n).2.2
def stepD (ds : List D) (k : Int) : List D := (stepIx ds.length k).filterMap (ds[·]?)
/-- xs[::k], a list | t[::-1] -/
def dStepL (k : Int) (a : DE) : DE := fun ρ S => (a ρ S).bind fun x S => match x with
  | .lst ds => .ok (.lst (stepD ds k)) S
  | _ => .bad
def dRevT (a : DE) : DE := fun ρ S => (a ρ S).bind fun x S => match x with
  | .tup ds => .ok (.tup ds.reverse) S
  | _ => .bad
theorem pe_stepL {te : TE} {i : Nat} {k : Nat} {p1 p3 : Pos} (hi : i ≠ 0) (he : PE X e te) : PE X (.Subscript e (.Slice none none (some (.Constant (.int (i : Nat)) k p1)) p3) pos)
    (fun σ H Q => te σ H fun x H1 => ∃ a xs, x = .ref a ∧ SqL X.K H1 a xs ∧ ∀ p, H1 p = none → Q (.ref p) (upd H1 p (.lst ((stepIx xs.length (i : Nat)).filterMap (xs[·]?))))) := by
  refine ⟨fun pins s σ H Q I h => ?_⟩
  refine Subscript_ (thn (he.run pins s σ H _ I h) fun v s1 ⟨x, H1, I1, r1, q1⟩ => ?_)
  obtain ⟨a, xs, ex, hx, q⟩ := q1
  subst ex
  cases r1
  have hst : PO X (some (.Constant (.int (i : Nat)) k p1)) (tPart (tC (.int (i : Nat)))) := po_some pe_int
  refine wpAny_Slice (thn (po_none.run pins s1 σ H1 (fun o H2 => o = none ∧ H2 = H1) I1 ⟨rfl, rfl⟩) fun vl s2 ⟨l, H2, I2, pl, el, e2⟩ => ?_)
  subst el e2
  refine thn (po_none.run pins s2 σ H2 (fun o H3 => o = none ∧ H3 = H2) I2 ⟨rfl, rfl⟩) fun vu s3 ⟨u, H3, I3, pu, eu, e3⟩ => ?_
  subst eu e3
  refine thn (hst.run pins s3 σ H3 (fun o H4 => o = some ((i : Nat) : Int) ∧ H4 = H3) I3 ⟨_, rfl, rfl, rfl⟩) fun vs s4 ⟨o, H4, I4, ps, eo, e4⟩ => ?_
  subst eo e4
  have I5 : Inv X pins σ H4 { s4 with heap := s4.heap.push { cls := .type "slice", data := .fields #[vl, vu, vs] } } := I4.kept (t' := s4.toks) fun b ob q => Heap.get?_push_of_some _ q
  obtain ⟨its, r, ht, hz⟩ := I5.list hx
  have hlen := r.length
  show wpAny (model X.prog X.w) X.A (subscriptTail e (.Slice none none (some (.Constant (.int (i : Nat)) k p1)) p3) (.ref a) (.ref s4.heap.objs.size)) (EP X pins σ Q) X.xe { s4 with heap := s4.heap.push { cls := .type "slice", data := .fields #[vl, vu, vs] } }
  refine tail_any (ops := [.ref a, .ref s4.heap.objs.size]) ht.isList.typeIs (PySem.slot_list_getitem.lookup) ?_ (by with_unfolding_all rfl)
  refine wpAny_getItem_list_slice ht.isList (Heap.IsSliceOf.new _ vl vu vs) pl pu ps (by simp; omega) ?_ (by rw [List.size_toArray]; omega)
  have ep : slicePick its.toArray none none (some ((i : Nat) : Int)) = ((stepIx xs.length (i : Nat)).filterMap (its[·]?)).toArray := by
    unfold slicePick stepIx
    rw [List.size_toArray, hlen]
    simp
  rw [ep]
  refine ⟨.ref _, _, I5.laid (t' := s4.toks) (o := .lst ((stepIx xs.length (i : Nat)).filterMap (xs[·]?))) (fun b ob q => Heap.get?_push_of_some _ q) (Nat.le_refl _) ?_, rfl, q _ (I5.hok.fresh (Nat.le_refl _))⟩
  refine ⟨?_, _, 0, Vals.pick r _, Heap.get?_push_size _ rfl⟩
  have h1 := slicePick_size_le its.toArray none none (some ((i : Nat) : Int))
  rw [ep, List.size_toArray, List.size_toArray] at h1
  rw [(Vals.pick r _).length]
  omega
theorem je_stepL {d : DE} {i : Nat} {k : Nat} {p1 p3 : Pos} (hK : X.K = G.K) (hi : i ≠ 0) (h : PE X e (tR G W d)) : PE X (.Subscript e (.Slice none none (some (.Constant (.int (i : Nat)) k p1)) p3) pos) (tE G W (dStepL (i : Nat) d)) :=
  pe_imp (pe_stepL hi h) fun σ H Q ⟨m, ρ, S, hS, hE, h⟩ => ⟨m, ρ, S, hS, hE, (Aft.bind h).imp fun x S1 m1 H1 l1 hS1 h1 v rv => by
    cases x with
    | lst ds =>
      obtain ⟨p, xs, rfl, q1, _, q2⟩ := rv
      have h1 : rRes G m1 H1 S1 (.lst (stepD ds (i : Nat))) Q := h1
      refine ⟨p, xs, rfl, by rw [hK]; exact SqL.of q1, fun l hl => h1.lst hS1 hl ?_⟩
      unfold stepD
      rw [← q2.length]
      exact q2.pick _
    | _ => exact h1.elim⟩
theorem sliceApplied_rev {s : Shared} {A : Around} {prog : Program} {w : World} {E : Value → Shared → Prop} {sl : Addr} {vl vu vs : Value} {n : Nat} {Q : Int × Int × Nat → Shared → Prop} (hs : s.heap.IsSliceOf sl vl vu vs) (pl : IsPart vl none) (pu : IsPart vu none) (ps : IsPart vs (some (-1)))
    (h : Q ((n : Int) - 1, -1, n) s) : wpAny (model prog w) A (Builtin.Slice.sliceApplied (.ref sl) (pure (n : Int))) Q E s := by
  obtain ⟨os, hos, hcs, hds⟩ := id hs
  unfold Builtin.Slice.sliceApplied Builtin.Slice.sliceFields
  refine wpAny_bind (wpAny_bind (wpAny_field hos hds (x := vl) rfl (wpAny_bind (wpAny_field hos hds (x := vu) rfl (wpAny_bind (wpAny_field hos hds (x := vs) rfl (wpAny_pure ?_)))))))
  refine wpAny_bind (HT.slicePart_ ps ?_)
  show wpAny _ _ (if ((-1 : Int) == 0) = true then _ else _) _ _ s
  rw [if_neg (by decide)]
  refine wpAny_bind (HT.slicePart_ pl (wpAny_bind (HT.slicePart_ pu (wpAny_bind (wpAny_pure ?_)))))
  show wpAny _ _ (match Builtin.Slice.sliceAdjust none none (-1) (n : Int) with | (lo, hi) => pure (lo, (-1 : Int), Builtin.Slice.slicePlaces lo hi (-1))) _ _ s
  have e1 : Builtin.Slice.sliceAdjust none none (-1) (n : Int) = ((n : Int) - 1, -1) := rfl
  rw [e1]
  show wpAny _ _ (pure ((n : Int) - 1, (-1 : Int), Builtin.Slice.slicePlaces ((n : Int) - 1) (-1) (-1))) _ _ s
  have e2 : Builtin.Slice.slicePlaces ((n : Int) - 1) (-1) (-1) = n := by
    unfold Builtin.Slice.slicePlaces
    rw [if_neg (by decide)]
    by_cases hn : n = 0
    · subst hn; rfl
    · rw [if_pos (by omega)]
      have : ((n : Int) - 1 - -1 - 1) / (- -1) + 1 = n := by
        rw [show (- -1 : Int) = 1 by decide, Int.ediv_one]; omega
      rw [this]; simp
  rw [e2]
  exact wpAny_pure h
theorem fm_congr {α β : Type} {f g : α → Option β} : ∀ l : List α, (∀ x ∈ l, f x = g x) → l.filterMap f = l.filterMap g
  | [], _ => rfl
  | x :: l, h => by
    have h1 := h x List.mem_cons_self
    have h2 := fm_congr l fun y hy => h y (List.mem_cons_of_mem _ hy)
    cases e : f x with
    | none => rw [List.filterMap_cons_none e, List.filterMap_cons_none (h1 ▸ e), h2]
    | some y => rw [List.filterMap_cons_some e, List.filterMap_cons_some (h1 ▸ e), h2]
theorem pick_rev (xs : Array Value) : ((List.range xs.size).filterMap fun (m : Nat) => xs[(((xs.size : Int) - 1) + (m : Int) * (-1)).toNat]?).toArray = xs.toList.reverse.toArray := by
  have e : ∀ m ∈ List.range xs.size, xs[(((xs.size : Int) - 1) + (m : Int) * (-1)).toNat]? = xs.toList.reverse[m]? := fun m hm => by
    have hm := List.mem_range.mp hm
    have : (((xs.size : Int) - 1) + (m : Int) * (-1)).toNat = xs.size - 1 - m := by omega
    rw [this, List.getElem?_reverse (by simpa using hm)]
    simp
  have e2 : (List.range xs.size).filterMap (fun (m : Nat) => xs[(((xs.size : Int) - 1) + (m : Int) * (-1)).toNat]?) = (List.range xs.size).filterMap fun m => xs.toList.reverse[m]? := by
    exact fm_congr _ e
  rw [e2]
  have := PySem.W.krv_all xs.toList.reverse.toArray
  simp only [List.size_toArray, List.length_reverse, Array.length_toList, List.getElem?_toArray] at this
  rw [this]
theorem getItem_tuple_rev {s : Shared} {A : Around} {prog : Program} {w : World} {E : Value → Shared → Prop} {t sl : Addr} {items : Array Value} {vl vu vs : Value} {Q : Value → Shared → Prop} (ht : IsTup s.heap t items) (hs : s.heap.IsSliceOf sl vl vu vs) (pl : IsPart vl none) (pu : IsPart vu none) (ps : IsPart vs (some (-1)))
    (h : Q (.ref s.heap.objs.size) { s with heap := s.heap.push { cls := .type "tuple", data := .seq items.toList.reverse.toArray } })
    (hsz : items.size ≤ sizeLine) : wpAny (model prog w) A (getItem (.ref t) (.ref sl)) Q E s := by
  have htake : sizeOk (.seq items.toList.reverse.toArray) := by
    show items.toList.reverse.toArray.size ≤ sizeLine
    simpa using hsz
  obtain ⟨os, hos, hcs, hds⟩ := id hs
  have hTs : s.TypeIs (.ref sl) "slice" := ⟨os, hos, hcs⟩
  unfold getItem
  try with_reducible refine wpAny_holding ?_
  first | refine wpAny_bind (wpAny_pure ?_) | skip
  refine wpAny_bind (wpAny_sequenceKey ht.typeIs (by decide) ?_)
  refine wpAny_bind (wpAny_callSpecial?_slot (name := Str.ofString "__getitem__") ht.typeIs PyProof.Rows.slot_tuple_getitem
    (wpAny_call_entry PyProof.Rows.slot_tuple_getitem ht.typeIs entry_tuple_getitem ?_ (args_tuple_getitem _ _)))
  show wpAny _ _ (Builtin.Tuple.tupleItemsOf (.ref t) >>= _) _ _ s
  refine wpAny_bind (PyProof.Rows.tupleItemsOf_ ht ?_)
  refine wpAny_bind (wpAny_typeOf hTs ?_)
  rw [if_pos (by decide)]
  refine wpAny_bind (sliceApplied_rev hs pl pu ps ?_)
  have hno : ¬ ((((items.size : Int) - 1) == 0 && (-1 : Int) == 1 && items.size == items.size) = true) := by
    intro q
    rw [Bool.and_eq_true, Bool.and_eq_true] at q
    exact absurd q.1.2 (by decide)
  show wpAny _ _ (if (((items.size : Int) - 1) == 0 && (-1 : Int) == 1 && items.size == items.size) = true then _ else _) _ _ s
  rw [if_neg hno, pick_rev]
  first
    | exact wpAny_bind (m := Builtin.Tuple.tupleExact _) (wpAny_newObj_type (wpAny_pure ⟨_, rfl, wpAny_pure h⟩) htake)
    | exact wpAny_bind (m := Builtin.Tuple.tupleExact _) (wpAny_newObj_type (wpAny_bind (wpAny_pure (wpAny_pure ⟨_, rfl, wpAny_pure h⟩))) htake)
    | exact wpAny_bind (wpAny_bind (m := Builtin.Tuple.tupleExact _) (wpAny_newObj_type (wpAny_pure (wpAny_pure ⟨_, rfl, wpAny_pure h⟩)) htake))
    | exact wpAny_bind (wpAny_bind (m := Builtin.Tuple.tupleExact _) (wpAny_newObj_type (wpAny_pure ⟨_, rfl, wpAny_pure h⟩) htake))
theorem pe_revT {te : TE} {k : Nat} {p1 p2 p3 : Pos} (he : PE X e te) : PE X (.Subscript e (.Slice none none (some (.UnaryOp .USub (.Constant (.int 1) k p1) p2)) p3) pos)
    (fun σ H Q => te σ H fun x H1 => ∃ a xs, x = .ref a ∧ SqT X.K H1 a xs ∧ ∀ p, H1 p = none → Q (.ref p) (upd H1 p (.tup xs.reverse))) := by
  refine ⟨fun pins s σ H Q I h => ?_⟩
  refine Subscript_ (thn (he.run pins s σ H _ I h) fun v s1 ⟨x, H1, I1, r1, q1⟩ => ?_)
  obtain ⟨a, xs, ex, hx, q⟩ := q1
  subst ex
  cases r1
  have hst : PO X (some (.UnaryOp .USub (.Constant (.int 1) k p1) p2)) (tPart (tUn (rU fun i => .int (-i)) (tC (.int 1)))) := po_some (pe_un un_neg pe_int)
  refine wpAny_Slice (thn (po_none.run pins s1 σ H1 (fun o H2 => o = none ∧ H2 = H1) I1 ⟨rfl, rfl⟩) fun vl s2 ⟨l, H2, I2, pl, el, e2⟩ => ?_)
  subst el e2
  refine thn (po_none.run pins s2 σ H2 (fun o H3 => o = none ∧ H3 = H2) I2 ⟨rfl, rfl⟩) fun vu s3 ⟨u, H3, I3, pu, eu, e3⟩ => ?_
  subst eu e3
  refine thn (hst.run pins s3 σ H3 (fun o H4 => o = some (-1) ∧ H4 = H3) I3 ⟨1, rfl, -1, rfl, rfl, rfl⟩) fun vs s4 ⟨o, H4, I4, ps, eo, e4⟩ => ?_
  subst eo e4
  have I5 : Inv X pins σ H4 { s4 with heap := s4.heap.push { cls := .type "slice", data := .fields #[vl, vu, vs] } } := I4.kept (t' := s4.toks) fun b ob q => Heap.get?_push_of_some _ q
  obtain ⟨its, r, ht, hz⟩ := I5.tuple hx
  have hlen := r.length
  show wpAny (model X.prog X.w) X.A (subscriptTail e (.Slice none none (some (.UnaryOp .USub (.Constant (.int 1) k p1) p2)) p3) (.ref a) (.ref s4.heap.objs.size)) (EP X pins σ Q) X.xe { s4 with heap := s4.heap.push { cls := .type "slice", data := .fields #[vl, vu, vs] } }
  refine tail_any (ops := [.ref a, .ref s4.heap.objs.size]) ht.typeIs (PyProof.Rows.slot_tuple_getitem.lookup) ?_ (by with_unfolding_all rfl)
  refine getItem_tuple_rev ht (Heap.IsSliceOf.new _ vl vu vs) pl pu ps ?_ (by rw [List.size_toArray]; omega)
  refine ⟨.ref _, _, I5.laid (t' := s4.toks) (o := .tup xs.reverse) (fun b ob q => Heap.get?_push_of_some _ q) (Nat.le_refl _) ?_, rfl, q _ (I5.hok.fresh (Nat.le_refl _))⟩
  exact ⟨by rw [List.length_reverse]; exact hz, _, r.reverse, IsTup.new _ _⟩
theorem je_revT {d : DE} {k : Nat} {p1 p2 p3 : Pos} (hK : X.K = G.K) (h : PE X e (tR G W d)) : PE X (.Subscript e (.Slice none none (some (.UnaryOp .USub (.Constant (.int 1) k p1) p2)) p3) pos) (tE G W (dRevT d)) :=
  pe_imp (pe_revT h) fun σ H Q ⟨m, ρ, S, hS, hE, h⟩ => ⟨m, ρ, S, hS, hE, (Aft.bind h).imp fun x S1 m1 H1 l1 hS1 h1 v rv => by
    cases x with
    | tup ds =>
      obtain ⟨p, xs, rfl, q1, q2⟩ := rv
      have h1 : rRes G m1 H1 S1 (.tup ds.reverse) Q := h1
      exact ⟨p, xs, rfl, by rw [hK]; exact q1, fun l hl => h1.tup hS1 hl q2.rev⟩
    | _ => exact h1.elim⟩
/-! ### == () -/
def pEqT (S : Store) (d e : D) : Option D := match d, e with
  | .tup ds, .tup [] => some (.bl ds.isEmpty)
  | d, e => pEq S d e
theorem o_eqT0 (hK : X.K = G.K) (hu : X.A.units + 200 < cLine) : OpR X (compareOp .Eq) (fun x y H Q => ∃ (a b : Addr) (xs : List V), x = .ref a ∧ y = .ref b ∧ SqT G.K H a xs ∧ SqT G.K H b [] ∧ Q (.bl xs.isEmpty) H) := by
  intro pins s σ H x y v u Q I rx ry h
  obtain ⟨a, b, xs, rfl, rfl, h1, h2, q⟩ := h
  cases rx
  cases ry
  rw [← hK] at h1 h2
  obtain ⟨its, r, ht, hz⟩ := I.tuple h1
  obtain ⟨its2, r2, ht2, hz2⟩ := I.tuple h2
  have e2 : its2 = [] := r2.zero
  subst e2
  refine PySem.W.eq_tuplesT (n := 0) (e := fun _ => true) (vs := its.toArray) (vs' := #[]) ht ht2 (fun j h1 h2 => by simp at h2) (by omega) ⟨.bl xs.isEmpty, H, I, ?_, q⟩
  have : ((List.range (min its.toArray.size (#[] : Array Value).size)).all (fun _ => true) && its.toArray.size == (#[] : Array Value).size) = xs.isEmpty := by
    have := r.length
    cases xs with
    | nil => simp at this; simp [this.symm]
    | cons x xs =>
      cases its with
      | nil => simp at this
      | cons y ys => simp
  rw [this]; rfl
theorem o_eqT (hK : X.K = G.K) (hu : X.A.units + 200 < cLine) : OpR X (compareOp .Eq) (rO G pEqT) := by
  refine opr_imp (OpR.or (o_eq hK hu) (o_eqT0 hK hu)) fun x y H Q ⟨m, S, d, e, r, hS, hx, hy, hf, k⟩ => ?_
  unfold pEqT at hf
  split at hf
  · cases hf
    rename_i ds
    obtain ⟨a, xs, rfl, q1, q2⟩ := hx
    obtain ⟨b, ys, rfl, q3, q4⟩ := hy
    have e : ys = [] := q4
    subst e
    refine .inr ⟨a, b, xs, rfl, rfl, q1, q3, ?_⟩
    have : xs.isEmpty = ds.isEmpty := by
      have := q2.length
      cases xs <;> cases ds <;> simp at this <;> rfl
    rw [this]
    exact k.here hS (v := .bl _) rfl
  · exact .inl ⟨m, S, _, _, r, hS, hx, hy, hf, k⟩
/-! ### is True, is not True -/
def pIsB (_ : Store) : D → D → Option D
  | .bl a, .bl b => some (.bl (decide (a = b)))
  | _, _ => none
def pIsNotB (_ : Store) : D → D → Option D
  | .bl a, .bl b => some (.bl (!decide (a = b)))
  | _, _ => none
theorem o_isB : OpR X (compareOp .Is) (rO G pIsB) := by
  refine opr_imp op_isBl fun x y H Q ⟨m, S, d, e, r, hS, hx, hy, hf, k⟩ => ?_
  cases d <;> cases e <;> simp only [pIsB] at hf <;> first | cases hf; done | skip
  obtain rfl := Option.some.inj hf
  have hx : x = V.bl _ := hx
  have hy : y = V.bl _ := hy
  exact ⟨_, _, hx, hy, k.here hS (v := .bl _) rfl⟩
theorem o_isNotB : OpR X (compareOp .IsNot) (rO G pIsNotB) := by
  refine opr_imp op_notBl fun x y H Q ⟨m, S, d, e, r, hS, hx, hy, hf, k⟩ => ?_
  cases d <;> cases e <;> simp only [pIsNotB] at hf <;> first | cases hf; done | skip
  obtain rfl := Option.some.inj hf
  have hx : x = V.bl _ := hx
  have hy : y = V.bl _ := hy
  exact ⟨_, _, hx, hy, k.here hS (v := .bl _) rfl⟩
end
end Py

/-! The defs of the text, by what they do. Printed by gen.py. -/
namespace K78
open PySem PySem.Spec PyProof.Rows L2 Py
abbrev top (i : Nat) : Stmt := PySem.Challenge.pw_errandwide_k78_whole_deeds_of_copies_jud.main.body.getD i (.Pass ⟨0, 0, 0, 0⟩)
def fa : List He.Fa := [.free "len",
  .free "int",
  .free "abs",
  .free "max",
  .glo "_law_kettle",
  .free "isinstance",
  .free "bool",
  .glo "is_from_to",
  .glo "need_many",
  .glo "begun_state",
  .glo "with_copy",
  .glo "turned_state",
  .glo "is_between",
  .free "tuple",
  .free "all",
  .int "LAST" (1000000006),
  .glo "is_event",
  .free "zip",
  .glo "is_rising_numbers",
  .free "str",
  .int "LAST_COPY" (4),
  .int "MOST_DEEDS" (400),
  .glo "is_deed_form",
  .glo "last_term",
  .glo "are_newer",
  .glo "elected",
  .glo "appended",
  .glo "copied",
  .glo "committed_state",
  .glo "behind_deed",
  .free "enumerate",
  .glo "state_or_wrong",
  .glo "events_in",
  .str "PLAY" "play",
  .str "WRONG" "wrong",
  .glo "play_paper",
  .glo "are_copy_rows",
  .glo "is_newer",
  .glo "is_deed",
  .glo "_law_pour",
  .glo "_law_pick",
  .free "range",
  .glo "_law_any_deed",
  .glo "_law_is_number",
  .glo "_law_is_event",
  .free "list",
  .free "sorted",
  .free "set",
  .glo "_law_is_copy_deed",
  .glo "_law_put",
  .glo "_law_last",
  .glo "_law_elected",
  .glo "_law_behind",
  .glo "_law_copies",
  .glo "_law_due",
  .glo "_law_odd",
  .glo "need_play",
  .glo "committed",
  .glo "_law_right",
  .free "min",
  .glo "law"]
def fn : List He.DefD := [dfD "_law_kettle" (top 37),
  dfD "is_from_to" (top 9),
  dfD "need_many" (top 30),
  dfD "begun_state" (top 20),
  dfD "with_copy" (top 21),
  dfD "turned_state" (top 26),
  dfD "is_between" (top 6),
  dfD "is_event" (top 7),
  dfD "is_rising_numbers" (top 15),
  dfD "is_deed_form" (top 16),
  dfD "last_term" (top 18),
  dfD "are_newer" (top 19),
  dfD "elected" (top 22),
  dfD "appended" (top 23),
  dfD "copied" (top 24),
  dfD "committed_state" (top 25),
  dfD "behind_deed" (top 27),
  dfD "state_or_wrong" (top 28),
  dfD "events_in" (top 29),
  dfD "play_paper" (top 34),
  dfD "are_copy_rows" (top 17),
  dfD "is_newer" (top 33),
  dfD "is_deed" (top 32),
  dfD "_law_pour" (top 38),
  dfD "_law_pick" (top 39),
  dfD "_law_any_deed" (top 47),
  dfD "_law_is_number" (top 42),
  dfD "_law_is_event" (top 43),
  dfD "_law_is_copy_deed" (top 44),
  dfD "_law_put" (top 41),
  dfD "_law_last" (top 40),
  dfD "_law_elected" (top 45),
  dfD "_law_behind" (top 46),
  dfD "_law_copies" (top 48),
  dfD "_law_due" (top 49),
  dfD "_law_odd" (top 50),
  dfD "need_play" (top 31),
  dfD "committed" (top 35),
  dfD "_law_right" (top 51),
  dfD "law" (top 52)]
section
variable {P : Program} {w : World} {G : Gc} {mg : Str → Option Value} {base : Heap}
def N__law_kettle : List Str := ["script", "spot", "cell", "great", "mixed"]
def b__law_kettle : DS := dSeq (dSet 2 (qV (dIf (dTest (dOp pLt (dVar 1) (dPr pLen (dCons (dVar 0) (dNil))))) (dPr pInt (dCons (dOp pIdx (dVar 0) (dVar 1)) (dNil))) (dOp pAdd (dOp pMul (dCst (.int 1109)) (dVar 1)) (dCst (.int 223)))))) (dSeq (dSet 3 (qV (dOp pMod (dPr pInt (dCons (dPr pAbs (dCons (dVar 2) (dNil))) (dNil))) (dOp pPow (dOp pPow (dCst (.int 10)) (dCst (.int 51))) (dCst (.int 5)))))) (dSeq (dSet 4 (qV (dOp pAdd (dOp pAdd (dOp pAdd (dOp pMul (dOp pMod (dPr pInt (dCons (dVar 3) (dNil))) (dCst (.int 2305843009213693907))) (dCst (.int 181))) (dOp pMul (dCst (.int 1249)) (dVar 1))) (dOp pMul (dCst (.int 127)) (dPr pInt (dCons (dOp pLt (dVar 2) (dCst (.int 0))) (dNil))))) (dCst (.int 89))))) (dRet (dNew (dDisp (dCons (dPr pMax (dCons (dCst (.int 0)) (dCons (dOp pSub (dVar 3) (dOp pPow (dCst (.int 10)) (dCst (.int 17)))) (dNil)))) (dCons (dVar 4) (dCons (dCst (.int 0)) (dNil)))))))))
def f__law_kettle : List D → M D := dFn 2 N__law_kettle.length b__law_kettle
theorem nd__law_kettle : N__law_kettle.Nodup := by decide +kernel
theorem sc__law_kettle : FnScope N__law_kettle ["script", "spot"] (defScope (top 37)) := ⟨rfl, rfl, rfl, nd__law_kettle, rfl, by decide +kernel, by decide +kernel⟩
theorem ok__law_kettle (Z : Zf G mg fa fn) : Callee P w G mg base "_law_kettle" 1 2 ["script", "spot"] f__law_kettle := by
  refine callee_of (N := N__law_kettle) (d := b__law_kettle) Z 0 4 (st := top 37) (by rfl) (by rfl) sc__law_kettle (by rfl) (fun _ _ _ _ _ _ us hl => match us, hl with | [_, _], _ => by rfl) fun f cdv A outer s H E hr => ?_
  exact (jss_cons (js_setV (ps_set nd__law_kettle rfl (.inl rfl) (je_if (jt_cmp (o_lt rfl (huR hr)) (jr_of (je_var rfl (.inl rfl) rfl rfl)) (jr_of (je_callB (c_len rfl) rfl (Z.free 0 rfl) boot_len (jb_cons rfl (jr_of (je_var rfl (.inl rfl) rfl rfl)) jb_nil) rfl)) rfl) (je_callT (c_int) rfl (Z.free 1 rfl) PyProof.Rows.boot_int (jb_cons rfl (jr_of (je_ix (i_idx rfl) (jr_of (je_var rfl (.inl rfl) rfl rfl)) (jr_of (je_var rfl (.inl rfl) rfl rfl)) rfl)) jb_nil) rfl) (je_op (o_add rfl) (jr_of (je_op (o_mul rfl) (jr_of cst_int) (jr_of (je_var rfl (.inl rfl) rfl rfl)))) (jr_of cst_int))) rfl)) (jss_cons (js_setV (ps_set nd__law_kettle rfl (.inl rfl) (je_op (o_mod) (jr_of (je_callT (c_int) rfl (Z.free 1 rfl) PyProof.Rows.boot_int (jb_cons rfl (jr_of (je_callB (c_abs) rfl (Z.free 2 rfl) PyProof.Rows.boot_abs (jb_cons rfl (jr_of (je_var rfl (.inl rfl) rfl rfl)) jb_nil) rfl)) jb_nil) rfl)) (jr_of (je_op (o_pow) (jr_of (je_op (o_pow) (jr_of cst_int) (jr_of cst_int))) (jr_of cst_int)))) rfl)) (jss_cons (js_setV (ps_set nd__law_kettle rfl (.inl rfl) (je_op (o_add rfl) (jr_of (je_op (o_add rfl) (jr_of (je_op (o_add rfl) (jr_of (je_op (o_mul rfl) (jr_of (je_op (o_mod) (jr_of (je_callT (c_int) rfl (Z.free 1 rfl) PyProof.Rows.boot_int (jb_cons rfl (jr_of (je_var rfl (.inl rfl) rfl rfl)) jb_nil) rfl)) (jr_of cst_int))) (jr_of cst_int))) (jr_of (je_op (o_mul rfl) (jr_of cst_int) (jr_of (je_var rfl (.inl rfl) rfl rfl)))))) (jr_of (je_op (o_mul rfl) (jr_of cst_int) (jr_of (je_callT (c_int) rfl (Z.free 1 rfl) PyProof.Rows.boot_int (jb_cons rfl (jr_of (je_cmp (o_lt rfl (huR hr)) (jr_of (je_var rfl (.inl rfl) rfl rfl)) (jr_of cst_int) rfl)) jb_nil) rfl)))))) (jr_of cst_int)) rfl)) (jss_one (js_ret (je_new (jl_disp (ja_cons rfl (je_callB (c_max rfl rfl) rfl (Z.free 3 rfl) PyProof.Rows.boot_max (jb_cons rfl (jr_of cst_int) (jb_cons rfl (jr_of (je_op (o_sub) (jr_of (je_var rfl (.inl rfl) rfl rfl)) (jr_of (je_op (o_pow) (jr_of cst_int) (jr_of cst_int))))) jb_nil)) rfl) (ja_cons rfl (je_var rfl (.inl rfl) rfl rfl) (ja_cons rfl cst_int ja_nil))))))))))
def N_is_from_to : List Str := ["value", "low", "high"]
def b_is_from_to : DS := dRet (dAndV (dPr pIsi (dCons (dVar 0) (dCons (dCst (.ty "int")) (dNil)))) (dAndV (dNotV (dPr pIsi (dCons (dVar 0) (dCons (dCst (.ty "bool")) (dNil))))) (dChain pLe pLe (dVar 1) (dVar 0) (dVar 2))))
def f_is_from_to : List D → M D := dFn 3 N_is_from_to.length b_is_from_to
theorem nd_is_from_to : N_is_from_to.Nodup := by decide +kernel
theorem sc_is_from_to : FnScope N_is_from_to ["value", "low", "high"] (defScope (top 9)) := ⟨rfl, rfl, rfl, nd_is_from_to, rfl, by decide +kernel, by decide +kernel⟩
theorem ok_is_from_to (Z : Zf G mg fa fn) : Callee P w G mg base "is_from_to" 1 3 ["value", "low", "high"] f_is_from_to := by
  refine callee_of (N := N_is_from_to) (d := b_is_from_to) Z 1 7 (st := top 9) (by rfl) (by rfl) sc_is_from_to (by rfl) (fun _ _ _ _ _ _ us hl => match us, hl with | [_, _, _], _ => by rfl) fun f cdv A outer s H E hr => ?_
  exact (jss_one (js_ret (je_and (je_callB (c_isi rfl) rfl (Z.free 5 rfl) PyProof.Rows.boot_isinstance (jb_cons rfl (jr_of (je_var rfl (.inl rfl) rfl rfl)) (jb_cons rfl (jr_of (je_ty rfl (Z.free 1 rfl) PyProof.Rows.boot_int (by decide) (by decide))) jb_nil)) rfl) (je_and (je_not (je_callB (c_isi rfl) rfl (Z.free 5 rfl) PyProof.Rows.boot_isinstance (jb_cons rfl (jr_of (je_var rfl (.inl rfl) rfl rfl)) (jb_cons rfl (jr_of (je_ty rfl (Z.free 6 rfl) PyProof.Rows.boot_bool (by decide) (by decide))) jb_nil)) rfl)) (pe_one (je_chain (o_le rfl (huR hr)) (o_le rfl (huR hr)) (jr_of (je_var rfl (.inl rfl) rfl rfl)) (jr_of (je_var rfl (.inl rfl) rfl rfl)) (jr_of (je_var rfl (.inl rfl) rfl rfl)) rfl))))))
def N_need_many : List Str := ["many"]
def b_need_many : DS := dIfS (dOr (dNot (dTest (dCall 3 f_is_from_to (dCons (dVar 0) (dCons (dCst (.int 3)) (dCons (dCst (.int 5)) (dNil))))))) (dTest (dOp pEq (dVar 0) (dCst (.int 4))))) (dBad) (dNop)
def f_need_many : List D → M D := dFn 1 N_need_many.length b_need_many
theorem nd_need_many : N_need_many.Nodup := by decide +kernel
theorem sc_need_many : FnScope N_need_many ["many"] (defScope (top 30)) := ⟨rfl, rfl, rfl, nd_need_many, rfl, by decide +kernel, by decide +kernel⟩
theorem ok_need_many (Z : Zf G mg fa fn) : Callee P w G mg base "need_many" 2 1 ["many"] f_need_many := by
  refine callee_of (N := N_need_many) (d := b_need_many) Z 2 8 (st := top 30) (by rfl) (by rfl) sc_need_many (by rfl) (fun _ _ _ _ _ _ us hl => match us, hl with | [_], _ => by rfl) fun f cdv A outer s H E hr => ?_
  exact (jss_one (js_if (PW.pt (jw_or (jt_not (jt_val (jr_of (je_cal (ok_is_from_to Z) rfl hr (by decide) rfl (takes_of (E := E) rfl rfl rfl rfl) (ja_cons rfl (je_var rfl (.inl rfl) rfl rfl) (ja_cons rfl cst_int (ja_cons rfl cst_int ja_nil))) rfl)) rfl)) (jw1_or (jt_cmp (o_eq rfl (huR hr)) (jr_of (je_var rfl (.inl rfl) rfl rfl)) (jr_of cst_int) rfl)))) (jss_one js_bad) jss_nil))
def N_begun_state : List Str := ["many"]
def b_begun_state : DS := dRet (dTup (dCons (dOp pMul (dTup (dCons (dTup (dCons (dCst (.bl true)) (dCons (dCst (.int 0)) (dCons (dTup (dNil)) (dNil))))) (dNil))) (dVar 0)) (dCons (dCst .non) (dCons (dCst (.int 0)) (dNil)))))
def f_begun_state : List D → M D := dFn 1 N_begun_state.length b_begun_state
theorem nd_begun_state : N_begun_state.Nodup := by decide +kernel
theorem sc_begun_state : FnScope N_begun_state ["many"] (defScope (top 20)) := ⟨rfl, rfl, rfl, nd_begun_state, rfl, by decide +kernel, by decide +kernel⟩
theorem ok_begun_state (Z : Zf G mg fa fn) : Callee P w G mg base "begun_state" 1 1 ["many"] f_begun_state := by
  refine callee_of (N := N_begun_state) (d := b_begun_state) Z 3 9 (st := top 20) (by rfl) (by rfl) sc_begun_state (by rfl) (fun _ _ _ _ _ _ us hl => match us, hl with | [_], _ => by rfl) fun f cdv A outer s H E hr => ?_
  exact (jss_one (js_ret (je_tup (ja_cons rfl (je_op (o_mul rfl) (jr_of (je_tup (ja_cons rfl (je_tup (ja_cons rfl cst_bl (ja_cons rfl cst_int (ja_cons rfl (je_tup ja_nil) ja_nil)))) ja_nil))) (jr_of (je_var rfl (.inl rfl) rfl rfl))) (ja_cons rfl cst_non (ja_cons rfl cst_int ja_nil))))))
def N_with_copy : List Str := ["copies", "number", "fresh"]
def b_with_copy : DS := dRet (dTup (dStar (dSl (dVar 0) (dNo) (dSo (dVar 1))) (dCons (dVar 2) (dStar (dSl (dVar 0) (dSo (dOp pAdd (dVar 1) (dCst (.int 1)))) (dNo)) (dNil)))))
def f_with_copy : List D → M D := dFn 3 N_with_copy.length b_with_copy
theorem nd_with_copy : N_with_copy.Nodup := by decide +kernel
theorem sc_with_copy : FnScope N_with_copy ["copies", "number", "fresh"] (defScope (top 21)) := ⟨rfl, rfl, rfl, nd_with_copy, rfl, by decide +kernel, by decide +kernel⟩
theorem ok_with_copy (Z : Zf G mg fa fn) : Callee P w G mg base "with_copy" 1 3 ["copies", "number", "fresh"] f_with_copy := by
  refine callee_of (N := N_with_copy) (d := b_with_copy) Z 4 10 (st := top 21) (by rfl) (by rfl) sc_with_copy (by rfl) (fun _ _ _ _ _ _ us hl => match us, hl with | [_, _, _], _ => by rfl) fun f cdv A outer s H E hr => ?_
  exact (jss_one (js_ret (je_tup (ja_star rfl (jr_of (je_sl rfl (jr_of (je_var rfl (.inl rfl) rfl rfl)) jo_none (jo_some (je_var rfl (.inl rfl) rfl rfl)))) (ja_cons rfl (je_var rfl (.inl rfl) rfl rfl) (ja_star rfl (jr_of (je_sl rfl (jr_of (je_var rfl (.inl rfl) rfl rfl)) (jo_some (je_op (o_add rfl) (jr_of (je_var rfl (.inl rfl) rfl rfl)) (jr_of cst_int))) jo_none)) ja_nil))))))
def N_turned_state : List Str := ["state", "number", "up", "copies", "leader", "many", "fresh"]
def b_turned_state : DS := dSeq (dBnd (dVar 0) (gT 3 (gsC (gN 3) (gsC (gN 4) (gsC (gN 5) (gs0)))))) (dSeq (dIfS (dOr (dTest (dOp pGe (dVar 1) (dPr pLen (dCons (dVar 3) (dNil))))) (dTest (dOp pEq (dOp pIdx (dOp pIdx (dVar 3) (dVar 1)) (dCst (.int 0))) (dVar 2)))) (dRet (dCst .non)) (dNop)) (dSeq (dSet 6 (qV (dCall 3 f_with_copy (dCons (dVar 3) (dCons (dVar 1) (dCons (dTup (dCons (dVar 2) (dStar (dSl (dOp pIdx (dVar 3) (dVar 1)) (dSo (dCst (.int 1))) (dNo)) (dNil)))) (dNil))))))) (dRet (dTup (dCons (dVar 6) (dCons (dIf (dTest (dOp pEq (dVar 4) (dVar 1))) (dCst .non) (dVar 4)) (dCons (dVar 5) (dNil))))))))
def f_turned_state : List D → M D := dFn 3 N_turned_state.length b_turned_state
theorem nd_turned_state : N_turned_state.Nodup := by decide +kernel
theorem sc_turned_state : FnScope N_turned_state ["state", "number", "up"] (defScope (top 26)) := ⟨rfl, rfl, rfl, nd_turned_state, rfl, by decide +kernel, by decide +kernel⟩
theorem ok_turned_state (Z : Zf G mg fa fn) : Callee P w G mg base "turned_state" 2 3 ["state", "number", "up"] f_turned_state := by
  refine callee_of (N := N_turned_state) (d := b_turned_state) Z 5 11 (st := top 26) (by rfl) (by rfl) sc_turned_state (by rfl) (fun _ _ _ _ _ _ us hl => match us, hl with | [_, _, _], _ => by rfl) fun f cdv A outer s H E hr => ?_
  exact (jss_cons (js_bnd (vs := [0, 1, 2, 3, 4, 5, 6]) (ps_asg (je_var rfl (.inl rfl) rfl rfl) (jg_tup rfl rfl (jgs_cons (jg_name nd_turned_state rfl (.inl rfl) (.inl rfl) (by decide)) (jgs_cons (jg_name nd_turned_state rfl (.inl rfl) (.inl rfl) (by decide)) (jgs_cons (jg_name nd_turned_state rfl (.inl rfl) (.inl rfl) (by decide)) jgs_nil)))))) (jss_cons (js_if (PW.pt (jw_or (jt_cmp (o_ge rfl (huR hr)) (jr_of (je_var rfl (.inl rfl) rfl rfl)) (jr_of (je_callB (c_len rfl) rfl (Z.free 0 rfl) boot_len (jb_cons rfl (jr_of (je_var rfl (.inl rfl) rfl rfl)) jb_nil) rfl)) rfl) (jw1_or (jt_cmp (o_eq rfl (huR hr)) (jr_of (je_ix (i_idx rfl) (jr_of (je_ix (i_idx rfl) (jr_of (je_var rfl (.inl rfl) rfl rfl)) (jr_of (je_var rfl (.inl rfl) rfl rfl)) rfl)) (jr_of cst_int) rfl)) (jr_of (je_var rfl (.inl rfl) rfl rfl)) rfl)))) (jss_one (js_ret cst_non)) jss_nil) (jss_cons (js_setV (ps_set nd_turned_state rfl (.inl rfl) (je_cal (ok_with_copy Z) rfl hr (by decide) rfl (takes_of (E := E) rfl rfl rfl rfl) (ja_cons rfl (je_var rfl (.inl rfl) rfl rfl) (ja_cons rfl (je_var rfl (.inl rfl) rfl rfl) (ja_cons rfl (je_tup (ja_cons rfl (je_var rfl (.inl rfl) rfl rfl) (ja_star rfl (jr_of (je_sl rfl (jr_of (je_ix (i_idx rfl) (jr_of (je_var rfl (.inl rfl) rfl rfl)) (jr_of (je_var rfl (.inl rfl) rfl rfl)) rfl)) (jo_some cst_int) jo_none)) ja_nil))) ja_nil))) rfl) rfl)) (jss_one (js_ret (je_tup (ja_cons rfl (je_var rfl (.inl rfl) rfl rfl) (ja_cons rfl (je_if (jt_cmp (o_eq rfl (huR hr)) (jr_of (je_var rfl (.inl rfl) rfl rfl)) (jr_of (je_var rfl (.inl rfl) rfl rfl)) rfl) cst_non (je_var rfl (.inl rfl) rfl rfl)) (ja_cons rfl (je_var rfl (.inl rfl) rfl rfl) ja_nil)))))))))
def N_is_between : List Str := ["value", "low", "high"]
def b_is_between : DS := dRet (dAndV (dPr pIsi (dCons (dVar 0) (dCons (dCst (.ty "int")) (dNil)))) (dAndV (dNotV (dPr pIsi (dCons (dVar 0) (dCons (dCst (.ty "bool")) (dNil))))) (dChain pLe pLe (dVar 1) (dVar 0) (dVar 2))))
def f_is_between : List D → M D := dFn 3 N_is_between.length b_is_between
theorem nd_is_between : N_is_between.Nodup := by decide +kernel
theorem sc_is_between : FnScope N_is_between ["value", "low", "high"] (defScope (top 6)) := ⟨rfl, rfl, rfl, nd_is_between, rfl, by decide +kernel, by decide +kernel⟩
theorem ok_is_between (Z : Zf G mg fa fn) : Callee P w G mg base "is_between" 1 3 ["value", "low", "high"] f_is_between := by
  refine callee_of (N := N_is_between) (d := b_is_between) Z 6 12 (st := top 6) (by rfl) (by rfl) sc_is_between (by rfl) (fun _ _ _ _ _ _ us hl => match us, hl with | [_, _, _], _ => by rfl) fun f cdv A outer s H E hr => ?_
  exact (jss_one (js_ret (je_and (je_callB (c_isi rfl) rfl (Z.free 5 rfl) PyProof.Rows.boot_isinstance (jb_cons rfl (jr_of (je_var rfl (.inl rfl) rfl rfl)) (jb_cons rfl (jr_of (je_ty rfl (Z.free 1 rfl) PyProof.Rows.boot_int (by decide) (by decide))) jb_nil)) rfl) (je_and (je_not (je_callB (c_isi rfl) rfl (Z.free 5 rfl) PyProof.Rows.boot_isinstance (jb_cons rfl (jr_of (je_var rfl (.inl rfl) rfl rfl)) (jb_cons rfl (jr_of (je_ty rfl (Z.free 6 rfl) PyProof.Rows.boot_bool (by decide) (by decide))) jb_nil)) rfl)) (pe_one (je_chain (o_le rfl (huR hr)) (o_le rfl (huR hr)) (jr_of (je_var rfl (.inl rfl) rfl rfl)) (jr_of (je_var rfl (.inl rfl) rfl rfl)) (jr_of (je_var rfl (.inl rfl) rfl rfl)) rfl))))))
def N_is_event : List Str := ["value", "path", "one"]
def b_is_event : DS := dSeq (dIfS (dTest (dOp pEq (dVar 0) (dTup (dCons (dCst (.str "off")) (dNil))))) (dRet (dCst (.bl true))) (dNop)) (dSeq (dIfS (dOr (dNot (dTest (dPr pIsi (dCons (dVar 0) (dCons (dCst (.ty "tuple")) (dNil)))))) (dOr (dTest (dOp pNe (dPr pLen (dCons (dVar 0) (dNil))) (dCst (.int 4)))) (dTest (dOp pNe (dOp pIdx (dVar 0) (dCst (.int 0))) (dCst (.str "answer")))))) (dRet (dCst (.bl false))) (dNop)) (dSeq (dSet 1 (qV (dOp pIdx (dVar 0) (dCst (.int 1))))) (dSeq (dIfS (dOr (dNot (dTest (dPr pIsi (dCons (dVar 1) (dCons (dCst (.ty "tuple")) (dNil)))))) (dOr (dTest (dOp pGt (dPr pLen (dCons (dVar 1) (dNil))) (dCst (.int 6)))) (dNot (dTest (dPr pIsi (dCons (dOp pIdx (dVar 0) (dCst (.int 2))) (dCons (dCst (.ty "bool")) (dNil)))))))) (dRet (dCst (.bl false))) (dNop)) (dRet (dAndV (dPr pAll (dCons (dLst (dLc (dItems (dVar 1)) (gN 2) (dYes) (dCall 3 f_is_between (dCons (dVar 2) (dCons (dCst (.int 0)) (dCons (dCst (.int 9)) (dNil))))) [2])) (dNil))) (dCall 3 f_is_between (dCons (dOp pIdx (dVar 0) (dCst (.int 3))) (dCons (dCst (.int 0)) (dCons (dCst (.int (1000000006))) (dNil))))))))))
def f_is_event : List D → M D := dFn 1 N_is_event.length b_is_event
theorem nd_is_event : N_is_event.Nodup := by decide +kernel
theorem sc_is_event : FnScope N_is_event ["value"] (defScope (top 7)) := ⟨rfl, rfl, rfl, nd_is_event, rfl, by decide +kernel, by decide +kernel⟩
theorem ok_is_event (Z : Zf G mg fa fn) : Callee P w G mg base "is_event" 2 1 ["value"] f_is_event := by
  refine callee_of (N := N_is_event) (d := b_is_event) Z 7 16 (st := top 7) (by rfl) (by rfl) sc_is_event (by rfl) (fun _ _ _ _ _ _ us hl => match us, hl with | [_], _ => by rfl) fun f cdv A outer s H E hr => ?_
  exact (jss_cons (js_if (jt_cmp (o_eq rfl (huR hr)) (jr_of (je_var rfl (.inl rfl) rfl rfl)) (jr_of (je_tup (ja_cons rfl cst_str ja_nil))) rfl) (jss_one (js_ret cst_bl)) jss_nil) (jss_cons (js_if (PW.pt (jw_or (jt_not (jt_val (jr_of (je_callB (c_isi rfl) rfl (Z.free 5 rfl) PyProof.Rows.boot_isinstance (jb_cons rfl (jr_of (je_var rfl (.inl rfl) rfl rfl)) (jb_cons rfl (jr_of (je_ty rfl (Z.free 13 rfl) PyProof.Rows.boot_tuple (by decide) (by decide))) jb_nil)) rfl)) rfl)) (jw_or (jt_cmp (o_ne rfl (huR hr)) (jr_of (je_callB (c_len rfl) rfl (Z.free 0 rfl) boot_len (jb_cons rfl (jr_of (je_var rfl (.inl rfl) rfl rfl)) jb_nil) rfl)) (jr_of cst_int) rfl) (jw1_or (jt_cmp (o_ne rfl (huR hr)) (jr_of (je_ix (i_idx rfl) (jr_of (je_var rfl (.inl rfl) rfl rfl)) (jr_of cst_int) rfl)) (jr_of cst_str) rfl))))) (jss_one (js_ret cst_bl)) jss_nil) (jss_cons (js_setV (ps_set nd_is_event rfl (.inl rfl) (je_ix (i_idx rfl) (jr_of (je_var rfl (.inl rfl) rfl rfl)) (jr_of cst_int) rfl) rfl)) (jss_cons (js_if (PW.pt (jw_or (jt_not (jt_val (jr_of (je_callB (c_isi rfl) rfl (Z.free 5 rfl) PyProof.Rows.boot_isinstance (jb_cons rfl (jr_of (je_var rfl (.inl rfl) rfl rfl)) (jb_cons rfl (jr_of (je_ty rfl (Z.free 13 rfl) PyProof.Rows.boot_tuple (by decide) (by decide))) jb_nil)) rfl)) rfl)) (jw_or (jt_cmp (o_gt rfl (huR hr)) (jr_of (je_callB (c_len rfl) rfl (Z.free 0 rfl) boot_len (jb_cons rfl (jr_of (je_var rfl (.inl rfl) rfl rfl)) jb_nil) rfl)) (jr_of cst_int) rfl) (jw1_or (jt_not (jt_val (jr_of (je_callB (c_isi rfl) rfl (Z.free 5 rfl) PyProof.Rows.boot_isinstance (jb_cons rfl (jr_of (je_ix (i_idx rfl) (jr_of (je_var rfl (.inl rfl) rfl rfl)) (jr_of cst_int) rfl)) (jb_cons rfl (jr_of (je_ty rfl (Z.free 6 rfl) PyProof.Rows.boot_bool (by decide) (by decide))) jb_nil)) rfl)) rfl)))))) (jss_one (js_ret cst_bl)) jss_nil) (jss_one (js_ret (je_and (je_callB (c_all rfl rfl) rfl (Z.free 14 rfl) PyProof.Rows.boot_all (jb_cons rfl (jr_of (je_lst (je_lc (own := [("one", 2)]) rfl nd_is_event (ji_valW rfl (jr_of (je_var rfl (.inl rfl) rfl rfl))) (blkOk_by rfl) (fun _ _ _ _ _ => (jg_name nd_is_event rfl (.inl rfl) (.inr rfl) (by decide))) (fun _ _ _ _ _ => jts_nil) (fun _ _ _ _ _ => (je_cal (ok_is_between Z) rfl hr (by decide) rfl takes0 (ja_cons rfl (je_var rfl (.inl rfl) rfl rfl) (ja_cons rfl cst_int (ja_cons rfl cst_int ja_nil))) rfl)) (fun _ => rfl)))) jb_nil) rfl) (pe_one (je_cal (ok_is_between Z) rfl hr (by decide) rfl (takes_of (E := E) rfl rfl rfl rfl) (ja_cons rfl (je_ix (i_idx rfl) (jr_of (je_var rfl (.inl rfl) rfl rfl)) (jr_of cst_int) rfl) (ja_cons rfl cst_int (ja_cons rfl (je_gint rfl (Z.int 15 rfl)) ja_nil))) rfl)))))))))
def N_is_rising_numbers : List Str := ["value", "high", "number", "one", "other"]
def b_is_rising_numbers : DS := dSeq (dIfS (dOr (dNot (dTest (dPr pIsi (dCons (dVar 0) (dCons (dCst (.ty "tuple")) (dNil)))))) (dNot (dTest (dPr pAll (dCons (dLst (dLc (dItems (dVar 0)) (gN 2) (dYes) (dCall 3 f_is_from_to (dCons (dVar 2) (dCons (dCst (.int 0)) (dCons (dVar 1) (dNil))))) [2])) (dNil)))))) (dRet (dCst (.bl false))) (dNop)) (dRet (dPr pAll (dCons (dLst (dLc (dRg zp2 (dCons (dVar 0) (dCons (dSl (dVar 0) (dSo (dCst (.int 1))) (dNo)) (dNil)))) (gT 2 (gsC (gN 3) (gsC (gN 4) (gs0)))) (dYes) (dOp pLt (dVar 3) (dVar 4)) [3, 4])) (dNil))))
def f_is_rising_numbers : List D → M D := dFn 2 N_is_rising_numbers.length b_is_rising_numbers
theorem nd_is_rising_numbers : N_is_rising_numbers.Nodup := by decide +kernel
theorem sc_is_rising_numbers : FnScope N_is_rising_numbers ["value", "high"] (defScope (top 15)) := ⟨rfl, rfl, rfl, nd_is_rising_numbers, rfl, by decide +kernel, by decide +kernel⟩
theorem ok_is_rising_numbers (Z : Zf G mg fa fn) : Callee P w G mg base "is_rising_numbers" 2 2 ["value", "high"] f_is_rising_numbers := by
  refine callee_of (N := N_is_rising_numbers) (d := b_is_rising_numbers) Z 8 18 (st := top 15) (by rfl) (by rfl) sc_is_rising_numbers (by rfl) (fun _ _ _ _ _ _ us hl => match us, hl with | [_, _], _ => by rfl) fun f cdv A outer s H E hr => ?_
  exact (jss_cons (js_if (PW.pt (jw_or (jt_not (jt_val (jr_of (je_callB (c_isi rfl) rfl (Z.free 5 rfl) PyProof.Rows.boot_isinstance (jb_cons rfl (jr_of (je_var rfl (.inl rfl) rfl rfl)) (jb_cons rfl (jr_of (je_ty rfl (Z.free 13 rfl) PyProof.Rows.boot_tuple (by decide) (by decide))) jb_nil)) rfl)) rfl)) (jw1_or (jt_not (jt_val (jr_of (je_callB (c_all rfl rfl) rfl (Z.free 14 rfl) PyProof.Rows.boot_all (jb_cons rfl (jr_of (je_lst (je_lc (own := [("number", 2)]) rfl nd_is_rising_numbers (ji_valW rfl (jr_of (je_var rfl (.inl rfl) rfl rfl))) (blkOk_by rfl) (fun _ _ _ _ _ => (jg_name nd_is_rising_numbers rfl (.inl rfl) (.inr rfl) (by decide))) (fun _ _ _ _ _ => jts_nil) (fun _ _ _ _ _ => (je_cal (ok_is_from_to Z) rfl hr (by decide) rfl takes0 (ja_cons rfl (je_var rfl (.inl rfl) rfl rfl) (ja_cons rfl cst_int (ja_cons rfl (je_var rfl (.inr (.inl rfl)) rfl rfl) ja_nil))) rfl)) (fun _ => rfl)))) jb_nil) rfl)) rfl))))) (jss_one (js_ret cst_bl)) jss_nil) (jss_one (js_ret (je_callB (c_all rfl rfl) rfl (Z.free 14 rfl) PyProof.Rows.boot_all (jb_cons rfl (jr_of (je_lst (je_lc (own := [("one", 3), ("other", 4)]) rfl nd_is_rising_numbers (jiw_of (ji_zip rfl rfl (Z.free 17 rfl) (ja_cons rfl (je_var rfl (.inl rfl) rfl rfl) (ja_cons rfl (je_sl rfl (jr_of (je_var rfl (.inl rfl) rfl rfl)) (jo_some cst_int) jo_none) ja_nil)) rfl rfl)) (blkOk_by rfl) (fun _ _ _ _ _ => (jg_tup rfl rfl (jgs_cons (jg_name nd_is_rising_numbers rfl (.inl rfl) (.inr rfl) (by decide)) (jgs_cons (jg_name nd_is_rising_numbers rfl (.inl rfl) (.inr rfl) (by decide)) jgs_nil)))) (fun _ _ _ _ _ => jts_nil) (fun _ _ _ _ _ => (je_cmp (o_lt rfl (huR hr)) (jr_of (je_var rfl (.inl rfl) rfl rfl)) (jr_of (je_var rfl (.inl rfl) rfl rfl)) rfl)) (fun _ => rfl)))) jb_nil) rfl))))
def N_is_deed_form : List Str := ["value"]
def b_is_deed_form : DS := dSeq (dIfS (dOr (dNot (dTest (dPr pIsi (dCons (dVar 0) (dCons (dCst (.ty "tuple")) (dNil)))))) (dOr (dTest (dOp pEqT (dVar 0) (dTup (dNil)))) (dNot (dTest (dPr pIsi (dCons (dOp pIdx (dVar 0) (dCst (.int 0))) (dCons (dCst (.ty "str")) (dNil)))))))) (dRet (dCst (.bl false))) (dNop)) (dSeq (dIfS (dTest (dOp pEq (dOp pIdx (dVar 0) (dCst (.int 0))) (dCst (.str "elect")))) (dRet (dAndV (dOp pEq (dPr pLen (dCons (dVar 0) (dNil))) (dCst (.int 3))) (dAndV (dCall 3 f_is_from_to (dCons (dOp pIdx (dVar 0) (dCst (.int 1))) (dCons (dCst (.int 0)) (dCons (dCst (.int (4))) (dNil))))) (dCall 2 f_is_rising_numbers (dCons (dOp pIdx (dVar 0) (dCst (.int 2))) (dCons (dCst (.int (4))) (dNil))))))) (dNop)) (dSeq (dIfS (dTest (dOp pNe (dPr pLen (dCons (dVar 0) (dNil))) (dCst (.int 2)))) (dRet (dCst (.bl false))) (dNop)) (dSeq (dIfS (dTest (dOp pEq (dOp pIdx (dVar 0) (dCst (.int 0))) (dCst (.str "append")))) (dRet (dCall 1 f_is_event (dCons (dOp pIdx (dVar 0) (dCst (.int 1))) (dNil)))) (dNop)) (dSeq (dIfS (dTest (dOp pEq (dOp pIdx (dVar 0) (dCst (.int 0))) (dCst (.str "commit")))) (dRet (dCall 3 f_is_from_to (dCons (dOp pIdx (dVar 0) (dCst (.int 1))) (dCons (dCst (.int 1)) (dCons (dCst (.int (400))) (dNil)))))) (dNop)) (dRet (dAndV (dOp pIn (dOp pIdx (dVar 0) (dCst (.int 0))) (dTup (dCons (dCst (.str "copy")) (dCons (dCst (.str "stop")) (dCons (dCst (.str "start")) (dNil)))))) (dCall 3 f_is_from_to (dCons (dOp pIdx (dVar 0) (dCst (.int 1))) (dCons (dCst (.int 0)) (dCons (dCst (.int (4))) (dNil)))))))))))
def f_is_deed_form : List D → M D := dFn 1 N_is_deed_form.length b_is_deed_form
theorem nd_is_deed_form : N_is_deed_form.Nodup := by decide +kernel
theorem sc_is_deed_form : FnScope N_is_deed_form ["value"] (defScope (top 16)) := ⟨rfl, rfl, rfl, nd_is_deed_form, rfl, by decide +kernel, by decide +kernel⟩
theorem ok_is_deed_form (Z : Zf G mg fa fn) : Callee P w G mg base "is_deed_form" 3 1 ["value"] f_is_deed_form := by
  refine callee_of (N := N_is_deed_form) (d := b_is_deed_form) Z 9 22 (st := top 16) (by rfl) (by rfl) sc_is_deed_form (by rfl) (fun _ _ _ _ _ _ us hl => match us, hl with | [_], _ => by rfl) fun f cdv A outer s H E hr => ?_
  exact (jss_cons (js_if (PW.pt (jw_or (jt_not (jt_val (jr_of (je_callB (c_isi rfl) rfl (Z.free 5 rfl) PyProof.Rows.boot_isinstance (jb_cons rfl (jr_of (je_var rfl (.inl rfl) rfl rfl)) (jb_cons rfl (jr_of (je_ty rfl (Z.free 13 rfl) PyProof.Rows.boot_tuple (by decide) (by decide))) jb_nil)) rfl)) rfl)) (jw_or (jt_cmp (o_eqT rfl (huR hr)) (jr_of (je_var rfl (.inl rfl) rfl rfl)) (jr_of (je_tup ja_nil)) rfl) (jw1_or (jt_not (jt_val (jr_of (je_callB (c_isi rfl) rfl (Z.free 5 rfl) PyProof.Rows.boot_isinstance (jb_cons rfl (jr_of (je_ix (i_idx rfl) (jr_of (je_var rfl (.inl rfl) rfl rfl)) (jr_of cst_int) rfl)) (jb_cons rfl (jr_of (je_ty rfl (Z.free 19 rfl) PyProof.Rows.boot_str (by decide) (by decide))) jb_nil)) rfl)) rfl)))))) (jss_one (js_ret cst_bl)) jss_nil) (jss_cons (js_if (jt_cmp (o_eq rfl (huR hr)) (jr_of (je_ix (i_idx rfl) (jr_of (je_var rfl (.inl rfl) rfl rfl)) (jr_of cst_int) rfl)) (jr_of cst_str) rfl) (jss_one (js_ret (je_and (je_cmp (o_eq rfl (huR hr)) (jr_of (je_callB (c_len rfl) rfl (Z.free 0 rfl) boot_len (jb_cons rfl (jr_of (je_var rfl (.inl rfl) rfl rfl)) jb_nil) rfl)) (jr_of cst_int) rfl) (je_and (je_cal (ok_is_from_to Z) rfl hr (by decide) rfl (takes_of (E := E) rfl rfl rfl rfl) (ja_cons rfl (je_ix (i_idx rfl) (jr_of (je_var rfl (.inl rfl) rfl rfl)) (jr_of cst_int) rfl) (ja_cons rfl cst_int (ja_cons rfl (je_gint rfl (Z.int 20 rfl)) ja_nil))) rfl) (pe_one (je_cal (ok_is_rising_numbers Z) rfl hr (by decide) rfl (takes_of (E := E) rfl rfl rfl rfl) (ja_cons rfl (je_ix (i_idx rfl) (jr_of (je_var rfl (.inl rfl) rfl rfl)) (jr_of cst_int) rfl) (ja_cons rfl (je_gint rfl (Z.int 20 rfl)) ja_nil)) rfl)))))) jss_nil) (jss_cons (js_if (jt_cmp (o_ne rfl (huR hr)) (jr_of (je_callB (c_len rfl) rfl (Z.free 0 rfl) boot_len (jb_cons rfl (jr_of (je_var rfl (.inl rfl) rfl rfl)) jb_nil) rfl)) (jr_of cst_int) rfl) (jss_one (js_ret cst_bl)) jss_nil) (jss_cons (js_if (jt_cmp (o_eq rfl (huR hr)) (jr_of (je_ix (i_idx rfl) (jr_of (je_var rfl (.inl rfl) rfl rfl)) (jr_of cst_int) rfl)) (jr_of cst_str) rfl) (jss_one (js_ret (je_cal (ok_is_event Z) rfl hr (by decide) rfl (takes_of (E := E) rfl rfl rfl rfl) (ja_cons rfl (je_ix (i_idx rfl) (jr_of (je_var rfl (.inl rfl) rfl rfl)) (jr_of cst_int) rfl) ja_nil) rfl))) jss_nil) (jss_cons (js_if (jt_cmp (o_eq rfl (huR hr)) (jr_of (je_ix (i_idx rfl) (jr_of (je_var rfl (.inl rfl) rfl rfl)) (jr_of cst_int) rfl)) (jr_of cst_str) rfl) (jss_one (js_ret (je_cal (ok_is_from_to Z) rfl hr (by decide) rfl (takes_of (E := E) rfl rfl rfl rfl) (ja_cons rfl (je_ix (i_idx rfl) (jr_of (je_var rfl (.inl rfl) rfl rfl)) (jr_of cst_int) rfl) (ja_cons rfl cst_int (ja_cons rfl (je_gint rfl (Z.int 21 rfl)) ja_nil))) rfl))) jss_nil) (jss_one (js_ret (je_and (je_cmp (o_in rfl (huR hr)) (jr_of (je_ix (i_idx rfl) (jr_of (je_var rfl (.inl rfl) rfl rfl)) (jr_of cst_int) rfl)) (jr_of (je_tup (ja_cons rfl cst_str (ja_cons rfl cst_str (ja_cons rfl cst_str ja_nil))))) rfl) (pe_one (je_cal (ok_is_from_to Z) rfl hr (by decide) rfl (takes_of (E := E) rfl rfl rfl rfl) (ja_cons rfl (je_ix (i_idx rfl) (jr_of (je_var rfl (.inl rfl) rfl rfl)) (jr_of cst_int) rfl) (ja_cons rfl cst_int (ja_cons rfl (je_gint rfl (Z.int 20 rfl)) ja_nil))) rfl))))))))))
def N_last_term : List Str := ["rows"]
def b_last_term : DS := dRet (dIf (dTest (dOp pNe (dVar 0) (dTup (dNil)))) (dOp pIdx (dOp pIdx (dVar 0) (dNeg (dCst (.int 1)))) (dCst (.int 0))) (dCst (.int 0)))
def f_last_term : List D → M D := dFn 1 N_last_term.length b_last_term
theorem nd_last_term : N_last_term.Nodup := by decide +kernel
theorem sc_last_term : FnScope N_last_term ["rows"] (defScope (top 18)) := ⟨rfl, rfl, rfl, nd_last_term, rfl, by decide +kernel, by decide +kernel⟩
theorem ok_last_term (Z : Zf G mg fa fn) : Callee P w G mg base "last_term" 1 1 ["rows"] f_last_term := by
  refine callee_of (N := N_last_term) (d := b_last_term) Z 10 23 (st := top 18) (by rfl) (by rfl) sc_last_term (by rfl) (fun _ _ _ _ _ _ us hl => match us, hl with | [_], _ => by rfl) fun f cdv A outer s H E hr => ?_
  exact (jss_one (js_ret (je_if (jt_cmp (o_ne rfl (huR hr)) (jr_of (je_var rfl (.inl rfl) rfl rfl)) (jr_of (je_tup ja_nil)) rfl) (je_ix (i_idx rfl) (jr_of (je_ix (i_idx rfl) (jr_of (je_var rfl (.inl rfl) rfl rfl)) (jr_of (je_neg cst_int)) rfl)) (jr_of cst_int) rfl) cst_int)))
def N_are_newer : List Str := ["rows", "other"]
def b_are_newer : DS := dRet (dOp pGt (dTup (dCons (dCall 1 f_last_term (dCons (dVar 0) (dNil))) (dCons (dPr pLen (dCons (dVar 0) (dNil))) (dNil)))) (dTup (dCons (dCall 1 f_last_term (dCons (dVar 1) (dNil))) (dCons (dPr pLen (dCons (dVar 1) (dNil))) (dNil)))))
def f_are_newer : List D → M D := dFn 2 N_are_newer.length b_are_newer
theorem nd_are_newer : N_are_newer.Nodup := by decide +kernel
theorem sc_are_newer : FnScope N_are_newer ["rows", "other"] (defScope (top 19)) := ⟨rfl, rfl, rfl, nd_are_newer, rfl, by decide +kernel, by decide +kernel⟩
theorem ok_are_newer (Z : Zf G mg fa fn) : Callee P w G mg base "are_newer" 2 2 ["rows", "other"] f_are_newer := by
  refine callee_of (N := N_are_newer) (d := b_are_newer) Z 11 24 (st := top 19) (by rfl) (by rfl) sc_are_newer (by rfl) (fun _ _ _ _ _ _ us hl => match us, hl with | [_, _], _ => by rfl) fun f cdv A outer s H E hr => ?_
  exact (jss_one (js_ret (je_cmp (o_gt rfl (huR hr)) (jr_of (je_tup (ja_cons rfl (je_cal (ok_last_term Z) rfl hr (by decide) rfl (takes_of (E := E) rfl rfl rfl rfl) (ja_cons rfl (je_var rfl (.inl rfl) rfl rfl) ja_nil) rfl) (ja_cons rfl (je_callB (c_len rfl) rfl (Z.free 0 rfl) boot_len (jb_cons rfl (jr_of (je_var rfl (.inl rfl) rfl rfl)) jb_nil) rfl) ja_nil)))) (jr_of (je_tup (ja_cons rfl (je_cal (ok_last_term Z) rfl hr (by decide) rfl (takes_of (E := E) rfl rfl rfl rfl) (ja_cons rfl (je_var rfl (.inl rfl) rfl rfl) ja_nil) rfl) (ja_cons rfl (je_callB (c_len rfl) rfl (Z.free 0 rfl) boot_len (jb_cons rfl (jr_of (je_var rfl (.inl rfl) rfl rfl)) jb_nil) rfl) ja_nil)))) rfl)))
def N_elected : List Str := ["state", "number", "voters", "copies", "leader", "many", "term", "one"]
def b_elected : DS := dSeq (dBnd (dVar 0) (gT 3 (gsC (gN 3) (gsC (gN 4) (gsC (gN 5) (gs0)))))) (dSeq (dIfS (dOr (dTest (dOp pLe (dOp pMul (dCst (.int 2)) (dPr pLen (dCons (dVar 2) (dNil)))) (dPr pLen (dCons (dVar 3) (dNil))))) (dOr (dTest (dOp pGe (dOp pIdx (dVar 2) (dNeg (dCst (.int 1)))) (dPr pLen (dCons (dVar 3) (dNil))))) (dTest (dOp pNotIn (dVar 1) (dVar 2))))) (dRet (dCst .non)) (dNop)) (dSeq (dIfS (dNot (dTest (dPr pAll (dCons (dLst (dLc (dItems (dVar 2)) (gN 7) (dYes) (dAndV (dOp pIdx (dOp pIdx (dVar 3) (dVar 7)) (dCst (.int 0))) (dNotV (dCall 2 f_are_newer (dCons (dOp pIdx (dOp pIdx (dVar 3) (dVar 7)) (dCst (.int 2))) (dCons (dOp pIdx (dOp pIdx (dVar 3) (dVar 1)) (dCst (.int 2))) (dNil)))))) [7])) (dNil))))) (dRet (dCst .non)) (dNop)) (dSeq (dSet 6 (qV (dOp pAdd (dPr pMax (dCons (dLst (dLc (dItems (dVar 2)) (gN 7) (dYes) (dOp pIdx (dOp pIdx (dVar 3) (dVar 7)) (dCst (.int 1))) [7])) (dNil))) (dCst (.int 1))))) (dSeq (dFor (dItems (dVar 2)) (gN 7) (dSet 3 (qV (dCall 3 f_with_copy (dCons (dVar 3) (dCons (dVar 7) (dCons (dTup (dCons (dCst (.bl true)) (dCons (dVar 6) (dCons (dOp pIdx (dOp pIdx (dVar 3) (dVar 7)) (dCst (.int 2))) (dNil))))) (dNil)))))))) (dRet (dTup (dCons (dVar 3) (dCons (dVar 1) (dCons (dVar 5) (dNil))))))))))
def f_elected : List D → M D := dFn 3 N_elected.length b_elected
theorem nd_elected : N_elected.Nodup := by decide +kernel
theorem sc_elected : FnScope N_elected ["state", "number", "voters"] (defScope (top 22)) := ⟨rfl, rfl, rfl, nd_elected, rfl, by decide +kernel, by decide +kernel⟩
theorem ok_elected (Z : Zf G mg fa fn) : Callee P w G mg base "elected" 3 3 ["state", "number", "voters"] f_elected := by
  refine callee_of (N := N_elected) (d := b_elected) Z 12 25 (st := top 22) (by rfl) (by rfl) sc_elected (by rfl) (fun _ _ _ _ _ _ us hl => match us, hl with | [_, _, _], _ => by rfl) fun f cdv A outer s H E hr => ?_
  exact (jss_cons (js_bnd (vs := [0, 1, 2, 3, 4, 5, 6, 7]) (ps_asg (je_var rfl (.inl rfl) rfl rfl) (jg_tup rfl rfl (jgs_cons (jg_name nd_elected rfl (.inr rfl) (.inl rfl) (by decide)) (jgs_cons (jg_name nd_elected rfl (.inl rfl) (.inl rfl) (by decide)) (jgs_cons (jg_name nd_elected rfl (.inl rfl) (.inl rfl) (by decide)) jgs_nil)))))) (jss_cons (js_if (PW.pt (jw_or (jt_cmp (o_le rfl (huR hr)) (jr_of (je_op (o_mul rfl) (jr_of cst_int) (jr_of (je_callB (c_len rfl) rfl (Z.free 0 rfl) boot_len (jb_cons rfl (jr_of (je_var rfl (.inl rfl) rfl rfl)) jb_nil) rfl)))) (jr_of (je_callB (c_len rfl) rfl (Z.free 0 rfl) boot_len (jb_cons rfl (jr_of (je_var rfl (.inr (.inl rfl)) rfl rfl)) jb_nil) rfl)) rfl) (jw_or (jt_cmp (o_ge rfl (huR hr)) (jr_of (je_ix (i_idx rfl) (jr_of (je_var rfl (.inl rfl) rfl rfl)) (jr_of (je_neg cst_int)) rfl)) (jr_of (je_callB (c_len rfl) rfl (Z.free 0 rfl) boot_len (jb_cons rfl (jr_of (je_var rfl (.inr (.inl rfl)) rfl rfl)) jb_nil) rfl)) rfl) (jw1_or (jt_cmp (o_notIn rfl (huR hr)) (jr_of (je_var rfl (.inr (.inl rfl)) rfl rfl)) (jr_of (je_var rfl (.inl rfl) rfl rfl)) rfl))))) (jss_one (js_ret cst_non)) jss_nil) (jss_cons (js_if (jt_not (jt_val (jr_of (je_callB (c_all rfl rfl) rfl (Z.free 14 rfl) PyProof.Rows.boot_all (jb_cons rfl (jr_of (je_lst (je_lc (own := [("one", 7)]) rfl nd_elected (ji_valW rfl (jr_of (je_var rfl (.inl rfl) rfl rfl))) (blkOk_by rfl) (fun _ _ _ _ _ => (jg_name nd_elected rfl (.inl rfl) (.inr rfl) (by decide))) (fun _ _ _ _ _ => jts_nil) (fun _ _ _ _ _ => (je_and (je_ix (i_idx rfl) (jr_of (je_ix (i_idx rfl) (jr_of (je_var rfl (.inr (.inl rfl)) rfl rfl)) (jr_of (je_var rfl (.inl rfl) rfl rfl)) rfl)) (jr_of cst_int) rfl) (pe_one (je_not (je_cal (ok_are_newer Z) rfl hr (by decide) rfl takes0 (ja_cons rfl (je_ix (i_idx rfl) (jr_of (je_ix (i_idx rfl) (jr_of (je_var rfl (.inr (.inl rfl)) rfl rfl)) (jr_of (je_var rfl (.inl rfl) rfl rfl)) rfl)) (jr_of cst_int) rfl) (ja_cons rfl (je_ix (i_idx rfl) (jr_of (je_ix (i_idx rfl) (jr_of (je_var rfl (.inr (.inl rfl)) rfl rfl)) (jr_of (je_var rfl (.inr (.inl rfl)) rfl rfl)) rfl)) (jr_of cst_int) rfl) ja_nil)) rfl))))) (fun _ => rfl)))) jb_nil) rfl)) rfl)) (jss_one (js_ret cst_non)) jss_nil) (jss_cons (js_setV (ps_set nd_elected rfl (.inl rfl) (je_op (o_add rfl) (jr_of (je_callB (c_max rfl rfl) rfl (Z.free 3 rfl) PyProof.Rows.boot_max (jb_cons rfl (jr_of (je_lst (je_lc (own := [("one", 7)]) rfl nd_elected (ji_valW rfl (jr_of (je_var rfl (.inl rfl) rfl rfl))) (blkOk_by rfl) (fun _ _ _ _ _ => (jg_name nd_elected rfl (.inl rfl) (.inr rfl) (by decide))) (fun _ _ _ _ _ => jts_nil) (fun _ _ _ _ _ => (je_ix (i_idx rfl) (jr_of (je_ix (i_idx rfl) (jr_of (je_var rfl (.inr (.inl rfl)) rfl rfl)) (jr_of (je_var rfl (.inl rfl) rfl rfl)) rfl)) (jr_of cst_int) rfl)) (fun _ => rfl)))) jb_nil) rfl)) (jr_of cst_int)) rfl)) (jss_cons (js_for (vs := [0, 1, 2, 3, 4, 5, 6, 7]) (passes_of rfl) rfl (ji_val rfl (je_var rfl (.inl rfl) rfl rfl)) (jg_name nd_elected rfl (.inl rfl) (.inl rfl) (by decide)) (jss_one (js_setV (ps_set nd_elected rfl (.inr rfl) (je_cal (ok_with_copy Z) rfl hr (by decide) rfl (takes_of (E := E) rfl rfl rfl rfl) (ja_cons rfl (je_var rfl (.inr (.inl rfl)) rfl rfl) (ja_cons rfl (je_var rfl (.inl rfl) rfl rfl) (ja_cons rfl (je_tup (ja_cons rfl cst_bl (ja_cons rfl (je_var rfl (.inl rfl) rfl rfl) (ja_cons rfl (je_ix (i_idx rfl) (jr_of (je_ix (i_idx rfl) (jr_of (je_var rfl (.inr (.inl rfl)) rfl rfl)) (jr_of (je_var rfl (.inl rfl) rfl rfl)) rfl)) (jr_of cst_int) rfl) ja_nil)))) ja_nil))) rfl) rfl))) (fun _ => rfl)) (jss_one (js_ret (je_tup (ja_cons rfl (je_var rfl (.inr (.inl rfl)) rfl rfl) (ja_cons rfl (je_var rfl (.inr (.inl rfl)) rfl rfl) (ja_cons rfl (je_var rfl (.inl rfl) rfl rfl) ja_nil)))))))))))
def N_appended : List Str := ["state", "event", "copies", "leader", "many", "up", "term", "rows"]
def b_appended : DS := dSeq (dBnd (dVar 0) (gT 3 (gsC (gN 2) (gsC (gN 3) (gsC (gN 4) (gs0)))))) (dSeq (dIfS (dTest (dOp pIs (dVar 3) (dCst .non))) (dRet (dCst .non)) (dNop)) (dSeq (dBnd (dOp pIdx (dVar 2) (dVar 3)) (gT 3 (gsC (gN 5) (gsC (gN 6) (gsC (gN 7) (gs0)))))) (dRet (dTup (dCons (dCall 3 f_with_copy (dCons (dVar 2) (dCons (dVar 3) (dCons (dTup (dCons (dVar 5) (dCons (dVar 6) (dCons (dTup (dStar (dVar 7) (dCons (dTup (dCons (dVar 6) (dCons (dVar 1) (dNil)))) (dNil)))) (dNil))))) (dNil))))) (dCons (dVar 3) (dCons (dVar 4) (dNil))))))))
def f_appended : List D → M D := dFn 2 N_appended.length b_appended
theorem nd_appended : N_appended.Nodup := by decide +kernel
theorem sc_appended : FnScope N_appended ["state", "event"] (defScope (top 23)) := ⟨rfl, rfl, rfl, nd_appended, rfl, by decide +kernel, by decide +kernel⟩
theorem ok_appended (Z : Zf G mg fa fn) : Callee P w G mg base "appended" 2 2 ["state", "event"] f_appended := by
  refine callee_of (N := N_appended) (d := b_appended) Z 13 26 (st := top 23) (by rfl) (by rfl) sc_appended (by rfl) (fun _ _ _ _ _ _ us hl => match us, hl with | [_, _], _ => by rfl) fun f cdv A outer s H E hr => ?_
  exact (jss_cons (js_bnd (vs := [0, 1, 2, 3, 4, 5, 6, 7]) (ps_asg (je_var rfl (.inl rfl) rfl rfl) (jg_tup rfl rfl (jgs_cons (jg_name nd_appended rfl (.inl rfl) (.inl rfl) (by decide)) (jgs_cons (jg_name nd_appended rfl (.inl rfl) (.inl rfl) (by decide)) (jgs_cons (jg_name nd_appended rfl (.inl rfl) (.inl rfl) (by decide)) jgs_nil)))))) (jss_cons (js_if (jt_cmp (o_is) (jr_of (je_var rfl (.inl rfl) rfl rfl)) (jr_of cst_non) rfl) (jss_one (js_ret cst_non)) jss_nil) (jss_cons (js_bnd (vs := [0, 1, 2, 3, 4, 5, 6, 7]) (ps_asg (je_ix (i_idx rfl) (jr_of (je_var rfl (.inl rfl) rfl rfl)) (jr_of (je_var rfl (.inl rfl) rfl rfl)) rfl) (jg_tup rfl rfl (jgs_cons (jg_name nd_appended rfl (.inl rfl) (.inl rfl) (by decide)) (jgs_cons (jg_name nd_appended rfl (.inl rfl) (.inl rfl) (by decide)) (jgs_cons (jg_name nd_appended rfl (.inl rfl) (.inl rfl) (by decide)) jgs_nil)))))) (jss_one (js_ret (je_tup (ja_cons rfl (je_cal (ok_with_copy Z) rfl hr (by decide) rfl (takes_of (E := E) rfl rfl rfl rfl) (ja_cons rfl (je_var rfl (.inl rfl) rfl rfl) (ja_cons rfl (je_var rfl (.inl rfl) rfl rfl) (ja_cons rfl (je_tup (ja_cons rfl (je_var rfl (.inl rfl) rfl rfl) (ja_cons rfl (je_var rfl (.inl rfl) rfl rfl) (ja_cons rfl (je_tup (ja_star rfl (jr_of (je_var rfl (.inl rfl) rfl rfl)) (ja_cons rfl (je_tup (ja_cons rfl (je_var rfl (.inl rfl) rfl rfl) (ja_cons rfl (je_var rfl (.inl rfl) rfl rfl) ja_nil))) ja_nil))) ja_nil)))) ja_nil))) rfl) (ja_cons rfl (je_var rfl (.inl rfl) rfl rfl) (ja_cons rfl (je_var rfl (.inl rfl) rfl rfl) ja_nil)))))))))
def N_copied : List Str := ["state", "number", "copies", "leader", "many"]
def b_copied : DS := dSeq (dBnd (dVar 0) (gT 3 (gsC (gN 2) (gsC (gN 3) (gsC (gN 4) (gs0)))))) (dSeq (dIfS (dOr (dTest (dOp pIs (dVar 3) (dCst .non))) (dOr (dTest (dOp pIn (dVar 1) (dTup (dCons (dVar 3) (dCons (dPr pLen (dCons (dVar 2) (dNil))) (dNil)))))) (dOr (dTest (dOp pGt (dVar 1) (dPr pLen (dCons (dVar 2) (dNil))))) (dNot (dTest (dOp pIdx (dOp pIdx (dVar 2) (dVar 1)) (dCst (.int 0)))))))) (dRet (dCst .non)) (dNop)) (dRet (dTup (dCons (dCall 3 f_with_copy (dCons (dVar 2) (dCons (dVar 1) (dCons (dTup (dCons (dCst (.bl true)) (dStar (dSl (dOp pIdx (dVar 2) (dVar 3)) (dSo (dCst (.int 1))) (dNo)) (dNil)))) (dNil))))) (dCons (dVar 3) (dCons (dVar 4) (dNil)))))))
def f_copied : List D → M D := dFn 2 N_copied.length b_copied
theorem nd_copied : N_copied.Nodup := by decide +kernel
theorem sc_copied : FnScope N_copied ["state", "number"] (defScope (top 24)) := ⟨rfl, rfl, rfl, nd_copied, rfl, by decide +kernel, by decide +kernel⟩
theorem ok_copied (Z : Zf G mg fa fn) : Callee P w G mg base "copied" 2 2 ["state", "number"] f_copied := by
  refine callee_of (N := N_copied) (d := b_copied) Z 14 27 (st := top 24) (by rfl) (by rfl) sc_copied (by rfl) (fun _ _ _ _ _ _ us hl => match us, hl with | [_, _], _ => by rfl) fun f cdv A outer s H E hr => ?_
  exact (jss_cons (js_bnd (vs := [0, 1, 2, 3, 4]) (ps_asg (je_var rfl (.inl rfl) rfl rfl) (jg_tup rfl rfl (jgs_cons (jg_name nd_copied rfl (.inl rfl) (.inl rfl) (by decide)) (jgs_cons (jg_name nd_copied rfl (.inl rfl) (.inl rfl) (by decide)) (jgs_cons (jg_name nd_copied rfl (.inl rfl) (.inl rfl) (by decide)) jgs_nil)))))) (jss_cons (js_if (PW.pt (jw_or (jt_cmp (o_is) (jr_of (je_var rfl (.inl rfl) rfl rfl)) (jr_of cst_non) rfl) (jw_or (jt_cmp (o_in rfl (huR hr)) (jr_of (je_var rfl (.inl rfl) rfl rfl)) (jr_of (je_tup (ja_cons rfl (je_var rfl (.inl rfl) rfl rfl) (ja_cons rfl (je_callB (c_len rfl) rfl (Z.free 0 rfl) boot_len (jb_cons rfl (jr_of (je_var rfl (.inl rfl) rfl rfl)) jb_nil) rfl) ja_nil)))) rfl) (jw_or (jt_cmp (o_gt rfl (huR hr)) (jr_of (je_var rfl (.inl rfl) rfl rfl)) (jr_of (je_callB (c_len rfl) rfl (Z.free 0 rfl) boot_len (jb_cons rfl (jr_of (je_var rfl (.inl rfl) rfl rfl)) jb_nil) rfl)) rfl) (jw1_or (jt_not (jt_val (jr_of (je_ix (i_idx rfl) (jr_of (je_ix (i_idx rfl) (jr_of (je_var rfl (.inl rfl) rfl rfl)) (jr_of (je_var rfl (.inl rfl) rfl rfl)) rfl)) (jr_of cst_int) rfl)) rfl))))))) (jss_one (js_ret cst_non)) jss_nil) (jss_one (js_ret (je_tup (ja_cons rfl (je_cal (ok_with_copy Z) rfl hr (by decide) rfl (takes_of (E := E) rfl rfl rfl rfl) (ja_cons rfl (je_var rfl (.inl rfl) rfl rfl) (ja_cons rfl (je_var rfl (.inl rfl) rfl rfl) (ja_cons rfl (je_tup (ja_cons rfl cst_bl (ja_star rfl (jr_of (je_sl rfl (jr_of (je_ix (i_idx rfl) (jr_of (je_var rfl (.inl rfl) rfl rfl)) (jr_of (je_var rfl (.inl rfl) rfl rfl)) rfl)) (jo_some cst_int) jo_none)) ja_nil))) ja_nil))) rfl) (ja_cons rfl (je_var rfl (.inl rfl) rfl rfl) (ja_cons rfl (je_var rfl (.inl rfl) rfl rfl) ja_nil))))))))
def N_committed_state : List Str := ["state", "fresh", "copies", "leader", "many", "first", "having", "one"]
def b_committed_state : DS := dSeq (dBnd (dVar 0) (gT 3 (gsC (gN 2) (gsC (gN 3) (gsC (gN 4) (gs0)))))) (dSeq (dIfS (dOr (dTest (dOp pIs (dVar 3) (dCst .non))) (dNot (dTest (dChain pLt pLe (dVar 4) (dVar 1) (dPr pLen (dCons (dOp pIdx (dOp pIdx (dVar 2) (dVar 3)) (dCst (.int 2))) (dNil))))))) (dRet (dCst .non)) (dNop)) (dSeq (dSet 5 (qV (dSl (dOp pIdx (dOp pIdx (dVar 2) (dVar 3)) (dCst (.int 2))) (dNo) (dSo (dVar 1))))) (dSeq (dIfS (dTest (dOp pNe (dOp pIdx (dOp pIdx (dVar 5) (dNeg (dCst (.int 1)))) (dCst (.int 0))) (dOp pIdx (dOp pIdx (dVar 2) (dVar 3)) (dCst (.int 1))))) (dRet (dCst .non)) (dNop)) (dSeq (dSet 6 (qV (dLst (dLc (dItems (dVar 2)) (gN 7) (dTest (dOp pEq (dSl (dOp pIdx (dVar 7) (dCst (.int 2))) (dNo) (dSo (dVar 1))) (dVar 5))) (dVar 7) [7])))) (dRet (dIf (dTest (dOp pGt (dOp pMul (dCst (.int 2)) (dPr pLen (dCons (dVar 6) (dNil)))) (dPr pLen (dCons (dVar 2) (dNil))))) (dTup (dCons (dVar 2) (dCons (dVar 3) (dCons (dVar 1) (dNil))))) (dCst .non)))))))
def f_committed_state : List D → M D := dFn 2 N_committed_state.length b_committed_state
theorem nd_committed_state : N_committed_state.Nodup := by decide +kernel
theorem sc_committed_state : FnScope N_committed_state ["state", "fresh"] (defScope (top 25)) := ⟨rfl, rfl, rfl, nd_committed_state, rfl, by decide +kernel, by decide +kernel⟩
theorem ok_committed_state (Z : Zf G mg fa fn) : Callee P w G mg base "committed_state" 1 2 ["state", "fresh"] f_committed_state := by
  refine callee_of (N := N_committed_state) (d := b_committed_state) Z 15 28 (st := top 25) (by rfl) (by rfl) sc_committed_state (by rfl) (fun _ _ _ _ _ _ us hl => match us, hl with | [_, _], _ => by rfl) fun f cdv A outer s H E hr => ?_
  exact (jss_cons (js_bnd (vs := [0, 1, 2, 3, 4, 5, 6, 7]) (ps_asg (je_var rfl (.inl rfl) rfl rfl) (jg_tup rfl rfl (jgs_cons (jg_name nd_committed_state rfl (.inl rfl) (.inl rfl) (by decide)) (jgs_cons (jg_name nd_committed_state rfl (.inl rfl) (.inl rfl) (by decide)) (jgs_cons (jg_name nd_committed_state rfl (.inl rfl) (.inl rfl) (by decide)) jgs_nil)))))) (jss_cons (js_if (PW.pt (jw_or (jt_cmp (o_is) (jr_of (je_var rfl (.inl rfl) rfl rfl)) (jr_of cst_non) rfl) (jw1_or (jt_not (jt_chain (o_lt rfl (huR hr)) (o_le rfl (huR hr)) (jr_of (je_var rfl (.inl rfl) rfl rfl)) (jr_of (je_var rfl (.inr (.inl rfl)) rfl rfl)) (jr_of (je_callB (c_len rfl) rfl (Z.free 0 rfl) boot_len (jb_cons rfl (jr_of (je_ix (i_idx rfl) (jr_of (je_ix (i_idx rfl) (jr_of (je_var rfl (.inl rfl) rfl rfl)) (jr_of (je_var rfl (.inl rfl) rfl rfl)) rfl)) (jr_of cst_int) rfl)) jb_nil) rfl)) rfl))))) (jss_one (js_ret cst_non)) jss_nil) (jss_cons (js_setV (ps_set nd_committed_state rfl (.inr rfl) (je_sl rfl (jr_of (je_ix (i_idx rfl) (jr_of (je_ix (i_idx rfl) (jr_of (je_var rfl (.inl rfl) rfl rfl)) (jr_of (je_var rfl (.inl rfl) rfl rfl)) rfl)) (jr_of cst_int) rfl)) jo_none (jo_some (je_var rfl (.inr (.inl rfl)) rfl rfl))) rfl)) (jss_cons (js_if (jt_cmp (o_ne rfl (huR hr)) (jr_of (je_ix (i_idx rfl) (jr_of (je_ix (i_idx rfl) (jr_of (je_var rfl (.inr (.inl rfl)) rfl rfl)) (jr_of (je_neg cst_int)) rfl)) (jr_of cst_int) rfl)) (jr_of (je_ix (i_idx rfl) (jr_of (je_ix (i_idx rfl) (jr_of (je_var rfl (.inl rfl) rfl rfl)) (jr_of (je_var rfl (.inl rfl) rfl rfl)) rfl)) (jr_of cst_int) rfl)) rfl) (jss_one (js_ret cst_non)) jss_nil) (jss_cons (js_lcV (ps_setLc (own := [("one", 7)]) rfl nd_committed_state rfl rfl (sw_true rfl rfl rfl rfl) (ji_valW rfl (jr_of (je_var rfl (.inl rfl) rfl rfl))) (blkOk_by rfl) (fun _ _ _ _ _ => (jg_name nd_committed_state rfl (.inl rfl) (.inr rfl) (by decide))) (fun _ _ _ _ _ => (jts_one (jt_cmp (o_eq rfl (huR hr)) (jr_of (je_sl rfl (jr_of (je_ix (i_idx rfl) (jr_of (je_var rfl (.inl rfl) rfl rfl)) (jr_of cst_int) rfl)) jo_none (jo_some (je_var rfl (.inr (.inl rfl)) rfl rfl)))) (jr_of (je_var rfl (.inr (.inl rfl)) rfl rfl)) rfl))) (fun _ _ _ _ _ => (je_var rfl (.inl rfl) rfl rfl)) (fun _ => rfl))) (jss_one (js_ret (je_if (jt_cmp (o_gt rfl (huR hr)) (jr_of (je_op (o_mul rfl) (jr_of cst_int) (jr_of (je_callB (c_len rfl) rfl (Z.free 0 rfl) boot_len (jb_cons rfl (jr_of (je_var rfl (.inl rfl) rfl rfl)) jb_nil) rfl)))) (jr_of (je_callB (c_len rfl) rfl (Z.free 0 rfl) boot_len (jb_cons rfl (jr_of (je_var rfl (.inl rfl) rfl rfl)) jb_nil) rfl)) rfl) (je_tup (ja_cons rfl (je_var rfl (.inl rfl) rfl rfl) (ja_cons rfl (je_var rfl (.inl rfl) rfl rfl) (ja_cons rfl (je_var rfl (.inr (.inl rfl)) rfl rfl) ja_nil)))) cst_non))))))))
def N_behind_deed : List Str := ["state", "deed"]
def b_behind_deed : DS := dSeq (dIfS (dNot (dTest (dCall 1 f_is_deed_form (dCons (dVar 1) (dNil))))) (dRet (dCst .non)) (dNop)) (dSeq (dIfS (dTest (dOp pEq (dOp pIdx (dVar 1) (dCst (.int 0))) (dCst (.str "elect")))) (dRet (dCall 3 f_elected (dCons (dVar 0) (dCons (dOp pIdx (dVar 1) (dCst (.int 1))) (dCons (dOp pIdx (dVar 1) (dCst (.int 2))) (dNil)))))) (dNop)) (dSeq (dIfS (dTest (dOp pEq (dOp pIdx (dVar 1) (dCst (.int 0))) (dCst (.str "append")))) (dRet (dCall 2 f_appended (dCons (dVar 0) (dCons (dOp pIdx (dVar 1) (dCst (.int 1))) (dNil))))) (dNop)) (dSeq (dIfS (dTest (dOp pEq (dOp pIdx (dVar 1) (dCst (.int 0))) (dCst (.str "copy")))) (dRet (dCall 2 f_copied (dCons (dVar 0) (dCons (dOp pIdx (dVar 1) (dCst (.int 1))) (dNil))))) (dNop)) (dSeq (dIfS (dTest (dOp pEq (dOp pIdx (dVar 1) (dCst (.int 0))) (dCst (.str "commit")))) (dRet (dCall 2 f_committed_state (dCons (dVar 0) (dCons (dOp pIdx (dVar 1) (dCst (.int 1))) (dNil))))) (dNop)) (dRet (dCall 3 f_turned_state (dCons (dVar 0) (dCons (dOp pIdx (dVar 1) (dCst (.int 1))) (dCons (dOp pEq (dOp pIdx (dVar 1) (dCst (.int 0))) (dCst (.str "start"))) (dNil))))))))))
def f_behind_deed : List D → M D := dFn 2 N_behind_deed.length b_behind_deed
theorem nd_behind_deed : N_behind_deed.Nodup := by decide +kernel
theorem sc_behind_deed : FnScope N_behind_deed ["state", "deed"] (defScope (top 27)) := ⟨rfl, rfl, rfl, nd_behind_deed, rfl, by decide +kernel, by decide +kernel⟩
theorem ok_behind_deed (Z : Zf G mg fa fn) : Callee P w G mg base "behind_deed" 4 2 ["state", "deed"] f_behind_deed := by
  refine callee_of (N := N_behind_deed) (d := b_behind_deed) Z 16 29 (st := top 27) (by rfl) (by rfl) sc_behind_deed (by rfl) (fun _ _ _ _ _ _ us hl => match us, hl with | [_, _], _ => by rfl) fun f cdv A outer s H E hr => ?_
  exact (jss_cons (js_if (jt_not (jt_val (jr_of (je_cal (ok_is_deed_form Z) rfl hr (by decide) rfl (takes_of (E := E) rfl rfl rfl rfl) (ja_cons rfl (je_var rfl (.inl rfl) rfl rfl) ja_nil) rfl)) rfl)) (jss_one (js_ret cst_non)) jss_nil) (jss_cons (js_if (jt_cmp (o_eq rfl (huR hr)) (jr_of (je_ix (i_idx rfl) (jr_of (je_var rfl (.inl rfl) rfl rfl)) (jr_of cst_int) rfl)) (jr_of cst_str) rfl) (jss_one (js_ret (je_cal (ok_elected Z) rfl hr (by decide) rfl (takes_of (E := E) rfl rfl rfl rfl) (ja_cons rfl (je_var rfl (.inl rfl) rfl rfl) (ja_cons rfl (je_ix (i_idx rfl) (jr_of (je_var rfl (.inl rfl) rfl rfl)) (jr_of cst_int) rfl) (ja_cons rfl (je_ix (i_idx rfl) (jr_of (je_var rfl (.inl rfl) rfl rfl)) (jr_of cst_int) rfl) ja_nil))) rfl))) jss_nil) (jss_cons (js_if (jt_cmp (o_eq rfl (huR hr)) (jr_of (je_ix (i_idx rfl) (jr_of (je_var rfl (.inl rfl) rfl rfl)) (jr_of cst_int) rfl)) (jr_of cst_str) rfl) (jss_one (js_ret (je_cal (ok_appended Z) rfl hr (by decide) rfl (takes_of (E := E) rfl rfl rfl rfl) (ja_cons rfl (je_var rfl (.inl rfl) rfl rfl) (ja_cons rfl (je_ix (i_idx rfl) (jr_of (je_var rfl (.inl rfl) rfl rfl)) (jr_of cst_int) rfl) ja_nil)) rfl))) jss_nil) (jss_cons (js_if (jt_cmp (o_eq rfl (huR hr)) (jr_of (je_ix (i_idx rfl) (jr_of (je_var rfl (.inl rfl) rfl rfl)) (jr_of cst_int) rfl)) (jr_of cst_str) rfl) (jss_one (js_ret (je_cal (ok_copied Z) rfl hr (by decide) rfl (takes_of (E := E) rfl rfl rfl rfl) (ja_cons rfl (je_var rfl (.inl rfl) rfl rfl) (ja_cons rfl (je_ix (i_idx rfl) (jr_of (je_var rfl (.inl rfl) rfl rfl)) (jr_of cst_int) rfl) ja_nil)) rfl))) jss_nil) (jss_cons (js_if (jt_cmp (o_eq rfl (huR hr)) (jr_of (je_ix (i_idx rfl) (jr_of (je_var rfl (.inl rfl) rfl rfl)) (jr_of cst_int) rfl)) (jr_of cst_str) rfl) (jss_one (js_ret (je_cal (ok_committed_state Z) rfl hr (by decide) rfl (takes_of (E := E) rfl rfl rfl rfl) (ja_cons rfl (je_var rfl (.inl rfl) rfl rfl) (ja_cons rfl (je_ix (i_idx rfl) (jr_of (je_var rfl (.inl rfl) rfl rfl)) (jr_of cst_int) rfl) ja_nil)) rfl))) jss_nil) (jss_one (js_ret (je_cal (ok_turned_state Z) rfl hr (by decide) rfl (takes_of (E := E) rfl rfl rfl rfl) (ja_cons rfl (je_var rfl (.inl rfl) rfl rfl) (ja_cons rfl (je_ix (i_idx rfl) (jr_of (je_var rfl (.inl rfl) rfl rfl)) (jr_of cst_int) rfl) (ja_cons rfl (je_cmp (o_eq rfl (huR hr)) (jr_of (je_ix (i_idx rfl) (jr_of (je_var rfl (.inl rfl) rfl rfl)) (jr_of cst_int) rfl)) (jr_of cst_str) rfl) ja_nil))) rfl))))))))
def N_state_or_wrong : List Str := ["many", "value", "state", "at", "deed"]
def b_state_or_wrong : DS := dSeq (dIfS (dOr (dNot (dTest (dPr pIsi (dCons (dVar 1) (dCons (dCst (.ty "tuple")) (dNil)))))) (dTest (dOp pGt (dPr pLen (dCons (dVar 1) (dNil))) (dCst (.int (400)))))) (dRet (dTup (dCons (dCst .non) (dCons (dCst (.int 0)) (dNil))))) (dNop)) (dSeq (dSet 2 (qV (dCall 1 f_begun_state (dCons (dVar 0) (dNil))))) (dSeq (dFor (dRg en1 (dCons (dVar 1) (dNil))) (gT 2 (gsC (gN 3) (gsC (gN 4) (gs0)))) (dSeq (dSet 2 (qV (dCall 2 f_behind_deed (dCons (dVar 2) (dCons (dVar 4) (dNil)))))) (dIfS (dTest (dOp pIs (dVar 2) (dCst .non))) (dRet (dTup (dCons (dCst .non) (dCons (dVar 3) (dNil))))) (dNop)))) (dRet (dTup (dCons (dVar 2) (dCons (dCst (.int 0)) (dNil)))))))
def f_state_or_wrong : List D → M D := dFn 2 N_state_or_wrong.length b_state_or_wrong
theorem nd_state_or_wrong : N_state_or_wrong.Nodup := by decide +kernel
theorem sc_state_or_wrong : FnScope N_state_or_wrong ["many", "value"] (defScope (top 28)) := ⟨rfl, rfl, rfl, nd_state_or_wrong, rfl, by decide +kernel, by decide +kernel⟩
theorem ok_state_or_wrong (Z : Zf G mg fa fn) : Callee P w G mg base "state_or_wrong" 5 2 ["many", "value"] f_state_or_wrong := by
  refine callee_of (N := N_state_or_wrong) (d := b_state_or_wrong) Z 17 31 (st := top 28) (by rfl) (by rfl) sc_state_or_wrong (by rfl) (fun _ _ _ _ _ _ us hl => match us, hl with | [_, _], _ => by rfl) fun f cdv A outer s H E hr => ?_
  exact (jss_cons (js_if (PW.pt (jw_or (jt_not (jt_val (jr_of (je_callB (c_isi rfl) rfl (Z.free 5 rfl) PyProof.Rows.boot_isinstance (jb_cons rfl (jr_of (je_var rfl (.inl rfl) rfl rfl)) (jb_cons rfl (jr_of (je_ty rfl (Z.free 13 rfl) PyProof.Rows.boot_tuple (by decide) (by decide))) jb_nil)) rfl)) rfl)) (jw1_or (jt_cmp (o_gt rfl (huR hr)) (jr_of (je_callB (c_len rfl) rfl (Z.free 0 rfl) boot_len (jb_cons rfl (jr_of (je_var rfl (.inl rfl) rfl rfl)) jb_nil) rfl)) (jr_of (je_gint rfl (Z.int 21 rfl))) rfl)))) (jss_one (js_ret (je_tup (ja_cons rfl cst_non (ja_cons rfl cst_int ja_nil))))) jss_nil) (jss_cons (js_setV (ps_set nd_state_or_wrong rfl (.inl rfl) (je_cal (ok_begun_state Z) rfl hr (by decide) rfl (takes_of (E := E) rfl rfl rfl rfl) (ja_cons rfl (je_var rfl (.inl rfl) rfl rfl) ja_nil) rfl) rfl)) (jss_cons (js_for (vs := [0, 1, 2, 3, 4]) (passes_of rfl) rfl (ji_enum rfl rfl (Z.free 30 rfl) (ja_cons rfl (je_var rfl (.inl rfl) rfl rfl) ja_nil) rfl) (jg_tup rfl rfl (jgs_cons (jg_name nd_state_or_wrong rfl (.inl rfl) (.inl rfl) (by decide)) (jgs_cons (jg_name nd_state_or_wrong rfl (.inl rfl) (.inl rfl) (by decide)) jgs_nil))) (jss_cons (js_setV (ps_set nd_state_or_wrong rfl (.inl rfl) (je_cal (ok_behind_deed Z) rfl hr (by decide) rfl (takes_of (E := E) rfl rfl rfl rfl) (ja_cons rfl (je_var rfl (.inl rfl) rfl rfl) (ja_cons rfl (je_var rfl (.inl rfl) rfl rfl) ja_nil)) rfl) rfl)) (jss_one (js_if (jt_cmp (o_is) (jr_of (je_var rfl (.inl rfl) rfl rfl)) (jr_of cst_non) rfl) (jss_one (js_ret (je_tup (ja_cons rfl cst_non (ja_cons rfl (je_var rfl (.inl rfl) rfl rfl) ja_nil))))) jss_nil))) (fun _ => rfl)) (jss_one (js_ret (je_tup (ja_cons rfl (je_var rfl (.inl rfl) rfl rfl) (ja_cons rfl cst_int ja_nil))))))))
def N_events_in : List Str := ["state", "copies", "leader", "many", "up", "term", "rows", "having", "one", "event"]
def b_events_in : DS := dSeq (dBnd (dVar 0) (gT 3 (gsC (gN 1) (gsC (gN 2) (gsC (gN 3) (gs0)))))) (dSeq (dFor (dItems (dVar 1)) (gT 3 (gsC (gN 4) (gsC (gN 5) (gsC (gN 6) (gs0))))) (dSeq (dSet 7 (qV (dLst (dLc (dItems (dVar 1)) (gN 8) (dTest (dOp pEq (dSl (dOp pIdx (dVar 8) (dCst (.int 2))) (dNo) (dSo (dVar 3))) (dSl (dVar 6) (dNo) (dSo (dVar 3))))) (dVar 8) [8])))) (dIfS (dAnd (dTest (dOp pGe (dPr pLen (dCons (dVar 6) (dNil))) (dVar 3))) (dTest (dOp pGt (dOp pMul (dCst (.int 2)) (dPr pLen (dCons (dVar 7) (dNil)))) (dPr pLen (dCons (dVar 1) (dNil)))))) (dRet (dPr pTuple (dCons (dLst (dLc (dItems (dSl (dVar 6) (dNo) (dSo (dVar 3)))) (gT 2 (gsC (gN 5) (gsC (gN 9) (gs0)))) (dYes) (dVar 9) [5, 9])) (dNil)))) (dNop)))) (dRet (dTup (dNil))))
def f_events_in : List D → M D := dFn 1 N_events_in.length b_events_in
theorem nd_events_in : N_events_in.Nodup := by decide +kernel
theorem sc_events_in : FnScope N_events_in ["state"] (defScope (top 29)) := ⟨rfl, rfl, rfl, nd_events_in, rfl, by decide +kernel, by decide +kernel⟩
theorem ok_events_in (Z : Zf G mg fa fn) : Callee P w G mg base "events_in" 1 1 ["state"] f_events_in := by
  refine callee_of (N := N_events_in) (d := b_events_in) Z 18 32 (st := top 29) (by rfl) (by rfl) sc_events_in (by rfl) (fun _ _ _ _ _ _ us hl => match us, hl with | [_], _ => by rfl) fun f cdv A outer s H E hr => ?_
  exact (jss_cons (js_bnd (vs := [0, 1, 2, 3, 4, 5, 6, 7, 8, 9]) (ps_asg (je_var rfl (.inl rfl) rfl rfl) (jg_tup rfl rfl (jgs_cons (jg_name nd_events_in rfl (.inl rfl) (.inl rfl) (by decide)) (jgs_cons (jg_name nd_events_in rfl (.inl rfl) (.inl rfl) (by decide)) (jgs_cons (jg_name nd_events_in rfl (.inr rfl) (.inl rfl) (by decide)) jgs_nil)))))) (jss_cons (js_for (vs := [0, 1, 2, 3, 4, 5, 6, 7, 8, 9]) (passes_of rfl) rfl (ji_val rfl (je_var rfl (.inl rfl) rfl rfl)) (jg_tup rfl rfl (jgs_cons (jg_name nd_events_in rfl (.inl rfl) (.inl rfl) (by decide)) (jgs_cons (jg_name nd_events_in rfl (.inl rfl) (.inl rfl) (by decide)) (jgs_cons (jg_name nd_events_in rfl (.inr rfl) (.inl rfl) (by decide)) jgs_nil)))) (jss_cons (js_lcV (ps_setLc (own := [("one", 8)]) rfl nd_events_in rfl rfl (sw_true rfl rfl rfl rfl) (ji_valW rfl (jr_of (je_var rfl (.inl rfl) rfl rfl))) (blkOk_by rfl) (fun _ _ _ _ _ => (jg_name nd_events_in rfl (.inl rfl) (.inr rfl) (by decide))) (fun _ _ _ _ _ => (jts_one (jt_cmp (o_eq rfl (huR hr)) (jr_of (je_sl rfl (jr_of (je_ix (i_idx rfl) (jr_of (je_var rfl (.inl rfl) rfl rfl)) (jr_of cst_int) rfl)) jo_none (jo_some (je_var rfl (.inr (.inl rfl)) rfl rfl)))) (jr_of (je_sl rfl (jr_of (je_var rfl (.inr (.inl rfl)) rfl rfl)) jo_none (jo_some (je_var rfl (.inr (.inl rfl)) rfl rfl)))) rfl))) (fun _ _ _ _ _ => (je_var rfl (.inl rfl) rfl rfl)) (fun _ => rfl))) (jss_one (js_if (PW.pt (jw_and (jt_cmp (o_ge rfl (huR hr)) (jr_of (je_callB (c_len rfl) rfl (Z.free 0 rfl) boot_len (jb_cons rfl (jr_of (je_var rfl (.inr (.inl rfl)) rfl rfl)) jb_nil) rfl)) (jr_of (je_var rfl (.inr (.inl rfl)) rfl rfl)) rfl) (jw1_and (jt_cmp (o_gt rfl (huR hr)) (jr_of (je_op (o_mul rfl) (jr_of cst_int) (jr_of (je_callB (c_len rfl) rfl (Z.free 0 rfl) boot_len (jb_cons rfl (jr_of (je_var rfl (.inl rfl) rfl rfl)) jb_nil) rfl)))) (jr_of (je_callB (c_len rfl) rfl (Z.free 0 rfl) boot_len (jb_cons rfl (jr_of (je_var rfl (.inl rfl) rfl rfl)) jb_nil) rfl)) rfl)))) (jss_one (js_ret (je_callT (c_tuple rfl) rfl (Z.free 13 rfl) PyProof.Rows.boot_tuple (jb_cons rfl (jr_of (je_lst (je_lc (own := [("term", 5), ("event", 9)]) rfl nd_events_in (ji_valW rfl (jr_of (je_sl rfl (jr_of (je_var rfl (.inr (.inl rfl)) rfl rfl)) jo_none (jo_some (je_var rfl (.inr (.inl rfl)) rfl rfl))))) (blkOk_by rfl) (fun _ _ _ _ _ => (jg_tup rfl rfl (jgs_cons (jg_name nd_events_in rfl (.inl rfl) (.inr rfl) (by decide)) (jgs_cons (jg_name nd_events_in rfl (.inl rfl) (.inr rfl) (by decide)) jgs_nil)))) (fun _ _ _ _ _ => jts_nil) (fun _ _ _ _ _ => (je_var rfl (.inl rfl) rfl rfl)) (fun _ => rfl)))) jb_nil) rfl))) jss_nil))) (fun _ => rfl)) (jss_one (js_ret (je_tup ja_nil)))))
def N_play_paper : List Str := ["many", "value", "state", "at"]
def b_play_paper : DS := dSeq (dDrop (dCall 1 f_need_many (dCons (dVar 0) (dNil)))) (dSeq (dBnd (dCall 2 f_state_or_wrong (dCons (dVar 0) (dCons (dVar 1) (dNil)))) (gT 2 (gsC (gN 2) (gsC (gN 3) (gs0))))) (dRet (dIf (dTest (dOp pIsNot (dVar 2) (dCst .non))) (dTup (dCons (dCst (.str "play")) (dCons (dVar 2) (dCons (dCall 1 f_events_in (dCons (dVar 2) (dNil))) (dNil))))) (dTup (dCons (dCst (.str "wrong")) (dCons (dVar 3) (dNil)))))))
def f_play_paper : List D → M D := dFn 2 N_play_paper.length b_play_paper
theorem nd_play_paper : N_play_paper.Nodup := by decide +kernel
theorem sc_play_paper : FnScope N_play_paper ["many", "value"] (defScope (top 34)) := ⟨rfl, rfl, rfl, nd_play_paper, rfl, by decide +kernel, by decide +kernel⟩
theorem ok_play_paper (Z : Zf G mg fa fn) : Callee P w G mg base "play_paper" 6 2 ["many", "value"] f_play_paper := by
  refine callee_of (N := N_play_paper) (d := b_play_paper) Z 19 35 (st := top 34) (by rfl) (by rfl) sc_play_paper (by rfl) (fun _ _ _ _ _ _ us hl => match us, hl with | [_, _], _ => by rfl) fun f cdv A outer s H E hr => ?_
  exact (jss_cons (js_drop (je_cal (ok_need_many Z) rfl hr (by decide) rfl (takes_of (E := E) rfl rfl rfl rfl) (ja_cons rfl (je_var rfl (.inl rfl) rfl rfl) ja_nil) rfl) rfl) (jss_cons (js_bnd (vs := [0, 1, 2, 3]) (ps_asg (je_cal (ok_state_or_wrong Z) rfl hr (by decide) rfl (takes_of (E := E) rfl rfl rfl rfl) (ja_cons rfl (je_var rfl (.inl rfl) rfl rfl) (ja_cons rfl (je_var rfl (.inl rfl) rfl rfl) ja_nil)) rfl) (jg_tup rfl rfl (jgs_cons (jg_name nd_play_paper rfl (.inl rfl) (.inl rfl) (by decide)) (jgs_cons (jg_name nd_play_paper rfl (.inl rfl) (.inl rfl) (by decide)) jgs_nil))))) (jss_one (js_ret (je_if (jt_cmp (o_isNot) (jr_of (je_var rfl (.inl rfl) rfl rfl)) (jr_of cst_non) rfl) (je_tup (ja_cons rfl (je_gstr rfl (Z.str 33 rfl)) (ja_cons rfl (je_var rfl (.inl rfl) rfl rfl) (ja_cons rfl (je_cal (ok_events_in Z) rfl hr (by decide) rfl (takes_of (E := E) rfl rfl rfl rfl) (ja_cons rfl (je_var rfl (.inl rfl) rfl rfl) ja_nil) rfl) ja_nil)))) (je_tup (ja_cons rfl (je_gstr rfl (Z.str 34 rfl)) (ja_cons rfl (je_var rfl (.inl rfl) rfl rfl) ja_nil))))))))
def N_are_copy_rows : List Str := ["value", "pair"]
def b_are_copy_rows : DS := dSeq (dIfS (dNot (dTest (dPr pIsi (dCons (dVar 0) (dCons (dCst (.ty "tuple")) (dNil)))))) (dRet (dCst (.bl false))) (dNop)) (dSeq (dFor (dItems (dVar 0)) (gN 1) (dSeq (dIfS (dOr (dNot (dTest (dPr pIsi (dCons (dVar 1) (dCons (dCst (.ty "tuple")) (dNil)))))) (dOr (dTest (dOp pNe (dPr pLen (dCons (dVar 1) (dNil))) (dCst (.int 2)))) (dNot (dTest (dCall 1 f_is_event (dCons (dOp pIdx (dVar 1) (dCst (.int 1))) (dNil))))))) (dRet (dCst (.bl false))) (dNop)) (dIfS (dOr (dNot (dTest (dPr pIsi (dCons (dOp pIdx (dVar 1) (dCst (.int 0))) (dCons (dCst (.ty "int")) (dNil)))))) (dOr (dTest (dPr pIsi (dCons (dOp pIdx (dVar 1) (dCst (.int 0))) (dCons (dCst (.ty "bool")) (dNil))))) (dTest (dOp pLt (dOp pIdx (dVar 1) (dCst (.int 0))) (dCst (.int 1)))))) (dRet (dCst (.bl false))) (dNop)))) (dRet (dCst (.bl true))))
def f_are_copy_rows : List D → M D := dFn 1 N_are_copy_rows.length b_are_copy_rows
theorem nd_are_copy_rows : N_are_copy_rows.Nodup := by decide +kernel
theorem sc_are_copy_rows : FnScope N_are_copy_rows ["value"] (defScope (top 17)) := ⟨rfl, rfl, rfl, nd_are_copy_rows, rfl, by decide +kernel, by decide +kernel⟩
theorem ok_are_copy_rows (Z : Zf G mg fa fn) : Callee P w G mg base "are_copy_rows" 3 1 ["value"] f_are_copy_rows := by
  refine callee_of (N := N_are_copy_rows) (d := b_are_copy_rows) Z 20 36 (st := top 17) (by rfl) (by rfl) sc_are_copy_rows (by rfl) (fun _ _ _ _ _ _ us hl => match us, hl with | [_], _ => by rfl) fun f cdv A outer s H E hr => ?_
  exact (jss_cons (js_if (jt_not (jt_val (jr_of (je_callB (c_isi rfl) rfl (Z.free 5 rfl) PyProof.Rows.boot_isinstance (jb_cons rfl (jr_of (je_var rfl (.inl rfl) rfl rfl)) (jb_cons rfl (jr_of (je_ty rfl (Z.free 13 rfl) PyProof.Rows.boot_tuple (by decide) (by decide))) jb_nil)) rfl)) rfl)) (jss_one (js_ret cst_bl)) jss_nil) (jss_cons (js_for (vs := [0, 1]) (passes_of rfl) rfl (ji_val rfl (je_var rfl (.inl rfl) rfl rfl)) (jg_name nd_are_copy_rows rfl (.inl rfl) (.inl rfl) (by decide)) (jss_cons (js_if (PW.pt (jw_or (jt_not (jt_val (jr_of (je_callB (c_isi rfl) rfl (Z.free 5 rfl) PyProof.Rows.boot_isinstance (jb_cons rfl (jr_of (je_var rfl (.inl rfl) rfl rfl)) (jb_cons rfl (jr_of (je_ty rfl (Z.free 13 rfl) PyProof.Rows.boot_tuple (by decide) (by decide))) jb_nil)) rfl)) rfl)) (jw_or (jt_cmp (o_ne rfl (huR hr)) (jr_of (je_callB (c_len rfl) rfl (Z.free 0 rfl) boot_len (jb_cons rfl (jr_of (je_var rfl (.inl rfl) rfl rfl)) jb_nil) rfl)) (jr_of cst_int) rfl) (jw1_or (jt_not (jt_val (jr_of (je_cal (ok_is_event Z) rfl hr (by decide) rfl (takes_of (E := E) rfl rfl rfl rfl) (ja_cons rfl (je_ix (i_idx rfl) (jr_of (je_var rfl (.inl rfl) rfl rfl)) (jr_of cst_int) rfl) ja_nil) rfl)) rfl)))))) (jss_one (js_ret cst_bl)) jss_nil) (jss_one (js_if (PW.pt (jw_or (jt_not (jt_val (jr_of (je_callB (c_isi rfl) rfl (Z.free 5 rfl) PyProof.Rows.boot_isinstance (jb_cons rfl (jr_of (je_ix (i_idx rfl) (jr_of (je_var rfl (.inl rfl) rfl rfl)) (jr_of cst_int) rfl)) (jb_cons rfl (jr_of (je_ty rfl (Z.free 1 rfl) PyProof.Rows.boot_int (by decide) (by decide))) jb_nil)) rfl)) rfl)) (jw_or (jt_val (jr_of (je_callB (c_isi rfl) rfl (Z.free 5 rfl) PyProof.Rows.boot_isinstance (jb_cons rfl (jr_of (je_ix (i_idx rfl) (jr_of (je_var rfl (.inl rfl) rfl rfl)) (jr_of cst_int) rfl)) (jb_cons rfl (jr_of (je_ty rfl (Z.free 6 rfl) PyProof.Rows.boot_bool (by decide) (by decide))) jb_nil)) rfl)) rfl) (jw1_or (jt_cmp (o_lt rfl (huR hr)) (jr_of (je_ix (i_idx rfl) (jr_of (je_var rfl (.inl rfl) rfl rfl)) (jr_of cst_int) rfl)) (jr_of cst_int) rfl))))) (jss_one (js_ret cst_bl)) jss_nil))) (fun _ => rfl)) (jss_one (js_ret cst_bl))))
def N_is_newer : List Str := ["rows", "other"]
def b_is_newer : DS := dSeq (dIfS (dOr (dNot (dTest (dCall 1 f_are_copy_rows (dCons (dVar 0) (dNil))))) (dNot (dTest (dCall 1 f_are_copy_rows (dCons (dVar 1) (dNil)))))) (dBad) (dNop)) (dRet (dCall 2 f_are_newer (dCons (dVar 0) (dCons (dVar 1) (dNil)))))
def f_is_newer : List D → M D := dFn 2 N_is_newer.length b_is_newer
theorem nd_is_newer : N_is_newer.Nodup := by decide +kernel
theorem sc_is_newer : FnScope N_is_newer ["rows", "other"] (defScope (top 33)) := ⟨rfl, rfl, rfl, nd_is_newer, rfl, by decide +kernel, by decide +kernel⟩
theorem ok_is_newer (Z : Zf G mg fa fn) : Callee P w G mg base "is_newer" 4 2 ["rows", "other"] f_is_newer := by
  refine callee_of (N := N_is_newer) (d := b_is_newer) Z 21 37 (st := top 33) (by rfl) (by rfl) sc_is_newer (by rfl) (fun _ _ _ _ _ _ us hl => match us, hl with | [_, _], _ => by rfl) fun f cdv A outer s H E hr => ?_
  exact (jss_cons (js_if (PW.pt (jw_or (jt_not (jt_val (jr_of (je_cal (ok_are_copy_rows Z) rfl hr (by decide) rfl (takes_of (E := E) rfl rfl rfl rfl) (ja_cons rfl (je_var rfl (.inl rfl) rfl rfl) ja_nil) rfl)) rfl)) (jw1_or (jt_not (jt_val (jr_of (je_cal (ok_are_copy_rows Z) rfl hr (by decide) rfl (takes_of (E := E) rfl rfl rfl rfl) (ja_cons rfl (je_var rfl (.inl rfl) rfl rfl) ja_nil) rfl)) rfl))))) (jss_one js_bad) jss_nil) (jss_one (js_ret (je_cal (ok_are_newer Z) rfl hr (by decide) rfl (takes_of (E := E) rfl rfl rfl rfl) (ja_cons rfl (je_var rfl (.inl rfl) rfl rfl) (ja_cons rfl (je_var rfl (.inl rfl) rfl rfl) ja_nil)) rfl))))
def N_is_deed : List Str := ["value"]
def b_is_deed : DS := dRet (dCall 1 f_is_deed_form (dCons (dVar 0) (dNil)))
def f_is_deed : List D → M D := dFn 1 N_is_deed.length b_is_deed
theorem nd_is_deed : N_is_deed.Nodup := by decide +kernel
theorem sc_is_deed : FnScope N_is_deed ["value"] (defScope (top 32)) := ⟨rfl, rfl, rfl, nd_is_deed, rfl, by decide +kernel, by decide +kernel⟩
theorem ok_is_deed (Z : Zf G mg fa fn) : Callee P w G mg base "is_deed" 4 1 ["value"] f_is_deed := by
  refine callee_of (N := N_is_deed) (d := b_is_deed) Z 22 38 (st := top 32) (by rfl) (by rfl) sc_is_deed (by rfl) (fun _ _ _ _ _ _ us hl => match us, hl with | [_], _ => by rfl) fun f cdv A outer s H E hr => ?_
  exact (jss_one (js_ret (je_cal (ok_is_deed_form Z) rfl hr (by decide) rfl (takes_of (E := E) rfl rfl rfl rfl) (ja_cons rfl (je_var rfl (.inl rfl) rfl rfl) ja_nil) rfl)))
def N__law_pour : List Str := ["kettle", "total", "found", "one", "two"]
def b__law_pour : DS := dSeq (dIfS (dTest (dOp pGt (dOp pIdx (dVar 0) (dCst (.int 0))) (dCst (.int 0)))) (dSeq (dSet 2 (qV (dOp pMod (dPr pInt (dCons (dOp pIdx (dVar 0) (dCst (.int 0))) (dNil))) (dVar 1)))) (dSeq (dSto (dOp pDiv (dOp pIdx (dVar 0) (dCst (.int 0))) (dVar 1)) (dVar 0) (dCst (.int 0))) (dRet (dVar 2)))) (dNop)) (dSeq (dSto (dOp pAdd (dOp pIdx (dVar 0) (dCst (.int 2))) (dCst (.int 1))) (dVar 0) (dCst (.int 2))) (dSeq (dSet 3 (qV (dOp pMod (dPr pInt (dCons (dOp pAdd (dOp pIdx (dVar 0) (dCst (.int 1))) (dOp pMul (dCst (.int 67867979)) (dOp pIdx (dVar 0) (dCst (.int 2))))) (dNil))) (dCst (.int 2305843009213693951))))) (dSeq (dSet 4 (qV (dOp pAdd (dOp pMul (dOp pMod (dPr pInt (dCons (dOp pAdd (dOp pMul (dVar 3) (dVar 3)) (dOp pMul (dCst (.int 439)) (dOp pIdx (dVar 0) (dCst (.int 2))))) (dNil))) (dCst (.int 2305843009213693921))) (dCst (.int 49979693))) (dVar 3)))) (dRet (dOp pMod (dPr pInt (dCons (dOp pDiv (dVar 4) (dCst (.int 65809))) (dNil))) (dVar 1))))))
def f__law_pour : List D → M D := dFn 2 N__law_pour.length b__law_pour
theorem nd__law_pour : N__law_pour.Nodup := by decide +kernel
theorem sc__law_pour : FnScope N__law_pour ["kettle", "total"] (defScope (top 38)) := ⟨rfl, rfl, rfl, nd__law_pour, rfl, by decide +kernel, by decide +kernel⟩
theorem ok__law_pour (Z : Zf G mg fa fn) : Callee P w G mg base "_law_pour" 1 2 ["kettle", "total"] f__law_pour := by
  refine callee_of (N := N__law_pour) (d := b__law_pour) Z 23 39 (st := top 38) (by rfl) (by rfl) sc__law_pour (by rfl) (fun _ _ _ _ _ _ us hl => match us, hl with | [_, _], _ => by rfl) fun f cdv A outer s H E hr => ?_
  exact (jss_cons (js_if (jt_cmp (o_gt rfl (huR hr)) (jr_of (je_ix (i_idx rfl) (jr_of (je_var rfl (.inl rfl) rfl rfl)) (jr_of cst_int) rfl)) (jr_of cst_int) rfl) (jss_cons (js_setV (ps_set nd__law_pour rfl (.inl rfl) (je_op (o_mod) (jr_of (je_callT (c_int) rfl (Z.free 1 rfl) PyProof.Rows.boot_int (jb_cons rfl (jr_of (je_ix (i_idx rfl) (jr_of (je_var rfl (.inl rfl) rfl rfl)) (jr_of cst_int) rfl)) jb_nil) rfl)) (jr_of (je_var rfl (.inl rfl) rfl rfl))) rfl)) (jss_cons (js_sto rfl (je_op (o_div) (jr_of (je_ix (i_idx rfl) (jr_of (je_var rfl (.inl rfl) rfl rfl)) (jr_of cst_int) rfl)) (jr_of (je_var rfl (.inl rfl) rfl rfl))) (je_var rfl (.inl rfl) rfl rfl) cst_int rfl rfl rfl (fun _ => rfl)) (jss_one (js_ret (je_var rfl (.inl rfl) rfl rfl))))) jss_nil) (jss_cons (js_sto rfl (je_op (o_add rfl) (jr_of (je_ix (i_idx rfl) (jr_of (je_var rfl (.inl rfl) rfl rfl)) (jr_of cst_int) rfl)) (jr_of cst_int)) (je_var rfl (.inl rfl) rfl rfl) cst_int rfl rfl rfl (fun _ => rfl)) (jss_cons (js_setV (ps_set nd__law_pour rfl (.inl rfl) (je_op (o_mod) (jr_of (je_callT (c_int) rfl (Z.free 1 rfl) PyProof.Rows.boot_int (jb_cons rfl (jr_of (je_op (o_add rfl) (jr_of (je_ix (i_idx rfl) (jr_of (je_var rfl (.inl rfl) rfl rfl)) (jr_of cst_int) rfl)) (jr_of (je_op (o_mul rfl) (jr_of cst_int) (jr_of (je_ix (i_idx rfl) (jr_of (je_var rfl (.inl rfl) rfl rfl)) (jr_of cst_int) rfl)))))) jb_nil) rfl)) (jr_of cst_int)) rfl)) (jss_cons (js_setV (ps_set nd__law_pour rfl (.inl rfl) (je_op (o_add rfl) (jr_of (je_op (o_mul rfl) (jr_of (je_op (o_mod) (jr_of (je_callT (c_int) rfl (Z.free 1 rfl) PyProof.Rows.boot_int (jb_cons rfl (jr_of (je_op (o_add rfl) (jr_of (je_op (o_mul rfl) (jr_of (je_var rfl (.inl rfl) rfl rfl)) (jr_of (je_var rfl (.inl rfl) rfl rfl)))) (jr_of (je_op (o_mul rfl) (jr_of cst_int) (jr_of (je_ix (i_idx rfl) (jr_of (je_var rfl (.inl rfl) rfl rfl)) (jr_of cst_int) rfl)))))) jb_nil) rfl)) (jr_of cst_int))) (jr_of cst_int))) (jr_of (je_var rfl (.inl rfl) rfl rfl))) rfl)) (jss_one (js_ret (je_op (o_mod) (jr_of (je_callT (c_int) rfl (Z.free 1 rfl) PyProof.Rows.boot_int (jb_cons rfl (jr_of (je_op (o_div) (jr_of (je_var rfl (.inl rfl) rfl rfl)) (jr_of cst_int))) jb_nil) rfl)) (jr_of (je_var rfl (.inl rfl) rfl rfl)))))))))
def N__law_pick : List Str := ["kettle", "items"]
def b__law_pick : DS := dRet (dOp pIdx (dVar 1) (dCall 2 f__law_pour (dCons (dVar 0) (dCons (dPr pLen (dCons (dVar 1) (dNil))) (dNil)))))
def f__law_pick : List D → M D := dFn 2 N__law_pick.length b__law_pick
theorem nd__law_pick : N__law_pick.Nodup := by decide +kernel
theorem sc__law_pick : FnScope N__law_pick ["kettle", "items"] (defScope (top 39)) := ⟨rfl, rfl, rfl, nd__law_pick, rfl, by decide +kernel, by decide +kernel⟩
theorem ok__law_pick (Z : Zf G mg fa fn) : Callee P w G mg base "_law_pick" 2 2 ["kettle", "items"] f__law_pick := by
  refine callee_of (N := N__law_pick) (d := b__law_pick) Z 24 40 (st := top 39) (by rfl) (by rfl) sc__law_pick (by rfl) (fun _ _ _ _ _ _ us hl => match us, hl with | [_, _], _ => by rfl) fun f cdv A outer s H E hr => ?_
  exact (jss_one (js_ret (je_ix (i_idx rfl) (jr_of (je_var rfl (.inl rfl) rfl rfl)) (jr_of (je_cal (ok__law_pour Z) rfl hr (by decide) rfl (takes_of (E := E) rfl rfl rfl rfl) (ja_cons rfl (je_var rfl (.inl rfl) rfl rfl) (ja_cons rfl (je_callB (c_len rfl) rfl (Z.free 0 rfl) boot_len (jb_cons rfl (jr_of (je_var rfl (.inl rfl) rfl rfl)) jb_nil) rfl) ja_nil)) rfl)) rfl)))
def N__law_any_deed : List Str := ["kettle", "state", "copies", "leader", "many", "size", "event", "ups", "voters", "some", "at"]
def b__law_any_deed : DS := dSeq (dBnd (dVar 1) (gT 3 (gsC (gN 2) (gsC (gN 3) (gsC (gN 4) (gs0)))))) (dSeq (dSet 5 (qV (dPr pLen (dCons (dVar 2) (dNil))))) (dSeq (dSet 6 (qV (dTup (dCons (dCst (.str "answer")) (dCons (dTup (dCons (dCall 2 f__law_pour (dCons (dVar 0) (dCons (dCst (.int 2)) (dNil)))) (dCons (dCall 2 f__law_pour (dCons (dVar 0) (dCons (dCst (.int 2)) (dNil)))) (dNil)))) (dCons (dOp pEq (dCall 2 f__law_pour (dCons (dVar 0) (dCons (dCst (.int 2)) (dNil)))) (dCst (.int 0))) (dCons (dCall 2 f__law_pour (dCons (dVar 0) (dCons (dCst (.int 3)) (dNil)))) (dNil)))))))) (dSeq (dSet 7 (qV (dLst (dLc (dRg rg1 (dCons (dVar 5) (dNil))) (gN 10) (dTest (dOp pIdx (dOp pIdx (dVar 2) (dVar 10)) (dCst (.int 0)))) (dVar 10) [10])))) (dSeq (dSet 8 (qV (dPr pTuple (dCons (dLst (dLc (dItems (dVar 7)) (gN 10) (dTest (dOp pGt (dCall 2 f__law_pour (dCons (dVar 0) (dCons (dCst (.int 4)) (dNil)))) (dCst (.int 0)))) (dVar 10) [10])) (dNil))))) (dSeq (dSet 9 (qO (dDisp (dCons (dTup (dCons (dCst (.str "append")) (dCons (dVar 6) (dNil)))) (dCons (dTup (dCons (dCst (.str "append")) (dCons (dVar 6) (dNil)))) (dCons (dTup (dCons (dCst (.str "copy")) (dCons (dCall 2 f__law_pour (dCons (dVar 0) (dCons (dVar 5) (dNil)))) (dNil)))) (dCons (dTup (dCons (dCst (.str "copy")) (dCons (dCall 2 f__law_pour (dCons (dVar 0) (dCons (dVar 5) (dNil)))) (dNil)))) (dNil)))))))) (dSeq (dOwn 9 fApp (dTup (dCons (dCst (.str "commit")) (dCons (dOp pAdd (dOp pAdd (dVar 4) (dCst (.int 1))) (dCall 2 f__law_pour (dCons (dVar 0) (dCons (dCst (.int 3)) (dNil))))) (dNil))))) (dSeq (dOwn 9 fApp (dTup (dCons (dCst (.str "commit")) (dCons (dIf (dAnd (dTest (dOp pIsNot (dVar 3) (dCst .non))) (dTest (dOp pNe (dOp pIdx (dOp pIdx (dVar 2) (dVar 3)) (dCst (.int 2))) (dTup (dNil))))) (dPr pLen (dCons (dOp pIdx (dOp pIdx (dVar 2) (dVar 3)) (dCst (.int 2))) (dNil))) (dCst (.int 1))) (dNil))))) (dSeq (dSet 9 (qV (dOp pAdd (dRd 9) (dLst (dDisp (dCons (dTup (dCons (dCst (.str "stop")) (dCons (dCall 2 f__law_pour (dCons (dVar 0) (dCons (dVar 5) (dNil)))) (dNil)))) (dCons (dTup (dCons (dCst (.str "start")) (dCons (dCall 2 f__law_pour (dCons (dVar 0) (dCons (dVar 5) (dNil)))) (dNil)))) (dNil)))))))) (dSeq (dSet 9 (qV (dOp pAdd (dVar 9) (dOp pMul (dLst (dDisp (dCons (dTup (dCons (dCst (.str "elect")) (dCons (dIf (dTest (dOp pNe (dVar 7) (dLst (dDisp (dNil))))) (dCall 2 f__law_pick (dCons (dVar 0) (dCons (dVar 7) (dNil)))) (dCst (.int 0))) (dCons (dVar 8) (dNil))))) (dNil)))) (dIf (dTest (dOp pIs (dVar 3) (dCst .non))) (dCst (.int 3)) (dCst (.int 1))))))) (dRet (dCall 2 f__law_pick (dCons (dVar 0) (dCons (dVar 9) (dNil))))))))))))))
def f__law_any_deed : List D → M D := dFn 2 N__law_any_deed.length b__law_any_deed
theorem nd__law_any_deed : N__law_any_deed.Nodup := by decide +kernel
theorem sc__law_any_deed : FnScope N__law_any_deed ["kettle", "state"] (defScope (top 47)) := ⟨rfl, rfl, rfl, nd__law_any_deed, rfl, by decide +kernel, by decide +kernel⟩
theorem ok__law_any_deed (Z : Zf G mg fa fn) : Callee P w G mg base "_law_any_deed" 3 2 ["kettle", "state"] f__law_any_deed := by
  refine callee_of (N := N__law_any_deed) (d := b__law_any_deed) Z 25 42 (st := top 47) (by rfl) (by rfl) sc__law_any_deed (by rfl) (fun _ _ _ _ _ _ us hl => match us, hl with | [_, _], _ => by rfl) fun f cdv A outer s H E hr => ?_
  exact (jss_cons (js_bnd (vs := [0, 1, 2, 3, 4, 5, 6, 7, 8, 9, 10]) (ps_asg (je_var rfl (.inl rfl) rfl rfl) (jg_tup rfl rfl (jgs_cons (jg_name nd__law_any_deed rfl (.inr rfl) (.inl rfl) (by decide)) (jgs_cons (jg_name nd__law_any_deed rfl (.inl rfl) (.inl rfl) (by decide)) (jgs_cons (jg_name nd__law_any_deed rfl (.inl rfl) (.inl rfl) (by decide)) jgs_nil)))))) (jss_cons (js_setV (ps_set nd__law_any_deed rfl (.inl rfl) (je_callB (c_len rfl) rfl (Z.free 0 rfl) boot_len (jb_cons rfl (jr_of (je_var rfl (.inr (.inl rfl)) rfl rfl)) jb_nil) rfl) rfl)) (jss_cons (js_setV (ps_set nd__law_any_deed rfl (.inl rfl) (je_tup (ja_cons rfl cst_str (ja_cons rfl (je_tup (ja_cons rfl (je_cal (ok__law_pour Z) rfl hr (by decide) rfl (takes_of (E := E) rfl rfl rfl rfl) (ja_cons rfl (je_var rfl (.inr (.inl rfl)) rfl rfl) (ja_cons rfl cst_int ja_nil)) rfl) (ja_cons rfl (je_cal (ok__law_pour Z) rfl hr (by decide) rfl (takes_of (E := E) rfl rfl rfl rfl) (ja_cons rfl (je_var rfl (.inr (.inl rfl)) rfl rfl) (ja_cons rfl cst_int ja_nil)) rfl) ja_nil))) (ja_cons rfl (je_cmp (o_eq rfl (huR hr)) (jr_of (je_cal (ok__law_pour Z) rfl hr (by decide) rfl (takes_of (E := E) rfl rfl rfl rfl) (ja_cons rfl (je_var rfl (.inr (.inl rfl)) rfl rfl) (ja_cons rfl cst_int ja_nil)) rfl)) (jr_of cst_int) rfl) (ja_cons rfl (je_cal (ok__law_pour Z) rfl hr (by decide) rfl (takes_of (E := E) rfl rfl rfl rfl) (ja_cons rfl (je_var rfl (.inr (.inl rfl)) rfl rfl) (ja_cons rfl cst_int ja_nil)) rfl) ja_nil))))) rfl)) (jss_cons (js_lcV (ps_setLc (own := [("at", 10)]) rfl nd__law_any_deed rfl rfl (sw_true rfl rfl rfl rfl) (jiw_of (ji_rg1 rfl (Z.free 41 rfl) (ja_cons rfl (je_var rfl (.inl rfl) rfl rfl) ja_nil) rfl)) (blkOk_by rfl) (fun _ _ _ _ _ => (jg_name nd__law_any_deed rfl (.inl rfl) (.inr rfl) (by decide))) (fun _ _ _ _ _ => (jts_one (jt_val (jr_of (je_ix (i_idx rfl) (jr_of (je_ix (i_idx rfl) (jr_of (je_var rfl (.inr (.inl rfl)) rfl rfl)) (jr_of (je_var rfl (.inl rfl) rfl rfl)) rfl)) (jr_of cst_int) rfl)) rfl))) (fun _ _ _ _ _ => (je_var rfl (.inl rfl) rfl rfl)) (fun _ => rfl))) (jss_cons (js_setV (ps_set nd__law_any_deed rfl (.inl rfl) (je_callT (c_tuple rfl) rfl (Z.free 13 rfl) PyProof.Rows.boot_tuple (jb_cons rfl (jr_of (je_lst (je_lc (own := [("at", 10)]) rfl nd__law_any_deed (ji_valW rfl (jr_of (je_var rfl (.inl rfl) rfl rfl))) (blkOk_by rfl) (fun _ _ _ _ _ => (jg_name nd__law_any_deed rfl (.inl rfl) (.inr rfl) (by decide))) (fun _ _ _ _ _ => (jts_one (jt_cmp (o_gt rfl (huR hr)) (jr_of (je_cal (ok__law_pour Z) rfl hr (by decide) rfl takes0 (ja_cons rfl (je_var rfl (.inr (.inl rfl)) rfl rfl) (ja_cons rfl cst_int ja_nil)) rfl)) (jr_of cst_int) rfl))) (fun _ _ _ _ _ => (je_var rfl (.inl rfl) rfl rfl)) (fun _ => rfl)))) jb_nil) rfl) rfl)) (jss_cons (js_setO (ps_set nd__law_any_deed rfl (.inl rfl) (jl_disp (ja_cons rfl (je_tup (ja_cons rfl cst_str (ja_cons rfl (je_var rfl (.inl rfl) rfl rfl) ja_nil))) (ja_cons rfl (je_tup (ja_cons rfl cst_str (ja_cons rfl (je_var rfl (.inl rfl) rfl rfl) ja_nil))) (ja_cons rfl (je_tup (ja_cons rfl cst_str (ja_cons rfl (je_cal (ok__law_pour Z) rfl hr (by decide) rfl (takes_of (E := E) rfl rfl rfl rfl) (ja_cons rfl (je_var rfl (.inr (.inl rfl)) rfl rfl) (ja_cons rfl (je_var rfl (.inl rfl) rfl rfl) ja_nil)) rfl) ja_nil))) (ja_cons rfl (je_tup (ja_cons rfl cst_str (ja_cons rfl (je_cal (ok__law_pour Z) rfl hr (by decide) rfl (takes_of (E := E) rfl rfl rfl rfl) (ja_cons rfl (je_var rfl (.inr (.inl rfl)) rfl rfl) (ja_cons rfl (je_var rfl (.inl rfl) rfl rfl) ja_nil)) rfl) ja_nil))) ja_nil))))) rfl)) (jss_cons (js_app rfl rfl (.inl rfl) rfl rfl (je_tup (ja_cons rfl cst_str (ja_cons rfl (je_op (o_add rfl) (jr_of (je_op (o_add rfl) (jr_of (je_var rfl (.inl rfl) rfl rfl)) (jr_of cst_int))) (jr_of (je_cal (ok__law_pour Z) rfl hr (by decide) rfl (takes_of (E := E) rfl rfl rfl rfl) (ja_cons rfl (je_var rfl (.inr (.inl rfl)) rfl rfl) (ja_cons rfl cst_int ja_nil)) rfl))) ja_nil))) rfl rfl rfl rfl rfl) (jss_cons (js_app rfl rfl (.inl rfl) rfl rfl (je_tup (ja_cons rfl cst_str (ja_cons rfl (je_if (PW.pt (jw_and (jt_cmp (o_isNot) (jr_of (je_var rfl (.inl rfl) rfl rfl)) (jr_of cst_non) rfl) (jw1_and (jt_cmp (o_ne rfl (huR hr)) (jr_of (je_ix (i_idx rfl) (jr_of (je_ix (i_idx rfl) (jr_of (je_var rfl (.inr (.inl rfl)) rfl rfl)) (jr_of (je_var rfl (.inl rfl) rfl rfl)) rfl)) (jr_of cst_int) rfl)) (jr_of (je_tup ja_nil)) rfl)))) (je_callB (c_len rfl) rfl (Z.free 0 rfl) boot_len (jb_cons rfl (jr_of (je_ix (i_idx rfl) (jr_of (je_ix (i_idx rfl) (jr_of (je_var rfl (.inr (.inl rfl)) rfl rfl)) (jr_of (je_var rfl (.inl rfl) rfl rfl)) rfl)) (jr_of cst_int) rfl)) jb_nil) rfl) cst_int) ja_nil))) rfl rfl rfl rfl rfl) (jss_cons (js_setV (ps_set nd__law_any_deed rfl (.inl rfl) (je_op (o_add rfl) (jr_rd rfl (.inl rfl) rfl rfl) (jr_of (je_lst (jl_disp (ja_cons rfl (je_tup (ja_cons rfl cst_str (ja_cons rfl (je_cal (ok__law_pour Z) rfl hr (by decide) rfl (takes_of (E := E) rfl rfl rfl rfl) (ja_cons rfl (je_var rfl (.inr (.inl rfl)) rfl rfl) (ja_cons rfl (je_var rfl (.inl rfl) rfl rfl) ja_nil)) rfl) ja_nil))) (ja_cons rfl (je_tup (ja_cons rfl cst_str (ja_cons rfl (je_cal (ok__law_pour Z) rfl hr (by decide) rfl (takes_of (E := E) rfl rfl rfl rfl) (ja_cons rfl (je_var rfl (.inr (.inl rfl)) rfl rfl) (ja_cons rfl (je_var rfl (.inl rfl) rfl rfl) ja_nil)) rfl) ja_nil))) ja_nil)))))) rfl)) (jss_cons (js_setV (ps_set nd__law_any_deed rfl (.inl rfl) (je_op (o_add rfl) (jr_of (je_var rfl (.inl rfl) rfl rfl)) (jr_of (je_op (o_mul rfl) (jr_of (je_lst (jl_disp (ja_cons rfl (je_tup (ja_cons rfl cst_str (ja_cons rfl (je_if (jt_cmp (o_ne rfl (huR hr)) (jr_of (je_var rfl (.inl rfl) rfl rfl)) (jr_of (je_lst (jl_disp ja_nil))) rfl) (je_cal (ok__law_pick Z) rfl hr (by decide) rfl (takes_of (E := E) rfl rfl rfl rfl) (ja_cons rfl (je_var rfl (.inr (.inl rfl)) rfl rfl) (ja_cons rfl (je_var rfl (.inl rfl) rfl rfl) ja_nil)) rfl) cst_int) (ja_cons rfl (je_var rfl (.inl rfl) rfl rfl) ja_nil)))) ja_nil)))) (jr_of (je_if (jt_cmp (o_is) (jr_of (je_var rfl (.inl rfl) rfl rfl)) (jr_of cst_non) rfl) cst_int cst_int))))) rfl)) (jss_one (js_ret (je_cal (ok__law_pick Z) rfl hr (by decide) rfl (takes_of (E := E) rfl rfl rfl rfl) (ja_cons rfl (je_var rfl (.inr (.inl rfl)) rfl rfl) (ja_cons rfl (je_var rfl (.inl rfl) rfl rfl) ja_nil)) rfl)))))))))))))
def N__law_is_number : List Str := ["value", "low", "high"]
def b__law_is_number : DS := dRet (dAndV (dPr pIsi (dCons (dVar 0) (dCons (dCst (.ty "int")) (dNil)))) (dAndV (dNotV (dPr pIsi (dCons (dVar 0) (dCons (dCst (.ty "bool")) (dNil))))) (dChain pLe pLe (dVar 1) (dVar 0) (dVar 2))))
def f__law_is_number : List D → M D := dFn 3 N__law_is_number.length b__law_is_number
theorem nd__law_is_number : N__law_is_number.Nodup := by decide +kernel
theorem sc__law_is_number : FnScope N__law_is_number ["value", "low", "high"] (defScope (top 42)) := ⟨rfl, rfl, rfl, nd__law_is_number, rfl, by decide +kernel, by decide +kernel⟩
theorem ok__law_is_number (Z : Zf G mg fa fn) : Callee P w G mg base "_law_is_number" 1 3 ["value", "low", "high"] f__law_is_number := by
  refine callee_of (N := N__law_is_number) (d := b__law_is_number) Z 26 43 (st := top 42) (by rfl) (by rfl) sc__law_is_number (by rfl) (fun _ _ _ _ _ _ us hl => match us, hl with | [_, _, _], _ => by rfl) fun f cdv A outer s H E hr => ?_
  exact (jss_one (js_ret (je_and (je_callB (c_isi rfl) rfl (Z.free 5 rfl) PyProof.Rows.boot_isinstance (jb_cons rfl (jr_of (je_var rfl (.inl rfl) rfl rfl)) (jb_cons rfl (jr_of (je_ty rfl (Z.free 1 rfl) PyProof.Rows.boot_int (by decide) (by decide))) jb_nil)) rfl) (je_and (je_not (je_callB (c_isi rfl) rfl (Z.free 5 rfl) PyProof.Rows.boot_isinstance (jb_cons rfl (jr_of (je_var rfl (.inl rfl) rfl rfl)) (jb_cons rfl (jr_of (je_ty rfl (Z.free 6 rfl) PyProof.Rows.boot_bool (by decide) (by decide))) jb_nil)) rfl)) (pe_one (je_chain (o_le rfl (huR hr)) (o_le rfl (huR hr)) (jr_of (je_var rfl (.inl rfl) rfl rfl)) (jr_of (je_var rfl (.inl rfl) rfl rfl)) (jr_of (je_var rfl (.inl rfl) rfl rfl)) rfl))))))
def N__law_is_event : List Str := ["value", "part"]
def b__law_is_event : DS := dSeq (dIfS (dOr (dNot (dTest (dPr pIsi (dCons (dVar 0) (dCons (dCst (.ty "tuple")) (dNil)))))) (dOr (dTest (dOp pEq (dVar 0) (dTup (dNil)))) (dNot (dTest (dPr pIsi (dCons (dOp pIdx (dVar 0) (dCst (.int 0))) (dCons (dCst (.ty "str")) (dNil)))))))) (dRet (dCst (.bl false))) (dNop)) (dSeq (dIfS (dTest (dOp pEq (dOp pIdx (dVar 0) (dCst (.int 0))) (dCst (.str "off")))) (dRet (dOp pEq (dPr pLen (dCons (dVar 0) (dNil))) (dCst (.int 1)))) (dNop)) (dSeq (dIfS (dOr (dTest (dOp pNe (dOp pIdx (dVar 0) (dCst (.int 0))) (dCst (.str "answer")))) (dOr (dTest (dOp pNe (dPr pLen (dCons (dVar 0) (dNil))) (dCst (.int 4)))) (dOr (dNot (dTest (dPr pIsi (dCons (dOp pIdx (dVar 0) (dCst (.int 1))) (dCons (dCst (.ty "tuple")) (dNil)))))) (dNot (dTest (dPr pIsi (dCons (dOp pIdx (dVar 0) (dCst (.int 2))) (dCons (dCst (.ty "bool")) (dNil))))))))) (dRet (dCst (.bl false))) (dNop)) (dSeq (dIfS (dOr (dTest (dOp pGt (dPr pLen (dCons (dOp pIdx (dVar 0) (dCst (.int 1))) (dNil))) (dCst (.int 6)))) (dTest (dOp pNe (dLst (dLc (dItems (dOp pIdx (dVar 0) (dCst (.int 1)))) (gN 1) (dNot (dTest (dCall 3 f__law_is_number (dCons (dVar 1) (dCons (dCst (.int 0)) (dCons (dCst (.int 9)) (dNil))))))) (dCst (.int 1)) [1])) (dLst (dDisp (dNil)))))) (dRet (dCst (.bl false))) (dNop)) (dRet (dCall 3 f__law_is_number (dCons (dOp pIdx (dVar 0) (dCst (.int 3))) (dCons (dCst (.int 0)) (dCons (dCst (.int 1000000006)) (dNil)))))))))
def f__law_is_event : List D → M D := dFn 1 N__law_is_event.length b__law_is_event
theorem nd__law_is_event : N__law_is_event.Nodup := by decide +kernel
theorem sc__law_is_event : FnScope N__law_is_event ["value"] (defScope (top 43)) := ⟨rfl, rfl, rfl, nd__law_is_event, rfl, by decide +kernel, by decide +kernel⟩
theorem ok__law_is_event (Z : Zf G mg fa fn) : Callee P w G mg base "_law_is_event" 2 1 ["value"] f__law_is_event := by
  refine callee_of (N := N__law_is_event) (d := b__law_is_event) Z 27 44 (st := top 43) (by rfl) (by rfl) sc__law_is_event (by rfl) (fun _ _ _ _ _ _ us hl => match us, hl with | [_], _ => by rfl) fun f cdv A outer s H E hr => ?_
  exact (jss_cons (js_if (PW.pt (jw_or (jt_not (jt_val (jr_of (je_callB (c_isi rfl) rfl (Z.free 5 rfl) PyProof.Rows.boot_isinstance (jb_cons rfl (jr_of (je_var rfl (.inl rfl) rfl rfl)) (jb_cons rfl (jr_of (je_ty rfl (Z.free 13 rfl) PyProof.Rows.boot_tuple (by decide) (by decide))) jb_nil)) rfl)) rfl)) (jw_or (jt_cmp (o_eq rfl (huR hr)) (jr_of (je_var rfl (.inl rfl) rfl rfl)) (jr_of (je_tup ja_nil)) rfl) (jw1_or (jt_not (jt_val (jr_of (je_callB (c_isi rfl) rfl (Z.free 5 rfl) PyProof.Rows.boot_isinstance (jb_cons rfl (jr_of (je_ix (i_idx rfl) (jr_of (je_var rfl (.inl rfl) rfl rfl)) (jr_of cst_int) rfl)) (jb_cons rfl (jr_of (je_ty rfl (Z.free 19 rfl) PyProof.Rows.boot_str (by decide) (by decide))) jb_nil)) rfl)) rfl)))))) (jss_one (js_ret cst_bl)) jss_nil) (jss_cons (js_if (jt_cmp (o_eq rfl (huR hr)) (jr_of (je_ix (i_idx rfl) (jr_of (je_var rfl (.inl rfl) rfl rfl)) (jr_of cst_int) rfl)) (jr_of cst_str) rfl) (jss_one (js_ret (je_cmp (o_eq rfl (huR hr)) (jr_of (je_callB (c_len rfl) rfl (Z.free 0 rfl) boot_len (jb_cons rfl (jr_of (je_var rfl (.inl rfl) rfl rfl)) jb_nil) rfl)) (jr_of cst_int) rfl))) jss_nil) (jss_cons (js_if (PW.pt (jw_or (jt_cmp (o_ne rfl (huR hr)) (jr_of (je_ix (i_idx rfl) (jr_of (je_var rfl (.inl rfl) rfl rfl)) (jr_of cst_int) rfl)) (jr_of cst_str) rfl) (jw_or (jt_cmp (o_ne rfl (huR hr)) (jr_of (je_callB (c_len rfl) rfl (Z.free 0 rfl) boot_len (jb_cons rfl (jr_of (je_var rfl (.inl rfl) rfl rfl)) jb_nil) rfl)) (jr_of cst_int) rfl) (jw_or (jt_not (jt_val (jr_of (je_callB (c_isi rfl) rfl (Z.free 5 rfl) PyProof.Rows.boot_isinstance (jb_cons rfl (jr_of (je_ix (i_idx rfl) (jr_of (je_var rfl (.inl rfl) rfl rfl)) (jr_of cst_int) rfl)) (jb_cons rfl (jr_of (je_ty rfl (Z.free 13 rfl) PyProof.Rows.boot_tuple (by decide) (by decide))) jb_nil)) rfl)) rfl)) (jw1_or (jt_not (jt_val (jr_of (je_callB (c_isi rfl) rfl (Z.free 5 rfl) PyProof.Rows.boot_isinstance (jb_cons rfl (jr_of (je_ix (i_idx rfl) (jr_of (je_var rfl (.inl rfl) rfl rfl)) (jr_of cst_int) rfl)) (jb_cons rfl (jr_of (je_ty rfl (Z.free 6 rfl) PyProof.Rows.boot_bool (by decide) (by decide))) jb_nil)) rfl)) rfl))))))) (jss_one (js_ret cst_bl)) jss_nil) (jss_cons (js_if (PW.pt (jw_or (jt_cmp (o_gt rfl (huR hr)) (jr_of (je_callB (c_len rfl) rfl (Z.free 0 rfl) boot_len (jb_cons rfl (jr_of (je_ix (i_idx rfl) (jr_of (je_var rfl (.inl rfl) rfl rfl)) (jr_of cst_int) rfl)) jb_nil) rfl)) (jr_of cst_int) rfl) (jw1_or (jt_cmp (o_ne rfl (huR hr)) (jr_of (je_lst (je_lc (own := [("part", 1)]) rfl nd__law_is_event (ji_valW rfl (jr_of (je_ix (i_idx rfl) (jr_of (je_var rfl (.inl rfl) rfl rfl)) (jr_of cst_int) rfl))) (blkOk_by rfl) (fun _ _ _ _ _ => (jg_name nd__law_is_event rfl (.inl rfl) (.inr rfl) (by decide))) (fun _ _ _ _ _ => (jts_one (jt_not (jt_val (jr_of (je_cal (ok__law_is_number Z) rfl hr (by decide) rfl takes0 (ja_cons rfl (je_var rfl (.inl rfl) rfl rfl) (ja_cons rfl cst_int (ja_cons rfl cst_int ja_nil))) rfl)) rfl)))) (fun _ _ _ _ _ => cst_int) (fun _ => rfl)))) (jr_of (je_lst (jl_disp ja_nil))) rfl)))) (jss_one (js_ret cst_bl)) jss_nil) (jss_one (js_ret (je_cal (ok__law_is_number Z) rfl hr (by decide) rfl (takes_of (E := E) rfl rfl rfl rfl) (ja_cons rfl (je_ix (i_idx rfl) (jr_of (je_var rfl (.inl rfl) rfl rfl)) (jr_of cst_int) rfl) (ja_cons rfl cst_int (ja_cons rfl cst_int ja_nil))) rfl)))))))
def N__law_is_copy_deed : List Str := ["value", "voter"]
def b__law_is_copy_deed : DS := dSeq (dIfS (dOr (dNot (dTest (dPr pIsi (dCons (dVar 0) (dCons (dCst (.ty "tuple")) (dNil)))))) (dOr (dTest (dOp pEqT (dVar 0) (dTup (dNil)))) (dNot (dTest (dPr pIsi (dCons (dOp pIdx (dVar 0) (dCst (.int 0))) (dCons (dCst (.ty "str")) (dNil)))))))) (dRet (dCst (.bl false))) (dNop)) (dSeq (dIfS (dTest (dOp pEq (dOp pIdx (dVar 0) (dCst (.int 0))) (dCst (.str "elect")))) (dSeq (dIfS (dOr (dTest (dOp pNe (dPr pLen (dCons (dVar 0) (dNil))) (dCst (.int 3)))) (dOr (dNot (dTest (dCall 3 f__law_is_number (dCons (dOp pIdx (dVar 0) (dCst (.int 1))) (dCons (dCst (.int 0)) (dCons (dCst (.int 4)) (dNil))))))) (dNot (dTest (dPr pIsi (dCons (dOp pIdx (dVar 0) (dCst (.int 2))) (dCons (dCst (.ty "tuple")) (dNil)))))))) (dRet (dCst (.bl false))) (dNop)) (dSeq (dIfS (dTest (dOp pNe (dLst (dLc (dItems (dOp pIdx (dVar 0) (dCst (.int 2)))) (gN 1) (dNot (dTest (dCall 3 f__law_is_number (dCons (dVar 1) (dCons (dCst (.int 0)) (dCons (dCst (.int 4)) (dNil))))))) (dCst (.int 1)) [1])) (dLst (dDisp (dNil))))) (dRet (dCst (.bl false))) (dNop)) (dRet (dOp pEq (dLst (dPrL qList (dCons (dOp pIdx (dVar 0) (dCst (.int 2))) (dNil)))) (dLst (dSortSet (dOp pIdx (dVar 0) (dCst (.int 2))))))))) (dNop)) (dSeq (dIfS (dTest (dOp pNe (dPr pLen (dCons (dVar 0) (dNil))) (dCst (.int 2)))) (dRet (dCst (.bl false))) (dNop)) (dSeq (dIfS (dTest (dOp pEq (dOp pIdx (dVar 0) (dCst (.int 0))) (dCst (.str "append")))) (dRet (dCall 1 f__law_is_event (dCons (dOp pIdx (dVar 0) (dCst (.int 1))) (dNil)))) (dNop)) (dSeq (dIfS (dTest (dOp pEq (dOp pIdx (dVar 0) (dCst (.int 0))) (dCst (.str "commit")))) (dRet (dCall 3 f__law_is_number (dCons (dOp pIdx (dVar 0) (dCst (.int 1))) (dCons (dCst (.int 1)) (dCons (dCst (.int 400)) (dNil)))))) (dNop)) (dRet (dAndV (dOp pIn (dOp pIdx (dVar 0) (dCst (.int 0))) (dTup (dCons (dCst (.str "copy")) (dCons (dCst (.str "stop")) (dCons (dCst (.str "start")) (dNil)))))) (dCall 3 f__law_is_number (dCons (dOp pIdx (dVar 0) (dCst (.int 1))) (dCons (dCst (.int 0)) (dCons (dCst (.int 4)) (dNil)))))))))))
def f__law_is_copy_deed : List D → M D := dFn 1 N__law_is_copy_deed.length b__law_is_copy_deed
theorem nd__law_is_copy_deed : N__law_is_copy_deed.Nodup := by decide +kernel
theorem sc__law_is_copy_deed : FnScope N__law_is_copy_deed ["value"] (defScope (top 44)) := ⟨rfl, rfl, rfl, nd__law_is_copy_deed, rfl, by decide +kernel, by decide +kernel⟩
theorem ok__law_is_copy_deed (Z : Zf G mg fa fn) : Callee P w G mg base "_law_is_copy_deed" 3 1 ["value"] f__law_is_copy_deed := by
  refine callee_of (N := N__law_is_copy_deed) (d := b__law_is_copy_deed) Z 28 48 (st := top 44) (by rfl) (by rfl) sc__law_is_copy_deed (by rfl) (fun _ _ _ _ _ _ us hl => match us, hl with | [_], _ => by rfl) fun f cdv A outer s H E hr => ?_
  exact (jss_cons (js_if (PW.pt (jw_or (jt_not (jt_val (jr_of (je_callB (c_isi rfl) rfl (Z.free 5 rfl) PyProof.Rows.boot_isinstance (jb_cons rfl (jr_of (je_var rfl (.inl rfl) rfl rfl)) (jb_cons rfl (jr_of (je_ty rfl (Z.free 13 rfl) PyProof.Rows.boot_tuple (by decide) (by decide))) jb_nil)) rfl)) rfl)) (jw_or (jt_cmp (o_eqT rfl (huR hr)) (jr_of (je_var rfl (.inl rfl) rfl rfl)) (jr_of (je_tup ja_nil)) rfl) (jw1_or (jt_not (jt_val (jr_of (je_callB (c_isi rfl) rfl (Z.free 5 rfl) PyProof.Rows.boot_isinstance (jb_cons rfl (jr_of (je_ix (i_idx rfl) (jr_of (je_var rfl (.inl rfl) rfl rfl)) (jr_of cst_int) rfl)) (jb_cons rfl (jr_of (je_ty rfl (Z.free 19 rfl) PyProof.Rows.boot_str (by decide) (by decide))) jb_nil)) rfl)) rfl)))))) (jss_one (js_ret cst_bl)) jss_nil) (jss_cons (js_if (jt_cmp (o_eq rfl (huR hr)) (jr_of (je_ix (i_idx rfl) (jr_of (je_var rfl (.inl rfl) rfl rfl)) (jr_of cst_int) rfl)) (jr_of cst_str) rfl) (jss_cons (js_if (PW.pt (jw_or (jt_cmp (o_ne rfl (huR hr)) (jr_of (je_callB (c_len rfl) rfl (Z.free 0 rfl) boot_len (jb_cons rfl (jr_of (je_var rfl (.inl rfl) rfl rfl)) jb_nil) rfl)) (jr_of cst_int) rfl) (jw_or (jt_not (jt_val (jr_of (je_cal (ok__law_is_number Z) rfl hr (by decide) rfl (takes_of (E := E) rfl rfl rfl rfl) (ja_cons rfl (je_ix (i_idx rfl) (jr_of (je_var rfl (.inl rfl) rfl rfl)) (jr_of cst_int) rfl) (ja_cons rfl cst_int (ja_cons rfl cst_int ja_nil))) rfl)) rfl)) (jw1_or (jt_not (jt_val (jr_of (je_callB (c_isi rfl) rfl (Z.free 5 rfl) PyProof.Rows.boot_isinstance (jb_cons rfl (jr_of (je_ix (i_idx rfl) (jr_of (je_var rfl (.inl rfl) rfl rfl)) (jr_of cst_int) rfl)) (jb_cons rfl (jr_of (je_ty rfl (Z.free 13 rfl) PyProof.Rows.boot_tuple (by decide) (by decide))) jb_nil)) rfl)) rfl)))))) (jss_one (js_ret cst_bl)) jss_nil) (jss_cons (js_if (jt_cmp (o_ne rfl (huR hr)) (jr_of (je_lst (je_lc (own := [("voter", 1)]) rfl nd__law_is_copy_deed (ji_valW rfl (jr_of (je_ix (i_idx rfl) (jr_of (je_var rfl (.inl rfl) rfl rfl)) (jr_of cst_int) rfl))) (blkOk_by rfl) (fun _ _ _ _ _ => (jg_name nd__law_is_copy_deed rfl (.inl rfl) (.inr rfl) (by decide))) (fun _ _ _ _ _ => (jts_one (jt_not (jt_val (jr_of (je_cal (ok__law_is_number Z) rfl hr (by decide) rfl takes0 (ja_cons rfl (je_var rfl (.inl rfl) rfl rfl) (ja_cons rfl cst_int (ja_cons rfl cst_int ja_nil))) rfl)) rfl)))) (fun _ _ _ _ _ => cst_int) (fun _ => rfl)))) (jr_of (je_lst (jl_disp ja_nil))) rfl) (jss_one (js_ret cst_bl)) jss_nil) (jss_one (js_ret (je_cmp (o_eq rfl (huR hr)) (jr_of (je_lst (jl_list rfl rfl (Z.free 45 rfl) (jb_cons rfl (jr_of (je_ix (i_idx rfl) (jr_of (je_var rfl (.inl rfl) rfl rfl)) (jr_of cst_int) rfl)) jb_nil) rfl))) (jr_of (je_lst (jl_sortSet rfl rfl rfl (Z.free 46 rfl) rfl (Z.free 47 rfl) (je_ix (i_idx rfl) (jr_of (je_var rfl (.inl rfl) rfl rfl)) (jr_of cst_int) rfl) rfl))) rfl))))) jss_nil) (jss_cons (js_if (jt_cmp (o_ne rfl (huR hr)) (jr_of (je_callB (c_len rfl) rfl (Z.free 0 rfl) boot_len (jb_cons rfl (jr_of (je_var rfl (.inl rfl) rfl rfl)) jb_nil) rfl)) (jr_of cst_int) rfl) (jss_one (js_ret cst_bl)) jss_nil) (jss_cons (js_if (jt_cmp (o_eq rfl (huR hr)) (jr_of (je_ix (i_idx rfl) (jr_of (je_var rfl (.inl rfl) rfl rfl)) (jr_of cst_int) rfl)) (jr_of cst_str) rfl) (jss_one (js_ret (je_cal (ok__law_is_event Z) rfl hr (by decide) rfl (takes_of (E := E) rfl rfl rfl rfl) (ja_cons rfl (je_ix (i_idx rfl) (jr_of (je_var rfl (.inl rfl) rfl rfl)) (jr_of cst_int) rfl) ja_nil) rfl))) jss_nil) (jss_cons (js_if (jt_cmp (o_eq rfl (huR hr)) (jr_of (je_ix (i_idx rfl) (jr_of (je_var rfl (.inl rfl) rfl rfl)) (jr_of cst_int) rfl)) (jr_of cst_str) rfl) (jss_one (js_ret (je_cal (ok__law_is_number Z) rfl hr (by decide) rfl (takes_of (E := E) rfl rfl rfl rfl) (ja_cons rfl (je_ix (i_idx rfl) (jr_of (je_var rfl (.inl rfl) rfl rfl)) (jr_of cst_int) rfl) (ja_cons rfl cst_int (ja_cons rfl cst_int ja_nil))) rfl))) jss_nil) (jss_one (js_ret (je_and (je_cmp (o_in rfl (huR hr)) (jr_of (je_ix (i_idx rfl) (jr_of (je_var rfl (.inl rfl) rfl rfl)) (jr_of cst_int) rfl)) (jr_of (je_tup (ja_cons rfl cst_str (ja_cons rfl cst_str (ja_cons rfl cst_str ja_nil))))) rfl) (pe_one (je_cal (ok__law_is_number Z) rfl hr (by decide) rfl (takes_of (E := E) rfl rfl rfl rfl) (ja_cons rfl (je_ix (i_idx rfl) (jr_of (je_var rfl (.inl rfl) rfl rfl)) (jr_of cst_int) rfl) (ja_cons rfl cst_int (ja_cons rfl cst_int ja_nil))) rfl))))))))))
def N__law_put : List Str := ["copies", "number", "fresh", "at", "copy"]
def b__law_put : DS := dRet (dPr pTuple (dCons (dLst (dLc (dRg en1 (dCons (dVar 0) (dNil))) (gT 2 (gsC (gN 3) (gsC (gN 4) (gs0)))) (dYes) (dIf (dTest (dOp pEq (dVar 3) (dVar 1))) (dVar 2) (dVar 4)) [3, 4])) (dNil)))
def f__law_put : List D → M D := dFn 3 N__law_put.length b__law_put
theorem nd__law_put : N__law_put.Nodup := by decide +kernel
theorem sc__law_put : FnScope N__law_put ["copies", "number", "fresh"] (defScope (top 41)) := ⟨rfl, rfl, rfl, nd__law_put, rfl, by decide +kernel, by decide +kernel⟩
theorem ok__law_put (Z : Zf G mg fa fn) : Callee P w G mg base "_law_put" 1 3 ["copies", "number", "fresh"] f__law_put := by
  refine callee_of (N := N__law_put) (d := b__law_put) Z 29 49 (st := top 41) (by rfl) (by rfl) sc__law_put (by rfl) (fun _ _ _ _ _ _ us hl => match us, hl with | [_, _, _], _ => by rfl) fun f cdv A outer s H E hr => ?_
  exact (jss_one (js_ret (je_callT (c_tuple rfl) rfl (Z.free 13 rfl) PyProof.Rows.boot_tuple (jb_cons rfl (jr_of (je_lst (je_lc (own := [("at", 3), ("copy", 4)]) rfl nd__law_put (jiw_of (ji_enum rfl rfl (Z.free 30 rfl) (ja_cons rfl (je_var rfl (.inl rfl) rfl rfl) ja_nil) rfl)) (blkOk_by rfl) (fun _ _ _ _ _ => (jg_tup rfl rfl (jgs_cons (jg_name nd__law_put rfl (.inl rfl) (.inr rfl) (by decide)) (jgs_cons (jg_name nd__law_put rfl (.inl rfl) (.inr rfl) (by decide)) jgs_nil)))) (fun _ _ _ _ _ => jts_nil) (fun _ _ _ _ _ => (je_if (jt_cmp (o_eq rfl (huR hr)) (jr_of (je_var rfl (.inl rfl) rfl rfl)) (jr_of (je_var rfl (.inr (.inl rfl)) rfl rfl)) rfl) (je_var rfl (.inr (.inl rfl)) rfl rfl) (je_var rfl (.inl rfl) rfl rfl))) (fun _ => rfl)))) jb_nil) rfl)))
def N__law_last : List Str := ["rows"]
def b__law_last : DS := dRet (dTup (dCons (dIf (dTest (dOp pNe (dVar 0) (dTup (dNil)))) (dOp pIdx (dOp pIdx (dVar 0) (dNeg (dCst (.int 1)))) (dCst (.int 0))) (dCst (.int 0))) (dCons (dPr pLen (dCons (dVar 0) (dNil))) (dNil))))
def f__law_last : List D → M D := dFn 1 N__law_last.length b__law_last
theorem nd__law_last : N__law_last.Nodup := by decide +kernel
theorem sc__law_last : FnScope N__law_last ["rows"] (defScope (top 40)) := ⟨rfl, rfl, rfl, nd__law_last, rfl, by decide +kernel, by decide +kernel⟩
theorem ok__law_last (Z : Zf G mg fa fn) : Callee P w G mg base "_law_last" 1 1 ["rows"] f__law_last := by
  refine callee_of (N := N__law_last) (d := b__law_last) Z 30 50 (st := top 40) (by rfl) (by rfl) sc__law_last (by rfl) (fun _ _ _ _ _ _ us hl => match us, hl with | [_], _ => by rfl) fun f cdv A outer s H E hr => ?_
  exact (jss_one (js_ret (je_tup (ja_cons rfl (je_if (jt_cmp (o_ne rfl (huR hr)) (jr_of (je_var rfl (.inl rfl) rfl rfl)) (jr_of (je_tup ja_nil)) rfl) (je_ix (i_idx rfl) (jr_of (je_ix (i_idx rfl) (jr_of (je_var rfl (.inl rfl) rfl rfl)) (jr_of (je_neg cst_int)) rfl)) (jr_of cst_int) rfl) cst_int) (ja_cons rfl (je_callB (c_len rfl) rfl (Z.free 0 rfl) boot_len (jb_cons rfl (jr_of (je_var rfl (.inl rfl) rfl rfl)) jb_nil) rfl) ja_nil)))))
def N__law_elected : List Str := ["state", "number", "voters", "copies", "leader", "many", "one", "term"]
def b__law_elected : DS := dSeq (dBnd (dVar 0) (gT 3 (gsC (gN 3) (gsC (gN 4) (gsC (gN 5) (gs0)))))) (dSeq (dIfS (dOr (dTest (dOp pLe (dOp pMul (dCst (.int 2)) (dPr pLen (dCons (dVar 2) (dNil)))) (dPr pLen (dCons (dVar 3) (dNil))))) (dOr (dTest (dOp pNotIn (dVar 1) (dVar 2))) (dTest (dOp pNe (dLst (dLc (dItems (dVar 2)) (gN 6) (dTest (dOp pGe (dVar 6) (dPr pLen (dCons (dVar 3) (dNil))))) (dCst (.int 1)) [6])) (dLst (dDisp (dNil))))))) (dRet (dCst .non)) (dNop)) (dSeq (dFor (dItems (dVar 2)) (gN 6) (dIfS (dOr (dNot (dTest (dOp pIdx (dOp pIdx (dVar 3) (dVar 6)) (dCst (.int 0))))) (dTest (dOp pGt (dCall 1 f__law_last (dCons (dOp pIdx (dOp pIdx (dVar 3) (dVar 6)) (dCst (.int 2))) (dNil))) (dCall 1 f__law_last (dCons (dOp pIdx (dOp pIdx (dVar 3) (dVar 1)) (dCst (.int 2))) (dNil)))))) (dRet (dCst .non)) (dNop))) (dSeq (dSet 7 (qV (dOp pAdd (dCst (.int 1)) (dPr pMax (dCons (dLst (dLc (dItems (dVar 2)) (gN 6) (dYes) (dOp pIdx (dOp pIdx (dVar 3) (dVar 6)) (dCst (.int 1))) [6])) (dNil)))))) (dSeq (dFor (dItems (dVar 2)) (gN 6) (dSet 3 (qV (dCall 3 f__law_put (dCons (dVar 3) (dCons (dVar 6) (dCons (dTup (dCons (dCst (.bl true)) (dCons (dVar 7) (dCons (dOp pIdx (dOp pIdx (dVar 3) (dVar 6)) (dCst (.int 2))) (dNil))))) (dNil)))))))) (dRet (dTup (dCons (dVar 3) (dCons (dVar 1) (dCons (dVar 5) (dNil))))))))))
def f__law_elected : List D → M D := dFn 3 N__law_elected.length b__law_elected
theorem nd__law_elected : N__law_elected.Nodup := by decide +kernel
theorem sc__law_elected : FnScope N__law_elected ["state", "number", "voters"] (defScope (top 45)) := ⟨rfl, rfl, rfl, nd__law_elected, rfl, by decide +kernel, by decide +kernel⟩
theorem ok__law_elected (Z : Zf G mg fa fn) : Callee P w G mg base "_law_elected" 2 3 ["state", "number", "voters"] f__law_elected := by
  refine callee_of (N := N__law_elected) (d := b__law_elected) Z 31 51 (st := top 45) (by rfl) (by rfl) sc__law_elected (by rfl) (fun _ _ _ _ _ _ us hl => match us, hl with | [_, _, _], _ => by rfl) fun f cdv A outer s H E hr => ?_
  exact (jss_cons (js_bnd (vs := [0, 1, 2, 3, 4, 5, 6, 7]) (ps_asg (je_var rfl (.inl rfl) rfl rfl) (jg_tup rfl rfl (jgs_cons (jg_name nd__law_elected rfl (.inr rfl) (.inl rfl) (by decide)) (jgs_cons (jg_name nd__law_elected rfl (.inl rfl) (.inl rfl) (by decide)) (jgs_cons (jg_name nd__law_elected rfl (.inl rfl) (.inl rfl) (by decide)) jgs_nil)))))) (jss_cons (js_if (PW.pt (jw_or (jt_cmp (o_le rfl (huR hr)) (jr_of (je_op (o_mul rfl) (jr_of cst_int) (jr_of (je_callB (c_len rfl) rfl (Z.free 0 rfl) boot_len (jb_cons rfl (jr_of (je_var rfl (.inl rfl) rfl rfl)) jb_nil) rfl)))) (jr_of (je_callB (c_len rfl) rfl (Z.free 0 rfl) boot_len (jb_cons rfl (jr_of (je_var rfl (.inr (.inl rfl)) rfl rfl)) jb_nil) rfl)) rfl) (jw_or (jt_cmp (o_notIn rfl (huR hr)) (jr_of (je_var rfl (.inl rfl) rfl rfl)) (jr_of (je_var rfl (.inl rfl) rfl rfl)) rfl) (jw1_or (jt_cmp (o_ne rfl (huR hr)) (jr_of (je_lst (je_lc (own := [("one", 6)]) rfl nd__law_elected (ji_valW rfl (jr_of (je_var rfl (.inl rfl) rfl rfl))) (blkOk_by rfl) (fun _ _ _ _ _ => (jg_name nd__law_elected rfl (.inl rfl) (.inr rfl) (by decide))) (fun _ _ _ _ _ => (jts_one (jt_cmp (o_ge rfl (huR hr)) (jr_of (je_var rfl (.inl rfl) rfl rfl)) (jr_of (je_callB (c_len rfl) rfl (Z.free 0 rfl) boot_len (jb_cons rfl (jr_of (je_var rfl (.inr (.inl rfl)) rfl rfl)) jb_nil) rfl)) rfl))) (fun _ _ _ _ _ => cst_int) (fun _ => rfl)))) (jr_of (je_lst (jl_disp ja_nil))) rfl))))) (jss_one (js_ret cst_non)) jss_nil) (jss_cons (js_for (vs := [0, 1, 2, 3, 4, 5, 6, 7]) (passes_of rfl) rfl (ji_val rfl (je_var rfl (.inl rfl) rfl rfl)) (jg_name nd__law_elected rfl (.inl rfl) (.inl rfl) (by decide)) (jss_one (js_if (PW.pt (jw_or (jt_not (jt_val (jr_of (je_ix (i_idx rfl) (jr_of (je_ix (i_idx rfl) (jr_of (je_var rfl (.inr (.inl rfl)) rfl rfl)) (jr_of (je_var rfl (.inl rfl) rfl rfl)) rfl)) (jr_of cst_int) rfl)) rfl)) (jw1_or (jt_cmp (o_gt rfl (huR hr)) (jr_of (je_cal (ok__law_last Z) rfl hr (by decide) rfl (takes_of (E := E) rfl rfl rfl rfl) (ja_cons rfl (je_ix (i_idx rfl) (jr_of (je_ix (i_idx rfl) (jr_of (je_var rfl (.inr (.inl rfl)) rfl rfl)) (jr_of (je_var rfl (.inl rfl) rfl rfl)) rfl)) (jr_of cst_int) rfl) ja_nil) rfl)) (jr_of (je_cal (ok__law_last Z) rfl hr (by decide) rfl (takes_of (E := E) rfl rfl rfl rfl) (ja_cons rfl (je_ix (i_idx rfl) (jr_of (je_ix (i_idx rfl) (jr_of (je_var rfl (.inr (.inl rfl)) rfl rfl)) (jr_of (je_var rfl (.inl rfl) rfl rfl)) rfl)) (jr_of cst_int) rfl) ja_nil) rfl)) rfl)))) (jss_one (js_ret cst_non)) jss_nil)) (fun _ => rfl)) (jss_cons (js_setV (ps_set nd__law_elected rfl (.inl rfl) (je_op (o_add rfl) (jr_of cst_int) (jr_of (je_callB (c_max rfl rfl) rfl (Z.free 3 rfl) PyProof.Rows.boot_max (jb_cons rfl (jr_of (je_lst (je_lc (own := [("one", 6)]) rfl nd__law_elected (ji_valW rfl (jr_of (je_var rfl (.inl rfl) rfl rfl))) (blkOk_by rfl) (fun _ _ _ _ _ => (jg_name nd__law_elected rfl (.inl rfl) (.inr rfl) (by decide))) (fun _ _ _ _ _ => jts_nil) (fun _ _ _ _ _ => (je_ix (i_idx rfl) (jr_of (je_ix (i_idx rfl) (jr_of (je_var rfl (.inr (.inl rfl)) rfl rfl)) (jr_of (je_var rfl (.inl rfl) rfl rfl)) rfl)) (jr_of cst_int) rfl)) (fun _ => rfl)))) jb_nil) rfl))) rfl)) (jss_cons (js_for (vs := [0, 1, 2, 3, 4, 5, 6, 7]) (passes_of rfl) rfl (ji_val rfl (je_var rfl (.inl rfl) rfl rfl)) (jg_name nd__law_elected rfl (.inl rfl) (.inl rfl) (by decide)) (jss_one (js_setV (ps_set nd__law_elected rfl (.inr rfl) (je_cal (ok__law_put Z) rfl hr (by decide) rfl (takes_of (E := E) rfl rfl rfl rfl) (ja_cons rfl (je_var rfl (.inr (.inl rfl)) rfl rfl) (ja_cons rfl (je_var rfl (.inl rfl) rfl rfl) (ja_cons rfl (je_tup (ja_cons rfl cst_bl (ja_cons rfl (je_var rfl (.inl rfl) rfl rfl) (ja_cons rfl (je_ix (i_idx rfl) (jr_of (je_ix (i_idx rfl) (jr_of (je_var rfl (.inr (.inl rfl)) rfl rfl)) (jr_of (je_var rfl (.inl rfl) rfl rfl)) rfl)) (jr_of cst_int) rfl) ja_nil)))) ja_nil))) rfl) rfl))) (fun _ => rfl)) (jss_one (js_ret (je_tup (ja_cons rfl (je_var rfl (.inr (.inl rfl)) rfl rfl) (ja_cons rfl (je_var rfl (.inl rfl) rfl rfl) (ja_cons rfl (je_var rfl (.inl rfl) rfl rfl) ja_nil)))))))))))
def N__law_behind : List Str := ["state", "deed", "copies", "leader", "many", "fresh", "up", "term", "rows", "first", "having", "copy"]
def b__law_behind : DS := dSeq (dIfS (dNot (dTest (dCall 1 f__law_is_copy_deed (dCons (dVar 1) (dNil))))) (dRet (dCst .non)) (dNop)) (dSeq (dBnd (dVar 0) (gT 3 (gsC (gN 2) (gsC (gN 3) (gsC (gN 4) (gs0)))))) (dSeq (dIfS (dTest (dOp pEq (dOp pIdx (dVar 1) (dCst (.int 0))) (dCst (.str "elect")))) (dRet (dCall 3 f__law_elected (dCons (dVar 0) (dCons (dOp pIdx (dVar 1) (dCst (.int 1))) (dCons (dOp pIdx (dVar 1) (dCst (.int 2))) (dNil)))))) (dNop)) (dSeq (dIfS (dTest (dOp pIn (dOp pIdx (dVar 1) (dCst (.int 0))) (dTup (dCons (dCst (.str "stop")) (dCons (dCst (.str "start")) (dNil)))))) (dSeq (dIfS (dOr (dTest (dOp pGe (dOp pIdx (dVar 1) (dCst (.int 1))) (dPr pLen (dCons (dVar 2) (dNil))))) (dTest (dOp pNe (dOp pIdx (dOp pIdx (dVar 2) (dOp pIdx (dVar 1) (dCst (.int 1)))) (dCst (.int 0))) (dOp pEq (dOp pIdx (dVar 1) (dCst (.int 0))) (dCst (.str "stop")))))) (dRet (dCst .non)) (dNop)) (dSeq (dSet 5 (qV (dOp pAdd (dTup (dCons (dOp pEq (dOp pIdx (dVar 1) (dCst (.int 0))) (dCst (.str "start"))) (dNil))) (dSl (dOp pIdx (dVar 2) (dOp pIdx (dVar 1) (dCst (.int 1)))) (dSo (dCst (.int 1))) (dNo))))) (dRet (dTup (dCons (dCall 3 f__law_put (dCons (dVar 2) (dCons (dOp pIdx (dVar 1) (dCst (.int 1))) (dCons (dVar 5) (dNil))))) (dCons (dIf (dTest (dOp pEq (dVar 3) (dOp pIdx (dVar 1) (dCst (.int 1))))) (dCst .non) (dVar 3)) (dCons (dVar 4) (dNil)))))))) (dNop)) (dSeq (dIfS (dTest (dOp pIs (dVar 3) (dCst .non))) (dRet (dCst .non)) (dNop)) (dSeq (dBnd (dOp pIdx (dVar 2) (dVar 3)) (gT 3 (gsC (gN 6) (gsC (gN 7) (gsC (gN 8) (gs0)))))) (dSeq (dIfS (dTest (dOp pEq (dOp pIdx (dVar 1) (dCst (.int 0))) (dCst (.str "append")))) (dRet (dTup (dCons (dCall 3 f__law_put (dCons (dVar 2) (dCons (dVar 3) (dCons (dTup (dCons (dVar 6) (dCons (dVar 7) (dCons (dOp pAdd (dVar 8) (dTup (dCons (dTup (dCons (dVar 7) (dCons (dOp pIdx (dVar 1) (dCst (.int 1))) (dNil)))) (dNil)))) (dNil))))) (dNil))))) (dCons (dVar 3) (dCons (dVar 4) (dNil)))))) (dNop)) (dSeq (dIfS (dTest (dOp pEq (dOp pIdx (dVar 1) (dCst (.int 0))) (dCst (.str "copy")))) (dSeq (dIfS (dOr (dTest (dOp pGe (dOp pIdx (dVar 1) (dCst (.int 1))) (dPr pLen (dCons (dVar 2) (dNil))))) (dOr (dTest (dOp pEq (dOp pIdx (dVar 1) (dCst (.int 1))) (dVar 3))) (dNot (dTest (dOp pIdx (dOp pIdx (dVar 2) (dOp pIdx (dVar 1) (dCst (.int 1)))) (dCst (.int 0))))))) (dRet (dCst .non)) (dNop)) (dRet (dTup (dCons (dCall 3 f__law_put (dCons (dVar 2) (dCons (dOp pIdx (dVar 1) (dCst (.int 1))) (dCons (dTup (dCons (dCst (.bl true)) (dCons (dVar 7) (dCons (dVar 8) (dNil))))) (dNil))))) (dCons (dVar 3) (dCons (dVar 4) (dNil))))))) (dNop)) (dSeq (dSet 9 (qV (dSl (dVar 8) (dNo) (dSo (dOp pIdx (dVar 1) (dCst (.int 1))))))) (dSeq (dIfS (dOr (dNot (dTest (dChain pLt pLe (dVar 4) (dOp pIdx (dVar 1) (dCst (.int 1))) (dPr pLen (dCons (dVar 8) (dNil)))))) (dTest (dOp pNe (dOp pIdx (dOp pIdx (dVar 9) (dNeg (dCst (.int 1)))) (dCst (.int 0))) (dVar 7)))) (dRet (dCst .non)) (dNop)) (dSeq (dSet 10 (qV (dLst (dLc (dItems (dVar 2)) (gN 11) (dTest (dOp pEq (dSl (dOp pIdx (dVar 11) (dCst (.int 2))) (dNo) (dSo (dOp pIdx (dVar 1) (dCst (.int 1))))) (dVar 9))) (dCst (.int 1)) [11])))) (dRet (dIf (dTest (dOp pGt (dOp pMul (dCst (.int 2)) (dPr pLen (dCons (dVar 10) (dNil)))) (dPr pLen (dCons (dVar 2) (dNil))))) (dTup (dCons (dVar 2) (dCons (dVar 3) (dCons (dOp pIdx (dVar 1) (dCst (.int 1))) (dNil))))) (dCst .non)))))))))))))
def f__law_behind : List D → M D := dFn 2 N__law_behind.length b__law_behind
theorem nd__law_behind : N__law_behind.Nodup := by decide +kernel
theorem sc__law_behind : FnScope N__law_behind ["state", "deed"] (defScope (top 46)) := ⟨rfl, rfl, rfl, nd__law_behind, rfl, by decide +kernel, by decide +kernel⟩
theorem ok__law_behind (Z : Zf G mg fa fn) : Callee P w G mg base "_law_behind" 4 2 ["state", "deed"] f__law_behind := by
  refine callee_of (N := N__law_behind) (d := b__law_behind) Z 32 52 (st := top 46) (by rfl) (by rfl) sc__law_behind (by rfl) (fun _ _ _ _ _ _ us hl => match us, hl with | [_, _], _ => by rfl) fun f cdv A outer s H E hr => ?_
  exact (jss_cons (js_if (jt_not (jt_val (jr_of (je_cal (ok__law_is_copy_deed Z) rfl hr (by decide) rfl (takes_of (E := E) rfl rfl rfl rfl) (ja_cons rfl (je_var rfl (.inr (.inl rfl)) rfl rfl) ja_nil) rfl)) rfl)) (jss_one (js_ret cst_non)) jss_nil) (jss_cons (js_bnd (vs := [0, 1, 2, 3, 4, 5, 6, 7, 8, 9, 10, 11]) (ps_asg (je_var rfl (.inl rfl) rfl rfl) (jg_tup rfl rfl (jgs_cons (jg_name nd__law_behind rfl (.inl rfl) (.inl rfl) (by decide)) (jgs_cons (jg_name nd__law_behind rfl (.inl rfl) (.inl rfl) (by decide)) (jgs_cons (jg_name nd__law_behind rfl (.inl rfl) (.inl rfl) (by decide)) jgs_nil)))))) (jss_cons (js_if (jt_cmp (o_eq rfl (huR hr)) (jr_of (je_ix (i_idx rfl) (jr_of (je_var rfl (.inr (.inl rfl)) rfl rfl)) (jr_of cst_int) rfl)) (jr_of cst_str) rfl) (jss_one (js_ret (je_cal (ok__law_elected Z) rfl hr (by decide) rfl (takes_of (E := E) rfl rfl rfl rfl) (ja_cons rfl (je_var rfl (.inl rfl) rfl rfl) (ja_cons rfl (je_ix (i_idx rfl) (jr_of (je_var rfl (.inr (.inl rfl)) rfl rfl)) (jr_of cst_int) rfl) (ja_cons rfl (je_ix (i_idx rfl) (jr_of (je_var rfl (.inr (.inl rfl)) rfl rfl)) (jr_of cst_int) rfl) ja_nil))) rfl))) jss_nil) (jss_cons (js_if (jt_cmp (o_in rfl (huR hr)) (jr_of (je_ix (i_idx rfl) (jr_of (je_var rfl (.inr (.inl rfl)) rfl rfl)) (jr_of cst_int) rfl)) (jr_of (je_tup (ja_cons rfl cst_str (ja_cons rfl cst_str ja_nil)))) rfl) (jss_cons (js_if (PW.pt (jw_or (jt_cmp (o_ge rfl (huR hr)) (jr_of (je_ix (i_idx rfl) (jr_of (je_var rfl (.inr (.inl rfl)) rfl rfl)) (jr_of cst_int) rfl)) (jr_of (je_callB (c_len rfl) rfl (Z.free 0 rfl) boot_len (jb_cons rfl (jr_of (je_var rfl (.inl rfl) rfl rfl)) jb_nil) rfl)) rfl) (jw1_or (jt_cmp (o_ne rfl (huR hr)) (jr_of (je_ix (i_idx rfl) (jr_of (je_ix (i_idx rfl) (jr_of (je_var rfl (.inl rfl) rfl rfl)) (jr_of (je_ix (i_idx rfl) (jr_of (je_var rfl (.inr (.inl rfl)) rfl rfl)) (jr_of cst_int) rfl)) rfl)) (jr_of cst_int) rfl)) (jr_of (je_cmp (o_eq rfl (huR hr)) (jr_of (je_ix (i_idx rfl) (jr_of (je_var rfl (.inr (.inl rfl)) rfl rfl)) (jr_of cst_int) rfl)) (jr_of cst_str) rfl)) rfl)))) (jss_one (js_ret cst_non)) jss_nil) (jss_cons (js_setV (ps_set nd__law_behind rfl (.inl rfl) (je_op (o_add rfl) (jr_of (je_tup (ja_cons rfl (je_cmp (o_eq rfl (huR hr)) (jr_of (je_ix (i_idx rfl) (jr_of (je_var rfl (.inr (.inl rfl)) rfl rfl)) (jr_of cst_int) rfl)) (jr_of cst_str) rfl) ja_nil))) (jr_of (je_sl rfl (jr_of (je_ix (i_idx rfl) (jr_of (je_var rfl (.inl rfl) rfl rfl)) (jr_of (je_ix (i_idx rfl) (jr_of (je_var rfl (.inr (.inl rfl)) rfl rfl)) (jr_of cst_int) rfl)) rfl)) (jo_some cst_int) jo_none))) rfl)) (jss_one (js_ret (je_tup (ja_cons rfl (je_cal (ok__law_put Z) rfl hr (by decide) rfl (takes_of (E := E) rfl rfl rfl rfl) (ja_cons rfl (je_var rfl (.inl rfl) rfl rfl) (ja_cons rfl (je_ix (i_idx rfl) (jr_of (je_var rfl (.inr (.inl rfl)) rfl rfl)) (jr_of cst_int) rfl) (ja_cons rfl (je_var rfl (.inl rfl) rfl rfl) ja_nil))) rfl) (ja_cons rfl (je_if (jt_cmp (o_eq rfl (huR hr)) (jr_of (je_var rfl (.inl rfl) rfl rfl)) (jr_of (je_ix (i_idx rfl) (jr_of (je_var rfl (.inr (.inl rfl)) rfl rfl)) (jr_of cst_int) rfl)) rfl) cst_non (je_var rfl (.inl rfl) rfl rfl)) (ja_cons rfl (je_var rfl (.inl rfl) rfl rfl) ja_nil)))))))) jss_nil) (jss_cons (js_if (jt_cmp (o_is) (jr_of (je_var rfl (.inl rfl) rfl rfl)) (jr_of cst_non) rfl) (jss_one (js_ret cst_non)) jss_nil) (jss_cons (js_bnd (vs := [0, 1, 2, 3, 4, 5, 6, 7, 8, 9, 10, 11]) (ps_asg (je_ix (i_idx rfl) (jr_of (je_var rfl (.inl rfl) rfl rfl)) (jr_of (je_var rfl (.inl rfl) rfl rfl)) rfl) (jg_tup rfl rfl (jgs_cons (jg_name nd__law_behind rfl (.inl rfl) (.inl rfl) (by decide)) (jgs_cons (jg_name nd__law_behind rfl (.inl rfl) (.inl rfl) (by decide)) (jgs_cons (jg_name nd__law_behind rfl (.inl rfl) (.inl rfl) (by decide)) jgs_nil)))))) (jss_cons (js_if (jt_cmp (o_eq rfl (huR hr)) (jr_of (je_ix (i_idx rfl) (jr_of (je_var rfl (.inr (.inl rfl)) rfl rfl)) (jr_of cst_int) rfl)) (jr_of cst_str) rfl) (jss_one (js_ret (je_tup (ja_cons rfl (je_cal (ok__law_put Z) rfl hr (by decide) rfl (takes_of (E := E) rfl rfl rfl rfl) (ja_cons rfl (je_var rfl (.inl rfl) rfl rfl) (ja_cons rfl (je_var rfl (.inl rfl) rfl rfl) (ja_cons rfl (je_tup (ja_cons rfl (je_var rfl (.inl rfl) rfl rfl) (ja_cons rfl (je_var rfl (.inl rfl) rfl rfl) (ja_cons rfl (je_op (o_add rfl) (jr_of (je_var rfl (.inl rfl) rfl rfl)) (jr_of (je_tup (ja_cons rfl (je_tup (ja_cons rfl (je_var rfl (.inl rfl) rfl rfl) (ja_cons rfl (je_ix (i_idx rfl) (jr_of (je_var rfl (.inr (.inl rfl)) rfl rfl)) (jr_of cst_int) rfl) ja_nil))) ja_nil)))) ja_nil)))) ja_nil))) rfl) (ja_cons rfl (je_var rfl (.inl rfl) rfl rfl) (ja_cons rfl (je_var rfl (.inl rfl) rfl rfl) ja_nil)))))) jss_nil) (jss_cons (js_if (jt_cmp (o_eq rfl (huR hr)) (jr_of (je_ix (i_idx rfl) (jr_of (je_var rfl (.inr (.inl rfl)) rfl rfl)) (jr_of cst_int) rfl)) (jr_of cst_str) rfl) (jss_cons (js_if (PW.pt (jw_or (jt_cmp (o_ge rfl (huR hr)) (jr_of (je_ix (i_idx rfl) (jr_of (je_var rfl (.inr (.inl rfl)) rfl rfl)) (jr_of cst_int) rfl)) (jr_of (je_callB (c_len rfl) rfl (Z.free 0 rfl) boot_len (jb_cons rfl (jr_of (je_var rfl (.inl rfl) rfl rfl)) jb_nil) rfl)) rfl) (jw_or (jt_cmp (o_eq rfl (huR hr)) (jr_of (je_ix (i_idx rfl) (jr_of (je_var rfl (.inr (.inl rfl)) rfl rfl)) (jr_of cst_int) rfl)) (jr_of (je_var rfl (.inl rfl) rfl rfl)) rfl) (jw1_or (jt_not (jt_val (jr_of (je_ix (i_idx rfl) (jr_of (je_ix (i_idx rfl) (jr_of (je_var rfl (.inl rfl) rfl rfl)) (jr_of (je_ix (i_idx rfl) (jr_of (je_var rfl (.inr (.inl rfl)) rfl rfl)) (jr_of cst_int) rfl)) rfl)) (jr_of cst_int) rfl)) rfl)))))) (jss_one (js_ret cst_non)) jss_nil) (jss_one (js_ret (je_tup (ja_cons rfl (je_cal (ok__law_put Z) rfl hr (by decide) rfl (takes_of (E := E) rfl rfl rfl rfl) (ja_cons rfl (je_var rfl (.inl rfl) rfl rfl) (ja_cons rfl (je_ix (i_idx rfl) (jr_of (je_var rfl (.inr (.inl rfl)) rfl rfl)) (jr_of cst_int) rfl) (ja_cons rfl (je_tup (ja_cons rfl cst_bl (ja_cons rfl (je_var rfl (.inl rfl) rfl rfl) (ja_cons rfl (je_var rfl (.inl rfl) rfl rfl) ja_nil)))) ja_nil))) rfl) (ja_cons rfl (je_var rfl (.inl rfl) rfl rfl) (ja_cons rfl (je_var rfl (.inl rfl) rfl rfl) ja_nil))))))) jss_nil) (jss_cons (js_setV (ps_set nd__law_behind rfl (.inr rfl) (je_sl rfl (jr_of (je_var rfl (.inl rfl) rfl rfl)) jo_none (jo_some (je_ix (i_idx rfl) (jr_of (je_var rfl (.inr (.inl rfl)) rfl rfl)) (jr_of cst_int) rfl))) rfl)) (jss_cons (js_if (PW.pt (jw_or (jt_not (jt_chain (o_lt rfl (huR hr)) (o_le rfl (huR hr)) (jr_of (je_var rfl (.inl rfl) rfl rfl)) (jr_of (je_ix (i_idx rfl) (jr_of (je_var rfl (.inr (.inl rfl)) rfl rfl)) (jr_of cst_int) rfl)) (jr_of (je_callB (c_len rfl) rfl (Z.free 0 rfl) boot_len (jb_cons rfl (jr_of (je_var rfl (.inl rfl) rfl rfl)) jb_nil) rfl)) rfl)) (jw1_or (jt_cmp (o_ne rfl (huR hr)) (jr_of (je_ix (i_idx rfl) (jr_of (je_ix (i_idx rfl) (jr_of (je_var rfl (.inr (.inl rfl)) rfl rfl)) (jr_of (je_neg cst_int)) rfl)) (jr_of cst_int) rfl)) (jr_of (je_var rfl (.inl rfl) rfl rfl)) rfl)))) (jss_one (js_ret cst_non)) jss_nil) (jss_cons (js_lcV (ps_setLc (own := [("copy", 11)]) rfl nd__law_behind rfl rfl (sw_true rfl rfl rfl rfl) (ji_valW rfl (jr_of (je_var rfl (.inl rfl) rfl rfl))) (blkOk_by rfl) (fun _ _ _ _ _ => (jg_name nd__law_behind rfl (.inl rfl) (.inr rfl) (by decide))) (fun _ _ _ _ _ => (jts_one (jt_cmp (o_eq rfl (huR hr)) (jr_of (je_sl rfl (jr_of (je_ix (i_idx rfl) (jr_of (je_var rfl (.inl rfl) rfl rfl)) (jr_of cst_int) rfl)) jo_none (jo_some (je_ix (i_idx rfl) (jr_of (je_var rfl (.inr (.inl rfl)) rfl rfl)) (jr_of cst_int) rfl)))) (jr_of (je_var rfl (.inr (.inl rfl)) rfl rfl)) rfl))) (fun _ _ _ _ _ => cst_int) (fun _ => rfl))) (jss_one (js_ret (je_if (jt_cmp (o_gt rfl (huR hr)) (jr_of (je_op (o_mul rfl) (jr_of cst_int) (jr_of (je_callB (c_len rfl) rfl (Z.free 0 rfl) boot_len (jb_cons rfl (jr_of (je_var rfl (.inl rfl) rfl rfl)) jb_nil) rfl)))) (jr_of (je_callB (c_len rfl) rfl (Z.free 0 rfl) boot_len (jb_cons rfl (jr_of (je_var rfl (.inl rfl) rfl rfl)) jb_nil) rfl)) rfl) (je_tup (ja_cons rfl (je_var rfl (.inl rfl) rfl rfl) (ja_cons rfl (je_var rfl (.inl rfl) rfl rfl) (ja_cons rfl (je_ix (i_idx rfl) (jr_of (je_var rfl (.inr (.inl rfl)) rfl rfl)) (jr_of cst_int) rfl) ja_nil)))) cst_non))))))))))))))
def N__law_copies : List Str := ["kettle", "size", "most", "states", "deeds", "turn", "deed", "later"]
def b__law_copies : DS := dSeq (dPar2 3 4 (qO (dDisp (dCons (dTup (dCons (dOp pMul (dTup (dCons (dTup (dCons (dCst (.bl true)) (dCons (dCst (.int 0)) (dCons (dTup (dNil)) (dNil))))) (dNil))) (dVar 1)) (dCons (dCst .non) (dCons (dCst (.int 0)) (dNil))))) (dNil)))) (qV (dTup (dNil)))) (dSeq (dFor (dRg rg1 (dCons (dVar 2) (dNil))) (gN 5) (dSeq (dSet 6 (qV (dCall 2 f__law_any_deed (dCons (dVar 0) (dCons (dOp pIdx (dRd 3) (dNeg (dCst (.int 1)))) (dNil)))))) (dSeq (dSet 7 (qV (dCall 2 f__law_behind (dCons (dOp pIdx (dRd 3) (dNeg (dCst (.int 1)))) (dCons (dVar 6) (dNil)))))) (dIfS (dTest (dOp pIsNot (dVar 7) (dCst .non))) (dSeq (dOwn 3 fApp (dVar 7)) (dSet 4 (qV (dOp pAdd (dVar 4) (dTup (dCons (dVar 6) (dNil))))))) (dNop))))) (dSeq (dFrz 3) (dRet (dTup (dCons (dVar 4) (dCons (dVar 3) (dNil)))))))
def f__law_copies : List D → M D := dFn 3 N__law_copies.length b__law_copies
theorem nd__law_copies : N__law_copies.Nodup := by decide +kernel
theorem sc__law_copies : FnScope N__law_copies ["kettle", "size", "most"] (defScope (top 48)) := ⟨rfl, rfl, rfl, nd__law_copies, rfl, by decide +kernel, by decide +kernel⟩
theorem ok__law_copies (Z : Zf G mg fa fn) : Callee P w G mg base "_law_copies" 5 3 ["kettle", "size", "most"] f__law_copies := by
  refine callee_of (N := N__law_copies) (d := b__law_copies) Z 33 53 (st := top 48) (by rfl) (by rfl) sc__law_copies (by rfl) (fun _ _ _ _ _ _ us hl => match us, hl with | [_, _, _], _ => by rfl) fun f cdv A outer s H E hr => ?_
  exact (jss_cons (js_par2 (ps_par rfl nd__law_copies rfl rfl (by decide) rfl rfl (pa_cons (qO_of (jl_disp (ja_cons rfl (je_tup (ja_cons rfl (je_op (o_mul rfl) (jr_of (je_tup (ja_cons rfl (je_tup (ja_cons rfl cst_bl (ja_cons rfl cst_int (ja_cons rfl (je_tup ja_nil) ja_nil)))) ja_nil))) (jr_of (je_var rfl (.inl rfl) rfl rfl))) (ja_cons rfl cst_non (ja_cons rfl cst_int ja_nil)))) ja_nil))) (pa_cons (qV_of (je_tup ja_nil)) pa_nil)) rfl)) (jss_cons (js_for (vs := [0, 1, 2, 3, 4, 5, 6, 7]) (passes_of rfl) rfl (ji_rg1 rfl (Z.free 41 rfl) (ja_cons rfl (je_var rfl (.inl rfl) rfl rfl) ja_nil) rfl) (jg_name nd__law_copies rfl (.inl rfl) (.inl rfl) (by decide)) (jss_cons (js_setV (ps_set nd__law_copies rfl (.inl rfl) (je_cal (ok__law_any_deed Z) rfl hr (by decide) rfl (takes_of (E := E) rfl rfl rfl rfl) (ja_cons rfl (je_var rfl (.inl rfl) rfl rfl) (ja_cons rfl (je_ix (i_idx rfl) (jr_rd rfl (.inl rfl) rfl rfl) (jr_of (je_neg cst_int)) rfl) ja_nil)) rfl) rfl)) (jss_cons (js_setV (ps_set nd__law_copies rfl (.inl rfl) (je_cal (ok__law_behind Z) rfl hr (by decide) rfl (takes_of (E := E) rfl rfl rfl rfl) (ja_cons rfl (je_ix (i_idx rfl) (jr_rd rfl (.inl rfl) rfl rfl) (jr_of (je_neg cst_int)) rfl) (ja_cons rfl (je_var rfl (.inl rfl) rfl rfl) ja_nil)) rfl) rfl)) (jss_one (js_if (jt_cmp (o_isNot) (jr_of (je_var rfl (.inl rfl) rfl rfl)) (jr_of cst_non) rfl) (jss_cons (js_app rfl rfl (.inl rfl) rfl rfl (je_var rfl (.inl rfl) rfl rfl) rfl rfl rfl rfl rfl) (jss_one (js_setV (ps_set nd__law_copies rfl (.inl rfl) (je_op (o_add rfl) (jr_of (je_var rfl (.inl rfl) rfl rfl)) (jr_of (je_tup (ja_cons rfl (je_var rfl (.inl rfl) rfl rfl) ja_nil)))) rfl)))) jss_nil)))) (fun _ => rfl)) (jss_frz (jss_one (js_ret (je_tup (ja_cons rfl (je_var rfl (.inl rfl) rfl rfl) (ja_cons rfl (je_var rfl (.inl rfl) rfl rfl) ja_nil))))))))
def N__law_due : List Str := ["size", "value", "state", "at", "deed"]
def b__law_due : DS := dSeq (dIfS (dOr (dNot (dTest (dPr pIsi (dCons (dVar 1) (dCons (dCst (.ty "tuple")) (dNil)))))) (dTest (dOp pGt (dPr pLen (dCons (dVar 1) (dNil))) (dCst (.int 400))))) (dRet (dTup (dCons (dCst (.str "wrong")) (dCons (dCst (.int 0)) (dNil))))) (dNop)) (dSeq (dSet 2 (qV (dTup (dCons (dOp pMul (dTup (dCons (dTup (dCons (dCst (.bl true)) (dCons (dCst (.int 0)) (dCons (dTup (dNil)) (dNil))))) (dNil))) (dVar 0)) (dCons (dCst .non) (dCons (dCst (.int 0)) (dNil))))))) (dSeq (dFor (dRg en1 (dCons (dVar 1) (dNil))) (gT 2 (gsC (gN 3) (gsC (gN 4) (gs0)))) (dSeq (dSet 2 (qV (dCall 2 f__law_behind (dCons (dVar 2) (dCons (dVar 4) (dNil)))))) (dIfS (dTest (dOp pIs (dVar 2) (dCst .non))) (dRet (dTup (dCons (dCst (.str "wrong")) (dCons (dVar 3) (dNil))))) (dNop)))) (dRet (dTup (dCons (dCst (.str "play")) (dCons (dVar 2) (dNil)))))))
def f__law_due : List D → M D := dFn 2 N__law_due.length b__law_due
theorem nd__law_due : N__law_due.Nodup := by decide +kernel
theorem sc__law_due : FnScope N__law_due ["size", "value"] (defScope (top 49)) := ⟨rfl, rfl, rfl, nd__law_due, rfl, by decide +kernel, by decide +kernel⟩
theorem ok__law_due (Z : Zf G mg fa fn) : Callee P w G mg base "_law_due" 5 2 ["size", "value"] f__law_due := by
  refine callee_of (N := N__law_due) (d := b__law_due) Z 34 54 (st := top 49) (by rfl) (by rfl) sc__law_due (by rfl) (fun _ _ _ _ _ _ us hl => match us, hl with | [_, _], _ => by rfl) fun f cdv A outer s H E hr => ?_
  exact (jss_cons (js_if (PW.pt (jw_or (jt_not (jt_val (jr_of (je_callB (c_isi rfl) rfl (Z.free 5 rfl) PyProof.Rows.boot_isinstance (jb_cons rfl (jr_of (je_var rfl (.inl rfl) rfl rfl)) (jb_cons rfl (jr_of (je_ty rfl (Z.free 13 rfl) PyProof.Rows.boot_tuple (by decide) (by decide))) jb_nil)) rfl)) rfl)) (jw1_or (jt_cmp (o_gt rfl (huR hr)) (jr_of (je_callB (c_len rfl) rfl (Z.free 0 rfl) boot_len (jb_cons rfl (jr_of (je_var rfl (.inl rfl) rfl rfl)) jb_nil) rfl)) (jr_of cst_int) rfl)))) (jss_one (js_ret (je_tup (ja_cons rfl cst_str (ja_cons rfl cst_int ja_nil))))) jss_nil) (jss_cons (js_setV (ps_set nd__law_due rfl (.inl rfl) (je_tup (ja_cons rfl (je_op (o_mul rfl) (jr_of (je_tup (ja_cons rfl (je_tup (ja_cons rfl cst_bl (ja_cons rfl cst_int (ja_cons rfl (je_tup ja_nil) ja_nil)))) ja_nil))) (jr_of (je_var rfl (.inl rfl) rfl rfl))) (ja_cons rfl cst_non (ja_cons rfl cst_int ja_nil)))) rfl)) (jss_cons (js_for (vs := [0, 1, 2, 3, 4]) (passes_of rfl) rfl (ji_enum rfl rfl (Z.free 30 rfl) (ja_cons rfl (je_var rfl (.inl rfl) rfl rfl) ja_nil) rfl) (jg_tup rfl rfl (jgs_cons (jg_name nd__law_due rfl (.inl rfl) (.inl rfl) (by decide)) (jgs_cons (jg_name nd__law_due rfl (.inl rfl) (.inl rfl) (by decide)) jgs_nil))) (jss_cons (js_setV (ps_set nd__law_due rfl (.inl rfl) (je_cal (ok__law_behind Z) rfl hr (by decide) rfl (takes_of (E := E) rfl rfl rfl rfl) (ja_cons rfl (je_var rfl (.inl rfl) rfl rfl) (ja_cons rfl (je_var rfl (.inl rfl) rfl rfl) ja_nil)) rfl) rfl)) (jss_one (js_if (jt_cmp (o_is) (jr_of (je_var rfl (.inl rfl) rfl rfl)) (jr_of cst_non) rfl) (jss_one (js_ret (je_tup (ja_cons rfl cst_str (ja_cons rfl (je_var rfl (.inl rfl) rfl rfl) ja_nil))))) jss_nil))) (fun _ => rfl)) (jss_one (js_ret (je_tup (ja_cons rfl cst_str (ja_cons rfl (je_var rfl (.inl rfl) rfl rfl) ja_nil))))))))
def N__law_odd : List Str := ["kettle", "some"]
def b__law_odd : DS := dSeq (dSet 1 (qV (dLst (dDisp (dCons (dCst .non) (dCons (dCst (.int 0)) (dCons (dTup (dNil)) (dCons (dLst (dDisp (dNil))) (dCons (dCst .emp) (dCons (dCst (.str "elect")) (dCons (dTup (dCons (dCst (.str "elect")) (dNil))) (dCons (dTup (dCons (dCst (.str "elect")) (dCons (dCst (.int 0)) (dNil)))) (dCons (dTup (dCons (dCst (.str "elect")) (dCons (dCst (.int 0)) (dCons (dTup (dCons (dCst (.int 0)) (dCons (dCst (.int 1)) (dNil)))) (dNil))))) (dCons (dTup (dCons (dCst (.str "elect")) (dCons (dCst (.int 0)) (dCons (dTup (dCons (dCst (.int 1)) (dCons (dCst (.int 0)) (dNil)))) (dNil))))) (dCons (dTup (dCons (dCst (.str "elect")) (dCons (dCst (.int 0)) (dCons (dLst (dDisp (dCons (dCst (.int 0)) (dCons (dCst (.int 1)) (dNil))))) (dNil))))) (dCons (dTup (dCons (dCst (.str "elect")) (dCons (dCst (.int 5)) (dCons (dTup (dCons (dCst (.int 0)) (dCons (dCst (.int 1)) (dNil)))) (dNil))))) (dCons (dTup (dCons (dCst (.str "elect")) (dCons (dCst (.int 0)) (dCons (dTup (dCons (dCst (.int 0)) (dCons (dCst (.int 5)) (dNil)))) (dNil))))) (dCons (dTup (dCons (dCst (.str "elect")) (dCons (dCst (.bl true)) (dCons (dTup (dCons (dCst (.int 0)) (dCons (dCst (.int 1)) (dNil)))) (dNil))))) (dCons (dTup (dCons (dCst (.str "elect")) (dCons (dCst (.int 0)) (dCons (dTup (dNil)) (dNil))))) (dCons (dTup (dCons (dCst (.str "elect")) (dCons (dCst (.int 0)) (dCons (dTup (dCons (dCst (.int 0)) (dCons (dCst (.int 0)) (dNil)))) (dNil))))) (dCons (dTup (dCons (dCst (.str "elect")) (dCons (dCst (.int 0)) (dCons (dTup (dCons (dCst (.int 0)) (dCons (dCst (.int 1)) (dNil)))) (dCons (dCst (.int 0)) (dNil)))))) (dCons (dTup (dCons (dCst (.str "elect")) (dCons (dCst (.str "0")) (dCons (dTup (dCons (dCst (.int 0)) (dCons (dCst (.int 1)) (dNil)))) (dNil))))) (dCons (dTup (dCons (dCst (.str "elect")) (dCons (dCst (.int 0)) (dCons (dCst .non) (dNil))))) (dNil)))))))))))))))))))))))) (dSeq (dSet 1 (qV (dOp pAdd (dVar 1) (dLst (dDisp (dCons (dTup (dCons (dCst (.str "append")) (dNil))) (dCons (dTup (dCons (dCst (.str "append")) (dCons (dTup (dCons (dCst (.str "off")) (dNil))) (dNil)))) (dCons (dTup (dCons (dCst (.str "append")) (dCons (dTup (dCons (dCst (.str "on")) (dNil))) (dNil)))) (dCons (dTup (dCons (dCst (.str "append")) (dCons (dCst .non) (dNil)))) (dCons (dTup (dCons (dCst (.str "append")) (dCons (dTup (dCons (dCst (.str "answer")) (dCons (dTup (dCons (dCst (.int 0)) (dCons (dCst (.int 0)) (dNil)))) (dCons (dCst (.int 1)) (dCons (dCst (.int 3)) (dNil)))))) (dNil)))) (dCons (dTup (dCons (dCst (.str "append")) (dCons (dTup (dCons (dCst (.str "off")) (dNil))) (dCons (dCst (.int 0)) (dNil))))) (dCons (dTup (dCons (dCst (.str "append")) (dCons (dLst (dDisp (dCons (dCst (.str "off")) (dNil)))) (dNil)))) (dCons (dTup (dCons (dCst (.str "append")) (dCons (dTup (dCons (dCst (.str "answer")) (dCons (dTup (dCons (dCst (.int 0)) (dCons (dCst (.int 0)) (dNil)))) (dCons (dCst (.bl true)) (dCons (dCst (.int 3)) (dNil)))))) (dNil)))) (dCons (dTup (dCons (dCst (.str "append")) (dCons (dTup (dCons (dCst (.str "answer")) (dCons (dLst (dDisp (dCons (dCst (.int 0)) (dCons (dCst (.int 0)) (dNil))))) (dCons (dCst (.bl true)) (dCons (dCst (.int 3)) (dNil)))))) (dNil)))) (dCons (dTup (dCons (dCst (.str "append")) (dCons (dTup (dCons (dCst (.str "answer")) (dCons (dTup (dCons (dCst (.int 0)) (dCons (dCst (.int 0)) (dNil)))) (dCons (dCst (.bl true)) (dCons (dNeg (dCst (.int 1))) (dNil)))))) (dNil)))) (dNil)))))))))))))))) (dSeq (dSet 1 (qV (dOp pAdd (dVar 1) (dLst (dDisp (dCons (dTup (dCons (dCst (.str "commit")) (dCons (dCst (.int 0)) (dNil)))) (dCons (dTup (dCons (dCst (.str "commit")) (dCons (dCst (.int 401)) (dNil)))) (dCons (dTup (dCons (dCst (.str "commit")) (dCons (dCst (.int 1)) (dNil)))) (dCons (dTup (dCons (dCst (.str "commit")) (dCons (dCst (.bl true)) (dNil)))) (dCons (dTup (dCons (dCst (.str "commit")) (dCons (dCst .non) (dNil)))) (dCons (dTup (dCons (dCst (.str "commit")) (dNil))) (dCons (dTup (dCons (dCst (.str "commit")) (dCons (dCst (.int 400)) (dNil)))) (dCons (dTup (dCons (dCst (.str "copy")) (dCons (dCst (.int 1)) (dNil)))) (dCons (dTup (dCons (dCst (.str "copy")) (dCons (dCst (.int 5)) (dNil)))) (dCons (dTup (dCons (dCst (.str "copy")) (dCons (dNeg (dCst (.int 1))) (dNil)))) (dCons (dTup (dCons (dCst (.str "copy")) (dCons (dCst (.bl true)) (dNil)))) (dCons (dTup (dCons (dCst (.str "stop")) (dCons (dCst (.int 0)) (dNil)))) (dCons (dTup (dCons (dCst (.str "stop")) (dNil))) (dCons (dTup (dCons (dCst (.str "start")) (dCons (dCst (.int 4)) (dNil)))) (dCons (dTup (dCons (dCst (.str "start")) (dCons (dCst (.str "4")) (dNil)))) (dCons (dTup (dCons (dCst (.str "end")) (dCons (dCst (.int 0)) (dNil)))) (dCons (dLst (dDisp (dCons (dCst (.str "stop")) (dCons (dCst (.int 0)) (dNil))))) (dCons (dTup (dCons (dCst .emp) (dCons (dCst (.int 0)) (dNil)))) (dCons (dTup (dCons (dCst .non) (dCons (dCst (.int 0)) (dNil)))) (dNil))))))))))))))))))))))))) (dRet (dCall 2 f__law_pick (dCons (dVar 0) (dCons (dVar 1) (dNil)))))))
def f__law_odd : List D → M D := dFn 1 N__law_odd.length b__law_odd
theorem nd__law_odd : N__law_odd.Nodup := by decide +kernel
theorem sc__law_odd : FnScope N__law_odd ["kettle"] (defScope (top 50)) := ⟨rfl, rfl, rfl, nd__law_odd, rfl, by decide +kernel, by decide +kernel⟩
theorem ok__law_odd (Z : Zf G mg fa fn) : Callee P w G mg base "_law_odd" 3 1 ["kettle"] f__law_odd := by
  refine callee_of (N := N__law_odd) (d := b__law_odd) Z 35 55 (st := top 50) (by rfl) (by rfl) sc__law_odd (by rfl) (fun _ _ _ _ _ _ us hl => match us, hl with | [_], _ => by rfl) fun f cdv A outer s H E hr => ?_
  exact (jss_cons (js_setV (ps_set nd__law_odd rfl (.inl rfl) (je_lst (jl_disp (ja_cons rfl cst_non (ja_cons rfl cst_int (ja_cons rfl (je_tup ja_nil) (ja_cons rfl (je_lst (jl_disp ja_nil)) (ja_cons rfl je_emp (ja_cons rfl cst_str (ja_cons rfl (je_tup (ja_cons rfl cst_str ja_nil)) (ja_cons rfl (je_tup (ja_cons rfl cst_str (ja_cons rfl cst_int ja_nil))) (ja_cons rfl (je_tup (ja_cons rfl cst_str (ja_cons rfl cst_int (ja_cons rfl (je_tup (ja_cons rfl cst_int (ja_cons rfl cst_int ja_nil))) ja_nil)))) (ja_cons rfl (je_tup (ja_cons rfl cst_str (ja_cons rfl cst_int (ja_cons rfl (je_tup (ja_cons rfl cst_int (ja_cons rfl cst_int ja_nil))) ja_nil)))) (ja_cons rfl (je_tup (ja_cons rfl cst_str (ja_cons rfl cst_int (ja_cons rfl (je_lst (jl_disp (ja_cons rfl cst_int (ja_cons rfl cst_int ja_nil)))) ja_nil)))) (ja_cons rfl (je_tup (ja_cons rfl cst_str (ja_cons rfl cst_int (ja_cons rfl (je_tup (ja_cons rfl cst_int (ja_cons rfl cst_int ja_nil))) ja_nil)))) (ja_cons rfl (je_tup (ja_cons rfl cst_str (ja_cons rfl cst_int (ja_cons rfl (je_tup (ja_cons rfl cst_int (ja_cons rfl cst_int ja_nil))) ja_nil)))) (ja_cons rfl (je_tup (ja_cons rfl cst_str (ja_cons rfl cst_bl (ja_cons rfl (je_tup (ja_cons rfl cst_int (ja_cons rfl cst_int ja_nil))) ja_nil)))) (ja_cons rfl (je_tup (ja_cons rfl cst_str (ja_cons rfl cst_int (ja_cons rfl (je_tup ja_nil) ja_nil)))) (ja_cons rfl (je_tup (ja_cons rfl cst_str (ja_cons rfl cst_int (ja_cons rfl (je_tup (ja_cons rfl cst_int (ja_cons rfl cst_int ja_nil))) ja_nil)))) (ja_cons rfl (je_tup (ja_cons rfl cst_str (ja_cons rfl cst_int (ja_cons rfl (je_tup (ja_cons rfl cst_int (ja_cons rfl cst_int ja_nil))) (ja_cons rfl cst_int ja_nil))))) (ja_cons rfl (je_tup (ja_cons rfl cst_str (ja_cons rfl cst_str (ja_cons rfl (je_tup (ja_cons rfl cst_int (ja_cons rfl cst_int ja_nil))) ja_nil)))) (ja_cons rfl (je_tup (ja_cons rfl cst_str (ja_cons rfl cst_int (ja_cons rfl cst_non ja_nil)))) ja_nil))))))))))))))))))))) rfl)) (jss_cons (js_setV (ps_set nd__law_odd rfl (.inl rfl) (je_op (o_add rfl) (jr_of (je_var rfl (.inl rfl) rfl rfl)) (jr_of (je_lst (jl_disp (ja_cons rfl (je_tup (ja_cons rfl cst_str ja_nil)) (ja_cons rfl (je_tup (ja_cons rfl cst_str (ja_cons rfl (je_tup (ja_cons rfl cst_str ja_nil)) ja_nil))) (ja_cons rfl (je_tup (ja_cons rfl cst_str (ja_cons rfl (je_tup (ja_cons rfl cst_str ja_nil)) ja_nil))) (ja_cons rfl (je_tup (ja_cons rfl cst_str (ja_cons rfl cst_non ja_nil))) (ja_cons rfl (je_tup (ja_cons rfl cst_str (ja_cons rfl (je_tup (ja_cons rfl cst_str (ja_cons rfl (je_tup (ja_cons rfl cst_int (ja_cons rfl cst_int ja_nil))) (ja_cons rfl cst_int (ja_cons rfl cst_int ja_nil))))) ja_nil))) (ja_cons rfl (je_tup (ja_cons rfl cst_str (ja_cons rfl (je_tup (ja_cons rfl cst_str ja_nil)) (ja_cons rfl cst_int ja_nil)))) (ja_cons rfl (je_tup (ja_cons rfl cst_str (ja_cons rfl (je_lst (jl_disp (ja_cons rfl cst_str ja_nil))) ja_nil))) (ja_cons rfl (je_tup (ja_cons rfl cst_str (ja_cons rfl (je_tup (ja_cons rfl cst_str (ja_cons rfl (je_tup (ja_cons rfl cst_int (ja_cons rfl cst_int ja_nil))) (ja_cons rfl cst_bl (ja_cons rfl cst_int ja_nil))))) ja_nil))) (ja_cons rfl (je_tup (ja_cons rfl cst_str (ja_cons rfl (je_tup (ja_cons rfl cst_str (ja_cons rfl (je_lst (jl_disp (ja_cons rfl cst_int (ja_cons rfl cst_int ja_nil)))) (ja_cons rfl cst_bl (ja_cons rfl cst_int ja_nil))))) ja_nil))) (ja_cons rfl (je_tup (ja_cons rfl cst_str (ja_cons rfl (je_tup (ja_cons rfl cst_str (ja_cons rfl (je_tup (ja_cons rfl cst_int (ja_cons rfl cst_int ja_nil))) (ja_cons rfl cst_bl (ja_cons rfl (je_neg cst_int) ja_nil))))) ja_nil))) ja_nil)))))))))))))) rfl)) (jss_cons (js_setV (ps_set nd__law_odd rfl (.inl rfl) (je_op (o_add rfl) (jr_of (je_var rfl (.inl rfl) rfl rfl)) (jr_of (je_lst (jl_disp (ja_cons rfl (je_tup (ja_cons rfl cst_str (ja_cons rfl cst_int ja_nil))) (ja_cons rfl (je_tup (ja_cons rfl cst_str (ja_cons rfl cst_int ja_nil))) (ja_cons rfl (je_tup (ja_cons rfl cst_str (ja_cons rfl cst_int ja_nil))) (ja_cons rfl (je_tup (ja_cons rfl cst_str (ja_cons rfl cst_bl ja_nil))) (ja_cons rfl (je_tup (ja_cons rfl cst_str (ja_cons rfl cst_non ja_nil))) (ja_cons rfl (je_tup (ja_cons rfl cst_str ja_nil)) (ja_cons rfl (je_tup (ja_cons rfl cst_str (ja_cons rfl cst_int ja_nil))) (ja_cons rfl (je_tup (ja_cons rfl cst_str (ja_cons rfl cst_int ja_nil))) (ja_cons rfl (je_tup (ja_cons rfl cst_str (ja_cons rfl cst_int ja_nil))) (ja_cons rfl (je_tup (ja_cons rfl cst_str (ja_cons rfl (je_neg cst_int) ja_nil))) (ja_cons rfl (je_tup (ja_cons rfl cst_str (ja_cons rfl cst_bl ja_nil))) (ja_cons rfl (je_tup (ja_cons rfl cst_str (ja_cons rfl cst_int ja_nil))) (ja_cons rfl (je_tup (ja_cons rfl cst_str ja_nil)) (ja_cons rfl (je_tup (ja_cons rfl cst_str (ja_cons rfl cst_int ja_nil))) (ja_cons rfl (je_tup (ja_cons rfl cst_str (ja_cons rfl cst_str ja_nil))) (ja_cons rfl (je_tup (ja_cons rfl cst_str (ja_cons rfl cst_int ja_nil))) (ja_cons rfl (je_lst (jl_disp (ja_cons rfl cst_str (ja_cons rfl cst_int ja_nil)))) (ja_cons rfl (je_tup (ja_cons rfl je_emp (ja_cons rfl cst_int ja_nil))) (ja_cons rfl (je_tup (ja_cons rfl cst_non (ja_cons rfl cst_int ja_nil))) ja_nil))))))))))))))))))))))) rfl)) (jss_one (js_ret (je_cal (ok__law_pick Z) rfl hr (by decide) rfl (takes_of (E := E) rfl rfl rfl rfl) (ja_cons rfl (je_var rfl (.inl rfl) rfl rfl) (ja_cons rfl (je_var rfl (.inl rfl) rfl rfl) ja_nil)) rfl))))))
def N_need_play : List Str := ["many", "deeds", "state", "at"]
def b_need_play : DS := dSeq (dDrop (dCall 1 f_need_many (dCons (dVar 0) (dNil)))) (dSeq (dBnd (dCall 2 f_state_or_wrong (dCons (dVar 0) (dCons (dVar 1) (dNil)))) (gT 2 (gsC (gN 2) (gsC (gN 3) (gs0))))) (dSeq (dIfS (dTest (dOp pIs (dVar 2) (dCst .non))) (dBad) (dNop)) (dRet (dVar 2))))
def f_need_play : List D → M D := dFn 2 N_need_play.length b_need_play
theorem nd_need_play : N_need_play.Nodup := by decide +kernel
theorem sc_need_play : FnScope N_need_play ["many", "deeds"] (defScope (top 31)) := ⟨rfl, rfl, rfl, nd_need_play, rfl, by decide +kernel, by decide +kernel⟩
theorem ok_need_play (Z : Zf G mg fa fn) : Callee P w G mg base "need_play" 6 2 ["many", "deeds"] f_need_play := by
  refine callee_of (N := N_need_play) (d := b_need_play) Z 36 56 (st := top 31) (by rfl) (by rfl) sc_need_play (by rfl) (fun _ _ _ _ _ _ us hl => match us, hl with | [_, _], _ => by rfl) fun f cdv A outer s H E hr => ?_
  exact (jss_cons (js_drop (je_cal (ok_need_many Z) rfl hr (by decide) rfl (takes_of (E := E) rfl rfl rfl rfl) (ja_cons rfl (je_var rfl (.inl rfl) rfl rfl) ja_nil) rfl) rfl) (jss_cons (js_bnd (vs := [0, 1, 2, 3]) (ps_asg (je_cal (ok_state_or_wrong Z) rfl hr (by decide) rfl (takes_of (E := E) rfl rfl rfl rfl) (ja_cons rfl (je_var rfl (.inl rfl) rfl rfl) (ja_cons rfl (je_var rfl (.inl rfl) rfl rfl) ja_nil)) rfl) (jg_tup rfl rfl (jgs_cons (jg_name nd_need_play rfl (.inl rfl) (.inl rfl) (by decide)) (jgs_cons (jg_name nd_need_play rfl (.inl rfl) (.inl rfl) (by decide)) jgs_nil))))) (jss_cons (js_if (jt_cmp (o_is) (jr_of (je_var rfl (.inl rfl) rfl rfl)) (jr_of cst_non) rfl) (jss_one js_bad) jss_nil) (jss_one (js_ret (je_var rfl (.inl rfl) rfl rfl))))))
def N_committed : List Str := ["many", "deeds"]
def b_committed : DS := dRet (dCall 1 f_events_in (dCons (dCall 2 f_need_play (dCons (dVar 0) (dCons (dVar 1) (dNil)))) (dNil)))
def f_committed : List D → M D := dFn 2 N_committed.length b_committed
theorem nd_committed : N_committed.Nodup := by decide +kernel
theorem sc_committed : FnScope N_committed ["many", "deeds"] (defScope (top 35)) := ⟨rfl, rfl, rfl, nd_committed, rfl, by decide +kernel, by decide +kernel⟩
theorem ok_committed (Z : Zf G mg fa fn) : Callee P w G mg base "committed" 7 2 ["many", "deeds"] f_committed := by
  refine callee_of (N := N_committed) (d := b_committed) Z 37 57 (st := top 35) (by rfl) (by rfl) sc_committed (by rfl) (fun _ _ _ _ _ _ us hl => match us, hl with | [_, _], _ => by rfl) fun f cdv A outer s H E hr => ?_
  exact (jss_one (js_ret (je_cal (ok_events_in Z) rfl hr (by decide) rfl (takes_of (E := E) rfl rfl rfl rfl) (ja_cons rfl (je_cal (ok_need_play Z) rfl hr (by decide) rfl (takes_of (E := E) rfl rfl rfl rfl) (ja_cons rfl (je_var rfl (.inl rfl) rfl rfl) (ja_cons rfl (je_var rfl (.inl rfl) rfl rfl) ja_nil)) rfl) ja_nil) rfl)))
def N__law_right : List Str := ["kettle", "size", "deeds", "states", "values", "turn", "at", "deed", "odd", "value", "due", "copies", "leader", "many", "one", "other"]
def b__law_right : DS := dSeq (dSet 1 (qV (dCall 2 f__law_pick (dCons (dVar 0) (dCons (dLst (dDisp (dCons (dCst (.int 3)) (dCons (dCst (.int 3)) (dCons (dCst (.int 5)) (dNil)))))) (dNil)))))) (dSeq (dBnd (dCall 3 f__law_copies (dCons (dVar 0) (dCons (dVar 1) (dCons (dCst (.int 30)) (dNil))))) (gT 2 (gsC (gN 2) (gsC (gN 3) (gs0))))) (dSeq (dSet 4 (qO (dDisp (dCons (dVar 2) (dCons (dLst (dPrL qList (dCons (dVar 2) (dNil)))) (dCons (dCst .non) (dCons (dCst (.int 0)) (dCons (dCst .emp) (dCons (dCst (.str "deeds")) (dCons (dRevT (dVar 2)) (dCons (dOp pAdd (dVar 2) (dVar 2)) (dNil)))))))))))) (dSeq (dFor (dRg rg1 (dCons (dCst (.int 14)) (dNil))) (gN 5) (dSeq (dSet 6 (qV (dCall 2 f__law_pour (dCons (dVar 0) (dCons (dOp pAdd (dPr pLen (dCons (dVar 2) (dNil))) (dCst (.int 1))) (dNil)))))) (dSeq (dPar2 7 8 (qV (dCall 2 f__law_any_deed (dCons (dVar 0) (dCons (dOp pIdx (dVar 3) (dVar 6)) (dNil))))) (qV (dCall 1 f__law_odd (dCons (dVar 0) (dNil))))) (dSeq (dSet 4 (qO (dCatL (dRd 4) (dLst (dDisp (dCons (dOp pAdd (dOp pAdd (dSl (dVar 2) (dNo) (dSo (dVar 6))) (dTup (dCons (dVar 7) (dNil)))) (dSl (dVar 2) (dSo (dVar 6)) (dNo))) (dCons (dOp pAdd (dSl (dVar 2) (dNo) (dSo (dVar 6))) (dTup (dCons (dVar 8) (dNil)))) (dCons (dOp pAdd (dSl (dVar 2) (dNo) (dSo (dVar 6))) (dSl (dVar 2) (dSo (dOp pAdd (dVar 6) (dCst (.int 1)))) (dNo))) (dNil))))))))) (dSeq (dOwn 4 fApp (dOp pAdd (dOp pAdd (dOp pAdd (dSl (dVar 2) (dNo) (dSo (dVar 6))) (dSl (dVar 2) (dSo (dOp pAdd (dVar 6) (dCst (.int 1)))) (dSo (dOp pAdd (dVar 6) (dCst (.int 2)))))) (dSl (dVar 2) (dSo (dVar 6)) (dSo (dOp pAdd (dVar 6) (dCst (.int 1)))))) (dSl (dVar 2) (dSo (dOp pAdd (dVar 6) (dCst (.int 2)))) (dNo)))) (dIfS (dOr (dTest (dOp pNe (dCall 1 f_is_deed (dCons (dVar 8) (dNil))) (dCall 1 f__law_is_copy_deed (dCons (dVar 8) (dNil))))) (dTest (dOp pIsNotB (dCall 1 f_is_deed (dCons (dVar 7) (dNil))) (dCst (.bl true))))) (dRet (dCst (.bl false))) (dNop))))))) (dSeq (dFrz 4) (dSeq (dFor (dItems (dVar 4)) (gN 9) (dSeq (dSet 10 (qV (dCall 2 f__law_due (dCons (dVar 1) (dCons (dVar 9) (dNil)))))) (dSeq (dIfS (dTest (dOp pNe (dSl (dCall 2 f_play_paper (dCons (dVar 1) (dCons (dVar 9) (dNil)))) (dNo) (dSo (dCst (.int 2)))) (dVar 10))) (dRet (dCst (.bl false))) (dNop)) (dIfS (dAnd (dTest (dOp pEq (dOp pIdx (dVar 10) (dCst (.int 0))) (dCst (.str "play")))) (dTest (dOp pNe (dOp pIdx (dCall 2 f_play_paper (dCons (dVar 1) (dCons (dVar 9) (dNil)))) (dCst (.int 2))) (dCall 2 f_committed (dCons (dVar 1) (dCons (dVar 9) (dNil))))))) (dRet (dCst (.bl false))) (dNop))))) (dSeq (dFor (dItems (dStepL (5 : Nat) (dVar 3))) (gT 3 (gsC (gN 11) (gsC (gN 12) (gsC (gN 13) (gs0))))) (dSeq (dPar2 14 15 (qV (dOp pIdx (dCall 2 f__law_pick (dCons (dVar 0) (dCons (dVar 11) (dNil)))) (dCst (.int 2)))) (qV (dOp pIdx (dCall 2 f__law_pick (dCons (dVar 0) (dCons (dVar 11) (dNil)))) (dCst (.int 2))))) (dIfS (dTest (dOp pNe (dCall 2 f_is_newer (dCons (dVar 14) (dCons (dVar 15) (dNil)))) (dOp pGt (dCall 1 f__law_last (dCons (dVar 14) (dNil))) (dCall 1 f__law_last (dCons (dVar 15) (dNil)))))) (dRet (dCst (.bl false))) (dNop)))) (dRet (dOp pEq (dCall 2 f_play_paper (dCons (dVar 1) (dCons (dOp pMul (dTup (dCons (dTup (dCons (dCst (.str "append")) (dCons (dTup (dCons (dCst (.str "off")) (dNil))) (dNil)))) (dNil))) (dCst (.int 401))) (dNil)))) (dTup (dCons (dCst (.str "wrong")) (dCons (dCst (.int 0)) (dNil))))))))))))
def f__law_right : List D → M D := dFn 1 N__law_right.length b__law_right
theorem nd__law_right : N__law_right.Nodup := by decide +kernel
theorem sc__law_right : FnScope N__law_right ["kettle"] (defScope (top 51)) := ⟨rfl, rfl, rfl, nd__law_right, rfl, by decide +kernel, by decide +kernel⟩
theorem ok__law_right (Z : Zf G mg fa fn) : Callee P w G mg base "_law_right" 8 1 ["kettle"] f__law_right := by
  refine callee_of (N := N__law_right) (d := b__law_right) Z 38 58 (st := top 51) (by rfl) (by rfl) sc__law_right (by rfl) (fun _ _ _ _ _ _ us hl => match us, hl with | [_], _ => by rfl) fun f cdv A outer s H E hr => ?_
  exact (jss_cons (js_setV (ps_set nd__law_right rfl (.inl rfl) (je_cal (ok__law_pick Z) rfl hr (by decide) rfl (takes_of (E := E) rfl rfl rfl rfl) (ja_cons rfl (je_var rfl (.inl rfl) rfl rfl) (ja_cons rfl (je_lst (jl_disp (ja_cons rfl cst_int (ja_cons rfl cst_int (ja_cons rfl cst_int ja_nil))))) ja_nil)) rfl) rfl)) (jss_cons (js_bnd (vs := [0, 1, 2, 3, 4, 5, 6, 7, 8, 9, 10, 11, 12, 13, 14, 15]) (ps_asg (je_cal (ok__law_copies Z) rfl hr (by decide) rfl (takes_of (E := E) rfl rfl rfl rfl) (ja_cons rfl (je_var rfl (.inl rfl) rfl rfl) (ja_cons rfl (je_var rfl (.inl rfl) rfl rfl) (ja_cons rfl cst_int ja_nil))) rfl) (jg_tup rfl rfl (jgs_cons (jg_name nd__law_right rfl (.inl rfl) (.inl rfl) (by decide)) (jgs_cons (jg_name nd__law_right rfl (.inl rfl) (.inl rfl) (by decide)) jgs_nil))))) (jss_cons (js_setO (ps_set nd__law_right rfl (.inl rfl) (jl_disp (ja_cons rfl (je_var rfl (.inl rfl) rfl rfl) (ja_cons rfl (je_lst (jl_list rfl rfl (Z.free 45 rfl) (jb_cons rfl (jr_of (je_var rfl (.inl rfl) rfl rfl)) jb_nil) rfl)) (ja_cons rfl cst_non (ja_cons rfl cst_int (ja_cons rfl je_emp (ja_cons rfl cst_str (ja_cons rfl (je_revT rfl (jr_of (je_var rfl (.inl rfl) rfl rfl))) (ja_cons rfl (je_op (o_add rfl) (jr_of (je_var rfl (.inl rfl) rfl rfl)) (jr_of (je_var rfl (.inl rfl) rfl rfl))) ja_nil))))))))) rfl)) (jss_cons (js_for (vs := [0, 1, 2, 3, 4, 5, 6, 7, 8, 9, 10, 11, 12, 13, 14, 15]) (passes_of rfl) rfl (ji_rg1 rfl (Z.free 41 rfl) (ja_cons rfl cst_int ja_nil) rfl) (jg_name nd__law_right rfl (.inl rfl) (.inl rfl) (by decide)) (jss_cons (js_setV (ps_set nd__law_right rfl (.inl rfl) (je_cal (ok__law_pour Z) rfl hr (by decide) rfl (takes_of (E := E) rfl rfl rfl rfl) (ja_cons rfl (je_var rfl (.inl rfl) rfl rfl) (ja_cons rfl (je_op (o_add rfl) (jr_of (je_callB (c_len rfl) rfl (Z.free 0 rfl) boot_len (jb_cons rfl (jr_of (je_var rfl (.inl rfl) rfl rfl)) jb_nil) rfl)) (jr_of cst_int)) ja_nil)) rfl) rfl)) (jss_cons (js_par2 (ps_par rfl nd__law_right rfl rfl (by decide) rfl rfl (pa_cons (qV_of (je_cal (ok__law_any_deed Z) rfl hr (by decide) rfl (takes_of (E := E) rfl rfl rfl rfl) (ja_cons rfl (je_var rfl (.inl rfl) rfl rfl) (ja_cons rfl (je_ix (i_idx rfl) (jr_of (je_var rfl (.inl rfl) rfl rfl)) (jr_of (je_var rfl (.inl rfl) rfl rfl)) rfl) ja_nil)) rfl)) (pa_cons (qV_of (je_cal (ok__law_odd Z) rfl hr (by decide) rfl (takes_of (E := E) rfl rfl rfl rfl) (ja_cons rfl (je_var rfl (.inl rfl) rfl rfl) ja_nil) rfl)) pa_nil)) rfl)) (jss_cons (js_setO (ps_set nd__law_right rfl (.inl rfl) (jl_cat (jr_rd rfl (.inl rfl) rfl rfl) (jr_of (je_lst (jl_disp (ja_cons rfl (je_op (o_add rfl) (jr_of (je_op (o_add rfl) (jr_of (je_sl rfl (jr_of (je_var rfl (.inl rfl) rfl rfl)) jo_none (jo_some (je_var rfl (.inl rfl) rfl rfl)))) (jr_of (je_tup (ja_cons rfl (je_var rfl (.inl rfl) rfl rfl) ja_nil))))) (jr_of (je_sl rfl (jr_of (je_var rfl (.inl rfl) rfl rfl)) (jo_some (je_var rfl (.inl rfl) rfl rfl)) jo_none))) (ja_cons rfl (je_op (o_add rfl) (jr_of (je_sl rfl (jr_of (je_var rfl (.inl rfl) rfl rfl)) jo_none (jo_some (je_var rfl (.inl rfl) rfl rfl)))) (jr_of (je_tup (ja_cons rfl (je_var rfl (.inl rfl) rfl rfl) ja_nil)))) (ja_cons rfl (je_op (o_add rfl) (jr_of (je_sl rfl (jr_of (je_var rfl (.inl rfl) rfl rfl)) jo_none (jo_some (je_var rfl (.inl rfl) rfl rfl)))) (jr_of (je_sl rfl (jr_of (je_var rfl (.inl rfl) rfl rfl)) (jo_some (je_op (o_add rfl) (jr_of (je_var rfl (.inl rfl) rfl rfl)) (jr_of cst_int))) jo_none))) ja_nil))))))) rfl)) (jss_cons (js_app rfl rfl (.inl rfl) rfl rfl (je_op (o_add rfl) (jr_of (je_op (o_add rfl) (jr_of (je_op (o_add rfl) (jr_of (je_sl rfl (jr_of (je_var rfl (.inl rfl) rfl rfl)) jo_none (jo_some (je_var rfl (.inl rfl) rfl rfl)))) (jr_of (je_sl rfl (jr_of (je_var rfl (.inl rfl) rfl rfl)) (jo_some (je_op (o_add rfl) (jr_of (je_var rfl (.inl rfl) rfl rfl)) (jr_of cst_int))) (jo_some (je_op (o_add rfl) (jr_of (je_var rfl (.inl rfl) rfl rfl)) (jr_of cst_int))))))) (jr_of (je_sl rfl (jr_of (je_var rfl (.inl rfl) rfl rfl)) (jo_some (je_var rfl (.inl rfl) rfl rfl)) (jo_some (je_op (o_add rfl) (jr_of (je_var rfl (.inl rfl) rfl rfl)) (jr_of cst_int))))))) (jr_of (je_sl rfl (jr_of (je_var rfl (.inl rfl) rfl rfl)) (jo_some (je_op (o_add rfl) (jr_of (je_var rfl (.inl rfl) rfl rfl)) (jr_of cst_int))) jo_none))) rfl rfl rfl rfl rfl) (jss_one (js_if (PW.pt (jw_or (jt_cmp (o_ne rfl (huR hr)) (jr_of (je_cal (ok_is_deed Z) rfl hr (by decide) rfl (takes_of (E := E) rfl rfl rfl rfl) (ja_cons rfl (je_var rfl (.inl rfl) rfl rfl) ja_nil) rfl)) (jr_of (je_cal (ok__law_is_copy_deed Z) rfl hr (by decide) rfl (takes_of (E := E) rfl rfl rfl rfl) (ja_cons rfl (je_var rfl (.inl rfl) rfl rfl) ja_nil) rfl)) rfl) (jw1_or (jt_cmp (o_isNotB) (jr_of (je_cal (ok_is_deed Z) rfl hr (by decide) rfl (takes_of (E := E) rfl rfl rfl rfl) (ja_cons rfl (je_var rfl (.inl rfl) rfl rfl) ja_nil) rfl)) (jr_of cst_bl) rfl)))) (jss_one (js_ret cst_bl)) jss_nil)))))) (fun _ => rfl)) (jss_frz (jss_cons (js_for (vs := [0, 1, 2, 3, 4, 5, 6, 7, 8, 9, 10, 11, 12, 13, 14, 15]) (passes_of rfl) rfl (ji_val rfl (je_var rfl (.inl rfl) rfl rfl)) (jg_name nd__law_right rfl (.inl rfl) (.inl rfl) (by decide)) (jss_cons (js_setV (ps_set nd__law_right rfl (.inl rfl) (je_cal (ok__law_due Z) rfl hr (by decide) rfl (takes_of (E := E) rfl rfl rfl rfl) (ja_cons rfl (je_var rfl (.inl rfl) rfl rfl) (ja_cons rfl (je_var rfl (.inl rfl) rfl rfl) ja_nil)) rfl) rfl)) (jss_cons (js_if (jt_cmp (o_ne rfl (huR hr)) (jr_of (je_sl rfl (jr_of (je_cal (ok_play_paper Z) rfl hr (by decide) rfl (takes_of (E := E) rfl rfl rfl rfl) (ja_cons rfl (je_var rfl (.inl rfl) rfl rfl) (ja_cons rfl (je_var rfl (.inl rfl) rfl rfl) ja_nil)) rfl)) jo_none (jo_some cst_int))) (jr_of (je_var rfl (.inl rfl) rfl rfl)) rfl) (jss_one (js_ret cst_bl)) jss_nil) (jss_one (js_if (PW.pt (jw_and (jt_cmp (o_eq rfl (huR hr)) (jr_of (je_ix (i_idx rfl) (jr_of (je_var rfl (.inl rfl) rfl rfl)) (jr_of cst_int) rfl)) (jr_of cst_str) rfl) (jw1_and (jt_cmp (o_ne rfl (huR hr)) (jr_of (je_ix (i_idx rfl) (jr_of (je_cal (ok_play_paper Z) rfl hr (by decide) rfl (takes_of (E := E) rfl rfl rfl rfl) (ja_cons rfl (je_var rfl (.inl rfl) rfl rfl) (ja_cons rfl (je_var rfl (.inl rfl) rfl rfl) ja_nil)) rfl)) (jr_of cst_int) rfl)) (jr_of (je_cal (ok_committed Z) rfl hr (by decide) rfl (takes_of (E := E) rfl rfl rfl rfl) (ja_cons rfl (je_var rfl (.inl rfl) rfl rfl) (ja_cons rfl (je_var rfl (.inl rfl) rfl rfl) ja_nil)) rfl)) rfl)))) (jss_one (js_ret cst_bl)) jss_nil)))) (fun _ => rfl)) (jss_cons (js_for (vs := [0, 1, 2, 3, 4, 5, 6, 7, 8, 9, 10, 11, 12, 13, 14, 15]) (passes_of rfl) rfl (ji_val rfl (je_stepL rfl (by decide) (jr_of (je_var rfl (.inl rfl) rfl rfl)))) (jg_tup rfl rfl (jgs_cons (jg_name nd__law_right rfl (.inl rfl) (.inl rfl) (by decide)) (jgs_cons (jg_name nd__law_right rfl (.inl rfl) (.inl rfl) (by decide)) (jgs_cons (jg_name nd__law_right rfl (.inl rfl) (.inl rfl) (by decide)) jgs_nil)))) (jss_cons (js_par2 (ps_par rfl nd__law_right rfl rfl (by decide) rfl rfl (pa_cons (qV_of (je_ix (i_idx rfl) (jr_of (je_cal (ok__law_pick Z) rfl hr (by decide) rfl (takes_of (E := E) rfl rfl rfl rfl) (ja_cons rfl (je_var rfl (.inl rfl) rfl rfl) (ja_cons rfl (je_var rfl (.inl rfl) rfl rfl) ja_nil)) rfl)) (jr_of cst_int) rfl)) (pa_cons (qV_of (je_ix (i_idx rfl) (jr_of (je_cal (ok__law_pick Z) rfl hr (by decide) rfl (takes_of (E := E) rfl rfl rfl rfl) (ja_cons rfl (je_var rfl (.inl rfl) rfl rfl) (ja_cons rfl (je_var rfl (.inl rfl) rfl rfl) ja_nil)) rfl)) (jr_of cst_int) rfl)) pa_nil)) rfl)) (jss_one (js_if (jt_cmp (o_ne rfl (huR hr)) (jr_of (je_cal (ok_is_newer Z) rfl hr (by decide) rfl (takes_of (E := E) rfl rfl rfl rfl) (ja_cons rfl (je_var rfl (.inl rfl) rfl rfl) (ja_cons rfl (je_var rfl (.inl rfl) rfl rfl) ja_nil)) rfl)) (jr_of (je_cmp (o_gt rfl (huR hr)) (jr_of (je_cal (ok__law_last Z) rfl hr (by decide) rfl (takes_of (E := E) rfl rfl rfl rfl) (ja_cons rfl (je_var rfl (.inl rfl) rfl rfl) ja_nil) rfl)) (jr_of (je_cal (ok__law_last Z) rfl hr (by decide) rfl (takes_of (E := E) rfl rfl rfl rfl) (ja_cons rfl (je_var rfl (.inl rfl) rfl rfl) ja_nil) rfl)) rfl)) rfl) (jss_one (js_ret cst_bl)) jss_nil))) (fun _ => rfl)) (jss_one (js_ret (je_cmp (o_eq rfl (huR hr)) (jr_of (je_cal (ok_play_paper Z) rfl hr (by decide) rfl (takes_of (E := E) rfl rfl rfl rfl) (ja_cons rfl (je_var rfl (.inl rfl) rfl rfl) (ja_cons rfl (je_op (o_mul rfl) (jr_of (je_tup (ja_cons rfl (je_tup (ja_cons rfl cst_str (ja_cons rfl (je_tup (ja_cons rfl cst_str ja_nil)) ja_nil))) ja_nil))) (jr_of cst_int)) ja_nil)) rfl)) (jr_of (je_tup (ja_cons rfl cst_str (ja_cons rfl cst_int ja_nil)))) rfl))))))))))
def N_law : List Str := ["script", "spot", "kettle", "turn", "event", "told", "deeds"]
def b_law : DS := dSeq (dFor (dRg rg1 (dCons (dPr pMax (dCons (dCst (.int 1)) (dCons (dPr pMin (dCons (dCst (.int 3)) (dCons (dPr pLen (dCons (dVar 0) (dNil))) (dNil)))) (dNil)))) (dNil))) (gN 1) (dSeq (dSet 2 (qV (dCall 2 f__law_kettle (dCons (dVar 0) (dCons (dVar 1) (dNil)))))) (dFor (dRg rg1 (dCons (dCst (.int 3)) (dNil))) (gN 3) (dIfS (dNot (dTest (dCall 1 f__law_right (dCons (dVar 2) (dNil))))) (dRet (dCst (.bl false))) (dNop))))) (dSeq (dSet 4 (qV (dTup (dCons (dCst (.str "off")) (dNil))))) (dSeq (dSet 5 (qV (dLst (dDisp (dCons (dCall 2 f_play_paper (dCons (dCst (.int 5)) (dCons (dTup (dCons (dTup (dCons (dCst (.str "elect")) (dCons (dCst (.int 0)) (dCons (dTup (dCons (dCst (.int 0)) (dCons (dCst (.int 1)) (dNil)))) (dNil))))) (dNil))) (dNil)))) (dCons (dCall 2 f_is_newer (dCons (dTup (dCons (dTup (dCons (dCst (.int 2)) (dCons (dVar 4) (dNil)))) (dNil))) (dCons (dTup (dCons (dTup (dCons (dCst (.int 1)) (dCons (dVar 4) (dNil)))) (dCons (dTup (dCons (dCst (.int 1)) (dCons (dVar 4) (dNil)))) (dNil)))) (dNil)))) (dCons (dCall 1 f_is_deed (dCons (dTup (dCons (dCst (.str "commit")) (dCons (dCst (.int 0)) (dNil)))) (dNil))) (dNil)))))))) (dSeq (dSet 6 (qV (dTup (dCons (dTup (dCons (dCst (.str "stop")) (dCons (dCst (.int 4)) (dNil)))) (dCons (dTup (dCons (dCst (.str "elect")) (dCons (dCst (.int 0)) (dCons (dTup (dCons (dCst (.int 0)) (dCons (dCst (.int 1)) (dNil)))) (dNil))))) (dNil)))))) (dRet (dAndV (dOp pEq (dVar 5) (dLst (dDisp (dCons (dTup (dCons (dCst (.str "wrong")) (dCons (dCst (.int 0)) (dNil)))) (dCons (dCst (.bl true)) (dCons (dCst (.bl false)) (dNil))))))) (dOp pEq (dCall 2 f_play_paper (dCons (dCst (.int 5)) (dCons (dVar 6) (dNil)))) (dTup (dCons (dCst (.str "wrong")) (dCons (dCst (.int 1)) (dNil))))))))))
def f_law : List D → M D := dFn 1 N_law.length b_law
theorem nd_law : N_law.Nodup := by decide +kernel
theorem sc_law : FnScope N_law ["script"] (defScope (top 52)) := ⟨rfl, rfl, rfl, nd_law, rfl, by decide +kernel, by decide +kernel⟩
theorem ok_law (Z : Zf G mg fa fn) : Callee P w G mg base "law" 9 1 ["script"] f_law := by
  refine callee_of (N := N_law) (d := b_law) Z 39 60 (st := top 52) (by rfl) (by rfl) sc_law (by rfl) (fun _ _ _ _ _ _ us hl => match us, hl with | [_], _ => by rfl) fun f cdv A outer s H E hr => ?_
  exact (jss_cons (js_for (vs := [0, 1, 2, 3, 4, 5, 6]) (passes_of rfl) rfl (ji_rg1 rfl (Z.free 41 rfl) (ja_cons rfl (je_callB (c_max rfl rfl) rfl (Z.free 3 rfl) PyProof.Rows.boot_max (jb_cons rfl (jr_of cst_int) (jb_cons rfl (jr_of (je_callB (c_min rfl rfl) rfl (Z.free 59 rfl) PyProof.Rows.boot_min (jb_cons rfl (jr_of cst_int) (jb_cons rfl (jr_of (je_callB (c_len rfl) rfl (Z.free 0 rfl) boot_len (jb_cons rfl (jr_of (je_var rfl (.inl rfl) rfl rfl)) jb_nil) rfl)) jb_nil)) rfl)) jb_nil)) rfl) ja_nil) rfl) (jg_name nd_law rfl (.inl rfl) (.inl rfl) (by decide)) (jss_cons (js_setV (ps_set nd_law rfl (.inl rfl) (je_cal (ok__law_kettle Z) rfl hr (by decide) rfl (takes_of (E := E) rfl rfl rfl rfl) (ja_cons rfl (je_var rfl (.inl rfl) rfl rfl) (ja_cons rfl (je_var rfl (.inl rfl) rfl rfl) ja_nil)) rfl) rfl)) (jss_one (js_for (vs := [0, 1, 2, 3, 4, 5, 6]) (passes_of rfl) rfl (ji_rg1 rfl (Z.free 41 rfl) (ja_cons rfl cst_int ja_nil) rfl) (jg_name nd_law rfl (.inl rfl) (.inl rfl) (by decide)) (jss_one (js_if (jt_not (jt_val (jr_of (je_cal (ok__law_right Z) rfl hr (by decide) rfl (takes_of (E := E) rfl rfl rfl rfl) (ja_cons rfl (je_var rfl (.inl rfl) rfl rfl) ja_nil) rfl)) rfl)) (jss_one (js_ret cst_bl)) jss_nil)) (fun _ => rfl)))) (fun _ => rfl)) (jss_cons (js_setV (ps_set nd_law rfl (.inl rfl) (je_tup (ja_cons rfl cst_str ja_nil)) rfl)) (jss_cons (js_setV (ps_set nd_law rfl (.inl rfl) (je_lst (jl_disp (ja_cons rfl (je_cal (ok_play_paper Z) rfl hr (by decide) rfl (takes_of (E := E) rfl rfl rfl rfl) (ja_cons rfl cst_int (ja_cons rfl (je_tup (ja_cons rfl (je_tup (ja_cons rfl cst_str (ja_cons rfl cst_int (ja_cons rfl (je_tup (ja_cons rfl cst_int (ja_cons rfl cst_int ja_nil))) ja_nil)))) ja_nil)) ja_nil)) rfl) (ja_cons rfl (je_cal (ok_is_newer Z) rfl hr (by decide) rfl (takes_of (E := E) rfl rfl rfl rfl) (ja_cons rfl (je_tup (ja_cons rfl (je_tup (ja_cons rfl cst_int (ja_cons rfl (je_var rfl (.inl rfl) rfl rfl) ja_nil))) ja_nil)) (ja_cons rfl (je_tup (ja_cons rfl (je_tup (ja_cons rfl cst_int (ja_cons rfl (je_var rfl (.inl rfl) rfl rfl) ja_nil))) (ja_cons rfl (je_tup (ja_cons rfl cst_int (ja_cons rfl (je_var rfl (.inl rfl) rfl rfl) ja_nil))) ja_nil))) ja_nil)) rfl) (ja_cons rfl (je_cal (ok_is_deed Z) rfl hr (by decide) rfl (takes_of (E := E) rfl rfl rfl rfl) (ja_cons rfl (je_tup (ja_cons rfl cst_str (ja_cons rfl cst_int ja_nil))) ja_nil) rfl) ja_nil))))) rfl)) (jss_cons (js_setV (ps_set nd_law rfl (.inl rfl) (je_tup (ja_cons rfl (je_tup (ja_cons rfl cst_str (ja_cons rfl cst_int ja_nil))) (ja_cons rfl (je_tup (ja_cons rfl cst_str (ja_cons rfl cst_int (ja_cons rfl (je_tup (ja_cons rfl cst_int (ja_cons rfl cst_int ja_nil))) ja_nil)))) ja_nil))) rfl)) (jss_one (js_ret (je_and (je_cmp (o_eq rfl (huR hr)) (jr_of (je_var rfl (.inl rfl) rfl rfl)) (jr_of (je_lst (jl_disp (ja_cons rfl (je_tup (ja_cons rfl cst_str (ja_cons rfl cst_int ja_nil))) (ja_cons rfl cst_bl (ja_cons rfl cst_bl ja_nil)))))) rfl) (pe_one (je_cmp (o_eq rfl (huR hr)) (jr_of (je_cal (ok_play_paper Z) rfl hr (by decide) rfl (takes_of (E := E) rfl rfl rfl rfl) (ja_cons rfl cst_int (ja_cons rfl (je_var rfl (.inl rfl) rfl rfl) ja_nil)) rfl)) (jr_of (je_tup (ja_cons rfl cst_str (ja_cons rfl cst_int ja_nil)))) rfl)))))))))
end
end K78

set_option maxHeartbeats 0
namespace K78
open PySem PySem.Spec PyProof.Rows L2 Py
abbrev R : PySem.W.OpenRow := PySem.W.OpenLaw.row PySem.Challenge.rw_errandwide_k78_whole_deeds_of_copies_jud
abbrev hk : PySem.W.Hook := hookN 4 fa fn
def ob (s : PySem.W.SharedT) : Bool × He.AlD := obN 4 fa fn (HandSHeadRun.getT s)
theorem ob_eq (s : PySem.W.SharedT) : ob s = hk.obs s.abs := obN_eq (HandSHeadRun.getT_eq s)
def loose : List Str := (["ErrandError", "BadThing", "BadNumber", "LAST", "is_between", "is_event", "is_from_to", "MOST_DEEDS", "LAST_COPY", "PLAY", "WRONG", "is_rising_numbers", "is_deed_form", "are_copy_rows", "last_term", "are_newer", "begun_state", "with_copy", "elected", "appended", "copied", "committed_state", "turned_state", "behind_deed", "state_or_wrong", "events_in", "need_many", "need_play", "is_deed", "is_newer"] : List Str) ++ (["play_paper", "committed", "_law_kettle", "_law_pour", "_law_pick", "_law_last", "_law_put", "_law_is_number", "_law_is_event", "_law_is_copy_deed", "_law_elected", "_law_behind", "_law_any_deed", "_law_copies", "_law_due", "_law_odd", "_law_right"] : List Str)
theorem run (w : World) : HandSHeadRun.RunEq R (PySem.W.view R.prog [52]) hk ob 4000 loose w := by
  intro os
  kernel_rfl
/-- what is left: the plain law -/
def Plain : Prop := ∀ ns : List Int, ns.length ≤ 63 → (∀ z ∈ ns, Builtin.Int.intBits z ≤ 1048576) → ∃ S', f_law [.ref 0] [.frz (ns.map D.int)] = .ok (.bl true) S'
end K78
section
open PySem PySem.W PySem.Calls PyProof.Rows
theorem K78.holds_of (hl : K78.Plain) : PySem.Challenge.rw_errandwide_k78_whole_deeds_of_copies_jud.Holds := by
  w_on; o_law
  refine HandSHeadRun.head_any (r := OpenLaw.row PySem.Challenge.rw_errandwide_k78_whole_deeds_of_copies_jud) (q := view (OpenLaw.row PySem.Challenge.rw_errandwide_k78_whole_deeds_of_copies_jud).prog [52]) (H := K78.hk) (ob := K78.ob) (M := 4000) (loose := K78.loose) (d := HandSHeadRun.topDef (OpenLaw.row PySem.Challenge.rw_errandwide_k78_whole_deeds_of_copies_jud).prog 52) (kwd := []) K78.ob_eq
    (by kernel_rfl) (fun s => by kernel_rfl) K78.run (by kernel_rfl) (by kernel_rfl) (by kernel_rfl) (by rfl) (by first | assumption | decide +kernel) (by decide +kernel) ⟨rfl, rfl, rfl, rfl, rfl, by decide +kernel⟩ ?hw ?hc
  case hw => w_witness2
  case hc =>
    refine Py.walk_N (l := PySem.Challenge.rw_errandwide_k78_whole_deeds_of_copies_jud) (n := 63) (k := 9) (x := "script") (CX := L2.CX) rfl (by decide) (by kernel_rfl) ⟨rfl, by decide, by decide⟩ ?F (fun _ _ _ _ _ z => Py.cx_none z)
    intro w mg fa h Y G hmg0
    have hmg : mg ("law" : PySem.Str) = some (.ref fa) := by
      have e : (HandSHeadRun.topDef (OpenLaw.row PySem.Challenge.rw_errandwide_k78_whole_deeds_of_copies_jud).prog 52).name = ("law" : PySem.Str) := by kernel_rfl
      rw [← e]
      exact hmg0
    exact Py.end_of (fun G base Z => K78.ok_law Z) Y G hmg hl
end

/-! Plain part 1: what code does, by equations. -/
namespace Py
open PySem PySem.Spec PyProof.Rows L2
def isRef : D → Bool
  | .ref _ => true
  | _ => false
@[simp] theorem isRef_tup {ds : List D} : isRef (.tup ds) = false := rfl
@[simp] theorem isRef_lst {ds : List D} : isRef (.lst ds) = false := rfl
def seqR (r : Res) (b : DS) : Res := match r with
  | some (.nx ρ', S') => b ρ' S'
  | r => r
section
variable {α β : Type} {S S' : Store} {ρ : Env}
@[simp] theorem seqR_nx {b : DS} : seqR (some (.nx ρ, S)) b = b ρ S := rfl
@[simp] theorem seqR_rt {b : DS} {d : D} : seqR (some (.rt d, S)) b = some (.rt d, S) := rfl
@[simp] theorem seqR_br {b : DS} : seqR (some (.br ρ, S)) b = some (.br ρ, S) := rfl
@[simp] theorem seqR_ct {b : DS} : seqR (some (.ct ρ, S)) b = some (.ct ρ, S) := rfl
@[simp] theorem seqR_none {b : DS} : seqR none b = none := rfl
@[simp] theorem ite_seqR {c : Prop} [Decidable c] {a b : Res} {k : DS} : seqR (if c then a else b) k = if c then seqR a k else seqR b k := by by_cases h : c <;> simp [h]
@[simp] theorem ite_bind {γ : Type} {c : Prop} [Decidable c] {a b : R α} {k : α → M γ} : (if c then a else b).bind k = if c then a.bind k else b.bind k := by by_cases h : c <;> simp [h]
@[simp] theorem ite_rS {c : Prop} [Decidable c] {a b : R α} {k : α → Store → Res} : rS (if c then a else b) ρ k = if c then rS a ρ k else rS b ρ k := by by_cases h : c <;> simp [h]
@[simp] theorem ite_endR {c : Prop} [Decidable c] {a b : Res} : endR (if c then a else b) = if c then endR a else endR b := by by_cases h : c <;> simp [h]
@[simp] theorem ite_noX {c : Prop} [Decidable c] {a b : R α} : noX (if c then a else b) = if c then noX a else noX b := by by_cases h : c <;> simp [h]
@[simp] theorem optM_some {b : β} : optM (some b) S = .ok b S := rfl
@[simp] theorem optM_none : (optM (none : Option β)) S = .bad := rfl
@[simp] theorem rS_ok {a : α} {k : α → Store → Res} : rS (.ok a S) ρ k = k a S := rfl
@[simp] theorem rS_bad {k : α → Store → Res} : rS (.bad) ρ k = none := rfl
@[simp] theorem noX_ok {a : α} : noX (.ok a S) = .ok a S := rfl
@[simp] theorem noX_bad : noX (.bad : R α) = .bad := rfl
@[simp] theorem dVar_ev {i : Nat} : dVar i ρ S = optM (slV ρ i) S := rfl
@[simp] theorem dRd_ev {i : Nat} : dRd i ρ S = optM (slR ρ i) S := rfl
@[simp] theorem dCst_ev {d : D} : dCst d ρ S = .ok d S := rfl
@[simp] theorem dOp_ev {f : Store → D → D → Option D} {a b : DE} : dOp f a b ρ S = (a ρ S).bind fun x S => (b ρ S).bind fun y S => optM (f S x y) S := rfl
@[simp] theorem dPr_ev {f : Store → List D → Option D} {a : DA} : dPr f a ρ S = (a ρ S).bind fun xs S => optM (f S xs) S := rfl
@[simp] theorem dPrL_ev {f : Store → List D → Option (List D)} {a : DA} : dPrL f a ρ S = (a ρ S).bind fun xs S => optM (f S xs) S := rfl
@[simp] theorem dNil_ev : dNil ρ S = .ok [] S := rfl
@[simp] theorem dCons_ev {a : DE} {r : DA} : dCons a r ρ S = (a ρ S).bind fun x S => (r ρ S).bind fun xs S => .ok (x :: xs) S := rfl
@[simp] theorem dTest_ev {a : DE} : dTest a ρ S = (a ρ S).bind fun x S => optM (asB x) S := rfl
@[simp] theorem dAnd_ev {a b : DT} : dAnd a b ρ S = (a ρ S).bind fun x S => if x then b ρ S else .ok false S := rfl
@[simp] theorem dOr_ev {a b : DT} : dOr a b ρ S = (a ρ S).bind fun x S => if x then .ok true S else b ρ S := rfl
@[simp] theorem dNot_ev {a : DT} : dNot a ρ S = (a ρ S).bind fun x S => .ok (!x) S := rfl
@[simp] theorem dAndV_ev {a b : DE} : dAndV a b ρ S = (a ρ S).bind fun x S => (optM (asB x) S).bind fun k S => if k = true then b ρ S else .ok (.bl false) S := by
  unfold dAndV
  congr 1; funext x S
  cases asB x with
  | none => rfl
  | some k => cases k <;> rfl
@[simp] theorem dOrV_ev {a b : DE} : dOrV a b ρ S = (a ρ S).bind fun x S => (optM (asB x) S).bind fun k S => if k = true then .ok (.bl true) S else b ρ S := by
  unfold dOrV
  congr 1; funext x S
  cases asB x with
  | none => rfl
  | some k => cases k <;> rfl
@[simp] theorem dNotV_ev {a : DE} : dNotV a ρ S = (a ρ S).bind fun x S => (optM (asB x) S).bind fun k S => .ok (.bl (!k)) S := by
  unfold dNotV
  congr 1; funext x S
  cases asB x <;> rfl
@[simp] theorem dIf_ev {t : DT} {a b : DE} : dIf t a b ρ S = (t ρ S).bind fun k S => if k then a ρ S else b ρ S := rfl
@[simp] theorem dNeg_ev {a : DE} : dNeg a ρ S = (a ρ S).bind fun x S => match x with | .int i => .ok (.int (-i)) S | _ => .bad := rfl
@[simp] theorem dChain_ev {f g : Store → D → D → Option D} {a b c : DE} : dChain f g a b c ρ S = (a ρ S).bind fun x S => (b ρ S).bind fun y S => (optM ((f S x y).bind asB) S).bind fun k S => if k = true then (c ρ S).bind fun z S => optM (g S y z) S else .ok (.bl false) S := by
  unfold dChain
  congr 1; funext x S; congr 1; funext y S
  cases (f S x y).bind asB with
  | none => rfl
  | some k => cases k <;> rfl
@[simp] theorem dTup_ev {r : DA} : dTup r ρ S = (r ρ S).bind fun xs S => if xs.length ≤ sizeLine then .ok (.tup xs) S else .bad := rfl
@[simp] theorem dLst_ev {r : DA} : dLst r ρ S = (r ρ S).bind fun xs S => .ok (.lst xs) S := rfl
@[simp] theorem dDisp_ev {r : DA} : dDisp r ρ S = (r ρ S).bind fun xs S => if xs.length ≤ sizeLine then .ok xs S else .bad := rfl
@[simp] theorem dNew_ev {r : DA} : dNew r ρ S = (r ρ S).bind fun xs S => .ok (.ref S.length) (S ++ [.lst xs]) := rfl
@[simp] theorem dNo_ev : dNo ρ S = .ok none S := rfl
@[simp] theorem dSo_ev {d : DE} : dSo d ρ S = (d ρ S).bind fun x S => match x with | .int i => .ok (some i) S | _ => .bad := rfl
@[simp] theorem dSl_ev {a : DE} {lo hi : DO} : dSl a lo hi ρ S = (a ρ S).bind fun x S => (lo ρ S).bind fun l S => (hi ρ S).bind fun u S => optM (pSl S x l u) S := rfl
@[simp] theorem dStar_ev {a : DE} {r : DA} : dStar a r ρ S = (a ρ S).bind fun x S => (optM (seqOf S x) S).bind fun ds S => if isRef x = true then .bad else (r ρ S).bind fun xs S => .ok (ds ++ xs) S := by
  unfold dStar
  congr 1; funext x S
  cases h : seqOf S x with
  | none => simp
  | some ds => cases x <;> simp [isRef]
@[simp] theorem dCall_ev {n : Nat} {run : List D → M D} {r : DA} : dCall n run r ρ S = (r ρ S).bind fun xs S => if xs.length = n then run xs S else .bad := rfl
@[simp] theorem dItems_ev {d : DE} : dItems d ρ S = (d ρ S).bind fun x S => optM (itms x) S := rfl
@[simp] theorem dRg_ev {f : List D → Option (List D)} {r : DA} : dRg f r ρ S = (r ρ S).bind fun xs S => optM (f xs) S := rfl
@[simp] theorem dLrg_ev {d : DE} : dLrg d ρ S = (d ρ S).bind fun x S => optM (lrg x) S := rfl
@[simp] theorem dSortSet_ev {d : DE} : dSortSet d ρ S = (d ρ S).bind fun x S => optM (qSortSet x) S := rfl
@[simp] theorem dLc_ev {di : DI} {g : DG} {t : DT} {e : DE} {vs : List Nat} : dLc di g t e vs ρ S = (di ρ S).bind fun ds S => noX (lcRun g t e (wipeE ρ vs) ds [] S) := rfl
@[simp] theorem dYes_ev : dYes ρ S = .ok true S := rfl
@[simp] theorem qV_ev {d : DE} : qV d ρ S = (d ρ S).bind fun x S => .ok (.val x) S := rfl
@[simp] theorem qO_ev {d : DA} : qO d ρ S = (d ρ S).bind fun x S => .ok (.own x) S := rfl
@[simp] theorem dSet_ev {i : Nat} {q : DQ} : dSet i q ρ S = rS (q ρ S) ρ fun s S => some (.nx (ρ.set i (some s)), S) := rfl
@[simp] theorem dBnd_ev {d : DE} {g : DG} : dBnd d g ρ S = rS (d ρ S) ρ fun x S => match g x ρ with | some ρ' => some (.nx ρ', S) | none => none := rfl
@[simp] theorem dRet_ev {d : DE} : dRet d ρ S = rS (d ρ S) ρ fun x S => some (.rt x, S) := rfl
@[simp] theorem dRetN_ev : dRetN ρ S = some (.rt .non, S) := rfl
@[simp] theorem dDrop_ev {d : DE} : dDrop d ρ S = rS (d ρ S) ρ fun _ S => some (.nx ρ, S) := rfl
@[simp] theorem dIfS_ev {t : DT} {a b : DS} : dIfS t a b ρ S = rS (t ρ S) ρ fun c S => if c = true then a ρ S else b ρ S := rfl
@[simp] theorem dNop_ev : dNop ρ S = some (.nx ρ, S) := rfl
@[simp] theorem dBrk_ev : dBrk ρ S = some (.br ρ, S) := rfl
@[simp] theorem dCnt_ev : dCnt ρ S = some (.ct ρ, S) := rfl
@[simp] theorem dBad_ev : dBad ρ S = none := rfl
@[simp] theorem dPar2_ev {i j : Nat} {q q' : DQ} : dPar2 i j q q' ρ S = rS (q ρ S) ρ fun s S => rS (q' ρ S) ρ fun s' S => some (.nx ((ρ.set i (some s)).set j (some s')), S) := rfl
@[simp] theorem dPar3_ev {i j l : Nat} {q q' q'' : DQ} : dPar3 i j l q q' q'' ρ S = rS (q ρ S) ρ fun s S => rS (q' ρ S) ρ fun s' S => rS (q'' ρ S) ρ fun s'' S => some (.nx (((ρ.set i (some s)).set j (some s')).set l (some s'')), S) := rfl
@[simp] theorem dSeq_ev {a b : DS} : dSeq a b ρ S = seqR (a ρ S) b := rfl
@[simp] theorem dFrz_ev {i : Nat} : dFrz i ρ S = match ρ[i]? with | some (some (.own ds)) => some (.nx (ρ.set i (some (.val (.lst ds)))), S) | _ => none := rfl
@[simp] theorem dOwn_ev {i : Nat} {f : List D → D → Option (List D)} {d : DE} : dOwn i f d ρ S = match ρ[i]? with | some (some (.own ds)) => rS (d ρ S) ρ fun y S => (match f ds y with | some ds' => some (.nx (ρ.set i (some (.own ds'))), S) | none => none) | _ => none := rfl
@[simp] theorem dSto_ev {v o i : DE} : dSto v o i ρ S = rS (v ρ S) ρ fun x S => rS (o ρ S) ρ fun y S => rS (i ρ S) ρ fun z S => match stSet S y z x with | some S' => some (.nx ρ, S') | none => none := rfl
@[simp] theorem dFor_ev {di : DI} {g : DG} {b : DS} : dFor di g b ρ S = rS (di ρ S) ρ fun ds S => forRun g b ds ρ S := rfl
@[simp] theorem dFn_ev {n N : Nat} {b : DS} {ds : List D} : dFn n N b ds S = if ds.length = n then endR (b (fnEnv N ds) S) else .bad := rfl
@[simp] theorem endR_rt {d : D} : endR (some (.rt d, S)) = .ok d S := rfl
@[simp] theorem endR_nx : endR (some (.nx ρ, S)) = .ok .non S := rfl
@[simp] theorem endR_none : endR none = .bad := rfl
@[simp] theorem slV_val {i : Nat} {d : D} (h : ρ[i]? = some (some (.val d))) : slV ρ i = some d := by unfold slV; rw [h]
@[simp] theorem slR_val {i : Nat} {d : D} (h : ρ[i]? = some (some (.val d))) : slR ρ i = some d := by unfold slR; rw [h]
@[simp] theorem slR_own {i : Nat} {d : List D} (h : ρ[i]? = some (some (.own d))) : slR ρ i = some (.lst d) := by unfold slR; rw [h]
@[simp] theorem asB_bl {b : Bool} : asB (.bl b) = some b := rfl
@[simp] theorem gN_ev {i : Nat} {d : D} : gN i d ρ = some (ρ.set i (some (.val d))) := rfl
@[simp] theorem gT_tup {n : Nat} {g : DGs} {ds : List D} : gT n g (.tup ds) ρ = if ds.length = n then g ds ρ else none := rfl
@[simp] theorem gs0_nil : gs0 [] ρ = some ρ := rfl
@[simp] theorem gsC_cons {g : DG} {gs : DGs} {d : D} {ds : List D} : gsC g gs (d :: ds) ρ = (g d ρ).bind fun ρ => gs ds ρ := rfl
end
theorem k_int_int : kitB "int" "int" = some true := by decide +kernel
theorem k_bool_int : kitB "bool" "int" = some true := by decide +kernel
theorem k_str_int : kitB "str" "int" = some false := by decide +kernel
theorem k_tuple_int : kitB "tuple" "int" = some false := by decide +kernel
theorem k_list_int : kitB "list" "int" = some false := by decide +kernel
theorem k_non_int : kitB "NoneType" "int" = some false := by decide +kernel
theorem k_dict_int : kitB "dict" "int" = some false := by decide +kernel
theorem k_int_bool : kitB "int" "bool" = some false := by decide +kernel
theorem k_bool_bool : kitB "bool" "bool" = some true := by decide +kernel
theorem k_str_bool : kitB "str" "bool" = some false := by decide +kernel
theorem k_tuple_bool : kitB "tuple" "bool" = some false := by decide +kernel
theorem k_list_bool : kitB "list" "bool" = some false := by decide +kernel
theorem k_non_bool : kitB "NoneType" "bool" = some false := by decide +kernel
theorem k_dict_bool : kitB "dict" "bool" = some false := by decide +kernel
theorem k_int_str : kitB "int" "str" = some false := by decide +kernel
theorem k_bool_str : kitB "bool" "str" = some false := by decide +kernel
theorem k_str_str : kitB "str" "str" = some true := by decide +kernel
theorem k_tuple_str : kitB "tuple" "str" = some false := by decide +kernel
theorem k_list_str : kitB "list" "str" = some false := by decide +kernel
theorem k_non_str : kitB "NoneType" "str" = some false := by decide +kernel
theorem k_dict_str : kitB "dict" "str" = some false := by decide +kernel
theorem k_int_tuple : kitB "int" "tuple" = some false := by decide +kernel
theorem k_bool_tuple : kitB "bool" "tuple" = some false := by decide +kernel
theorem k_str_tuple : kitB "str" "tuple" = some false := by decide +kernel
theorem k_tuple_tuple : kitB "tuple" "tuple" = some true := by decide +kernel
theorem k_list_tuple : kitB "list" "tuple" = some false := by decide +kernel
theorem k_non_tuple : kitB "NoneType" "tuple" = some false := by decide +kernel
theorem k_dict_tuple : kitB "dict" "tuple" = some false := by decide +kernel
/-! ### isinstance -/
def isIntB : D → Bool
  | .int _ => true
  | .bl _ => true
  | _ => false
def isBlB : D → Bool
  | .bl _ => true
  | _ => false
def isStrB : D → Bool
  | .str _ => true
  | _ => false
def isTupB : D → Bool
  | .tup _ => true
  | _ => false
/-- a value of a built-in type -/
def vis : D → Bool
  | .ty _ => false
  | .ref _ => false
  | .glo _ => false
  | _ => true
theorem isi_int {S : Store} {d : D} (h : vis d = true) : pIsi S [d, .ty "int"] = some (.bl (isIntB d)) := by
  cases d <;> first | cases h; done | (simp only [pIsi, tyD, Option.bind_some, k_int_int, k_bool_int, k_str_int, k_tuple_int, k_list_int, k_non_int, k_dict_int, Option.map_some]; rfl)
theorem isi_bool {S : Store} {d : D} (h : vis d = true) : pIsi S [d, .ty "bool"] = some (.bl (isBlB d)) := by
  cases d <;> first | cases h; done | (simp only [pIsi, tyD, Option.bind_some, k_int_bool, k_bool_bool, k_str_bool, k_tuple_bool, k_list_bool, k_non_bool, k_dict_bool, Option.map_some]; rfl)
theorem isi_str {S : Store} {d : D} (h : vis d = true) : pIsi S [d, .ty "str"] = some (.bl (isStrB d)) := by
  cases d <;> first | cases h; done | (simp only [pIsi, tyD, Option.bind_some, k_int_str, k_bool_str, k_str_str, k_tuple_str, k_list_str, k_non_str, k_dict_str, Option.map_some]; rfl)
theorem isi_tup {S : Store} {d : D} (h : vis d = true) : pIsi S [d, .ty "tuple"] = some (.bl (isTupB d)) := by
  cases d <;> first | cases h; done | (simp only [pIsi, tyD, Option.bind_some, k_int_tuple, k_bool_tuple, k_str_tuple, k_tuple_tuple, k_list_tuple, k_non_tuple, k_dict_tuple, Option.map_some]; rfl)
@[simp] theorem isi_int_int {S : Store} {i : Int} : pIsi S [.int i, .ty "int"] = some (.bl true) := isi_int rfl
@[simp] theorem isi_int_bool {S : Store} {i : Bool} : pIsi S [.bl i, .ty "int"] = some (.bl true) := isi_int rfl
@[simp] theorem isi_int_str {S : Store} {i : Str} : pIsi S [.str i, .ty "int"] = some (.bl false) := isi_int rfl
@[simp] theorem isi_int_tuple {S : Store} {i : List D} : pIsi S [.tup i, .ty "int"] = some (.bl false) := isi_int rfl
@[simp] theorem isi_int_list {S : Store} {i : List D} : pIsi S [.lst i, .ty "int"] = some (.bl false) := isi_int rfl
@[simp] theorem isi_int_NoneType {S : Store} : pIsi S [.non, .ty "int"] = some (.bl false) := isi_int rfl
@[simp] theorem isi_int_dict {S : Store} : pIsi S [.emp, .ty "int"] = some (.bl false) := isi_int rfl
@[simp] theorem isi_bool_int {S : Store} {i : Int} : pIsi S [.int i, .ty "bool"] = some (.bl false) := isi_bool rfl
@[simp] theorem isi_bool_bool {S : Store} {i : Bool} : pIsi S [.bl i, .ty "bool"] = some (.bl true) := isi_bool rfl
@[simp] theorem isi_bool_str {S : Store} {i : Str} : pIsi S [.str i, .ty "bool"] = some (.bl false) := isi_bool rfl
@[simp] theorem isi_bool_tuple {S : Store} {i : List D} : pIsi S [.tup i, .ty "bool"] = some (.bl false) := isi_bool rfl
@[simp] theorem isi_bool_list {S : Store} {i : List D} : pIsi S [.lst i, .ty "bool"] = some (.bl false) := isi_bool rfl
@[simp] theorem isi_bool_NoneType {S : Store} : pIsi S [.non, .ty "bool"] = some (.bl false) := isi_bool rfl
@[simp] theorem isi_bool_dict {S : Store} : pIsi S [.emp, .ty "bool"] = some (.bl false) := isi_bool rfl
@[simp] theorem isi_str_int {S : Store} {i : Int} : pIsi S [.int i, .ty "str"] = some (.bl false) := isi_str rfl
@[simp] theorem isi_str_bool {S : Store} {i : Bool} : pIsi S [.bl i, .ty "str"] = some (.bl false) := isi_str rfl
@[simp] theorem isi_str_str {S : Store} {i : Str} : pIsi S [.str i, .ty "str"] = some (.bl true) := isi_str rfl
@[simp] theorem isi_str_tuple {S : Store} {i : List D} : pIsi S [.tup i, .ty "str"] = some (.bl false) := isi_str rfl
@[simp] theorem isi_str_list {S : Store} {i : List D} : pIsi S [.lst i, .ty "str"] = some (.bl false) := isi_str rfl
@[simp] theorem isi_str_NoneType {S : Store} : pIsi S [.non, .ty "str"] = some (.bl false) := isi_str rfl
@[simp] theorem isi_str_dict {S : Store} : pIsi S [.emp, .ty "str"] = some (.bl false) := isi_str rfl
@[simp] theorem isi_tup_int {S : Store} {i : Int} : pIsi S [.int i, .ty "tuple"] = some (.bl false) := isi_tup rfl
@[simp] theorem isi_tup_bool {S : Store} {i : Bool} : pIsi S [.bl i, .ty "tuple"] = some (.bl false) := isi_tup rfl
@[simp] theorem isi_tup_str {S : Store} {i : Str} : pIsi S [.str i, .ty "tuple"] = some (.bl false) := isi_tup rfl
@[simp] theorem isi_tup_tuple {S : Store} {i : List D} : pIsi S [.tup i, .ty "tuple"] = some (.bl true) := isi_tup rfl
@[simp] theorem isi_tup_list {S : Store} {i : List D} : pIsi S [.lst i, .ty "tuple"] = some (.bl false) := isi_tup rfl
@[simp] theorem isi_tup_NoneType {S : Store} : pIsi S [.non, .ty "tuple"] = some (.bl false) := isi_tup rfl
@[simp] theorem isi_tup_dict {S : Store} : pIsi S [.emp, .ty "tuple"] = some (.bl false) := isi_tup rfl
/-! ### ints -/
section
variable {S : Store} {a b : Int}
@[simp] theorem shal_int : shal (.int a) = true := by simp [shal, D.okd, D.py, PyData.depth]
theorem lt_int' : PySem.W.dataLt (.int a) (.int b) = decide (a < b) := PySem.W.dataLt_int a b
theorem alike_int : PySem.W.alike (.int a) (.int b) = true := by simp [PySem.W.alike]
theorem cmpOk_int : cmpOk (.int a) (.int b) = true := by simp [cmpOk, D.py, alike_int, isNonD]
theorem nlt_dec : (!decide (a < b)) = decide (b ≤ a) := by by_cases h : a < b <;> simp [h] <;> omega
theorem beq_dec : (a == b) = decide (a = b) := by by_cases h : a = b <;> simp [h]
@[simp] theorem pLt_int : pLt S (.int a) (.int b) = some (.bl (decide (a < b))) := by simp [pLt, cmpOk_int, D.py, lt_int']
@[simp] theorem pGt_int : pGt S (.int a) (.int b) = some (.bl (decide (b < a))) := by simp [pGt, cmpOk_int, D.py, lt_int']
@[simp] theorem pLe_int : pLe S (.int a) (.int b) = some (.bl (decide (a ≤ b))) := by simp only [pLe, cmpOk_int, D.py, lt_int', nlt_dec, if_true]
@[simp] theorem pGe_int : pGe S (.int a) (.int b) = some (.bl (decide (b ≤ a))) := by simp only [pGe, cmpOk_int, D.py, lt_int', nlt_dec, if_true]
@[simp] theorem pEq_int : pEq S (.int a) (.int b) = some (.bl (decide (a = b))) := by simp [pEq, D.py, PyData.eqv, beq_dec]
@[simp] theorem pNe_int : pNe S (.int a) (.int b) = some (.bl (!decide (a = b))) := by simp [pNe, D.py, PyData.eqv, beq_dec]
end
end Py

/-! Plain part 2: primitives on tuples, lists, ints, by equations. -/
namespace Py
open PySem PySem.Spec PyProof.Rows L2
section
variable {S : Store} {ds es : List D} {d e : D} {n k : Nat} {α : Type} {xs : List α}
theorem sizeLine_val : sizeLine = 16777216 := by decide
/-! places -/
theorem atI_nat : atI xs (n : Int) = xs[n]? := by
  unfold atI ixN
  by_cases h : n < xs.length
  · rw [if_pos (by omega), if_pos (by omega)]
    simp
  · rw [if_pos (by omega), if_neg (by omega)]
    simp [List.getElem?_eq_none (Nat.le_of_not_lt h)]
theorem atI_neg1 : atI xs (-1) = xs.getLast? := by
  unfold atI ixN
  rw [if_neg (by omega)]
  cases xs with
  | nil => rfl
  | cons x r =>
    rw [if_pos (by simp; omega)]
    have e : ((-1 : Int) + ((x :: r).length : Nat)).toNat = r.length := by simp only [List.length_cons]; omega
    rw [e, List.getLast?_eq_getElem?]
    simp
@[simp] theorem atI_0 : atI xs 0 = xs[0]? := atI_nat (n := 0)
@[simp] theorem atI_1 : atI xs 1 = xs[1]? := atI_nat (n := 1)
@[simp] theorem atI_2 : atI xs 2 = xs[2]? := atI_nat (n := 2)
@[simp] theorem atI_3 : atI xs 3 = xs[3]? := atI_nat (n := 3)
@[simp] theorem pIdx_tup {i : Int} : pIdx S (.tup ds) (.int i) = atI ds i := rfl
@[simp] theorem pIdx_lst {i : Int} : pIdx S (.lst ds) (.int i) = atI ds i := rfl
@[simp] theorem pIdx_ref {m : Nat} {i : Int} : pIdx S (.ref m) (.int i) = (seqOf S (.ref m)).bind fun ds => atI ds i := rfl
@[simp] theorem seqOf_tup : seqOf S (.tup ds) = some ds := rfl
@[simp] theorem seqOf_lst : seqOf S (.lst ds) = some ds := rfl
@[simp] theorem pLen_tup : pLen S [.tup ds] = some (.int (ds.length : Nat)) := rfl
@[simp] theorem pLen_lst : pLen S [.lst ds] = some (.int (ds.length : Nat)) := rfl
@[simp] theorem pLen_ref {m : Nat} : pLen S [.ref m] = (seqOf S (.ref m)).map fun ds => .int (ds.length : Nat) := rfl
theorem seqOf_ref_lst {m : Nat} (h : S[m]? = some (.lst ds)) : seqOf S (.ref m) = some ds := by simp only [seqOf, h]
theorem seqOf_ref_frz {m : Nat} (h : S[m]? = some (.frz ds)) : seqOf S (.ref m) = some ds := by simp only [seqOf, h]
@[simp] theorem itms_tup : itms (.tup ds) = some ds := rfl
@[simp] theorem itms_lst : itms (.lst ds) = some ds := rfl
@[simp] theorem qList_tup : qList S [.tup ds] = some ds := rfl
@[simp] theorem qList_lst : qList S [.lst ds] = some ds := rfl
@[simp] theorem pTuple_lst : pTuple S [.lst ds] = some (.tup ds) := rfl
@[simp] theorem pTuple_tup : pTuple S [.tup ds] = some (.tup ds) := rfl
@[simp] theorem en1_tup : en1 [.tup ds] = some (enumD ds) := rfl
@[simp] theorem en1_lst : en1 [.lst ds] = some (enumD ds) := rfl
@[simp] theorem zp2_tup : zp2 [.tup ds, .tup es] = some ((ds.zip es).map fun x => .tup [x.1, x.2]) := rfl
theorem fApp_ok (h : ds.length < sizeLine) : fApp ds d = some (ds ++ [d]) := if_pos h
/-! ints -/
@[simp] theorem pAdd_int {a b : Int} : pAdd S (.int a) (.int b) = some (.int (a + b)) := rfl
@[simp] theorem pSub_int {a b : Int} : pSub S (.int a) (.int b) = some (.int (a - b)) := rfl
@[simp] theorem pInt_int {a : Int} : pInt S [.int a] = some (.int a) := rfl
@[simp] theorem pInt_bl {a : Bool} : pInt S [.bl a] = some (.int (if a then 1 else 0)) := rfl
@[simp] theorem pAbs_int {a : Int} : pAbs S [.int a] = some (.int (if a < 0 then -a else a)) := rfl
@[simp] theorem pMax_int {a b : Int} : pMax S [.int a, .int b] = some (.int (if b > a then b else a)) := rfl
@[simp] theorem pMin_int {a b : Int} : pMin S [.int a, .int b] = some (.int (if b < a then b else a)) := rfl
@[simp] theorem pIs_non : pIs S .non .non = some (.bl true) := rfl
@[simp] theorem pIs_int {a : Int} : pIs S (.int a) .non = some (.bl false) := rfl
@[simp] theorem pIs_tup : pIs S (.tup ds) .non = some (.bl false) := rfl
@[simp] theorem pIsNot_non : pIsNot S .non .non = some (.bl false) := rfl
@[simp] theorem pIsNot_int {a : Int} : pIsNot S (.int a) .non = some (.bl true) := rfl
@[simp] theorem pIsNot_tup : pIsNot S (.tup ds) .non = some (.bl true) := rfl
theorem pMod_int {a b : Int} (h : 0 < b) : pMod S (.int a) (.int b) = some (.int (a % b)) := if_pos h
theorem pDiv_int {a b : Int} (h : 0 < b) (h2 : b.natAbs.log2 < 9000) : pDiv S (.int a) (.int b) = some (.int (a / b)) := if_pos ⟨h, h2⟩
theorem pMul_int {a b : Int} (h : Builtin.Int.intBits a + Builtin.Int.intBits b ≤ 134217728) : pMul S (.int a) (.int b) = some (.int (a * b)) := if_pos h
theorem bits_nat {b : Nat} {a : Int} (h : a.natAbs < 2 ^ b) : Builtin.Int.intBits a ≤ b := by
  unfold Builtin.Int.intBits
  split
  · omega
  · rename_i h0
    have : a.natAbs.log2 < b := (Nat.log2_lt (by intro z; exact h0 (by simpa using z))).mpr h
    omega
/-- a product of what has few digits -/
theorem pMul_small {a b : Int} (h : a.natAbs < 2 ^ 60000000) (h2 : b.natAbs < 2 ^ 60000000) : pMul S (.int a) (.int b) = some (.int (a * b)) := pMul_int (by
  have h1 := bits_nat h
  have h3 := bits_nat h2
  omega)
theorem pMul_b {a b : Int} {i j : Nat} (h : a.natAbs < 2 ^ i) (h2 : b.natAbs < 2 ^ j) (l : i + j ≤ 134217728) : pMul S (.int a) (.int b) = some (.int (a * b)) := pMul_int (by
  have h1 := bits_nat h
  have h3 := bits_nat h2
  omega)
/-! tuples -/
theorem pAdd_tup (h : ds.length + es.length ≤ sizeLine) : pAdd S (.tup ds) (.tup es) = some (.tup (ds ++ es)) := if_pos h
theorem pAdd_lst (h : ds.length + es.length ≤ sizeLine) : pAdd S (.lst ds) (.lst es) = some (.lst (ds ++ es)) := if_pos h
theorem pMul_tup {a : Int} (h : ds ≠ [] ∧ 2 ≤ a.toNat ∧ a.toNat ≤ 1000 ∧ ds.length ≤ 1000) : pMul S (.tup ds) (.int a) = some (.tup (List.replicate a.toNat ds).flatten) := if_pos h
theorem pMul_lst {a : Int} (h : a.natAbs < 2 ^ 63 ∧ ds.length * a.toNat ≤ sizeLine) : pMul S (.lst ds) (.int a) = some (.lst (List.replicate a.toNat ds).flatten) := if_pos h
@[simp] theorem pSl_tup {lo hi : Option Int} : pSl S (.tup ds) lo hi = some (.tup (cutD ds lo hi)) := rfl
@[simp] theorem pSl_lst {lo hi : Option Int} : pSl S (.lst ds) lo hi = some (.lst (cutD ds lo hi)) := rfl
theorem cut_take : cutD ds none (some (n : Int)) = ds.take n := by
  unfold cutD
  rw [HT.sIx_none, HT.sIx_nat]
  simp [List.take_eq_take_iff]
theorem cut_drop : cutD ds (some (n : Int)) none = ds.drop n := by
  unfold cutD
  rw [HT.sIx_none, HT.sIx_nat]
  by_cases h : n ≤ ds.length
  · rw [Nat.min_eq_left h]
    rw [List.take_of_length_le (by simp)]
  · rw [Nat.min_eq_right (by omega)]
    simp [List.drop_eq_nil_of_le (Nat.le_of_not_le h)]
theorem cut_dropS : cutD ds (some ((n : Int) + 1)) none = ds.drop (n + 1) := by
  rw [show (n : Int) + 1 = ((n + 1 : Nat) : Int) by omega, cut_drop]
theorem cut_takeS : cutD ds none (some ((n : Int) + 1)) = ds.take (n + 1) := by
  rw [show (n : Int) + 1 = ((n + 1 : Nat) : Int) by omega, cut_take]
theorem cut_drop1 : cutD ds (some 1) none = ds.drop 1 := cut_drop (n := 1)
/-! data: what can be compared -/
def Sh (k : Nat) (d : D) : Prop := d.okd = true ∧ d.py.depth ≤ k
theorem Sh.mono {j : Nat} (h : Sh k d) (l : k ≤ j) : Sh j d := ⟨h.1, Nat.le_trans h.2 l⟩
theorem okdL_all : okdL ds = true ↔ ∀ d ∈ ds, d.okd = true := by
  induction ds with
  | nil => simp [okdL]
  | cons d r ih => simp [okdL, ih]
theorem depthAll_le : PyData.depthAll (pyL ds) ≤ k ↔ ∀ d ∈ ds, d.py.depth ≤ k := by
  induction ds with
  | nil => simp [pyL, PyData.depthAll]
  | cons d r ih => simp [pyL, PyData.depthAll, ih, Nat.max_le]
theorem Sh.tup (h : ∀ d ∈ ds, Sh k d) : Sh (k + 1) (.tup ds) := ⟨by rw [D.okd]; exact okdL_all.mpr fun d hd => (h d hd).1, by
  have := depthAll_le.mpr fun d hd => (h d hd).2
  simp only [D.py, PyData.depth]; omega⟩
theorem Sh.lst (h : ∀ d ∈ ds, Sh k d) : Sh (k + 1) (.lst ds) := ⟨by rw [D.okd]; exact okdL_all.mpr fun d hd => (h d hd).1, by
  have := depthAll_le.mpr fun d hd => (h d hd).2
  simp only [D.py, PyData.depth]; omega⟩
theorem Sh.int {i : Int} : Sh k (.int i) := ⟨rfl, by simp [D.py, PyData.depth]⟩
theorem Sh.bl {i : Bool} : Sh k (.bl i) := ⟨rfl, by simp [D.py, PyData.depth]⟩
theorem Sh.str {i : Str} : Sh k (.str i) := ⟨rfl, by simp [D.py, PyData.depth]⟩
theorem Sh.non : Sh k .non := ⟨rfl, by simp [D.py, PyData.depth]⟩
theorem Sh.shal (h : Sh k d) (l : k ≤ 100) : shal d = true := by
  unfold Py.shal
  rw [h.1, decide_eq_true (Nat.le_trans h.2 l)]; rfl
theorem pEq_of {b : Bool} (h1 : Sh k d) (h2 : Sh k e) (l : k ≤ 100) (h : PyData.eqv d.py e.py = b) : pEq S d e = some (.bl b) := by
  unfold pEq
  rw [h1.shal l, h2.shal l, h]; rfl
theorem pNe_of {b : Bool} (h1 : Sh k d) (h2 : Sh k e) (l : k ≤ 100) (h : PyData.eqv d.py e.py = b) : pNe S d e = some (.bl (!b)) := by
  unfold pNe
  rw [h1.shal l, h2.shal l, h]; rfl
@[simp] theorem pEq_bl {a b : Bool} : pEq S (.bl a) (.bl b) = some (.bl (decide (a = b))) := pEq_of (k := 0) Sh.bl Sh.bl (by omega) (by cases a <;> cases b <;> rfl)
@[simp] theorem pNe_bl {a b : Bool} : pNe S (.bl a) (.bl b) = some (.bl (!decide (a = b))) := pNe_of (k := 0) Sh.bl Sh.bl (by omega) (by cases a <;> cases b <;> rfl)
@[simp] theorem pEq_str {a b : Str} : pEq S (.str a) (.str b) = some (.bl (decide (a = b))) := pEq_of (k := 0) Sh.str Sh.str (by omega) (by by_cases h : a = b <;> simp [D.py, PyData.eqv, h])
@[simp] theorem pNe_str {a b : Str} : pNe S (.str a) (.str b) = some (.bl (!decide (a = b))) := pNe_of (k := 0) Sh.str Sh.str (by omega) (by by_cases h : a = b <;> simp [D.py, PyData.eqv, h])
theorem pIn_of {dd : List D} (h1 : Sh k d) (h2 : ∀ x ∈ dd, Sh k x) (l : k + 1 ≤ 100) : pIn S d (.tup dd) = some (.bl (dd.any fun y => PyData.eqv y.py d.py)) := by
  have e : (pyL dd).any (fun y => PyData.eqv y d.py) = dd.any fun y => PyData.eqv y.py d.py := by
    clear h2
    induction dd with
    | nil => rfl
    | cons x r ih => simp only [pyL, List.any_cons, ih]
  unfold pIn
  simp only [itemsOf]
  rw [h1.shal (by omega), (Sh.tup h2).shal l, e]; rfl
theorem pNotIn_of {dd : List D} (h1 : Sh k d) (h2 : ∀ x ∈ dd, Sh k x) (l : k + 1 ≤ 100) : pNotIn S d (.tup dd) = some (.bl (!dd.any fun y => PyData.eqv y.py d.py)) := by
  have e : (pyL dd).any (fun y => PyData.eqv y d.py) = dd.any fun y => PyData.eqv y.py d.py := by
    clear h2
    induction dd with
    | nil => rfl
    | cons x r ih => simp only [pyL, List.any_cons, ih]
  unfold pNotIn
  simp only [itemsOf]
  rw [h1.shal (by omega), (Sh.tup h2).shal l, e]; rfl
theorem blsD_of {β : Type} {p : β → Bool} : ∀ xs : List β, blsD (xs.map fun x => D.bl (p x)) = some (xs.map p)
  | [] => rfl
  | x :: xs => by rw [List.map_cons, blsD, blsD_of xs]; rfl
theorem pAll_map {β : Type} {p : β → Bool} {xs : List β} : pAll S [.lst (xs.map fun x => D.bl (p x))] = some (.bl (xs.all p)) := by
  show (blsD (xs.map fun x => D.bl (p x))).map (fun bs => D.bl (bs.all id)) = _
  rw [blsD_of]
  simp [List.all_map]
theorem intsD_of {β : Type} {p : β → Int} : ∀ xs : List β, intsD (xs.map fun x => D.int (p x)) = some (xs.map p)
  | [] => rfl
  | x :: xs => by rw [List.map_cons, intsD, intsD_of xs]; rfl
theorem pNe_lst0 : pNe S (.lst []) (.lst []) = some (.bl false) := by
  have h := Sh.lst (k := 0) (ds := []) (fun _ h => by cases h)
  unfold pNe
  rw [h.shal (by omega)]
  simp [D.py, pyL, PyData.eqv, PyData.eqvAll]
theorem pNe_lstN {dd : List D} (h : ∀ x ∈ dd, Sh k x) (l : k + 1 ≤ 100) : pNe S (.lst dd) (.lst []) = some (.bl (!decide (dd = []))) := by
  refine pNe_of (Sh.lst h) (Sh.lst (fun _ h => by cases h)) l ?_
  cases dd with
  | nil => simp [D.py, pyL, PyData.eqv, PyData.eqvAll]
  | cons x r => simp [D.py, pyL, PyData.eqv, PyData.eqvAll]
/-! == of encoded values -/
theorem eqvAll_map {β : Type} [DecidableEq β] {f : β → D} : ∀ {xs ys : List β}, (∀ x ∈ xs, ∀ y ∈ ys, PyData.eqv (f x).py (f y).py = decide (x = y)) → PyData.eqvAll (pyL (xs.map f)) (pyL (ys.map f)) = decide (xs = ys)
  | [], [], _ => by simp [pyL, PyData.eqvAll]
  | [], _ :: _, _ => by simp [pyL, PyData.eqvAll]
  | _ :: _, [], _ => by simp [pyL, PyData.eqvAll]
  | x :: xs, y :: ys, h => by
    rw [List.map_cons, List.map_cons, pyL, pyL, PyData.eqvAll, h x List.mem_cons_self y List.mem_cons_self, eqvAll_map (xs := xs) (ys := ys) fun a ha b hb => h a (List.mem_cons_of_mem _ ha) b (List.mem_cons_of_mem _ hb)]
    by_cases e1 : x = y <;> by_cases e2 : xs = ys <;> simp [e1, e2]
@[simp] theorem eqv_int {a b : Int} : PyData.eqv (.int a) (.int b) = decide (a = b) := by simp [PyData.eqv, beq_dec]
@[simp] theorem eqv_bl {a b : Bool} : PyData.eqv (.bool a) (.bool b) = decide (a = b) := by cases a <;> cases b <;> rfl
@[simp] theorem eqv_str {a b : Str} : PyData.eqv (.str a) (.str b) = decide (a = b) := by by_cases h : a = b <;> simp [PyData.eqv, h]
@[simp] theorem eqv_tup {xs ys : List PyData} : PyData.eqv (.tuple xs) (.tuple ys) = PyData.eqvAll xs ys := by simp [PyData.eqv]
@[simp] theorem eqv_lst {xs ys : List PyData} : PyData.eqv (.list xs) (.list ys) = PyData.eqvAll xs ys := by simp [PyData.eqv]
@[simp] theorem eqvAll_cons {x y : PyData} {xs ys : List PyData} : PyData.eqvAll (x :: xs) (y :: ys) = (PyData.eqv x y && PyData.eqvAll xs ys) := by simp [PyData.eqvAll]
@[simp] theorem eqvAll_nil : PyData.eqvAll [] [] = true := by simp [PyData.eqvAll]
@[simp] theorem eqvAll_nc {y : PyData} {ys : List PyData} : PyData.eqvAll [] (y :: ys) = false := by simp [PyData.eqvAll]
@[simp] theorem eqvAll_cn {y : PyData} {ys : List PyData} : PyData.eqvAll (y :: ys) [] = false := by simp [PyData.eqvAll]
end
theorem enumD_eq (ds : List D) : enumD ds = ds.zipIdx.map fun x => D.tup [.int (x.2 : Nat), x.1] := by
  unfold enumD
  apply List.ext_getElem?
  intro i
  simp only [List.getElem?_mapIdx, List.getElem?_map, List.getElem?_zipIdx]
  cases ds[i]? <;> simp
theorem zipIdx_set {α : Type} (xs : List α) (n : Nat) (y : α) : xs.zipIdx.map (fun x => if x.2 = n then y else x.1) = xs.set n y := by
  apply List.ext_getElem?
  intro i
  simp only [List.getElem?_map, List.getElem?_zipIdx, List.getElem?_set]
  by_cases h : n = i
  · subst h
    by_cases hl : n < xs.length
    · simp [hl]
    · simp [hl, List.getElem?_eq_none (Nat.le_of_not_lt hl)]
  · have h' : ¬ i = n := fun z => h z.symm
    cases e : xs[i]? <;> simp [h, h']
/-! ### comprehensions, loops -/
section
variable {S : Store} {g : DG} {t : DT} {e : DE} {ρ : Env}
/-- pure turns: what is kept, what is put -/
theorem lc_pure {p : D → Bool} {h : D → D} {ρ' : D → Env} : ∀ {ds acc : List D}, (∀ d ∈ ds, g d ρ = some (ρ' d) ∧ t (ρ' d) S = .ok (p d) S ∧ (p d = true → e (ρ' d) S = .ok (h d) S)) → acc.length + ds.length ≤ sizeLine →
    lcRun g t e ρ ds acc S = .ok (acc ++ (ds.filter p).map h) S
  | [], acc, _, _ => by simp [lcRun]
  | d :: ds, acc, H, l => by
    obtain ⟨h1, h2, h3⟩ := H d List.mem_cons_self
    have H' : ∀ d ∈ ds, g d ρ = some (ρ' d) ∧ t (ρ' d) S = .ok (p d) S ∧ (p d = true → e (ρ' d) S = .ok (h d) S) := fun x hx => H x (List.mem_cons_of_mem _ hx)
    simp only [List.length_cons] at l
    unfold lcRun
    rw [h1]
    dsimp only
    rw [h2, R.ok_bind]
    cases hp : p d with
    | true =>
      rw [if_pos rfl, h3 hp, R.ok_bind, if_pos (by omega), lc_pure H' (by simp; omega)]
      simp [hp]
    | false =>
      rw [if_neg (by simp), lc_pure H' (by omega)]
      simp [hp]
/-- the same over encoded values -/
theorem lc_typed {β : Type} {f : β → D} {p : β → Bool} {h : β → D} {ρ' : β → Py.Env} : ∀ {ds : List β} {acc : List D}, (∀ d ∈ ds, g (f d) ρ = some (ρ' d) ∧ t (ρ' d) S = .ok (p d) S ∧ (p d = true → e (ρ' d) S = .ok (h d) S)) → acc.length + ds.length ≤ sizeLine →
    lcRun g t e ρ (ds.map f) acc S = .ok (acc ++ (ds.filter p).map h) S
  | [], acc, _, _ => by simp [lcRun]
  | d :: ds, acc, H, l => by
    obtain ⟨h1, h2, h3⟩ := H d List.mem_cons_self
    have H' : ∀ d ∈ ds, g (f d) ρ = some (ρ' d) ∧ t (ρ' d) S = .ok (p d) S ∧ (p d = true → e (ρ' d) S = .ok (h d) S) := fun x hx => H x (List.mem_cons_of_mem _ hx)
    simp only [List.length_cons] at l
    rw [List.map_cons]
    unfold lcRun
    rw [h1]
    dsimp only
    rw [h2, R.ok_bind]
    cases hp : p d with
    | true =>
      rw [if_pos rfl, h3 hp, R.ok_bind, if_pos (by omega), lc_typed H' (by simp; omega)]
      simp [hp]
    | false =>
      rw [if_neg (by simp), lc_typed H' (by omega)]
      simp [hp]
theorem lc_typedM {β : Type} {f h : β → D} {ρ' : β → Py.Env} {ds : List β} {acc : List D} (H : ∀ d ∈ ds, g (f d) ρ = some (ρ' d) ∧ e (ρ' d) S = .ok (h d) S) (l : acc.length + ds.length ≤ sizeLine) :
    lcRun g dYes e ρ (ds.map f) acc S = .ok (acc ++ ds.map h) S := by
  have := lc_typed (g := g) (t := dYes) (e := e) (ρ := ρ) (S := S) (f := f) (p := fun _ => true) (h := h) (ρ' := ρ') (ds := ds) (acc := acc) (fun d hd => ⟨(H d hd).1, rfl, fun _ => (H d hd).2⟩) l
  have e1 : ds.filter (fun _ => true) = ds := List.filter_eq_self.mpr fun _ _ => rfl
  rw [e1] at this
  exact this
theorem lc_map {h : D → D} {ρ' : D → Env} {ds acc : List D} (H : ∀ d ∈ ds, g d ρ = some (ρ' d) ∧ e (ρ' d) S = .ok (h d) S) (l : acc.length + ds.length ≤ sizeLine) :
    lcRun g dYes e ρ ds acc S = .ok (acc ++ ds.map h) S := by
  have := lc_pure (g := g) (t := dYes) (e := e) (ρ := ρ) (S := S) (p := fun _ => true) (h := h) (ρ' := ρ') (ds := ds) (acc := acc) (fun d hd => ⟨(H d hd).1, rfl, fun _ => (H d hd).2⟩) l
  have e1 : ds.filter (fun _ => true) = ds := List.filter_eq_self.mpr fun _ _ => rfl
  rw [e1] at this
  exact this
end
end Py

/-! Plain part 3: copies of a log, in plain Lean, and as data. -/
namespace Cop
open Py PySem
inductive Ev where
  | off | ans (a b : Nat) (t : Bool) (n : Nat)
  deriving DecidableEq
structure Cp where
  up : Bool
  tm : Nat
  rows : List (Nat × Ev)
  deriving DecidableEq
structure Sta where
  cs : List Cp
  ld : Option Nat
  many : Nat
  deriving DecidableEq
inductive Deed where
  | elect (n : Nat) (vs : List Nat) | append (e : Ev) | copy (n : Nat) | commit (n : Nat) | stop (n : Nat) | start (n : Nat)
def Ev.d : Ev → D
  | .off => .tup [.str "off"]
  | .ans a b t n => .tup [.str "answer", .tup [.int a, .int b], .bl t, .int n]
def Ev.ok : Ev → Prop
  | .off => True
  | .ans a b _ n => a ≤ 9 ∧ b ≤ 9 ∧ n ≤ 1000000006
def rowD (r : Nat × Ev) : D := .tup [.int r.1, r.2.d]
def rowsD (rs : List (Nat × Ev)) : D := .tup (rs.map rowD)
def Cp.d (c : Cp) : D := .tup [.bl c.up, .int c.tm, rowsD c.rows]
def ldD : Option Nat → D
  | none => .non
  | some n => .int n
def csD (cs : List Cp) : D := .tup (cs.map Cp.d)
def Sta.d (s : Sta) : D := .tup [csD s.cs, ldD s.ld, .int s.many]
def intD (n : Nat) : D := .int n
def votersD (vs : List Nat) : D := .tup (vs.map intD)
def Deed.d : Deed → D
  | .elect n vs => .tup [.str "elect", .int n, votersD vs]
  | .append e => .tup [.str "append", e.d]
  | .copy n => .tup [.str "copy", .int n]
  | .commit n => .tup [.str "commit", .int n]
  | .stop n => .tup [.str "stop", .int n]
  | .start n => .tup [.str "start", .int n]
def Deed.ok : Deed → Prop
  | .elect n vs => n ≤ 4 ∧ vs.Pairwise (· < ·) ∧ ∀ v ∈ vs, v ≤ 4
  | .append e => e.ok
  | .copy n => n ≤ 4
  | .commit n => 1 ≤ n ∧ n ≤ 400
  | .stop n => n ≤ 4
  | .start n => n ≤ 4
def lastT (rs : List (Nat × Ev)) : Nat := match rs.getLast? with
  | none => 0
  | some r => r.1
/-- (last term, length) of a above that of b -/
def newer (a b : List (Nat × Ev)) : Bool := decide (lastT b < lastT a ∨ (lastT b = lastT a ∧ b.length < a.length))
def emptyC : Cp := ⟨true, 0, []⟩
def upAt (cs : List Cp) (n : Nat) : Bool := (cs[n]?.map Cp.up).getD false
def tmAt (cs : List Cp) (n : Nat) : Nat := (cs[n]?.map Cp.tm).getD 0
def rowsAt (cs : List Cp) (n : Nat) : List (Nat × Ev) := (cs[n]?.map Cp.rows).getD []
def maxTm (cs : List Cp) (vs : List Nat) : Nat := (vs.map (tmAt cs)).foldr max 0
def putV (T : Nat) (cs : List Cp) (v : Nat) : List Cp := cs.set v ⟨true, T, rowsAt cs v⟩
def elect (s : Sta) (n : Nat) (vs : List Nat) : Option Sta :=
  if 2 * vs.length ≤ s.cs.length ∨ (∃ v ∈ vs, s.cs.length ≤ v) ∨ n ∉ vs then none
  else if ∀ v ∈ vs, upAt s.cs v = true ∧ newer (rowsAt s.cs v) (rowsAt s.cs n) = false then
    some ⟨vs.foldl (putV (maxTm s.cs vs + 1)) s.cs, some n, s.many⟩
  else none
def addRow (s : Sta) (e : Ev) : Option Sta := match s.ld with
  | none => none
  | some l => some ⟨s.cs.set l ⟨upAt s.cs l, tmAt s.cs l, rowsAt s.cs l ++ [(tmAt s.cs l, e)]⟩, some l, s.many⟩
def copyTo (s : Sta) (n : Nat) : Option Sta := match s.ld with
  | none => none
  | some l => if n = l ∨ s.cs.length ≤ n ∨ upAt s.cs n = false then none else some ⟨s.cs.set n ⟨true, tmAt s.cs l, rowsAt s.cs l⟩, some l, s.many⟩
def commitTo (s : Sta) (k : Nat) : Option Sta := match s.ld with
  | none => none
  | some l => if ¬ (s.many < k ∧ k ≤ (rowsAt s.cs l).length) then none
    else if lastT ((rowsAt s.cs l).take k) ≠ tmAt s.cs l then none
    else if 2 * (s.cs.filter fun c => decide (c.rows.take k = (rowsAt s.cs l).take k)).length > s.cs.length then some ⟨s.cs, some l, k⟩ else none
def turn (s : Sta) (n : Nat) (up : Bool) : Option Sta :=
  if s.cs.length ≤ n ∨ upAt s.cs n = up then none else some ⟨s.cs.set n ⟨up, tmAt s.cs n, rowsAt s.cs n⟩, if s.ld = some n then none else s.ld, s.many⟩
def behind (s : Sta) : Deed → Option Sta
  | .elect n vs => elect s n vs
  | .append e => addRow s e
  | .copy n => copyTo s n
  | .commit k => commitTo s k
  | .stop n => turn s n false
  | .start n => turn s n true
/-- small enough -/
structure Wf (s : Sta) : Prop where
  few : s.cs.length ≤ 5
  some_ : 3 ≤ s.cs.length
  ld : ∀ l, s.ld = some l → l < s.cs.length
  rows : ∀ c ∈ s.cs, c.rows.length ≤ 1000
  evs : ∀ c ∈ s.cs, ∀ r ∈ c.rows, r.2.ok
def optD : Option Sta → D
  | none => .non
  | some s => s.d
def ini (k : Nat) : Sta := ⟨List.replicate k emptyC, none, 0⟩

/-! ### encoded values compared -/
theorem ci {a b : Nat} : ((a : Int) = (b : Int)) ↔ a = b := by omega
theorem ev_sh (e : Ev) : Sh 3 e.d := by
  cases e with
  | off => exact (Sh.tup (k := 0) (by simp; exact Sh.str)).mono (by omega)
  | ans a b t n => exact (Sh.tup (k := 1) (by simp; exact ⟨Sh.str, Sh.tup (by simp; exact ⟨Sh.int, Sh.int⟩), Sh.bl, Sh.int⟩)).mono (by omega)
theorem row_sh (r : Nat × Ev) : Sh 4 (rowD r) := Sh.tup (by simp; exact ⟨Sh.int, ev_sh r.2⟩)
theorem rows_sh (rs : List (Nat × Ev)) : Sh 5 (rowsD rs) := Sh.tup fun d hd => by
  obtain ⟨r, _, rfl⟩ := List.mem_map.mp hd
  exact row_sh r
theorem cp_sh (c : Cp) : Sh 6 c.d := Sh.tup (by simp; exact ⟨Sh.bl, Sh.int, rows_sh c.rows⟩)
theorem cs_sh (cs : List Cp) : Sh 7 (csD cs) := Sh.tup fun d hd => by
  obtain ⟨r, _, rfl⟩ := List.mem_map.mp hd
  exact cp_sh r
theorem ld_sh (l : Option Nat) : Sh 0 (ldD l) := by
  cases l with
  | none => exact Sh.non
  | some n => exact Sh.int
theorem sta_sh (s : Sta) : Sh 8 s.d := Sh.tup (by simp; exact ⟨cs_sh _, (ld_sh _).mono (by omega), Sh.int⟩)
theorem voters_sh (vs : List Nat) : Sh 1 (votersD vs) := Sh.tup fun d hd => by
  obtain ⟨r, _, rfl⟩ := List.mem_map.mp hd
  exact Sh.int
theorem ev_eqv (e f : Ev) : PyData.eqv e.d.py f.d.py = decide (e = f) := by
  cases e <;> cases f <;> simp [Ev.d, D.py, pyL, ci]
  · rename_i a b t n a' b' t' n'
    by_cases h1 : a = a' <;> by_cases h2 : b = b' <;> by_cases h3 : t = t' <;> by_cases h4 : n = n' <;> simp [h1, h2, h3, h4, ci]
theorem row_eqv (r q : Nat × Ev) : PyData.eqv (rowD r).py (rowD q).py = decide (r = q) := by
  obtain ⟨a, b⟩ := r
  obtain ⟨a', b'⟩ := q
  simp [rowD, D.py, pyL, ev_eqv]
  by_cases h1 : a = a' <;> by_cases h2 : b = b' <;> simp [h1, h2, ci]
theorem rows_eqv (r q : List (Nat × Ev)) : PyData.eqv (rowsD r).py (rowsD q).py = decide (r = q) := by
  simp only [rowsD, D.py, eqv_tup]
  exact eqvAll_map fun x _ y _ => row_eqv x y
theorem cp_eqv (c e : Cp) : PyData.eqv c.d.py e.d.py = decide (c = e) := by
  obtain ⟨a, b, c⟩ := c
  obtain ⟨a', b', c'⟩ := e
  have h := rows_eqv c c'
  simp only [Cp.d, D.py, pyL, eqv_tup, eqvAll_cons, eqv_bl, eqv_int, h, eqvAll_nil]
  by_cases h1 : a = a' <;> by_cases h2 : b = b' <;> by_cases h3 : c = c' <;> simp [h1, h2, h3, ci]
theorem cs_eqv (r q : List Cp) : PyData.eqv (csD r).py (csD q).py = decide (r = q) := by
  simp only [csD, D.py, eqv_tup]
  exact eqvAll_map fun x _ y _ => cp_eqv x y
theorem ld_eqv (l k : Option Nat) : PyData.eqv (ldD l).py (ldD k).py = decide (l = k) := by
  cases l <;> cases k <;> simp [ldD, D.py, PyData.eqv, beq_dec, ci]
theorem sta_eqv (s t : Sta) : PyData.eqv s.d.py t.d.py = decide (s = t) := by
  obtain ⟨a, b, c⟩ := s
  obtain ⟨a', b', c'⟩ := t
  have h := cs_eqv a a'
  have h' := ld_eqv b b'
  simp only [Sta.d, D.py, pyL, eqv_tup, eqvAll_cons, eqv_int, h, h', eqvAll_nil]
  by_cases h1 : a = a' <;> by_cases h2 : b = b' <;> by_cases h3 : c = c' <;> simp [h1, h2, h3, ci]
theorem voters_eqv (r q : List Nat) : PyData.eqv (votersD r).py (votersD q).py = decide (r = q) := by
  simp only [votersD, D.py, eqv_tup]
  exact eqvAll_map fun x _ y _ => by simp [intD, D.py, ci]
end Cop

/-! Plain part 4: primitives on encoded copies. -/
namespace Cop
open Py PySem
section
variable {S : Store} {rs a b : List (Nat × Ev)} {r : Nat × Ev} {c : Cp} {cs ds : List Cp} {s t : Sta} {n : Nat} {l : Option Nat} {ρ : Py.Env}
@[simp] theorem pLen_rows : pLen S [rowsD rs] = some (.int (rs.length : Nat)) := by simp [rowsD]
@[simp] theorem pIdx_row0 : pIdx S (rowD r) (.int 0) = some (.int r.1) := rfl
@[simp] theorem pIdx_row1 : pIdx S (rowD r) (.int 1) = some r.2.d := rfl
@[simp] theorem pIdx_last : pIdx S (rowsD rs) (.int (-1)) = rs.getLast?.map rowD := by simp [rowsD, atI_neg1]
@[simp] theorem pIdx_rows : pIdx S (rowsD rs) (.int (n : Nat)) = rs[n]?.map rowD := by simp [rowsD, atI_nat]
@[simp] theorem pSl_rows : pSl S (rowsD rs) none (some (n : Int)) = some (rowsD (rs.take n)) := by simp [rowsD, cut_take]
@[simp] theorem pSl_rowsS : pSl S (rowsD rs) none (some ((n : Int) + 1)) = some (rowsD (rs.take (n + 1))) := by simp [rowsD, cut_takeS]
@[simp] theorem pEq_rows : pEq S (rowsD a) (rowsD b) = some (.bl (decide (a = b))) := pEq_of (rows_sh a) (rows_sh b) (by omega) (rows_eqv a b)
@[simp] theorem pNe_rows : pNe S (rowsD a) (rowsD b) = some (.bl (!decide (a = b))) := pNe_of (rows_sh a) (rows_sh b) (by omega) (rows_eqv a b)
@[simp] theorem pNe_rows0 : pNe S (rowsD a) (.tup []) = some (.bl (!decide (a = []))) := pNe_rows (b := [])
@[simp] theorem pEq_rows0 : pEq S (rowsD a) (.tup []) = some (.bl (decide (a = []))) := pEq_rows (b := [])
@[simp] theorem seqOf_rows : seqOf S (rowsD rs) = some (rs.map rowD) := rfl
theorem pAdd_rows (h : a.length + b.length ≤ sizeLine) : pAdd S (rowsD a) (rowsD b) = some (rowsD (a ++ b)) := by
  unfold rowsD
  rw [pAdd_tup (by simpa using h), List.map_append]
@[simp] theorem isRef_rows : isRef (rowsD rs) = false := rfl
@[simp] theorem isRef_cp : isRef c.d = false := rfl
@[simp] theorem isRef_cs : isRef (csD cs) = false := rfl
@[simp] theorem itms_rows : itms (rowsD rs) = some (rs.map rowD) := rfl
@[simp] theorem pIdx_cp0 : pIdx S c.d (.int 0) = some (.bl c.up) := rfl
@[simp] theorem pIdx_cp1 : pIdx S c.d (.int 1) = some (.int c.tm) := rfl
@[simp] theorem pIdx_cp2 : pIdx S c.d (.int 2) = some (rowsD c.rows) := rfl
@[simp] theorem pSl_cp1 : pSl S c.d (some 1) none = some (.tup [.int c.tm, rowsD c.rows]) := rfl
@[simp] theorem seqOf_cp : seqOf S c.d = some [.bl c.up, .int c.tm, rowsD c.rows] := rfl
@[simp] theorem gT_cp {g : DGs} : gT 3 g c.d ρ = g [.bl c.up, .int c.tm, rowsD c.rows] ρ := rfl
@[simp] theorem gT_row {g : DGs} : gT 2 g (rowD r) ρ = g [.int r.1, r.2.d] ρ := rfl
@[simp] theorem pLen_cs : pLen S [csD cs] = some (.int (cs.length : Nat)) := by simp [csD]
@[simp] theorem pIdx_cs : pIdx S (csD cs) (.int (n : Nat)) = cs[n]?.map Cp.d := by simp [csD, atI_nat]
@[simp] theorem seqOf_cs : seqOf S (csD cs) = some (cs.map Cp.d) := rfl
@[simp] theorem itms_cs : itms (csD cs) = some (cs.map Cp.d) := rfl
@[simp] theorem en1_cs : en1 [csD cs] = some (enumD (cs.map Cp.d)) := rfl
@[simp] theorem gT_sta {g : DGs} : gT 3 g s.d ρ = g [csD s.cs, ldD s.ld, .int s.many] ρ := rfl
@[simp] theorem pIdx_sta0 : pIdx S s.d (.int 0) = some (csD s.cs) := rfl
@[simp] theorem pIs_ld : pIs S (ldD l) .non = some (.bl (decide (l = none))) := by cases l <;> rfl
@[simp] theorem pIsNot_ld : pIsNot S (ldD l) .non = some (.bl (!decide (l = none))) := by cases l <;> rfl
@[simp] theorem pIs_sta : pIs S s.d .non = some (.bl false) := rfl
@[simp] theorem pIsNot_sta : pIsNot S s.d .non = some (.bl true) := rfl
@[simp] theorem pEq_ld : pEq S (ldD l) (.int (n : Nat)) = some (.bl (decide (l = some n))) := pEq_of (k := 0) (ld_sh l) Sh.int (by omega) (ld_eqv l (some n))
theorem pEq_sta : pEq S s.d t.d = some (.bl (decide (s = t))) := pEq_of (sta_sh s) (sta_sh t) (by omega) (sta_eqv s t)
theorem pNe_sta : pNe S s.d t.d = some (.bl (!decide (s = t))) := pNe_of (sta_sh s) (sta_sh t) (by omega) (sta_eqv s t)
theorem newer_sh {x y : Int} : Sh 1 (.tup [.int x, .int y]) := Sh.tup (by simp; exact ⟨Sh.int, Sh.int⟩)
theorem cmp_ii {x y x' y' : Int} : cmpOk (.tup [.int x, .int y]) (.tup [.int x', .int y']) = true := by
  have h1 := (newer_sh (x := x) (y := y)).shal (by omega)
  have h2 := (newer_sh (x := x') (y := y')).shal (by omega)
  unfold cmpOk
  rw [h1, h2]
  simp [D.py, pyL, PySem.W.alike, PySem.W.alikeAll, isNonD]
@[simp] theorem pGt_ii {x y x' y' : Int} : pGt S (.tup [.int x, .int y]) (.tup [.int x', .int y']) = some (.bl (decide (x' < x ∨ (x' = x ∧ y' < y)))) := by
  unfold pGt
  rw [cmp_ii, if_pos rfl]
  simp only [D.py, pyL]
  rw [PySem.W.dataLt_ii]
@[simp] theorem pLe_ii {x y x' y' : Int} : pLe S (.tup [.int x, .int y]) (.tup [.int x', .int y']) = some (.bl (!decide (x' < x ∨ (x' = x ∧ y' < y)))) := by
  unfold pLe
  rw [cmp_ii, if_pos rfl]
  simp only [D.py, pyL]
  rw [PySem.W.dataLt_ii]
theorem lastT_ne (h : rs ≠ []) : ∃ r, rs.getLast? = some r ∧ lastT rs = r.1 := by
  obtain ⟨r, hr⟩ : ∃ r, rs.getLast? = some r := by
    cases e : rs.getLast? with
    | none => exact absurd (List.getLast?_eq_none_iff.mp e) h
    | some r => exact ⟨r, rfl⟩
  exact ⟨r, hr, by unfold lastT; rw [hr]⟩
theorem lastT_nil : lastT [] = 0 := rfl
theorem upAt_some (h : cs[n]? = some c) : upAt cs n = c.up := by simp [upAt, h]
theorem tmAt_some (h : cs[n]? = some c) : tmAt cs n = c.tm := by simp [tmAt, h]
theorem rowsAt_some (h : cs[n]? = some c) : rowsAt cs n = c.rows := by simp [rowsAt, h]
theorem get_lt (h : n < cs.length) : cs[n]? = some ⟨upAt cs n, tmAt cs n, rowsAt cs n⟩ := by
  have e : cs[n]? = some cs[n] := by simp [h]
  rw [e, upAt_some e, tmAt_some e, rowsAt_some e]
@[simp] theorem fold_cp {u : Bool} {t : Nat} : D.tup [.bl u, .int t, rowsD rs] = Cp.d ⟨u, t, rs⟩ := rfl
@[simp] theorem fold_row {t : Nat} {e : Ev} : D.tup [.int t, e.d] = rowD (t, e) := rfl
@[simp] theorem fold_rows : D.tup (List.map rowD rs ++ [rowD r]) = rowsD (rs ++ [r]) := by simp [rowsD]
@[simp] theorem fold_sta {m : Nat} : D.tup [csD cs, ldD l, .int m] = Sta.d ⟨cs, l, m⟩ := rfl
@[simp] theorem fold_sta0 {m : Nat} : D.tup [csD cs, .non, .int m] = Sta.d ⟨cs, none, m⟩ := rfl
@[simp] theorem fold_sta1 {m : Nat} : D.tup [csD cs, .int (n : Nat), .int m] = Sta.d ⟨cs, some n, m⟩ := rfl
@[simp] theorem ldD_some : ldD (some n) = .int n := rfl
@[simp] theorem ldD_none : ldD none = .non := rfl
@[simp] theorem optD_some : optD (some s) = s.d := rfl
@[simp] theorem optD_none : optD none = .non := rfl
theorem csD_set : D.tup ((cs.map Cp.d).set n c.d) = csD (cs.set n c) := by simp [csD, List.map_set]
end
end Cop

/-! Plain part 5: words apart. -/
namespace Cop
open PySem
@[simp] theorem w_elect_append : (Str.ofString "elect" = Str.ofString "append") = False := eq_false (by decide)
@[simp] theorem w_elect_copy : (Str.ofString "elect" = Str.ofString "copy") = False := eq_false (by decide)
@[simp] theorem w_elect_commit : (Str.ofString "elect" = Str.ofString "commit") = False := eq_false (by decide)
@[simp] theorem w_elect_stop : (Str.ofString "elect" = Str.ofString "stop") = False := eq_false (by decide)
@[simp] theorem w_elect_start : (Str.ofString "elect" = Str.ofString "start") = False := eq_false (by decide)
@[simp] theorem w_elect_off : (Str.ofString "elect" = Str.ofString "off") = False := eq_false (by decide)
@[simp] theorem w_elect_answer : (Str.ofString "elect" = Str.ofString "answer") = False := eq_false (by decide)
@[simp] theorem w_elect_play : (Str.ofString "elect" = Str.ofString "play") = False := eq_false (by decide)
@[simp] theorem w_elect_wrong : (Str.ofString "elect" = Str.ofString "wrong") = False := eq_false (by decide)
@[simp] theorem w_append_elect : (Str.ofString "append" = Str.ofString "elect") = False := eq_false (by decide)
@[simp] theorem w_append_copy : (Str.ofString "append" = Str.ofString "copy") = False := eq_false (by decide)
@[simp] theorem w_append_commit : (Str.ofString "append" = Str.ofString "commit") = False := eq_false (by decide)
@[simp] theorem w_append_stop : (Str.ofString "append" = Str.ofString "stop") = False := eq_false (by decide)
@[simp] theorem w_append_start : (Str.ofString "append" = Str.ofString "start") = False := eq_false (by decide)
@[simp] theorem w_append_off : (Str.ofString "append" = Str.ofString "off") = False := eq_false (by decide)
@[simp] theorem w_append_answer : (Str.ofString "append" = Str.ofString "answer") = False := eq_false (by decide)
@[simp] theorem w_append_play : (Str.ofString "append" = Str.ofString "play") = False := eq_false (by decide)
@[simp] theorem w_append_wrong : (Str.ofString "append" = Str.ofString "wrong") = False := eq_false (by decide)
@[simp] theorem w_copy_elect : (Str.ofString "copy" = Str.ofString "elect") = False := eq_false (by decide)
@[simp] theorem w_copy_append : (Str.ofString "copy" = Str.ofString "append") = False := eq_false (by decide)
@[simp] theorem w_copy_commit : (Str.ofString "copy" = Str.ofString "commit") = False := eq_false (by decide)
@[simp] theorem w_copy_stop : (Str.ofString "copy" = Str.ofString "stop") = False := eq_false (by decide)
@[simp] theorem w_copy_start : (Str.ofString "copy" = Str.ofString "start") = False := eq_false (by decide)
@[simp] theorem w_copy_off : (Str.ofString "copy" = Str.ofString "off") = False := eq_false (by decide)
@[simp] theorem w_copy_answer : (Str.ofString "copy" = Str.ofString "answer") = False := eq_false (by decide)
@[simp] theorem w_copy_play : (Str.ofString "copy" = Str.ofString "play") = False := eq_false (by decide)
@[simp] theorem w_copy_wrong : (Str.ofString "copy" = Str.ofString "wrong") = False := eq_false (by decide)
@[simp] theorem w_commit_elect : (Str.ofString "commit" = Str.ofString "elect") = False := eq_false (by decide)
@[simp] theorem w_commit_append : (Str.ofString "commit" = Str.ofString "append") = False := eq_false (by decide)
@[simp] theorem w_commit_copy : (Str.ofString "commit" = Str.ofString "copy") = False := eq_false (by decide)
@[simp] theorem w_commit_stop : (Str.ofString "commit" = Str.ofString "stop") = False := eq_false (by decide)
@[simp] theorem w_commit_start : (Str.ofString "commit" = Str.ofString "start") = False := eq_false (by decide)
@[simp] theorem w_commit_off : (Str.ofString "commit" = Str.ofString "off") = False := eq_false (by decide)
@[simp] theorem w_commit_answer : (Str.ofString "commit" = Str.ofString "answer") = False := eq_false (by decide)
@[simp] theorem w_commit_play : (Str.ofString "commit" = Str.ofString "play") = False := eq_false (by decide)
@[simp] theorem w_commit_wrong : (Str.ofString "commit" = Str.ofString "wrong") = False := eq_false (by decide)
@[simp] theorem w_stop_elect : (Str.ofString "stop" = Str.ofString "elect") = False := eq_false (by decide)
@[simp] theorem w_stop_append : (Str.ofString "stop" = Str.ofString "append") = False := eq_false (by decide)
@[simp] theorem w_stop_copy : (Str.ofString "stop" = Str.ofString "copy") = False := eq_false (by decide)
@[simp] theorem w_stop_commit : (Str.ofString "stop" = Str.ofString "commit") = False := eq_false (by decide)
@[simp] theorem w_stop_start : (Str.ofString "stop" = Str.ofString "start") = False := eq_false (by decide)
@[simp] theorem w_stop_off : (Str.ofString "stop" = Str.ofString "off") = False := eq_false (by decide)
@[simp] theorem w_stop_answer : (Str.ofString "stop" = Str.ofString "answer") = False := eq_false (by decide)
@[simp] theorem w_stop_play : (Str.ofString "stop" = Str.ofString "play") = False := eq_false (by decide)
@[simp] theorem w_stop_wrong : (Str.ofString "stop" = Str.ofString "wrong") = False := eq_false (by decide)
@[simp] theorem w_start_elect : (Str.ofString "start" = Str.ofString "elect") = False := eq_false (by decide)
@[simp] theorem w_start_append : (Str.ofString "start" = Str.ofString "append") = False := eq_false (by decide)
@[simp] theorem w_start_copy : (Str.ofString "start" = Str.ofString "copy") = False := eq_false (by decide)
@[simp] theorem w_start_commit : (Str.ofString "start" = Str.ofString "commit") = False := eq_false (by decide)
@[simp] theorem w_start_stop : (Str.ofString "start" = Str.ofString "stop") = False := eq_false (by decide)
@[simp] theorem w_start_off : (Str.ofString "start" = Str.ofString "off") = False := eq_false (by decide)
@[simp] theorem w_start_answer : (Str.ofString "start" = Str.ofString "answer") = False := eq_false (by decide)
@[simp] theorem w_start_play : (Str.ofString "start" = Str.ofString "play") = False := eq_false (by decide)
@[simp] theorem w_start_wrong : (Str.ofString "start" = Str.ofString "wrong") = False := eq_false (by decide)
@[simp] theorem w_off_elect : (Str.ofString "off" = Str.ofString "elect") = False := eq_false (by decide)
@[simp] theorem w_off_append : (Str.ofString "off" = Str.ofString "append") = False := eq_false (by decide)
@[simp] theorem w_off_copy : (Str.ofString "off" = Str.ofString "copy") = False := eq_false (by decide)
@[simp] theorem w_off_commit : (Str.ofString "off" = Str.ofString "commit") = False := eq_false (by decide)
@[simp] theorem w_off_stop : (Str.ofString "off" = Str.ofString "stop") = False := eq_false (by decide)
@[simp] theorem w_off_start : (Str.ofString "off" = Str.ofString "start") = False := eq_false (by decide)
@[simp] theorem w_off_answer : (Str.ofString "off" = Str.ofString "answer") = False := eq_false (by decide)
@[simp] theorem w_off_play : (Str.ofString "off" = Str.ofString "play") = False := eq_false (by decide)
@[simp] theorem w_off_wrong : (Str.ofString "off" = Str.ofString "wrong") = False := eq_false (by decide)
@[simp] theorem w_answer_elect : (Str.ofString "answer" = Str.ofString "elect") = False := eq_false (by decide)
@[simp] theorem w_answer_append : (Str.ofString "answer" = Str.ofString "append") = False := eq_false (by decide)
@[simp] theorem w_answer_copy : (Str.ofString "answer" = Str.ofString "copy") = False := eq_false (by decide)
@[simp] theorem w_answer_commit : (Str.ofString "answer" = Str.ofString "commit") = False := eq_false (by decide)
@[simp] theorem w_answer_stop : (Str.ofString "answer" = Str.ofString "stop") = False := eq_false (by decide)
@[simp] theorem w_answer_start : (Str.ofString "answer" = Str.ofString "start") = False := eq_false (by decide)
@[simp] theorem w_answer_off : (Str.ofString "answer" = Str.ofString "off") = False := eq_false (by decide)
@[simp] theorem w_answer_play : (Str.ofString "answer" = Str.ofString "play") = False := eq_false (by decide)
@[simp] theorem w_answer_wrong : (Str.ofString "answer" = Str.ofString "wrong") = False := eq_false (by decide)
@[simp] theorem w_play_elect : (Str.ofString "play" = Str.ofString "elect") = False := eq_false (by decide)
@[simp] theorem w_play_append : (Str.ofString "play" = Str.ofString "append") = False := eq_false (by decide)
@[simp] theorem w_play_copy : (Str.ofString "play" = Str.ofString "copy") = False := eq_false (by decide)
@[simp] theorem w_play_commit : (Str.ofString "play" = Str.ofString "commit") = False := eq_false (by decide)
@[simp] theorem w_play_stop : (Str.ofString "play" = Str.ofString "stop") = False := eq_false (by decide)
@[simp] theorem w_play_start : (Str.ofString "play" = Str.ofString "start") = False := eq_false (by decide)
@[simp] theorem w_play_off : (Str.ofString "play" = Str.ofString "off") = False := eq_false (by decide)
@[simp] theorem w_play_answer : (Str.ofString "play" = Str.ofString "answer") = False := eq_false (by decide)
@[simp] theorem w_play_wrong : (Str.ofString "play" = Str.ofString "wrong") = False := eq_false (by decide)
@[simp] theorem w_wrong_elect : (Str.ofString "wrong" = Str.ofString "elect") = False := eq_false (by decide)
@[simp] theorem w_wrong_append : (Str.ofString "wrong" = Str.ofString "append") = False := eq_false (by decide)
@[simp] theorem w_wrong_copy : (Str.ofString "wrong" = Str.ofString "copy") = False := eq_false (by decide)
@[simp] theorem w_wrong_commit : (Str.ofString "wrong" = Str.ofString "commit") = False := eq_false (by decide)
@[simp] theorem w_wrong_stop : (Str.ofString "wrong" = Str.ofString "stop") = False := eq_false (by decide)
@[simp] theorem w_wrong_start : (Str.ofString "wrong" = Str.ofString "start") = False := eq_false (by decide)
@[simp] theorem w_wrong_off : (Str.ofString "wrong" = Str.ofString "off") = False := eq_false (by decide)
@[simp] theorem w_wrong_answer : (Str.ofString "wrong" = Str.ofString "answer") = False := eq_false (by decide)
@[simp] theorem w_wrong_play : (Str.ofString "wrong" = Str.ofString "play") = False := eq_false (by decide)
open Py
theorem deed_sh (d : Deed) : Sh 4 d.d := by
  cases d with
  | elect n vs => exact (Sh.tup (k := 1) (by simp; exact ⟨Sh.str, Sh.int, voters_sh vs⟩)).mono (by omega)
  | append e => exact (Sh.tup (k := 3) (by simp; exact ⟨Sh.str, ev_sh e⟩))
  | copy n => exact (Sh.tup (k := 0) (by simp; exact ⟨Sh.str, Sh.int⟩)).mono (by omega)
  | commit n => exact (Sh.tup (k := 0) (by simp; exact ⟨Sh.str, Sh.int⟩)).mono (by omega)
  | stop n => exact (Sh.tup (k := 0) (by simp; exact ⟨Sh.str, Sh.int⟩)).mono (by omega)
  | start n => exact (Sh.tup (k := 0) (by simp; exact ⟨Sh.str, Sh.int⟩)).mono (by omega)
theorem deed_ne {S : Store} (d : Deed) : pEq S d.d (.tup []) = some (.bl false) := pEq_of (deed_sh d) (Sh.tup (k := 3) (by simp)) (by omega) (by cases d <;> simp [Deed.d, D.py, pyL])
@[simp] theorem isi_ev {S : Store} (e : Ev) : pIsi S [e.d, .ty "tuple"] = some (.bl true) := by cases e <;> exact isi_tup rfl
def Deed.word : Deed → Str
  | .elect .. => "elect"
  | .append _ => "append"
  | .copy _ => "copy"
  | .commit _ => "commit"
  | .stop _ => "stop"
  | .start _ => "start"
@[simp] theorem isi_deed {S : Store} (d : Deed) : pIsi S [d.d, .ty "tuple"] = some (.bl true) := by cases d <;> exact isi_tup rfl
section
variable {S : Store} {vs ws : List Nat}
@[simp] theorem itms_v : itms (votersD vs) = some (vs.map intD) := rfl
@[simp] theorem pLen_v : pLen S [votersD vs] = some (.int (vs.length : Nat)) := by simp [votersD]
@[simp] theorem pSl_v1 : pSl S (votersD vs) (some 1) none = some (votersD vs.tail) := by simp [votersD, cut_drop1]
@[simp] theorem pIdx_vlast : pIdx S (votersD vs) (.int (-1)) = vs.getLast?.map intD := by simp [votersD, atI_neg1]
@[simp] theorem isi_v : pIsi S [votersD vs, .ty "tuple"] = some (.bl true) := isi_tup rfl
theorem zp_v : zp2 [votersD vs, votersD ws] = some ((vs.zip ws).map fun x => .tup [.int x.1, .int x.2]) := by
  simp only [votersD, zp2_tup]
  rw [List.zip_map, List.map_map]
  rfl
theorem zip_lt : ∀ {vs : List Nat}, vs.Pairwise (· < ·) → (vs.zip vs.tail).all (fun x => decide (x.1 < x.2)) = true
  | [], _ => rfl
  | [x], _ => rfl
  | x :: y :: r, h => by
    obtain ⟨h1, h2⟩ := List.pairwise_cons.mp h
    have ih := zip_lt h2
    simp only [List.tail_cons, List.zip_cons_cons, List.all_cons] at ih ⊢
    rw [ih, decide_eq_true (h1 y List.mem_cons_self)]; rfl
theorem any_v {n : Nat} : (vs.map intD).any (fun y => PyData.eqv y.py (D.int n).py) = decide (n ∈ vs) := by
  induction vs with
  | nil => rfl
  | cons v r ih =>
    rw [List.map_cons, List.any_cons, ih]
    simp only [intD, D.py, eqv_int, ci, List.mem_cons]
    by_cases h1 : v = n
    · simp [h1]
    · have : ¬ n = v := fun z => h1 z.symm
      simp [h1, this]
@[simp] theorem pIn_v {n : Nat} : pIn S (.int n) (votersD vs) = some (.bl (decide (n ∈ vs))) := by
  unfold votersD
  rw [pIn_of (k := 0) Sh.int (fun x hx => by obtain ⟨y, _, rfl⟩ := List.mem_map.mp hx; exact Sh.int) (by omega), any_v]
@[simp] theorem pNotIn_v {n : Nat} : pNotIn S (.int n) (votersD vs) = some (.bl (!decide (n ∈ vs))) := by
  unfold votersD
  rw [pNotIn_of (k := 0) Sh.int (fun x hx => by obtain ⟨y, _, rfl⟩ := List.mem_map.mp hx; exact Sh.int) (by omega), any_v]
theorem sorted_last : ∀ {vs : List Nat} {x : Nat}, vs.Pairwise (· < ·) → vs.getLast? = some x → ∀ v ∈ vs, v ≤ x
  | [], _, _, e, _, h => by cases h
  | [y], x, _, e, v, h => by
    have e1 : y = x := by simpa using e
    have e2 : v = y := by simpa using h
    omega
  | y :: z :: r, x, p, e, v, h => by
    obtain ⟨p1, p2⟩ := List.pairwise_cons.mp p
    have e' : (z :: r).getLast? = some x := by simpa using e
    have ih := sorted_last p2 e'
    rcases List.mem_cons.mp h with q | q
    · subst q
      have a := p1 z List.mem_cons_self
      have b := ih z List.mem_cons_self
      omega
    · exact ih v q
theorem maxI_nat : ∀ {xs : List Nat}, xs ≠ [] → maxI (xs.map fun n : Nat => (n : Int)) = ((xs.foldr max 0 : Nat) : Int)
  | [], h => absurd rfl h
  | [x], _ => by simp [maxI]
  | x :: y :: r, _ => by
    have ih := maxI_nat (xs := y :: r) (by simp)
    have e : maxI ((x :: y :: r).map fun n : Nat => (n : Int)) = if maxI ((y :: r).map fun n : Nat => (n : Int)) > (x : Int) then maxI ((y :: r).map fun n : Nat => (n : Int)) else (x : Int) := rfl
    rw [e, ih, List.foldr_cons (f := max) (b := 0) (a := x)]
    split <;> omega
theorem pMax_map {f : Nat → Nat} (h : vs ≠ []) : pMax S [.lst (vs.map fun v => D.int (f v : Nat))] = some (.int (((vs.map f).foldr max 0 : Nat) : Int)) := by
  show (intsD (vs.map fun v => D.int ((f v : Nat) : Int))).bind (fun ns => if ns = [] then none else some (D.int (maxI ns))) = _
  rw [intsD_of]
  have h2 : vs.map (fun v => ((f v : Nat) : Int)) ≠ [] := by simpa using h
  rw [Option.bind_some, if_neg h2]
  have e : vs.map (fun v => ((f v : Nat) : Int)) = (vs.map f).map fun n : Nat => (n : Int) := by simp
  rw [e, maxI_nat (by simpa using h)]
end
end Cop

/-! Plain part 6: what stays true of copies. -/
namespace Cop
section
variable {cs : List Cp} {c : Cp} {i j T : Nat}
theorem upAt_set : upAt (cs.set i c) j = if j = i ∧ i < cs.length then c.up else upAt cs j := by
  unfold upAt
  by_cases h : i = j
  · subst h
    by_cases hl : i < cs.length
    · simp [hl]
    · simp [hl]
  · have h' : ¬ j = i := fun z => h z.symm
    rw [List.getElem?_set_ne h, if_neg (fun z => h' z.1)]
theorem tmAt_set : tmAt (cs.set i c) j = if j = i ∧ i < cs.length then c.tm else tmAt cs j := by
  unfold tmAt
  by_cases h : i = j
  · subst h
    by_cases hl : i < cs.length
    · simp [hl]
    · simp [hl]
  · have h' : ¬ j = i := fun z => h z.symm
    rw [List.getElem?_set_ne h, if_neg (fun z => h' z.1)]
theorem rowsAt_set : rowsAt (cs.set i c) j = if j = i ∧ i < cs.length then c.rows else rowsAt cs j := by
  unfold rowsAt
  by_cases h : i = j
  · subst h
    by_cases hl : i < cs.length
    · simp [hl]
    · simp [hl]
  · have h' : ¬ j = i := fun z => h z.symm
    rw [List.getElem?_set_ne h, if_neg (fun z => h' z.1)]
theorem putV_len : (putV T cs i).length = cs.length := by simp [putV]
theorem fold_len : ∀ {vs : List Nat} {cs : List Cp}, (vs.foldl (putV T) cs).length = cs.length
  | [], _ => rfl
  | v :: vs, cs => by rw [List.foldl_cons, fold_len, putV_len]
theorem fold_rows' : ∀ {vs : List Nat} {cs : List Cp}, rowsAt (vs.foldl (putV T) cs) i = rowsAt cs i
  | [], _ => rfl
  | v :: vs, cs => by
    rw [List.foldl_cons, fold_rows']
    unfold putV
    rw [rowsAt_set]
    split
    · rename_i h; rw [h.1]
    · rfl
theorem fold_tm : ∀ {vs : List Nat} {cs : List Cp}, (∀ v ∈ vs, v < cs.length) → tmAt (vs.foldl (putV T) cs) i = if i ∈ vs then T else tmAt cs i
  | [], _, _ => by simp
  | v :: vs, cs, h => by
    rw [List.foldl_cons, fold_tm (fun u hu => by rw [putV_len]; exact h u (List.mem_cons_of_mem _ hu))]
    unfold putV
    rw [tmAt_set]
    have hv := h v List.mem_cons_self
    by_cases h1 : i ∈ vs
    · simp [h1]
    · by_cases h2 : i = v
      · subst h2; simp [h1, hv]
      · simp [h1, h2]
theorem fold_up : ∀ {vs : List Nat} {cs : List Cp}, (∀ v ∈ vs, v < cs.length) → upAt (vs.foldl (putV T) cs) i = if i ∈ vs then true else upAt cs i
  | [], _, _ => by simp
  | v :: vs, cs, h => by
    rw [List.foldl_cons, fold_up (fun u hu => by rw [putV_len]; exact h u (List.mem_cons_of_mem _ hu))]
    unfold putV
    rw [upAt_set]
    have hv := h v List.mem_cons_self
    by_cases h1 : i ∈ vs
    · simp [h1]
    · by_cases h2 : i = v
      · subst h2; simp [h1, hv]
      · simp [h1, h2]
end
/-- small enough, by places -/
structure Wb (k : Nat) (s : Sta) : Prop where
  few : s.cs.length ≤ 5
  some_ : 3 ≤ s.cs.length
  ld : ∀ l, s.ld = some l → l < s.cs.length
  rows : ∀ i, (rowsAt s.cs i).length ≤ k
  evs : ∀ i, ∀ r ∈ rowsAt s.cs i, r.2.ok
  many : s.many ≤ k
theorem rowsAt_mem {cs : List Cp} {c : Cp} (h : c ∈ cs) : ∃ i, i < cs.length ∧ cs[i]? = some c ∧ rowsAt cs i = c.rows := by
  obtain ⟨i, hi⟩ := List.getElem?_of_mem h
  exact ⟨i, (List.getElem?_eq_some_iff.mp hi).1, hi, rowsAt_some hi⟩
theorem Wb.wf {k : Nat} {s : Sta} (w : Wb k s) (h : k ≤ 1000) : Wf s := ⟨w.few, w.some_, w.ld, fun c hc => by
  obtain ⟨i, _, _, e⟩ := rowsAt_mem hc
  rw [← e]
  exact Nat.le_trans (w.rows i) h, fun c hc r hr => by
  obtain ⟨i, _, _, e⟩ := rowsAt_mem hc
  exact w.evs i r (by rw [e]; exact hr)⟩
theorem Wb.mono {k k' : Nat} {s : Sta} (w : Wb k s) (h : k ≤ k') : Wb k' s := ⟨w.few, w.some_, w.ld, fun i => Nat.le_trans (w.rows i) h, w.evs, Nat.le_trans w.many h⟩
theorem rowsAt_rep {n i : Nat} : rowsAt (List.replicate n emptyC) i = [] := by
  unfold rowsAt
  rw [List.getElem?_replicate]
  split <;> rfl
theorem ini_rows {n i : Nat} : rowsAt (ini n).cs i = [] := rowsAt_rep
theorem ini_len {n : Nat} : (ini n).cs.length = n := by simp [ini]
theorem ini_wb {n : Nat} (h : n = 3 ∨ n = 5) : Wb 0 (ini n) := by
  refine ⟨?_, ?_, fun l h => ?_, fun i => ?_, fun i r hr => ?_, Nat.le_refl _⟩
  · rw [ini_len]; omega
  · rw [ini_len]; omega
  · cases h
  · rw [ini_rows]; simp
  · rw [ini_rows] at hr; cases hr
theorem behind_wb {k : Nat} {s t : Sta} {d : Deed} (w : Wb k s) (hd : d.ok) (h : behind s d = some t) : Wb (k + 1) t := by
  cases d with
  | elect n vs =>
    simp only [behind, elect] at h
    split at h
    · cases h
    · rename_i hc
      simp only [not_or, not_exists, not_and, Decidable.not_not] at hc
      obtain ⟨h1, h2, h3⟩ := hc
      split at h
      · cases h
        refine ⟨by rw [fold_len]; exact w.few, by rw [fold_len]; exact w.some_, fun l hl => ?_, fun i => by rw [fold_rows']; exact Nat.le_succ_of_le (w.rows i), fun i r hr => by rw [fold_rows'] at hr; exact w.evs i r hr, Nat.le_succ_of_le w.many⟩
        cases hl
        rw [fold_len]
        exact Nat.lt_of_not_le (h2 n h3)
      · cases h
  | append e =>
    simp only [behind, addRow] at h
    split at h
    · cases h
    · rename_i l hl
      cases h
      have hb := w.ld l hl
      refine ⟨by simpa using w.few, by simpa using w.some_, fun l' h' => by cases h'; simpa using hb, fun i => ?_, fun i r hr => ?_, Nat.le_succ_of_le w.many⟩
      · rw [rowsAt_set]
        split
        · simp; exact w.rows l
        · exact Nat.le_succ_of_le (w.rows i)
      · rw [rowsAt_set] at hr
        split at hr
        · rcases List.mem_append.mp hr with q | q
          · exact w.evs l r q
          · rw [List.mem_singleton.mp q]; exact hd
        · exact w.evs i r hr
  | copy n =>
    simp only [behind, copyTo] at h
    split at h
    · cases h
    · rename_i l hl
      split at h
      · cases h
      · cases h
        have hb := w.ld l hl
        refine ⟨by simpa using w.few, by simpa using w.some_, fun l' h' => by cases h'; simpa using hb, fun i => ?_, fun i r hr => ?_, Nat.le_succ_of_le w.many⟩
        · rw [rowsAt_set]
          split
          · exact Nat.le_succ_of_le (w.rows l)
          · exact Nat.le_succ_of_le (w.rows i)
        · rw [rowsAt_set] at hr
          split at hr
          · exact w.evs l r hr
          · exact w.evs i r hr
  | commit n =>
    simp only [behind, commitTo] at h
    split at h
    · cases h
    · rename_i l hl
      split at h
      · cases h
      · rename_i hc
        split at h
        · cases h
        · split at h
          · cases h
            have hc := Decidable.not_not.mp hc
            refine ⟨w.few, w.some_, fun l' h' => by cases h'; exact w.ld l hl, fun i => Nat.le_succ_of_le (w.rows i), w.evs, ?_⟩
            exact Nat.le_succ_of_le (Nat.le_trans hc.2 (w.rows l))
          · cases h
  | stop n =>
    simp only [behind, turn] at h
    split at h
    · cases h
    · cases h
      refine ⟨by simpa using w.few, by simpa using w.some_, fun l' h' => ?_, fun i => ?_, fun i r hr => ?_, Nat.le_succ_of_le w.many⟩
      · simp only at h'
        split at h'
        · cases h'
        · simpa using w.ld l' h'
      · rw [rowsAt_set]
        split
        · exact Nat.le_succ_of_le (w.rows n)
        · exact Nat.le_succ_of_le (w.rows i)
      · rw [rowsAt_set] at hr
        split at hr
        · exact w.evs n r hr
        · exact w.evs i r hr
  | start n =>
    simp only [behind, turn] at h
    split at h
    · cases h
    · cases h
      refine ⟨by simpa using w.few, by simpa using w.some_, fun l' h' => ?_, fun i => ?_, fun i r hr => ?_, Nat.le_succ_of_le w.many⟩
      · simp only at h'
        split at h'
        · cases h'
        · simpa using w.ld l' h'
      · rw [rowsAt_set]
        split
        · exact Nat.le_succ_of_le (w.rows n)
        · exact Nat.le_succ_of_le (w.rows i)
      · rw [rowsAt_set] at hr
        split at hr
        · exact w.evs n r hr
        · exact w.evs i r hr
/-- a play: the deeds ds lead from s through the states ss -/
def Runs : Sta → List Deed → List Sta → Prop
  | s, [], ss => ss = [s]
  | s, d :: ds, ss => ∃ s' ss', behind s d = some s' ∧ ss = s :: ss' ∧ Runs s' ds ss'
theorem Runs.snoc : ∀ {s t t' : Sta} {ds : List Deed} {ss : List Sta} {d : Deed}, Runs s ds ss → ss.getLast? = some t → behind t d = some t' → Runs s (ds ++ [d]) (ss ++ [t'])
  | s, t, t', [], ss, d, h, e, hb => by
    have h : ss = [s] := h
    subst h
    cases e
    exact ⟨t', [t'], hb, rfl, rfl⟩
  | s, t, t', x :: ds, ss, d, ⟨s', ss', h1, h2, h3⟩, e, hb => by
    subst h2
    have e' : ss'.getLast? = some t := by
      cases ss' with
      | nil => cases ds with
        | nil => cases h3
        | cons => obtain ⟨_, _, _, z, _⟩ := h3; cases z
      | cons y r => simpa using e
    exact ⟨s', ss' ++ [t'], h1, rfl, Runs.snoc h3 e' hb⟩
theorem Runs.len : ∀ {s : Sta} {ds : List Deed} {ss : List Sta}, Runs s ds ss → ss.length = ds.length + 1
  | s, [], ss, h => by
    have h : ss = [s] := h
    subst h; rfl
  | s, d :: ds, ss, ⟨s', ss', h1, h2, h3⟩ => by
    subst h2
    simp [Runs.len h3]
end Cop

/-! Plain part 7: what holds of every state that a play comes to. -/
namespace Cop
/-- rows that match -/
def matchR (a b : List (Nat × Ev)) : Prop := ∀ (i : Nat) (x y : Nat × Ev), a[i]? = some x → b[i]? = some y → x.1 = y.1 → a.take (i + 1) = b.take (i + 1)
def cnt (n : Nat) (p : Nat → Bool) : Nat := (List.range n).countP p
theorem cnt_and (n : Nat) (p q : Nat → Bool) : cnt n p + cnt n q ≤ n + cnt n fun i => p i && q i := by
  unfold cnt
  have : ∀ l : List Nat, l.countP p + l.countP q ≤ l.length + l.countP fun i => p i && q i := fun l => by
    induction l with
    | nil => simp
    | cons x xs ih =>
      simp only [List.countP_cons, List.length_cons]
      cases p x <;> cases q x <;> simp <;> omega
  simpa using this (List.range n)
theorem cnt_meet {n : Nat} {p q : Nat → Bool} (h1 : n < 2 * cnt n p) (h2 : n < 2 * cnt n q) : ∃ i, i < n ∧ p i = true ∧ q i = true := by
  have h := cnt_and n p q
  have h0 : 0 < cnt n fun i => p i && q i := by omega
  unfold cnt at h0
  obtain ⟨i, hi, hp⟩ := List.countP_pos_iff.mp h0
  simp only [Bool.and_eq_true] at hp
  exact ⟨i, List.mem_range.mp hi, hp.1, hp.2⟩
theorem cnt_mono {n : Nat} {p q : Nat → Bool} (h : ∀ i, i < n → p i = true → q i = true) : cnt n p ≤ cnt n q :=
  List.countP_mono_left fun i hi hp => h i (List.mem_range.mp hi) hp
theorem cs_range (cs : List Cp) : cs = (List.range cs.length).map fun i => ⟨upAt cs i, tmAt cs i, rowsAt cs i⟩ := by
  refine List.ext_getElem (by simp) fun i h1 h2 => ?_
  simp [upAt, tmAt, rowsAt, h1]
theorem cnt_cs (cs : List Cp) (f : Cp → Bool) : (cs.filter f).length = cnt cs.length fun i => f ⟨upAt cs i, tmAt cs i, rowsAt cs i⟩ := by
  rw [← List.countP_eq_length_filter]
  conv => lhs; rw [cs_range cs]
  rw [List.countP_map]
  rfl
theorem len_sub : ∀ {vs l : List Nat}, vs.Nodup → (∀ v ∈ vs, v ∈ l) → vs.length ≤ l.length
  | [], l, _, _ => by simp
  | v :: vs, l, hn, h => by
    have hv := h v List.mem_cons_self
    have hn' := List.nodup_cons.mp hn
    have := len_sub (l := l.erase v) hn'.2 fun x hx => (List.mem_erase_of_ne (fun (e : x = v) => hn'.1 (by rw [← e]; exact hx))).mpr (h x (List.mem_cons_of_mem _ hx))
    rw [List.length_erase_of_mem hv] at this
    have hp : 0 < l.length := List.length_pos_of_mem hv
    simp only [List.length_cons]
    omega
/-- voters that rise, all below n, are counted by membership -/
theorem cnt_voters {n : Nat} {vs : List Nat} (h : vs.Pairwise (· < ·)) (hb : ∀ v ∈ vs, v < n) : vs.length ≤ cnt n fun i => decide (i ∈ vs) := by
  unfold cnt
  rw [List.countP_eq_length_filter]
  exact len_sub (h.imp fun h => Nat.ne_of_lt h) fun v hv => List.mem_filter.mpr ⟨List.mem_range.mpr (hb v hv), by simpa using hv⟩
structure Inv (s : Sta) (L : Nat) (K : List (Nat × Ev)) : Prop where
  tmL : ∀ i, tmAt s.cs i ≤ L
  maj : s.cs.length < 2 * cnt s.cs.length fun i => decide (tmAt s.cs i = L)
  rowT : ∀ i, ∀ r ∈ rowsAt s.cs i, r.1 ≤ tmAt s.cs i
  mono : ∀ i, (rowsAt s.cs i).Pairwise fun a b => a.1 ≤ b.1
  mat : ∀ i j, matchR (rowsAt s.cs i) (rowsAt s.cs j)
  ldN : ∀ l, s.ld = some l → l < s.cs.length
  ldT : ∀ l, s.ld = some l → tmAt s.cs l = L
  ldL : ∀ l, s.ld = some l → ∀ (i k : Nat) (r : Nat × Ev), (rowsAt s.cs i)[k]? = some r → r.1 = L → (rowsAt s.cs l)[k]? = some r
  ldK : ∀ l, s.ld = some l → K <+: rowsAt s.cs l
  kM : K.length = s.many
  kMaj : s.cs.length < 2 * cnt s.cs.length fun i => decide (K <+: rowsAt s.cs i)
  kT : ∀ i, newer K (rowsAt s.cs i) = false → K <+: rowsAt s.cs i
theorem cnt_true {n : Nat} {p : Nat → Bool} (h : ∀ i, i < n → p i = true) : cnt n p = n := by
  unfold cnt
  have := List.countP_eq_length (p := p) (l := List.range n)
  rw [this.mpr fun i hi => h i (List.mem_range.mp hi), List.length_range]
theorem ini_tm {n i : Nat} : tmAt (ini n).cs i = 0 := by
  unfold tmAt ini emptyC
  simp only [List.getElem?_replicate]
  split <;> rfl
theorem ini_inv {n : Nat} (h : 0 < n) : Inv (ini n) 0 [] := by
  have hl : (ini n).cs.length = n := ini_len
  refine ⟨fun i => by simp [ini_tm], ?_, fun i r hr => by simp [ini_rows] at hr, fun i => by simp [ini_rows], fun i j k x y hx => by simp [ini_rows] at hx, fun l hl => by simp [ini] at hl, fun l hl => by simp [ini] at hl, fun l hl => by simp [ini] at hl, fun l hl => by simp [ini] at hl, rfl, ?_, fun i _ => List.nil_prefix⟩
  · rw [cnt_true fun i _ => by simp [ini_tm]]; omega
  · rw [cnt_true fun i _ => by simp]; omega
theorem turn_inv {s t : Sta} {L n : Nat} {K : List (Nat × Ev)} {up : Bool} (w : Inv s L K) (h : turn s n up = some t) : Inv t L K := by
  unfold turn at h
  split at h
  · cases h
  rename_i hc
  have hn : n < s.cs.length := by omega
  have h := (Option.some.inj h).symm
  have ht : ∀ i, tmAt (s.cs.set n ⟨up, tmAt s.cs n, rowsAt s.cs n⟩) i = tmAt s.cs i := fun i => by
    rw [tmAt_set]
    split
    · rename_i e; rw [e.1]
    · rfl
  have hr : ∀ i, rowsAt (s.cs.set n ⟨up, tmAt s.cs n, rowsAt s.cs n⟩) i = rowsAt s.cs i := fun i => by
    rw [rowsAt_set]
    split
    · rename_i e; rw [e.1]
    · rfl
  have hld : ∀ l, t.ld = some l → s.ld = some l := fun l hl => by
    rw [h] at hl
    dsimp only at hl
    split at hl
    · cases hl
    · exact hl
  have htm : ∀ i, tmAt t.cs i = tmAt s.cs i := fun i => by rw [h]; exact ht i
  have hrw : ∀ i, rowsAt t.cs i = rowsAt s.cs i := fun i => by rw [h]; exact hr i
  have hlen : t.cs.length = s.cs.length := by rw [h]; simp
  have hm : t.many = s.many := by rw [h]
  refine ⟨fun i => by rw [htm]; exact w.tmL i, ?_, fun i r hx => by rw [hrw] at hx; rw [htm]; exact w.rowT i r hx, fun i => by rw [hrw]; exact w.mono i, fun i j => by rw [hrw, hrw]; exact w.mat i j, fun l hl => by rw [hlen]; exact w.ldN l (hld l hl), fun l hl => by rw [htm]; exact w.ldT l (hld l hl), fun l hl i k r h1 h2 => by rw [hrw] at h1 ⊢; exact w.ldL l (hld l hl) i k r h1 h2, fun l hl => by rw [hrw]; exact w.ldK l (hld l hl), by rw [hm]; exact w.kM, ?_, fun i hi => by rw [hrw] at hi ⊢; exact w.kT i hi⟩
  · simp only [htm, hlen]; exact w.maj
  · simp only [hrw, hlen]; exact w.kMaj
end Cop

/-! Plain part 8: the invariant behind a row added. -/
namespace Cop
theorem matchR.symm {a b : List (Nat × Ev)} (h : matchR a b) : matchR b a := fun i x y hx hy e => (h i y x hy hx e.symm).symm
theorem matchR.refl (a : List (Nat × Ev)) : matchR a a := fun i x y hx hy e => rfl
theorem match_snoc {a b : List (Nat × Ev)} {r : Nat × Ev} (h : matchR a b) (hb : ∀ y, b[a.length]? = some y → y.1 ≠ r.1) : matchR (a ++ [r]) b := fun i x y hx hy e => by
  by_cases hi : i < a.length
  · rw [List.getElem?_append_left hi] at hx
    rw [List.take_append_of_le_length (by omega)]
    exact h i x y hx hy e
  · have hl : i < (a ++ [r]).length := (List.getElem?_eq_some_iff.mp hx).1
    simp at hl
    have : i = a.length := by omega
    subst this
    simp at hx
    subst hx
    exact absurd e.symm (hb y hy)
theorem append_inv {s t : Sta} {L : Nat} {K : List (Nat × Ev)} {e : Ev} (w : Inv s L K) (h : addRow s e = some t) : Inv t L K := by
  unfold addRow at h
  split at h
  · cases h
  rename_i l hl
  have h := (Option.some.inj h).symm
  have hlt := w.ldN l hl
  have hT := w.ldT l hl
  have htm : ∀ i, tmAt t.cs i = tmAt s.cs i := fun i => by
    rw [h]; dsimp only
    rw [tmAt_set]
    split
    · rename_i e; rw [e.1]
    · rfl
  have hrw : ∀ i, rowsAt t.cs i = if i = l then rowsAt s.cs l ++ [(L, e)] else rowsAt s.cs i := fun i => by
    rw [h]; dsimp only
    rw [rowsAt_set, hT]
    by_cases hi : i = l
    · rw [if_pos ⟨hi, hlt⟩, if_pos hi]
    · rw [if_neg (fun z => hi z.1), if_neg hi]
  have hlen : t.cs.length = s.cs.length := by rw [h]; simp
  have hm : t.many = s.many := by rw [h]
  have hld : ∀ k, t.ld = some k → k = l := fun k hk => by rw [h] at hk; exact (Option.some.inj hk).symm
  have hno : ∀ j y, (rowsAt s.cs j)[(rowsAt s.cs l).length]? = some y → y.1 ≠ L := fun j y hy hL => by
    have := w.ldL l hl j _ y hy hL
    simp at this
  have hpre : ∀ i, K <+: rowsAt s.cs i → K <+: rowsAt t.cs i := fun i hi => by
    rw [hrw]
    split
    · rename_i e; rw [e] at hi; exact hi.trans (List.prefix_append _ _)
    · exact hi
  have hlow : ∀ i, ∀ r ∈ rowsAt s.cs i, r.1 ≤ L := fun i r hr => Nat.le_trans (w.rowT i r hr) (w.tmL i)
  refine ⟨fun i => by rw [htm]; exact w.tmL i, ?_, fun i r hx => ?_, fun i => ?_, fun i j => ?_, fun k hk => by rw [hlen, hld k hk]; exact hlt, fun k hk => by rw [htm, hld k hk]; exact hT, fun k hk i n r h1 h2 => ?_, fun k hk => hpre k (by rw [hld k hk]; exact w.ldK l hl), by rw [hm]; exact w.kM, ?_, fun i hi => ?_⟩
  · simp only [htm, hlen]; exact w.maj
  · rw [htm]
    rw [hrw] at hx
    split at hx
    · rename_i e
      rw [e]
      rcases List.mem_append.mp hx with hx | hx
      · exact w.rowT l r hx
      · simp at hx; rw [hx, hT]; exact Nat.le_refl _
    · exact w.rowT i r hx
  · rw [hrw]
    split
    · refine List.pairwise_append.mpr ⟨w.mono l, by simp, fun a ha b hb => ?_⟩
      simp at hb
      rw [hb]
      exact hlow l a ha
    · exact w.mono i
  · rw [hrw, hrw]
    by_cases hi : i = l <;> by_cases hj : j = l
    · rw [if_pos hi, if_pos hj]; exact matchR.refl _
    · rw [if_pos hi, if_neg hj]; exact match_snoc (w.mat l j) (hno j)
    · rw [if_neg hi, if_pos hj]; exact (match_snoc (w.mat l i) (hno i)).symm
    · rw [if_neg hi, if_neg hj]; exact w.mat i j
  · rw [hld k hk, hrw, if_pos rfl]
    rw [hrw] at h1
    split at h1
    · exact h1
    · have := w.ldL l hl i n r h1 h2
      rw [List.getElem?_append_left (List.getElem?_eq_some_iff.mp this).1]
      exact this
  · rw [hlen]
    exact Nat.lt_of_lt_of_le w.kMaj (Nat.mul_le_mul_left 2 (cnt_mono fun i _ hp => by simp at hp ⊢; exact hpre i hp))
  · rw [hrw] at hi
    split at hi
    · rename_i e
      exact hpre i (by rw [e]; exact w.ldK l hl)
    · exact hpre i (w.kT i hi)
end Cop

/-! Plain part 9: the invariant behind a copy. -/
namespace Cop
theorem copy_inv {s t : Sta} {L n : Nat} {K : List (Nat × Ev)} (w : Inv s L K) (h : copyTo s n = some t) : Inv t L K := by
  unfold copyTo at h
  split at h
  · cases h
  rename_i l hl
  split at h
  · cases h
  rename_i hc
  have hn : n < s.cs.length := by omega
  have hnl : n ≠ l := fun z => hc (.inl z)
  have h := (Option.some.inj h).symm
  have hlt := w.ldN l hl
  have hT := w.ldT l hl
  have htm : ∀ i, tmAt t.cs i = if i = n then L else tmAt s.cs i := fun i => by
    rw [h]; dsimp only
    rw [tmAt_set, hT]
    by_cases hi : i = n
    · rw [if_pos ⟨hi, hn⟩, if_pos hi]
    · rw [if_neg (fun z => hi z.1), if_neg hi]
  have hrw : ∀ i, rowsAt t.cs i = if i = n then rowsAt s.cs l else rowsAt s.cs i := fun i => by
    rw [h]; dsimp only
    rw [rowsAt_set]
    by_cases hi : i = n
    · rw [if_pos ⟨hi, hn⟩, if_pos hi]
    · rw [if_neg (fun z => hi z.1), if_neg hi]
  -- every copy's rows are rows that were there
  have hid : ∀ i, ∃ j, rowsAt t.cs i = rowsAt s.cs j := fun i => by
    rw [hrw]
    split
    · exact ⟨l, rfl⟩
    · exact ⟨i, rfl⟩
  have hlen : t.cs.length = s.cs.length := by rw [h]; simp
  have hm : t.many = s.many := by rw [h]
  have hld : ∀ k, t.ld = some k → k = l := fun k hk => by rw [h] at hk; exact (Option.some.inj hk).symm
  have hrl : rowsAt t.cs l = rowsAt s.cs l := by rw [hrw, if_neg (fun z => hnl z.symm)]
  have hlow : ∀ i, ∀ r ∈ rowsAt s.cs i, r.1 ≤ L := fun i r hr => Nat.le_trans (w.rowT i r hr) (w.tmL i)
  have hpre : ∀ i, K <+: rowsAt s.cs i → K <+: rowsAt t.cs i := fun i hi => by
    rw [hrw]
    split
    · exact w.ldK l hl
    · exact hi
  refine ⟨fun i => ?_, ?_, fun i r hx => ?_, fun i => ?_, fun i j => ?_, fun k hk => by rw [hlen, hld k hk]; exact hlt, fun k hk => ?_, fun k hk i m r h1 h2 => ?_, fun k hk => hpre k (by rw [hld k hk]; exact w.ldK l hl), by rw [hm]; exact w.kM, ?_, fun i hi => ?_⟩
  · rw [htm]; split
    · exact Nat.le_refl _
    · exact w.tmL i
  · rw [hlen]
    refine Nat.lt_of_lt_of_le w.maj (Nat.mul_le_mul_left 2 (cnt_mono fun i _ hp => ?_))
    simp at hp ⊢
    rw [htm]; split
    · rfl
    · exact hp
  · rw [htm]
    rw [hrw] at hx
    split
    · rename_i e
      rw [if_pos e] at hx
      exact hlow l r hx
    · rename_i e
      rw [if_neg e] at hx
      exact w.rowT i r hx
  · obtain ⟨j, e⟩ := hid i
    rw [e]; exact w.mono j
  · obtain ⟨a, e1⟩ := hid i
    obtain ⟨b, e2⟩ := hid j
    rw [e1, e2]; exact w.mat a b
  · rw [hld k hk, htm, if_neg (fun z => hnl z.symm)]; exact hT
  · rw [hld k hk, hrl]
    obtain ⟨j, e⟩ := hid i
    rw [e] at h1
    exact w.ldL l hl j m r h1 h2
  · rw [hlen]
    exact Nat.lt_of_lt_of_le w.kMaj (Nat.mul_le_mul_left 2 (cnt_mono fun i _ hp => by simp at hp ⊢; exact hpre i hp))
  · obtain ⟨j, e⟩ := hid i
    rw [e] at hi ⊢
    exact w.kT j hi
end Cop

/-! Plain part 10: the invariant behind a commit. -/
namespace Cop
theorem lastT_le {rs : List (Nat × Ev)} {L : Nat} (h : ∀ r ∈ rs, r.1 ≤ L) : lastT rs ≤ L := by
  unfold lastT
  split
  · omega
  · rename_i r e; exact h r (List.mem_of_getLast? e)
theorem commit_inv {s t : Sta} {L k : Nat} {K : List (Nat × Ev)} (w : Inv s L K) (h : commitTo s k = some t) : ∃ l, s.ld = some l ∧ t.ld = some l ∧ t.many = k ∧ K <+: (rowsAt s.cs l).take k ∧ Inv t L ((rowsAt s.cs l).take k) := by
  unfold commitTo at h
  split at h
  · cases h
  rename_i l hl
  split at h
  · cases h
  rename_i h1
  have h1 : s.many < k ∧ k ≤ (rowsAt s.cs l).length := Decidable.not_not.mp h1
  split at h
  · cases h
  rename_i h2
  have h2 : lastT ((rowsAt s.cs l).take k) = tmAt s.cs l := Decidable.not_not.mp h2
  split at h
  · rename_i h3
    have h := (Option.some.inj h).symm
    subst h
    have hT := w.ldT l hl
    have hlow : ∀ i, ∀ r ∈ rowsAt s.cs i, r.1 ≤ L := fun i r hr => Nat.le_trans (w.rowT i r hr) (w.tmL i)
    have hK : K <+: (rowsAt s.cs l).take k := List.prefix_of_prefix_length_le (w.ldK l hl) (List.take_prefix _ _) (by rw [List.length_take, w.kM]; omega)
    have hkl : ((rowsAt s.cs l).take k).length = k := by rw [List.length_take]; omega
    refine ⟨l, hl, rfl, rfl, hK, w.tmL, w.maj, w.rowT, w.mono, w.mat, fun a ha => w.ldN a (hl.trans ha), fun a ha => w.ldT a (hl.trans ha), fun a ha => w.ldL a (hl.trans ha), fun a ha => ?_, hkl, ?_, fun i hi => ?_⟩
    · have : l = a := Option.some.inj ha
      rw [← this]; exact List.take_prefix _ _
    · rw [cnt_cs] at h3
      refine Nat.lt_of_lt_of_le h3 (Nat.mul_le_mul_left 2 (cnt_mono fun i _ hp => ?_))
      simp at hp ⊢
      rw [← hp]; exact List.take_prefix _ _
    · simp only at hi ⊢
      have hL : lastT (rowsAt s.cs i) ≤ L := lastT_le (hlow i)
      unfold newer at hi
      simp only [decide_eq_false_iff_not, hkl, h2, hT] at hi
      have e1 : lastT (rowsAt s.cs i) = L := by omega
      have e2 : k ≤ (rowsAt s.cs i).length := by omega
      have hne : rowsAt s.cs i ≠ [] := fun z => by rw [z] at e2; simp at e2; omega
      have hg : (rowsAt s.cs i)[(rowsAt s.cs i).length - 1]? = some ((rowsAt s.cs i).getLast hne) := by
        rw [← List.getLast?_eq_getElem?, List.getLast?_eq_some_getLast hne]
      have hg1 : ((rowsAt s.cs i).getLast hne).1 = L := by
        unfold lastT at e1
        rw [List.getLast?_eq_some_getLast hne] at e1
        exact e1
      have hg2 := w.ldL l hl i _ _ hg hg1
      have hp : 0 < (rowsAt s.cs i).length := List.length_pos_iff.mpr hne
      have hm := w.mat i l _ _ _ hg hg2 rfl
      rw [show (rowsAt s.cs i).length - 1 + 1 = (rowsAt s.cs i).length by omega, List.take_length] at hm
      rw [hm]
      exact (List.take_prefix_take_left (i := k) (l := rowsAt s.cs l) e2)
  · cases h
end Cop

/-! Plain part 11: the invariant behind an election. -/
namespace Cop
theorem lastT_prefix {a b : List (Nat × Ev)} (h : a <+: b) (hm : b.Pairwise fun x y => x.1 ≤ y.1) : lastT a ≤ lastT b := by
  obtain ⟨z, rfl⟩ := h
  by_cases hz : z = []
  · subst hz; simp
  by_cases ha : a = []
  · subst ha; simp [lastT]
  have e1 : lastT a = (a.getLast ha).1 := by unfold lastT; rw [List.getLast?_eq_some_getLast ha]
  have e2 : lastT (a ++ z) = (z.getLast hz).1 := by
    unfold lastT
    rw [List.getLast?_append, List.getLast?_eq_some_getLast hz]
    rfl
  rw [e1, e2]
  exact (List.pairwise_append.mp hm).2.2 _ (List.getLast_mem ha) _ (List.getLast_mem hz)
theorem newer_prefix {k a b : List (Nat × Ev)} (h : k <+: a) (hm : a.Pairwise fun x y => x.1 ≤ y.1) (hn : newer a b = false) : newer k b = false := by
  have h1 := lastT_prefix h hm
  have h2 := h.length_le
  unfold newer at hn ⊢
  simp only [decide_eq_false_iff_not] at hn ⊢
  omega
theorem maxTm_le {cs : List Cp} {L : Nat} (h : ∀ i, tmAt cs i ≤ L) : ∀ vs : List Nat, maxTm cs vs ≤ L
  | [] => by simp [maxTm]
  | v :: vs => by
    have := maxTm_le h vs
    have h2 := h v
    unfold maxTm at this ⊢
    simp only [List.map_cons, List.foldr_cons]
    omega
theorem le_maxTm {cs : List Cp} : ∀ {vs : List Nat} {v : Nat}, v ∈ vs → tmAt cs v ≤ maxTm cs vs
  | w :: vs, v, h => by
    unfold maxTm
    simp only [List.map_cons, List.foldr_cons]
    rcases List.mem_cons.mp h with h | h
    · subst h; omega
    · have := le_maxTm (cs := cs) h
      unfold maxTm at this
      omega
end Cop

/-! Plain part 12: the invariant behind an election. -/
namespace Cop
theorem elect_inv {s t : Sta} {L n : Nat} {vs : List Nat} {K : List (Nat × Ev)} (w : Inv s L K) (hv : vs.Pairwise (· < ·)) (h : elect s n vs = some t) : t.ld = some n ∧ t.many = s.many ∧ Inv t (L + 1) K := by
  unfold elect at h
  split at h
  · cases h
  rename_i hc
  split at h
  · rename_i hn
    have h := (Option.some.inj h).symm
    have hb : ∀ v ∈ vs, v < s.cs.length := fun v hv => Nat.lt_of_not_le fun z => hc (.inr (.inl ⟨v, hv, z⟩))
    have hmem : n ∈ vs := Decidable.not_not.mp fun z => hc (.inr (.inr z))
    have hmaj : s.cs.length < 2 * cnt s.cs.length fun i => decide (i ∈ vs) := by
      have := cnt_voters hv hb
      omega
    have hT : maxTm s.cs vs = L := by
      obtain ⟨i, _, h1, h2⟩ := cnt_meet hmaj w.maj
      simp at h1 h2
      have := le_maxTm (cs := s.cs) h1
      have := maxTm_le w.tmL vs
      omega
    rw [hT] at h
    have htm : ∀ i, tmAt t.cs i = if i ∈ vs then L + 1 else tmAt s.cs i := fun i => by rw [h]; exact fold_tm hb
    have hrw : ∀ i, rowsAt t.cs i = rowsAt s.cs i := fun i => by rw [h]; exact fold_rows'
    have hlen : t.cs.length = s.cs.length := by rw [h]; exact fold_len
    have hm : t.many = s.many := by rw [h]
    have hl : t.ld = some n := by rw [h]
    have hld : ∀ l, t.ld = some l → l = n := fun l e => by rw [hl] at e; exact (Option.some.inj e).symm
    have hlow : ∀ i, ∀ r ∈ rowsAt s.cs i, r.1 ≤ L := fun i r hr => Nat.le_trans (w.rowT i r hr) (w.tmL i)
    have hK : K <+: rowsAt s.cs n := by
      obtain ⟨i, _, h1, h2⟩ := cnt_meet hmaj w.kMaj
      simp at h1 h2
      exact w.kT n (newer_prefix h2 (w.mono i) (hn i h1).2)
    refine ⟨hl, hm, fun i => ?_, ?_, fun i r hr => ?_, fun i => by rw [hrw]; exact w.mono i, fun i j => by rw [hrw, hrw]; exact w.mat i j, fun l e => by rw [hld l e, hlen]; exact hb n hmem, fun l e => by rw [hld l e, htm, if_pos hmem], fun l e i k r h1 h2 => ?_, fun l e => by rw [hld l e, hrw]; exact hK, by rw [hm]; exact w.kM, ?_, fun i hi => by rw [hrw] at hi ⊢; exact w.kT i hi⟩
    · rw [htm]; split
      · omega
      · have := w.tmL i; omega
    · rw [hlen]
      refine Nat.lt_of_lt_of_le hmaj (Nat.mul_le_mul_left 2 (cnt_mono fun i _ hp => ?_))
      simp at hp ⊢
      rw [htm, if_pos hp]
    · rw [hrw] at hr
      rw [htm]; split
      · have := hlow i r hr; omega
      · exact w.rowT i r hr
    · rw [hrw] at h1
      have := hlow i r (List.mem_of_getElem? h1)
      omega
    · simp only [hrw, hlen]; exact w.kMaj
  · cases h
end Cop

/-! Plain part 13: what the invariant gives. -/
namespace Cop
section
variable {s : Sta} {L : Nat} {K : List (Nat × Ev)}
theorem pre_take {a : List (Nat × Ev)} (h : K <+: a) : a.take K.length = K := (List.prefix_iff_eq_take.mp h).symm
theorem at_mem {cs : List Cp} {c : Cp} (h : c ∈ cs) : ∃ i, i < cs.length ∧ upAt cs i = c.up ∧ tmAt cs i = c.tm ∧ rowsAt cs i = c.rows := by
  obtain ⟨i, hi, e⟩ := List.mem_iff_getElem.mp h
  refine ⟨i, hi, ?_⟩
  simp [upAt, tmAt, rowsAt, hi, e]
/-- a majority has the same first rows as c, then these are what is kept -/
theorem told_is (w : Inv s L K) {c : Cp} (hc : c ∈ s.cs) (h : s.cs.length < 2 * (s.cs.filter fun o => decide (o.rows.take s.many = c.rows.take s.many)).length) : c.rows.take s.many = K := by
  rw [cnt_cs] at h
  obtain ⟨i, _, h1, h2⟩ := cnt_meet h w.kMaj
  simp at h1 h2
  rw [← h1, ← w.kM]
  exact pre_take h2
theorem is_told (w : Inv s L K) : ∃ c ∈ s.cs, s.many ≤ c.rows.length ∧ s.cs.length < 2 * (s.cs.filter fun o => decide (o.rows.take s.many = c.rows.take s.many)).length := by
  obtain ⟨i, hi, h1, _⟩ := cnt_meet w.kMaj w.kMaj
  simp at h1
  refine ⟨s.cs[i], List.getElem_mem hi, ?_, ?_⟩
  · have : rowsAt s.cs i = s.cs[i].rows := by simp [rowsAt, hi]
    rw [← this, ← w.kM]; exact h1.length_le
  · have e : rowsAt s.cs i = s.cs[i].rows := by simp [rowsAt, hi]
    rw [cnt_cs, ← e]
    refine Nat.lt_of_lt_of_le w.kMaj (Nat.mul_le_mul_left 2 (cnt_mono fun j _ hp => ?_))
    simp at hp ⊢
    rw [← w.kM, pre_take hp, pre_take h1]
/-- whoever may be elected has what is kept -/
theorem elect_has (w : Inv s L K) {c : Cp} (hc : c ∈ s.cs) (h : s.cs.length < 2 * (s.cs.filter fun o => o.up && !newer o.rows c.rows).length) : K <+: c.rows := by
  rw [cnt_cs] at h
  obtain ⟨i, _, h1, h2⟩ := cnt_meet h w.kMaj
  simp at h1 h2
  obtain ⟨j, _, _, _, e⟩ := at_mem hc
  rw [← e]
  refine w.kT j (newer_prefix h2 (w.mono i) ?_)
  rw [e]; exact h1.2
end
/-- among some copies one is behind none -/
theorem newest : ∀ {xs : List Cp}, xs ≠ [] → ∃ c ∈ xs, ∀ o ∈ xs, newer o.rows c.rows = false
  | [c], _ => ⟨c, List.mem_singleton.mpr rfl, fun o ho => by
    rw [List.mem_singleton.mp ho]
    unfold newer
    simp⟩
  | c :: d :: xs, _ => by
    obtain ⟨m, hm, h⟩ := newest (xs := d :: xs) (by simp)
    cases hn : newer c.rows m.rows with
    | false => exact ⟨m, List.mem_cons_of_mem _ hm, fun o ho => by
        rcases List.mem_cons.mp ho with e | e
        · rw [e]; exact hn
        · exact h o e⟩
    | true => exact ⟨c, List.mem_cons_self, fun o ho => by
        rcases List.mem_cons.mp ho with e | e
        · rw [e]; unfold newer; simp
        · have := h o e
          unfold newer at this hn ⊢
          simp only [decide_eq_false_iff_not, decide_eq_true_eq] at this hn ⊢
          omega⟩
/-- one may be elected just if a majority is up -/
theorem elect_some {cs : List Cp} (h : cs ≠ []) : (∃ c ∈ cs, c.up = true ∧ cs.length < 2 * (cs.filter fun o => o.up && !newer o.rows c.rows).length) ↔ cs.length < 2 * (cs.filter fun o => o.up).length := by
  constructor
  · rintro ⟨c, _, _, hl⟩
    refine Nat.lt_of_lt_of_le hl (Nat.mul_le_mul_left 2 ?_)
    rw [← List.countP_eq_length_filter, ← List.countP_eq_length_filter]
    exact List.countP_mono_left fun o _ ho => by simp at ho; exact ho.1
  · intro hl
    have hne : (cs.filter fun o => o.up) ≠ [] := fun z => by
      rw [z] at hl
      simp at hl
    obtain ⟨c, hc, hm⟩ := newest hne
    obtain ⟨hc1, hc2⟩ := List.mem_filter.mp hc
    refine ⟨c, hc1, hc2, Nat.lt_of_lt_of_le hl (Nat.mul_le_mul_left 2 ?_)⟩
    rw [← List.countP_eq_length_filter, ← List.countP_eq_length_filter]
    exact List.countP_mono_left fun o ho hu => by
      have := hm o (List.mem_filter.mpr ⟨ho, hu⟩)
      simp [hu, this]
end Cop

/-! Plain part 14: deed by deed. -/
namespace Cop
/-- what is kept behind a deed -/
def keptBy (K : List (Nat × Ev)) (t : Sta) : Deed → List (Nat × Ev)
  | .commit k => (rowsAt t.cs (t.ld.getD 0)).take k
  | _ => K
def termBy (L : Nat) : Deed → Nat
  | .elect _ _ => L + 1
  | _ => L
theorem step_inv {s t : Sta} {L : Nat} {K : List (Nat × Ev)} {d : Deed} (w : Inv s L K) (hd : d.ok) (h : behind s d = some t) : Inv t (termBy L d) (keptBy K t d) ∧ K <+: keptBy K t d := by
  cases d with
  | elect n vs =>
    obtain ⟨_, _, h3⟩ := elect_inv w hd.2.1 h
    exact ⟨h3, List.prefix_refl _⟩
  | append e => exact ⟨append_inv w h, List.prefix_refl _⟩
  | copy n => exact ⟨copy_inv w h, List.prefix_refl _⟩
  | stop n => exact ⟨turn_inv w h, List.prefix_refl _⟩
  | start n => exact ⟨turn_inv w h, List.prefix_refl _⟩
  | commit k =>
    obtain ⟨l, h1, h2, h3, h4, h5⟩ := commit_inv w h
    have hc : t.cs = s.cs := by
      have h : commitTo s k = some t := h
      unfold commitTo at h
      split at h
      · cases h
      split at h
      · cases h
      split at h
      · cases h
      split at h
      · cases h; rfl
      · cases h
    have e : keptBy K t (.commit k) = (rowsAt s.cs l).take k := by
      show (rowsAt t.cs (t.ld.getD 0)).take k = _
      rw [h2, hc]; rfl
    rw [e]
    exact ⟨h5, h4⟩
/-- who leads behind a commit | an election -/
theorem commit_ld {s t : Sta} {k : Nat} (h : behind s (.commit k) = some t) : ∃ l, t.ld = some l ∧ s.ld = some l ∧ t.many = k := by
  have h : commitTo s k = some t := h
  unfold commitTo at h
  split at h
  · cases h
  rename_i l hl
  split at h
  · cases h
  split at h
  · cases h
  split at h
  · cases h; exact ⟨l, rfl, hl, rfl⟩
  · cases h
theorem elect_ld {s t : Sta} {n : Nat} {vs : List Nat} (h : behind s (.elect n vs) = some t) : t.ld = some n := by
  have h : elect s n vs = some t := h
  unfold elect at h
  split at h
  · cases h
  split at h
  · cases h; rfl
  · cases h
theorem Runs.step : ∀ {s : Sta} {ds : List Deed} {ss : List Sta}, Runs s ds ss → ∀ (k : Nat) (d : Deed), ds[k]? = some d → ∃ a b, ss[k]? = some a ∧ ss[k + 1]? = some b ∧ behind a d = some b
  | s, [], ss, _, k, d, e => by simp at e
  | s, x :: ds, ss, ⟨s', ss', h1, h2, h3⟩, k, d, e => by
    subst h2
    cases k with
    | zero =>
      simp at e
      subst e
      refine ⟨s, s', rfl, ?_, h1⟩
      cases ds with
      | nil =>
        have h3 : ss' = [s'] := h3
        subst h3; rfl
      | cons y ds => obtain ⟨_, _, _, e, _⟩ := h3; subst e; rfl
    | succ k =>
      obtain ⟨a, b, e1, e2, e3⟩ := Runs.step h3 k d (by simpa using e)
      exact ⟨a, b, by simpa using e1, by simpa using e2, e3⟩
theorem behind_len {s t : Sta} {d : Deed} (h : behind s d = some t) : t.cs.length = s.cs.length := by
  cases d with
  | elect n vs =>
    have h : elect s n vs = some t := h
    unfold elect at h
    split at h
    · cases h
    split at h
    · cases h; exact fold_len
    · cases h
  | append e =>
    have h : addRow s e = some t := h
    unfold addRow at h
    split at h
    · cases h
    · cases h; simp
  | copy n =>
    have h : copyTo s n = some t := h
    unfold copyTo at h
    split at h
    · cases h
    split at h
    · cases h
    · cases h; simp
  | commit n =>
    have h : commitTo s n = some t := h
    unfold commitTo at h
    split at h
    · cases h
    split at h
    · cases h
    split at h
    · cases h
    split at h
    · cases h; rfl
    · cases h
  | stop n =>
    have h : turn s n false = some t := h
    unfold turn at h
    split at h
    · cases h
    · cases h; simp
  | start n =>
    have h : turn s n true = some t := h
    unfold turn at h
    split at h
    · cases h
    · cases h; simp
theorem events_kept {s : Sta} {L : Nat} {K : List (Nat × Ev)} (w : Inv s L K) (f : (s : Sta) → Cp → Bool)
    (hf : ∀ c, f s c = decide (s.many ≤ c.rows.length ∧ s.cs.length < 2 * (s.cs.filter fun o => decide (o.rows.take s.many = c.rows.take s.many)).length)) :
    ∃ c, s.cs.find? (f s) = some c ∧ c.rows.take s.many = K := by
  obtain ⟨c, hc, h1, h2⟩ := is_told w
  cases e : s.cs.find? (f s) with
  | none =>
    have := List.find?_eq_none.mp e c hc
    rw [hf] at this
    simp only [decide_eq_true_eq] at this
    exact absurd ⟨h1, h2⟩ this
  | some o =>
    have ho := List.mem_of_find?_eq_some e
    have hp := List.find?_some e
    rw [hf] at hp
    simp only [decide_eq_true_eq] at hp
    exact ⟨o, rfl, told_is w ho hp.2⟩
theorem mat_all {s : Sta} {L : Nat} {K : List (Nat × Ev)} (w : Inv s L K) : ∀ c ∈ s.cs, ∀ o ∈ s.cs, matchR c.rows o.rows := fun c hc o ho => by
  obtain ⟨i, _, _, _, e⟩ := at_mem hc
  obtain ⟨j, _, _, _, e'⟩ := at_mem ho
  rw [← e, ← e']
  exact w.mat i j
theorem zip_at {cs : List Cp} {x : Cp × Nat} (h : x ∈ cs.zipIdx) : cs[x.2]? = some x.1 := by
  obtain ⟨h1, h2, h3⟩ := List.mem_zipIdx (x := x.1) (i := x.2) (k := 0) h
  simp at h2 h3
  rw [h3]
  simp [h2]
end Cop

/-! == () of anything. -/
namespace Cop
open Py PySem
theorem pEqT_eq {S : Store} {d r : D} (h : pEq S d (.tup []) = some r) : pEqT S d (.tup []) = some r := by
  unfold pEqT
  split
  · rename_i ds _
    unfold pEq at h
    obtain ⟨h1, rfl⟩ := some_if h
    cases ds with
    | nil => simp [D.py, pyL]
    | cons x r => simp [D.py, pyL]
  · exact h
@[simp] theorem pEqT_tup {S : Store} {ds : List D} : pEqT S (.tup ds) (.tup []) = some (.bl ds.isEmpty) := rfl
theorem deed_neT {S : Store} (d : Deed) : pEqT S d.d (.tup []) = some (.bl false) := pEqT_eq (deed_ne d)
end Cop

/-! Plain: plays with things that are no deeds; the terms of rows. -/
namespace Cop
open Py PySem
/-- a deed, or a thing that is none -/
inductive It where
  | good (d : Deed) | bad (x : D)
def It.d : It → D
  | .good d => d.d
  | .bad x => x
def behindI (s : Sta) : It → Option Sta
  | .good d => behind s d
  | .bad _ => none
def playI : Sta → Nat → List It → Option Sta × Nat
  | s, _, [] => (some s, 0)
  | s, k, it :: r => match behindI s it with
    | none => (none, k)
    | some s' => playI s' (k + 1) r
/-- rows have terms from 1 on -/
structure Pos (s : Sta) : Prop where
  rows : ∀ i, ∀ r ∈ rowsAt s.cs i, 1 ≤ r.1
  ld : ∀ l, s.ld = some l → 1 ≤ tmAt s.cs l
  len : ∀ l, s.ld = some l → l < s.cs.length
theorem ini_pos {n : Nat} : Pos (ini n) := ⟨(fun i r hr => by rw [ini_rows] at hr; cases hr), (fun l h => by cases h), (fun l h => by cases h)⟩
theorem behind_pos {s t : Sta} {d : Deed} (w : Pos s) (h : behind s d = some t) : Pos t := by
  cases d with
  | elect n vs =>
    have h : elect s n vs = some t := h
    unfold elect at h
    split at h
    · cases h
    rename_i hc
    split at h
    · cases h
      have hb : ∀ v ∈ vs, v < s.cs.length := fun v hv => Nat.lt_of_not_le fun z => hc (.inr (.inl ⟨v, hv, z⟩))
      have hn : n ∈ vs := Classical.byContradiction fun z => hc (.inr (.inr z))
      refine ⟨fun i r hr => ?_, fun l hl => ?_, fun l hl => ?_⟩
      · rw [fold_rows'] at hr
        exact w.rows i r hr
      · cases hl
        rw [fold_tm hb, if_pos hn]
        omega
      · cases hl
        rw [fold_len]; exact hb n hn
    · cases h
  | append e =>
    have h : addRow s e = some t := h
    unfold addRow at h
    split at h
    · cases h
    · rename_i l hl
      cases h
      have hlen := w.len l hl
      refine ⟨fun i r hr => ?_, fun k hk => ?_, fun k hk => ?_⟩
      · rw [rowsAt_set] at hr
        split at hr
        · rcases List.mem_append.mp hr with q | q
          · exact w.rows l r q
          · rw [List.mem_singleton.mp q]; exact w.ld l hl
        · exact w.rows i r hr
      · cases hk
        rw [tmAt_set, if_pos ⟨rfl, hlen⟩]
        exact w.ld l hl
      · cases hk
        simpa using hlen
  | copy n =>
    have h : copyTo s n = some t := h
    unfold copyTo at h
    split at h
    · cases h
    rename_i l hl
    split at h
    · cases h
    · rename_i hc
      cases h
      have hlen := w.len l hl
      refine ⟨fun i r hr => ?_, fun k hk => ?_, fun k hk => ?_⟩
      · rw [rowsAt_set] at hr
        split at hr
        · exact w.rows l r hr
        · exact w.rows i r hr
      · cases hk
        rw [tmAt_set]
        split
        · exact w.ld l hl
        · exact w.ld l hl
      · cases hk
        simpa using hlen
  | commit n =>
    have h : commitTo s n = some t := h
    unfold commitTo at h
    split at h
    · cases h
    rename_i l' hl
    split at h
    · cases h
    split at h
    · cases h
    split at h
    · cases h
      exact ⟨w.rows, fun k hk => w.ld k (hl.trans hk), fun k hk => w.len k (hl.trans hk)⟩
    · cases h
  | stop n =>
    have h : turn s n false = some t := h
    unfold turn at h
    split at h
    · cases h
    · cases h
      refine ⟨fun i r hr => ?_, fun k hk => ?_, fun k hk => ?_⟩
      · rw [rowsAt_set] at hr
        split at hr
        · exact w.rows n r hr
        · exact w.rows i r hr
      · simp only at hk
        split at hk
        · cases hk
        · rw [tmAt_set]
          split
          · rename_i e
            rw [← e.1]; exact w.ld k hk
          · exact w.ld k hk
      · simp only at hk
        split at hk
        · cases hk
        · simpa using w.len k hk
  | start n =>
    have h : turn s n true = some t := h
    unfold turn at h
    split at h
    · cases h
    · cases h
      refine ⟨fun i r hr => ?_, fun k hk => ?_, fun k hk => ?_⟩
      · rw [rowsAt_set] at hr
        split at hr
        · exact w.rows n r hr
        · exact w.rows i r hr
      · simp only at hk
        split at hk
        · cases hk
        · rw [tmAt_set]
          split
          · rename_i e
            rw [← e.1]; exact w.ld k hk
          · exact w.ld k hk
      · simp only at hk
        split at hk
        · cases hk
        · simpa using w.len k hk
theorem Runs.pos : ∀ {s : Sta} {ds : List Deed} {ss : List Sta}, Runs s ds ss → Pos s → ∀ t ∈ ss, Pos t
  | s, [], ss, h, w, t, ht => by
    have h : ss = [s] := h
    rw [h] at ht
    rw [List.mem_singleton.mp ht]; exact w
  | s, d :: ds, ss, ⟨s', ss', h1, h2, h3⟩, w, t, ht => by
    subst h2
    rcases List.mem_cons.mp ht with e | e
    · rw [e]; exact w
    · exact Runs.pos h3 (behind_pos w h1) t e
end Cop

/-! Plain: turns of a loop, statements one behind the other; tuples of events. -/
namespace Py
theorem forRun_cons {g : DG} {b : DS} {d : D} {ds : List D} {ρ ρ1 ρ2 : Py.Env} {S S2 : Store} (h1 : g d ρ = some ρ1) (h2 : b ρ1 S = some (.nx ρ2, S2)) : forRun g b (d :: ds) ρ S = forRun g b ds ρ2 S2 := by
  conv => lhs; unfold forRun
  rw [h1]
  dsimp only
  rw [h2]
theorem stm_of {a b : DS} {ρ ρ2 : Py.Env} {S S2 : Store} {r : Res} (h1 : a ρ S = some (.nx ρ2, S2)) (h2 : b ρ2 S2 = r) : dSeq a b ρ S = r := by
  rw [dSeq_ev, h1, seqR_nx, h2]
theorem cutD_mem {ds : List D} {lo hi : Option Int} {x : D} (h : x ∈ cutD ds lo hi) : x ∈ ds := List.mem_of_mem_drop (List.mem_of_mem_take h)
theorem cutD_len {ds : List D} {lo hi : Option Int} : (cutD ds lo hi).length ≤ ds.length := by
  unfold cutD
  rw [List.length_take, List.length_drop]
  omega
theorem stepD_mem {ds : List D} {k : Int} {x : D} (h : x ∈ stepD ds k) : x ∈ ds := by
  unfold stepD at h
  obtain ⟨i, _, e⟩ := List.mem_filterMap.mp h
  exact List.mem_of_getElem? e
theorem of_mem {α : Type} {f : α → D} {P : α → Prop} : ∀ {ds : List D}, (∀ x ∈ ds, ∃ a, P a ∧ f a = x) → ∃ as : List α, (∀ a ∈ as, P a) ∧ as.map f = ds
  | [], _ => ⟨[], by simp, rfl⟩
  | x :: ds, h => by
    obtain ⟨a, h1, h2⟩ := h x List.mem_cons_self
    obtain ⟨as, h3, h4⟩ := of_mem fun y hy => h y (List.mem_cons_of_mem _ hy)
    refine ⟨a :: as, fun b hb => ?_, by rw [List.map_cons, h2, h4]⟩
    rcases List.mem_cons.mp hb with e | e
    · rw [e]; exact h1
    · exact h3 b e
end Py
namespace Cop
open Py PySem
def evsD (es : List Ev) : D := .tup (es.map Ev.d)
theorem evs_sh (es : List Ev) : Sh 4 (evsD es) := Sh.tup fun d hd => by
  obtain ⟨r, _, rfl⟩ := List.mem_map.mp hd
  exact ev_sh r
theorem evs_eqv (r q : List Ev) : PyData.eqv (evsD r).py (evsD q).py = decide (r = q) := by
  simp only [evsD, D.py, eqv_tup]
  exact eqvAll_map fun x _ y _ => ev_eqv x y
end Cop

/-! The program's defs on encoded values. -/
namespace K78
open PySem Py Cop
theorem e_from_to (i lo hi : Int) (S : Store) : f_is_from_to [.int i, .int lo, .int hi] S = .ok (.bl (decide (lo ≤ i ∧ i ≤ hi))) S := by
  simp [f_is_from_to, b_is_from_to, fnEnv, N_is_from_to]
  by_cases h : lo ≤ i <;> simp [h]
theorem e_between (i lo hi : Int) (S : Store) : f_is_between [.int i, .int lo, .int hi] S = .ok (.bl (decide (lo ≤ i ∧ i ≤ hi))) S := by
  simp [f_is_between, b_is_between, fnEnv, N_is_between]
  by_cases h : lo ≤ i <;> simp [h]
theorem flat_rep {α : Type} (k : Nat) (x : α) : (List.replicate k [x]).flatten = List.replicate k x := by
  induction k with
  | zero => rfl
  | succ k ih => rw [List.replicate_succ, List.flatten_cons, ih]; rfl
theorem e_begun (k : Nat) (S : Store) (h : 2 ≤ k ∧ k ≤ 1000) : f_begun_state [.int k] S = .ok (ini k).d S := by
  simp [f_begun_state, b_begun_state, fnEnv, N_begun_state, sizeLine_val]
  rw [pMul_tup ⟨by simp, by omega, by omega, by simp⟩]
  simp [flat_rep, sizeLine_val, ini, Sta.d, csD, ldD, Cp.d, rowsD, emptyC]
theorem e_with_copy (ds : List D) (n : Nat) (d : D) (S : Store) (h : n < ds.length) (hz : ds.length ≤ 1000) : f_with_copy [.tup ds, .int n, d] S = .ok (.tup (ds.set n d)) S := by
  simp [f_with_copy, b_with_copy, fnEnv, N_with_copy, cut_take, cut_dropS, sizeLine_val]
  rw [if_pos (by omega), List.set_eq_take_append_cons_drop, if_pos h]
theorem e_with_cs (cs : List Cp) (n : Nat) (c : Cp) (S : Store) (h : n < cs.length) (hz : cs.length ≤ 1000) : f_with_copy [csD cs, .int n, c.d] S = .ok (csD (cs.set n c)) S := by
  rw [csD, e_with_copy _ _ _ _ (by simpa using h) (by simpa using hz), csD_set]
theorem e_last_term (rs : List (Nat × Ev)) (S : Store) : f_last_term [rowsD rs] S = .ok (.int (lastT rs)) S := by
  simp [f_last_term, b_last_term, fnEnv, N_last_term]
  by_cases h : rs = []
  · subst h; simp [lastT_nil]
  · obtain ⟨r, hr, e⟩ := lastT_ne h
    simp [h, hr, e]
theorem e_are_newer (a b : List (Nat × Ev)) (S : Store) : f_are_newer [rowsD a, rowsD b] S = .ok (.bl (newer a b)) S := by
  simp [f_are_newer, b_are_newer, fnEnv, N_are_newer, e_last_term, sizeLine_val, newer, ci]
theorem e_turned (s : Sta) (n : Nat) (up : Bool) (S : Store) (w : Wf s) : f_turned_state [s.d, .int n, .bl up] S = .ok (optD (turn s n up)) S := by
  have hf := w.few
  by_cases h : s.cs.length ≤ n
  · simp [f_turned_state, b_turned_state, fnEnv, N_turned_state, h, turn]
  · have g := get_lt (cs := s.cs) (n := n) (by omega)
    have e := e_with_cs s.cs n ⟨up, tmAt s.cs n, rowsAt s.cs n⟩ S (by omega) (by omega)
    by_cases hu : upAt s.cs n = up
    · simp [f_turned_state, b_turned_state, fnEnv, N_turned_state, h, turn, g, hu]
    · simp [f_turned_state, b_turned_state, fnEnv, N_turned_state, h, turn, g, hu, sizeLine_val, e]
      by_cases hl : s.ld = some n <;> simp [hl]
theorem e_appended (s : Sta) (e : Ev) (S : Store) (w : Wf s) : f_appended [s.d, e.d] S = .ok (optD (addRow s e)) S := by
  have hf := w.few
  cases hl : s.ld with
  | none => simp [f_appended, b_appended, fnEnv, N_appended, hl, addRow]
  | some l =>
    have hb := w.ld l hl
    have g := get_lt (cs := s.cs) (n := l) hb
    have e' := e_with_cs s.cs l ⟨upAt s.cs l, tmAt s.cs l, rowsAt s.cs l ++ [(tmAt s.cs l, e)]⟩ S hb (by omega)
    have hr := w.rows _ (List.mem_of_getElem? g)
    have hr : (rowsAt s.cs l).length ≤ 1000 := hr
    have hz : (rowsAt s.cs l).length + 1 ≤ 16777216 := by omega
    simp [f_appended, b_appended, fnEnv, N_appended, hl, addRow, g, sizeLine_val, hz, e']
theorem e_copied (s : Sta) (n : Nat) (S : Store) (w : Wf s) : f_copied [s.d, .int n] S = .ok (optD (copyTo s n)) S := by
  have hf := w.few
  cases hl : s.ld with
  | none => simp [f_copied, b_copied, fnEnv, N_copied, hl, copyTo]
  | some l =>
    have hb := w.ld l hl
    have g := get_lt (cs := s.cs) (n := l) hb
    have hin : pIn S (.int n) (.tup [.int l, .int (s.cs.length : Nat)]) = some (.bl (decide (l = n) || decide (s.cs.length = n))) := by
      rw [pIn_of (k := 0) Sh.int (by simp; exact ⟨Sh.int, Sh.int⟩) (by omega)]
      simp [D.py, ci]
    by_cases h1 : l = n
    · subst h1
      simp [f_copied, b_copied, fnEnv, N_copied, hl, copyTo, g, sizeLine_val, hin]
    by_cases h2 : s.cs.length = n
    · subst h2
      simp [f_copied, b_copied, fnEnv, N_copied, hl, copyTo, g, sizeLine_val, hin, h1]
    by_cases h3 : s.cs.length < n
    · have h4 : s.cs.length ≤ n := by omega
      simp [f_copied, b_copied, fnEnv, N_copied, hl, copyTo, g, sizeLine_val, hin, h1, h2, h3, h4]
    · have h4 : ¬ s.cs.length ≤ n := by omega
      have g2 := get_lt (cs := s.cs) (n := n) (by omega)
      have h5 : ¬ n = l := fun z => h1 z.symm
      have e' := e_with_cs s.cs n ⟨true, tmAt s.cs l, rowsAt s.cs l⟩ S (by omega) (by omega)
      cases hu : upAt s.cs n with
      | false => simp [f_copied, b_copied, fnEnv, N_copied, hl, copyTo, g, sizeLine_val, hin, h1, h2, h3, h4, h5, g2, hu]
      | true => simp [f_copied, b_copied, fnEnv, N_copied, hl, copyTo, g, sizeLine_val, hin, h1, h2, h3, h4, h5, g2, hu, e']
theorem take_last (rs : List (Nat × Ev)) (k : Nat) (h : 1 ≤ k) (h2 : k ≤ rs.length) : ∃ r, (rs.take k).getLast? = some r ∧ lastT (rs.take k) = r.1 := by
  refine lastT_ne fun e => ?_
  have := congrArg List.length e
  rw [List.length_take, List.length_nil] at this
  omega
theorem e_committed_state (s : Sta) (k : Nat) (S : Store) (w : Wf s) (hk : 1 ≤ k) : f_committed_state [s.d, .int k] S = .ok (optD (commitTo s k)) S := by
  have hf := w.few
  cases hl : s.ld with
  | none => simp [f_committed_state, b_committed_state, fnEnv, N_committed_state, hl, commitTo]
  | some l =>
    have hb := w.ld l hl
    have g := get_lt (cs := s.cs) (n := l) hb
    by_cases h1 : s.many < k
    · by_cases h2 : k ≤ (rowsAt s.cs l).length
      · obtain ⟨r, hr, e⟩ := take_last _ k hk h2
        by_cases h3 : r.1 = tmAt s.cs l
        · have lc : ∀ ρ : Py.Env, ρ = [some (Sl.val s.d), some (Sl.val (.int k)), some (Sl.val (csD s.cs)), some (Sl.val (.int l)), some (Sl.val (.int s.many)), some (Sl.val (rowsD ((rowsAt s.cs l).take k))), none, none] →
              lcRun (gN 7) (dTest (dOp pEq (dSl (dOp pIdx (dVar 7) (dCst (.int 2))) dNo (dSo (dVar 1))) (dVar 5))) (dVar 7) ρ (s.cs.map Cp.d) [] S = .ok ([] ++ (s.cs.filter fun c => decide (c.rows.take k = (rowsAt s.cs l).take k)).map Cp.d) S := fun ρ hρ => by
            subst hρ
            exact lc_typed (ρ' := fun c => [some (Sl.val s.d), some (Sl.val (.int k)), some (Sl.val (csD s.cs)), some (Sl.val (.int l)), some (Sl.val (.int s.many)), some (Sl.val (rowsD ((rowsAt s.cs l).take k))), none, some (Sl.val c.d)]) (fun c _ => ⟨by simp, by simp, by simp⟩) (by rw [sizeLine_val]; simp; omega)
          have hm : ∀ x : Nat, x ≤ 5 → pMul S (.int 2) (.int x) = some (.int (2 * x)) := fun x hx => pMul_int (by
            have := bits_nat (b := 3) (a := (x : Int)) (by omega)
            have h2 : Builtin.Int.intBits 2 = 2 := by decide
            omega)
          have hx : (s.cs.filter fun c => decide (c.rows.take k = (rowsAt s.cs l).take k)).length ≤ 5 := Nat.le_trans (List.length_filter_le _ _) hf
          simp [f_committed_state, b_committed_state, fnEnv, N_committed_state, hl, commitTo, g, h1, h2, hr, h3, e, wipeE, lc _ rfl]
          rw [hm _ hx]
          simp [sizeLine_val]
          generalize (List.filter (fun c : Cp => decide (List.take k c.rows = List.take k (rowsAt s.cs l))) s.cs).length = x
          by_cases hc : s.cs.length < 2 * x
          · rw [if_pos (by omega), if_pos hc]; rfl
          · rw [if_neg (by omega), if_neg hc]; rfl
        · have h3' : ¬ (r.1 : Int) = tmAt s.cs l := by omega
          simp [f_committed_state, b_committed_state, fnEnv, N_committed_state, hl, commitTo, g, h1, h2, hr, h3, h3', e]
      · simp [f_committed_state, b_committed_state, fnEnv, N_committed_state, hl, commitTo, g, h1, h2]
    · simp [f_committed_state, b_committed_state, fnEnv, N_committed_state, hl, commitTo, h1]
theorem e_is_event (e : Ev) (S : Store) (h : e.ok) : f_is_event [e.d] S = .ok (.bl true) S := by
  cases e with
  | off =>
    have : pEq S (.tup [.str "off"]) (.tup [.str "off"]) = some (.bl true) := pEq_of (ev_sh .off) (ev_sh .off) (by omega) (ev_eqv .off .off)
    simp [f_is_event, b_is_event, fnEnv, N_is_event, Ev.d, sizeLine_val, this]
  | ans a b t n =>
    obtain ⟨h1, h2, h3⟩ := h
    have h0 : pEq S (Ev.ans a b t n).d (.tup [.str "off"]) = some (.bl false) := pEq_of (ev_sh _) (ev_sh .off) (by omega) (ev_eqv _ .off)
    simp [f_is_event, b_is_event, fnEnv, N_is_event, sizeLine_val, h0]
    simp [Ev.d, lcRun, wipeE, sizeLine_val, e_between, pAll, blsD]
    rw [if_pos (by omega)]
    simp; omega
theorem voters_few {vs : List Nat} (h : vs.Pairwise (· < ·)) (h4 : ∀ v ∈ vs, v ≤ 4) : vs.length ≤ 5 := by
  have := (List.Pairwise.imp (S := fun a b => a ≠ b) (fun h => by omega) h : vs.Nodup)
  have hs : vs ⊆ List.range 5 := fun v hv => List.mem_range.mpr (by have := h4 v hv; omega)
  have := List.Nodup.length_le_of_subset this hs
  simpa using this
theorem e_rising (vs : List Nat) (S : Store) (h : vs.Pairwise (· < ·)) (h4 : ∀ v ∈ vs, v ≤ 4) : f_is_rising_numbers [votersD vs, .int 4] S = .ok (.bl true) S := by
  have hl : vs.length ≤ 16777216 := by
    have := voters_few h h4
    omega
  have lc1 : lcRun (gN 2) dYes (dCall 3 f_is_from_to (dCons (dVar 2) (dCons (dCst (.int 0)) (dCons (dVar 1) dNil)))) [some (Sl.val (votersD vs)), some (Sl.val (.int 4)), none, none, none] (vs.map intD) [] S = .ok ([] ++ vs.map fun v => .bl (decide ((v : Int) ≤ 4))) S :=
    lc_typedM (ρ' := fun v => [some (Sl.val (votersD vs)), some (Sl.val (.int 4)), some (Sl.val (intD v)), none, none]) (fun v _ => ⟨by simp, by simp [intD, e_from_to]⟩) (by rw [sizeLine_val]; simpa using hl)
  have a1 : (vs.all fun v => decide ((v : Int) ≤ 4)) = true := List.all_eq_true.mpr fun v hv => decide_eq_true (by have := h4 v hv; omega)
  have lc2 : lcRun (gT 2 (gsC (gN 3) (gsC (gN 4) gs0))) dYes (dOp pLt (dVar 3) (dVar 4)) [some (Sl.val (votersD vs)), some (Sl.val (.int 4)), none, none, none] ((vs.zip vs.tail).map fun x => .tup [.int x.1, .int x.2]) [] S = .ok ([] ++ (vs.zip vs.tail).map fun x => .bl (decide ((x.1 : Int) < x.2))) S :=
    lc_typedM (ρ' := fun x => [some (Sl.val (votersD vs)), some (Sl.val (.int 4)), none, some (Sl.val (.int x.1)), some (Sl.val (.int x.2))]) (fun v _ => ⟨by simp, by simp⟩) (by rw [sizeLine_val]; simp; omega)
  simp only [List.nil_append] at lc1 lc2
  simp [f_is_rising_numbers, b_is_rising_numbers, fnEnv, N_is_rising_numbers, wipeE, lc1, pAll_map, a1, zp_v, lc2]
  intro a b hab
  have := List.all_eq_true.mp (zip_lt h) (a, b) hab
  simpa using this
theorem e_deed_form (d : Deed) (S : Store) (h : d.ok) : f_is_deed_form [d.d] S = .ok (.bl true) S := by
  have hn := deed_neT (S := S) d
  cases d with
  | elect n vs =>
    obtain ⟨h1, h2, h3⟩ := h
    simp [f_is_deed_form, b_is_deed_form, fnEnv, N_is_deed_form, hn]
    simp [Deed.d, e_from_to, e_rising vs S h2 h3]
    omega
  | append e =>
    simp [f_is_deed_form, b_is_deed_form, fnEnv, N_is_deed_form, hn]
    simp [Deed.d, e_is_event e S h]
  | copy n =>
    have hi : pIn S (.str "copy") (.tup [.str "copy", .str "stop", .str "start"]) = some (.bl true) := by
      rw [pIn_of (k := 0) Sh.str (by simp; exact ⟨Sh.str, Sh.str, Sh.str⟩) (by omega)]; simp [D.py]
    simp [f_is_deed_form, b_is_deed_form, fnEnv, N_is_deed_form, hn]
    simp [Deed.d, e_from_to, sizeLine_val, hi]
    have h : n ≤ 4 := h
    omega
  | commit n =>
    obtain ⟨h1, h2⟩ := h
    simp [f_is_deed_form, b_is_deed_form, fnEnv, N_is_deed_form, hn]
    simp [Deed.d, e_from_to]
    omega
  | stop n =>
    have hi : pIn S (.str "stop") (.tup [.str "copy", .str "stop", .str "start"]) = some (.bl true) := by
      rw [pIn_of (k := 0) Sh.str (by simp; exact ⟨Sh.str, Sh.str, Sh.str⟩) (by omega)]; simp [D.py]
    simp [f_is_deed_form, b_is_deed_form, fnEnv, N_is_deed_form, hn]
    simp [Deed.d, e_from_to, sizeLine_val, hi]
    have h : n ≤ 4 := h
    omega
  | start n =>
    have hi : pIn S (.str "start") (.tup [.str "copy", .str "stop", .str "start"]) = some (.bl true) := by
      rw [pIn_of (k := 0) Sh.str (by simp; exact ⟨Sh.str, Sh.str, Sh.str⟩) (by omega)]; simp [D.py]
    simp [f_is_deed_form, b_is_deed_form, fnEnv, N_is_deed_form, hn]
    simp [Deed.d, e_from_to, sizeLine_val, hi]
    have h : n ≤ 4 := h
    omega
theorem e_elected (s : Sta) (n : Nat) (vs : List Nat) (S : Store) (w : Wf s) (h : vs.Pairwise (· < ·)) (h4 : ∀ v ∈ vs, v ≤ 4) : f_elected [s.d, .int n, votersD vs] S = .ok (optD (elect s n vs)) S := by
  have hf := w.few
  have hs := w.some_
  have hl := voters_few h h4
  have hm : pMul S (.int 2) (.int (vs.length : Nat)) = some (.int (2 * (vs.length : Nat))) := pMul_int (by
    have := bits_nat (b := 3) (a := ((vs.length : Nat) : Int)) (by omega)
    have h2 : Builtin.Int.intBits 2 = 2 := by decide
    omega)
  by_cases c1 : 2 * vs.length ≤ s.cs.length
  · have c1' : (2 * (vs.length : Int)) ≤ s.cs.length := by omega
    simp [f_elected, b_elected, fnEnv, N_elected, hm, c1', elect, c1]
  have c1' : ¬ (2 * (vs.length : Int)) ≤ s.cs.length := by omega
  have hv : vs ≠ [] := fun z => by rw [z] at c1; simp at c1
  obtain ⟨x, hx⟩ : ∃ x, vs.getLast? = some x := by
    cases e : vs.getLast? with
    | none => exact absurd (List.getLast?_eq_none_iff.mp e) hv
    | some x => exact ⟨x, rfl⟩
  have xm : x ∈ vs := List.mem_of_getLast? hx
  by_cases c2 : s.cs.length ≤ x
  · have c2' : ∃ v ∈ vs, s.cs.length ≤ v := ⟨x, xm, c2⟩
    simp [f_elected, b_elected, fnEnv, N_elected, hm, c1', elect, c1, hx, intD, c2, c2']
  have c2' : ¬ ∃ v ∈ vs, s.cs.length ≤ v := fun ⟨v, h1, h2⟩ => by
    have := sorted_last h hx v h1
    omega
  by_cases c3 : ¬ n ∈ vs
  · simp [f_elected, b_elected, fnEnv, N_elected, hm, c1', elect, c1, hx, intD, c2, c2', c3]
  have c3 : n ∈ vs := Decidable.not_not.mp c3
  have lt : ∀ v ∈ vs, v < s.cs.length := fun v hv => by
    have := sorted_last h hx v hv
    omega
  have gn := get_lt (lt n c3)
  let env : Py.Env := [some (Sl.val s.d), some (Sl.val (.int n)), some (Sl.val (votersD vs)), some (Sl.val (csD s.cs)), some (Sl.val (ldD s.ld)), some (Sl.val (.int s.many)), none, none]
  have lc1 : lcRun (gN 7) dYes (dAndV (dOp pIdx (dOp pIdx (dVar 3) (dVar 7)) (dCst (.int 0))) (dNotV (dCall 2 f_are_newer (dCons (dOp pIdx (dOp pIdx (dVar 3) (dVar 7)) (dCst (.int 2))) (dCons (dOp pIdx (dOp pIdx (dVar 3) (dVar 1)) (dCst (.int 2))) dNil)))))
      env (vs.map intD) [] S = .ok ([] ++ vs.map fun v => .bl (upAt s.cs v && !newer (rowsAt s.cs v) (rowsAt s.cs n))) S :=
    lc_typedM (ρ' := fun v => env.set 7 (some (Sl.val (intD v)))) (fun v hv => ⟨by simp [env], by
      have gv := get_lt (lt v hv)
      simp [env, intD, gv, gn, e_are_newer]
      cases upAt s.cs v <;> simp⟩) (by rw [sizeLine_val]; simp; omega)
  simp only [List.nil_append, env] at lc1
  by_cases c4 : ¬ (vs.all fun v => upAt s.cs v && !newer (rowsAt s.cs v) (rowsAt s.cs n)) = true
  · have c4' : ¬ ∀ v ∈ vs, upAt s.cs v = true ∧ newer (rowsAt s.cs v) (rowsAt s.cs n) = false := fun z => c4 (List.all_eq_true.mpr fun v hv => by simp [z v hv])
    have c4 : (vs.all fun v => upAt s.cs v && !newer (rowsAt s.cs v) (rowsAt s.cs n)) = false := by simpa using c4
    simp [f_elected, b_elected, fnEnv, N_elected, hm, c1', hx, intD, c2, c3, wipeE, lc1, pAll_map, c4]
    unfold elect
    rw [if_neg (by simp only [not_or]; exact ⟨c1, c2', fun z => z c3⟩), if_neg c4']
    rfl
  have c4 := Decidable.not_not.mp c4
  have c4' : ∀ v ∈ vs, upAt s.cs v = true ∧ newer (rowsAt s.cs v) (rowsAt s.cs n) = false := fun v hv => by
    have := List.all_eq_true.mp c4 v hv
    simpa using this
  have lc2 : lcRun (gN 7) dYes (dOp pIdx (dOp pIdx (dVar 3) (dVar 7)) (dCst (.int 1))) env (vs.map intD) [] S = .ok ([] ++ vs.map fun v => .int (tmAt s.cs v : Nat)) S :=
    lc_typedM (ρ' := fun v => env.set 7 (some (Sl.val (intD v)))) (fun v hv => ⟨by simp [env], by
      have gv := get_lt (lt v hv)
      simp [env, intD, gv]⟩) (by rw [sizeLine_val]; simp; omega)
  simp only [List.nil_append, env] at lc2
  have loop : ∀ (us : List Nat) (cs : List Cp) (y : Option Sl), cs.length = s.cs.length → (∀ v ∈ us, v < s.cs.length) → ∃ y', forRun (gN 7)
      (dSet 3 (qV (dCall 3 f_with_copy (dCons (dVar 3) (dCons (dVar 7) (dCons (dTup (dCons (dCst (.bl true)) (dCons (dVar 6) (dCons (dOp pIdx (dOp pIdx (dVar 3) (dVar 7)) (dCst (.int 2))) dNil)))) dNil))))))
      (us.map intD) [some (Sl.val s.d), some (Sl.val (.int n)), some (Sl.val (votersD vs)), some (Sl.val (csD cs)), some (Sl.val (ldD s.ld)), some (Sl.val (.int s.many)), some (Sl.val (.int (maxTm s.cs vs + 1 : Nat))), y] S =
      some (.nx [some (Sl.val s.d), some (Sl.val (.int n)), some (Sl.val (votersD vs)), some (Sl.val (csD (us.foldl (putV (maxTm s.cs vs + 1)) cs))), some (Sl.val (ldD s.ld)), some (Sl.val (.int s.many)), some (Sl.val (.int (maxTm s.cs vs + 1 : Nat))), y'], S) := by
    intro us
    induction us with
    | nil => exact fun cs y _ _ => ⟨y, rfl⟩
    | cons u us ih =>
      intro cs y hc hu
      have hu1 : u < cs.length := by rw [hc]; exact hu u List.mem_cons_self
      have gu := get_lt hu1
      have e := e_with_cs cs u ⟨true, maxTm s.cs vs + 1, rowsAt cs u⟩ S hu1 (by omega)
      obtain ⟨y', hy⟩ := ih (putV (maxTm s.cs vs + 1) cs u) (some (Sl.val (intD u))) (by simp [putV, hc]) fun v hv => hu v (List.mem_cons_of_mem _ hv)
      refine ⟨y', ?_⟩
      rw [List.map_cons]
      unfold forRun
      simp [intD, gu, sizeLine_val, -Int.natCast_add, e]
      exact hy
  obtain ⟨y', hy⟩ := loop vs s.cs none rfl lt
  have hadd : pAdd S (.int ((maxTm s.cs vs : Nat) : Int)) (.int 1) = some (.int ((maxTm s.cs vs + 1 : Nat) : Int)) := rfl
  have hmax : pMax S [.lst (vs.map fun v => D.int (tmAt s.cs v : Nat))] = some (.int ((maxTm s.cs vs : Nat) : Int)) := pMax_map hv
  simp [f_elected, b_elected, fnEnv, N_elected, hm, c1', hx, intD, c2, c3, wipeE, lc1, pAll_map, c4, lc2, hmax, hadd, hy, -pAdd_int, -Int.natCast_add, sizeLine_val]
  unfold elect
  rw [if_neg (by simp only [not_or]; exact ⟨c1, c2', fun z => z c3⟩), if_pos c4']
  rfl
theorem e_behind (s : Sta) (d : Deed) (S : Store) (w : Wf s) (h : d.ok) : f_behind_deed [s.d, d.d] S = .ok (optD (behind s d)) S := by
  have hf := e_deed_form d S h
  cases d with
  | elect n vs =>
    simp [f_behind_deed, b_behind_deed, fnEnv, N_behind_deed, hf]
    simp [Deed.d, e_elected s n vs S w h.2.1 h.2.2, behind]
  | append e =>
    simp [f_behind_deed, b_behind_deed, fnEnv, N_behind_deed, hf]
    simp [Deed.d, e_appended s e S w, behind]
  | copy n =>
    simp [f_behind_deed, b_behind_deed, fnEnv, N_behind_deed, hf]
    simp [Deed.d, e_copied s n S w, behind]
  | commit n =>
    simp [f_behind_deed, b_behind_deed, fnEnv, N_behind_deed, hf]
    simp [Deed.d, e_committed_state s n S w h.1, behind]
  | stop n =>
    simp [f_behind_deed, b_behind_deed, fnEnv, N_behind_deed, hf]
    simp [Deed.d, e_turned s n false S w, behind]
  | start n =>
    simp [f_behind_deed, b_behind_deed, fnEnv, N_behind_deed, hf]
    simp [Deed.d, e_turned s n true S w, behind]
end K78

/-! The law's own defs on encoded values. -/
namespace K78
open PySem Py Cop
theorem l_put (ds : List D) (n : Nat) (d : D) (S : Store) (hz : ds.length ≤ 1000) : f__law_put [.tup ds, .int n, d] S = .ok (.tup (ds.set n d)) S := by
  have lc : lcRun (gT 2 (gsC (gN 3) (gsC (gN 4) gs0))) dYes (dIf (dTest (dOp pEq (dVar 3) (dVar 1))) (dVar 2) (dVar 4)) [some (Sl.val (.tup ds)), some (Sl.val (.int n)), some (Sl.val d), none, none] (ds.zipIdx.map fun x => D.tup [.int (x.2 : Nat), x.1]) [] S = .ok ([] ++ ds.zipIdx.map fun x => if x.2 = n then d else x.1) S :=
    lc_typedM (ρ' := fun x => [some (Sl.val (.tup ds)), some (Sl.val (.int n)), some (Sl.val d), some (Sl.val (.int (x.2 : Nat))), some (Sl.val x.1)]) (fun x _ => ⟨by simp, by
      by_cases h : x.2 = n <;> simp [h, ci]⟩) (by rw [sizeLine_val]; simp; omega)
  rw [zipIdx_set] at lc
  simp only [List.nil_append] at lc
  simp [f__law_put, b__law_put, fnEnv, N__law_put, enumD_eq, wipeE, lc]
theorem l_put_cs (cs : List Cp) (n : Nat) (c : Cp) (S : Store) (hz : cs.length ≤ 1000) : f__law_put [csD cs, .int n, c.d] S = .ok (csD (cs.set n c)) S := by
  rw [csD, l_put _ _ _ _ (by simpa using hz), csD_set]
theorem l_last (rs : List (Nat × Ev)) (S : Store) : f__law_last [rowsD rs] S = .ok (.tup [.int (lastT rs), .int (rs.length : Nat)]) S := by
  simp [f__law_last, b__law_last, fnEnv, N__law_last, sizeLine_val]
  by_cases h : rs = []
  · subst h; simp [lastT_nil]
  · obtain ⟨r, hr, e⟩ := lastT_ne h
    simp [h, hr, e]
theorem l_number (i lo hi : Int) (S : Store) : f__law_is_number [.int i, .int lo, .int hi] S = .ok (.bl (decide (lo ≤ i ∧ i ≤ hi))) S := by
  simp [f__law_is_number, b__law_is_number, fnEnv, N__law_is_number]
  by_cases h : lo ≤ i <;> simp [h]
theorem l_event (e : Ev) (S : Store) (h : e.ok) : f__law_is_event [e.d] S = .ok (.bl true) S := by
  have hn : pEq S e.d (.tup []) = some (.bl false) := pEq_of (ev_sh e) (Sh.tup (k := 2) (by simp)) (by omega) (by cases e <;> simp [Ev.d, D.py, pyL])
  cases e with
  | off =>
    simp [f__law_is_event, b__law_is_event, fnEnv, N__law_is_event, hn]
    simp [Ev.d]
  | ans a b t n =>
    obtain ⟨h1, h2, h3⟩ := h
    have h1' : (a : Int) ≤ 9 := by omega
    have h2' : (b : Int) ≤ 9 := by omega
    have h3' : (n : Int) ≤ 1000000006 := by omega
    simp [f__law_is_event, b__law_is_event, fnEnv, N__law_is_event, hn]
    simp [Ev.d, lcRun, wipeE, sizeLine_val, l_number, h1', h2', h3', pNe_lst0]
theorem setI_sorted : ∀ {vs : List Nat}, vs.Pairwise (· < ·) → setI (vs.map fun v : Nat => (v : Int)) = vs.map fun v : Nat => (v : Int) := fun h => by
  refine pw_unique setI_pw ?_ fun k => setI_mem
  rw [List.pairwise_map]
  exact h.imp fun h => by omega
theorem l_copy_deed (d : Deed) (S : Store) (h : d.ok) : f__law_is_copy_deed [d.d] S = .ok (.bl true) S := by
  have hn := deed_neT (S := S) d
  cases d with
  | elect n vs =>
    obtain ⟨h1, h2, h3⟩ := h
    have h1' : (n : Int) ≤ 4 := by omega
    have hl := voters_few h2 h3
    have lc : lcRun (gN 1) (dNot (dTest (dCall 3 f__law_is_number (dCons (dVar 1) (dCons (dCst (.int 0)) (dCons (dCst (.int 4)) dNil)))))) (dCst (.int 1)) [some (Sl.val (Deed.elect n vs).d), none] (vs.map intD) [] S = .ok ([] ++ (vs.filter fun _ => false).map fun _ => .int 1) S :=
      lc_typed (ρ' := fun v => [some (Sl.val (Deed.elect n vs).d), some (Sl.val (intD v))]) (fun v hv => ⟨by simp, by
        have : (v : Int) ≤ 4 := by have := h3 v hv; omega
        simp [intD, l_number, this], by simp⟩) (by rw [sizeLine_val]; simp; omega)
    have e1 : vs.filter (fun _ => false) = [] := List.filter_eq_nil_iff.mpr fun _ _ => by simp
    rw [e1] at lc
    simp only [List.nil_append, List.map_nil] at lc
    have ii : intsD (vs.map intD) = some (vs.map fun v : Nat => (v : Int)) := intsD_of vs
    have hq : qSortSet (votersD vs) = some (vs.map intD) := by
      show (intsD (vs.map intD)).bind (fun ns => if ns.length < 64 then some ((setI ns).map D.int) else none) = _
      rw [ii, Option.bind_some, if_pos (by simp; omega), setI_sorted h2, List.map_map]
      rfl
    have he : pEq S (.lst (vs.map intD)) (.lst (vs.map intD)) = some (.bl true) := by
      refine pEq_of (k := 1) (Sh.lst ?_) (Sh.lst ?_) (by omega) ?_
      · intro x hx; obtain ⟨y, _, rfl⟩ := List.mem_map.mp hx; exact Sh.int
      · intro x hx; obtain ⟨y, _, rfl⟩ := List.mem_map.mp hx; exact Sh.int
      · have := voters_eqv vs vs
        simp only [votersD, D.py, eqv_tup] at this
        simp only [D.py, eqv_lst, this]; simp
    have hl2 : qList S [votersD vs] = some (vs.map intD) := rfl
    simp [f__law_is_copy_deed, b__law_is_copy_deed, fnEnv, N__law_is_copy_deed, hn]
    simp [Deed.d] at lc ⊢
    simp [l_number, h1', wipeE, lc, hq, he, hl2, pNe_lst0, sizeLine_val]
  | append e =>
    simp [f__law_is_copy_deed, b__law_is_copy_deed, fnEnv, N__law_is_copy_deed, hn]
    simp [Deed.d, l_event e S h]
  | copy n =>
    have hi : pIn S (.str "copy") (.tup [.str "copy", .str "stop", .str "start"]) = some (.bl true) := by
      rw [pIn_of (k := 0) Sh.str (by simp; exact ⟨Sh.str, Sh.str, Sh.str⟩) (by omega)]; simp [D.py]
    simp [f__law_is_copy_deed, b__law_is_copy_deed, fnEnv, N__law_is_copy_deed, hn]
    simp [Deed.d, l_number, sizeLine_val, hi]
    have h : n ≤ 4 := h
    omega
  | commit n =>
    obtain ⟨h1, h2⟩ := h
    simp [f__law_is_copy_deed, b__law_is_copy_deed, fnEnv, N__law_is_copy_deed, hn]
    simp [Deed.d, l_number]
    omega
  | stop n =>
    have hi : pIn S (.str "stop") (.tup [.str "copy", .str "stop", .str "start"]) = some (.bl true) := by
      rw [pIn_of (k := 0) Sh.str (by simp; exact ⟨Sh.str, Sh.str, Sh.str⟩) (by omega)]; simp [D.py]
    simp [f__law_is_copy_deed, b__law_is_copy_deed, fnEnv, N__law_is_copy_deed, hn]
    simp [Deed.d, l_number, sizeLine_val, hi]
    have h : n ≤ 4 := h
    omega
  | start n =>
    have hi : pIn S (.str "start") (.tup [.str "copy", .str "stop", .str "start"]) = some (.bl true) := by
      rw [pIn_of (k := 0) Sh.str (by simp; exact ⟨Sh.str, Sh.str, Sh.str⟩) (by omega)]; simp [D.py]
    simp [f__law_is_copy_deed, b__law_is_copy_deed, fnEnv, N__law_is_copy_deed, hn]
    simp [Deed.d, l_number, sizeLine_val, hi]
    have h : n ≤ 4 := h
    omega
theorem l_elected (s : Sta) (n : Nat) (vs : List Nat) (S : Store) (w : Wf s) (h : vs.Pairwise (· < ·)) (h4 : ∀ v ∈ vs, v ≤ 4) : f__law_elected [s.d, .int n, votersD vs] S = .ok (optD (elect s n vs)) S := by
  have hf := w.few
  have hs := w.some_
  have hl := voters_few h h4
  have hm : pMul S (.int 2) (.int (vs.length : Nat)) = some (.int (2 * (vs.length : Nat))) := pMul_int (by
    have := bits_nat (b := 3) (a := ((vs.length : Nat) : Int)) (by omega)
    have h2 : Builtin.Int.intBits 2 = 2 := by decide
    omega)
  by_cases c1 : 2 * vs.length ≤ s.cs.length
  · have c1' : (2 * (vs.length : Int)) ≤ s.cs.length := by omega
    simp [f__law_elected, b__law_elected, fnEnv, N__law_elected, hm, c1', elect, c1]
  have c1' : ¬ (2 * (vs.length : Int)) ≤ s.cs.length := by omega
  have hv : vs ≠ [] := fun z => by rw [z] at c1; simp at c1
  by_cases c3 : ¬ n ∈ vs
  · simp [f__law_elected, b__law_elected, fnEnv, N__law_elected, hm, c1', elect, c1, c3]
  have c3 : n ∈ vs := Decidable.not_not.mp c3
  have lc0 : lcRun (gN 6) (dTest (dOp pGe (dVar 6) (dPr pLen (dCons (dVar 3) dNil)))) (dCst (.int 1)) [some (Sl.val s.d), some (Sl.val (.int n)), some (Sl.val (votersD vs)), some (Sl.val (csD s.cs)), some (Sl.val (ldD s.ld)), some (Sl.val (.int s.many)), none, none] (vs.map intD) [] S
      = .ok ([] ++ (vs.filter fun v => decide (s.cs.length ≤ v)).map fun _ => .int 1) S :=
    lc_typed (ρ' := fun v => [some (Sl.val s.d), some (Sl.val (.int n)), some (Sl.val (votersD vs)), some (Sl.val (csD s.cs)), some (Sl.val (ldD s.ld)), some (Sl.val (.int s.many)), some (Sl.val (intD v)), none]) (fun v hv => ⟨by simp, by simp [intD], by simp⟩) (by rw [sizeLine_val]; simp; omega)
  simp only [List.nil_append] at lc0
  have ne0 : pNe S (.lst ((vs.filter fun v => decide (s.cs.length ≤ v)).map fun _ => .int 1)) (.lst []) = some (.bl (!decide ((vs.filter fun v => decide (s.cs.length ≤ v)).map (fun _ => D.int 1) = []))) := pNe_lstN (k := 0) (fun x hx => by obtain ⟨y, _, rfl⟩ := List.mem_map.mp hx; exact Sh.int) (by omega)
  by_cases c2 : ∃ v ∈ vs, s.cs.length ≤ v
  · have c2' : ¬ (vs.filter fun v => decide (s.cs.length ≤ v)).map (fun _ => D.int 1) = [] := fun z => by
      obtain ⟨v, h1, h2⟩ := c2
      have z := List.map_eq_nil_iff.mp z
      have := List.filter_eq_nil_iff.mp z v h1
      simp [h2] at this
    simp only [c2', decide_false] at ne0
    simp [f__law_elected, b__law_elected, fnEnv, N__law_elected, hm, c1', c3, wipeE, lc0, ne0, sizeLine_val]
    unfold elect
    rw [if_pos (.inr (.inl c2))]
    rfl
  have c2' : (vs.filter fun v => decide (s.cs.length ≤ v)).map (fun _ => D.int 1) = [] := by
    rw [List.map_eq_nil_iff, List.filter_eq_nil_iff]
    intro v hv z
    exact c2 ⟨v, hv, of_decide_eq_true z⟩
  rw [c2'] at lc0 ne0
  simp only [decide_true, Bool.not_true] at ne0
  have lt : ∀ v ∈ vs, v < s.cs.length := fun v hv => Nat.lt_of_not_le fun z => c2 ⟨v, hv, z⟩
  have gn := get_lt (lt n c3)
  have loop1 : ∀ (us : List Nat) (y : Option Sl), (∀ v ∈ us, v < s.cs.length) →
      ((∀ v ∈ us, upAt s.cs v = true ∧ newer (rowsAt s.cs v) (rowsAt s.cs n) = false) → ∃ y', forRun (gN 6) (dIfS (dOr (dNot (dTest (dOp pIdx (dOp pIdx (dVar 3) (dVar 6)) (dCst (.int 0))))) (dTest (dOp pGt (dCall 1 f__law_last (dCons (dOp pIdx (dOp pIdx (dVar 3) (dVar 6)) (dCst (.int 2))) dNil)) (dCall 1 f__law_last (dCons (dOp pIdx (dOp pIdx (dVar 3) (dVar 1)) (dCst (.int 2))) dNil))))) (dRet (dCst .non)) dNop)
        (us.map intD) [some (Sl.val s.d), some (Sl.val (.int n)), some (Sl.val (votersD vs)), some (Sl.val (csD s.cs)), some (Sl.val (ldD s.ld)), some (Sl.val (.int s.many)), y, none] S = some (.nx [some (Sl.val s.d), some (Sl.val (.int n)), some (Sl.val (votersD vs)), some (Sl.val (csD s.cs)), some (Sl.val (ldD s.ld)), some (Sl.val (.int s.many)), y', none], S)) ∧
      ((¬ ∀ v ∈ us, upAt s.cs v = true ∧ newer (rowsAt s.cs v) (rowsAt s.cs n) = false) → forRun (gN 6) (dIfS (dOr (dNot (dTest (dOp pIdx (dOp pIdx (dVar 3) (dVar 6)) (dCst (.int 0))))) (dTest (dOp pGt (dCall 1 f__law_last (dCons (dOp pIdx (dOp pIdx (dVar 3) (dVar 6)) (dCst (.int 2))) dNil)) (dCall 1 f__law_last (dCons (dOp pIdx (dOp pIdx (dVar 3) (dVar 1)) (dCst (.int 2))) dNil))))) (dRet (dCst .non)) dNop)
        (us.map intD) [some (Sl.val s.d), some (Sl.val (.int n)), some (Sl.val (votersD vs)), some (Sl.val (csD s.cs)), some (Sl.val (ldD s.ld)), some (Sl.val (.int s.many)), y, none] S = some (.rt .non, S)) := by
    intro us
    induction us with
    | nil => exact fun y _ => ⟨fun _ => ⟨y, rfl⟩, fun z => absurd (fun v hv => by cases hv) z⟩
    | cons u us ih =>
      intro y hu
      have gu := get_lt (hu u List.mem_cons_self)
      have ihu := ih (some (Sl.val (intD u))) fun v hv => hu v (List.mem_cons_of_mem _ hv)
      have step : ∀ r, (if upAt s.cs u = true ∧ newer (rowsAt s.cs u) (rowsAt s.cs n) = false then forRun (gN 6) (dIfS (dOr (dNot (dTest (dOp pIdx (dOp pIdx (dVar 3) (dVar 6)) (dCst (.int 0))))) (dTest (dOp pGt (dCall 1 f__law_last (dCons (dOp pIdx (dOp pIdx (dVar 3) (dVar 6)) (dCst (.int 2))) dNil)) (dCall 1 f__law_last (dCons (dOp pIdx (dOp pIdx (dVar 3) (dVar 1)) (dCst (.int 2))) dNil))))) (dRet (dCst .non)) dNop)
          (us.map intD) [some (Sl.val s.d), some (Sl.val (.int n)), some (Sl.val (votersD vs)), some (Sl.val (csD s.cs)), some (Sl.val (ldD s.ld)), some (Sl.val (.int s.many)), some (Sl.val (intD u)), none] S else some (.rt .non, S)) = r → forRun (gN 6) (dIfS (dOr (dNot (dTest (dOp pIdx (dOp pIdx (dVar 3) (dVar 6)) (dCst (.int 0))))) (dTest (dOp pGt (dCall 1 f__law_last (dCons (dOp pIdx (dOp pIdx (dVar 3) (dVar 6)) (dCst (.int 2))) dNil)) (dCall 1 f__law_last (dCons (dOp pIdx (dOp pIdx (dVar 3) (dVar 1)) (dCst (.int 2))) dNil))))) (dRet (dCst .non)) dNop)
          ((u :: us).map intD) [some (Sl.val s.d), some (Sl.val (.int n)), some (Sl.val (votersD vs)), some (Sl.val (csD s.cs)), some (Sl.val (ldD s.ld)), some (Sl.val (.int s.many)), y, none] S = r := by
        intro r hr
        rw [← hr, List.map_cons]
        conv => lhs; unfold forRun
        have nw : newer (rowsAt s.cs u) (rowsAt s.cs n) = decide (lastT (rowsAt s.cs n) < lastT (rowsAt s.cs u) ∨ (lastT (rowsAt s.cs n) = lastT (rowsAt s.cs u) ∧ (rowsAt s.cs n).length < (rowsAt s.cs u).length)) := rfl
        cases hup : upAt s.cs u with
        | false => simp [intD, gu, gn, l_last, hup]
        | true =>
          by_cases hn : lastT (rowsAt s.cs n) < lastT (rowsAt s.cs u) ∨ (lastT (rowsAt s.cs n) = lastT (rowsAt s.cs u) ∧ (rowsAt s.cs n).length < (rowsAt s.cs u).length)
          · simp [intD, gu, gn, l_last, hup, nw, hn, ci]
          · simp [intD, gu, gn, l_last, hup, nw, hn, ci]
      refine ⟨fun hg => ?_, fun hg => ?_⟩
      · obtain ⟨y', hy⟩ := ihu.1 fun v hv => hg v (List.mem_cons_of_mem _ hv)
        exact ⟨y', step _ (by rw [if_pos (hg u List.mem_cons_self), hy])⟩
      · by_cases hc : upAt s.cs u = true ∧ newer (rowsAt s.cs u) (rowsAt s.cs n) = false
        · refine step _ ?_
          rw [if_pos hc]
          exact ihu.2 fun z => hg fun v hv => by
            rcases List.mem_cons.mp hv with q | q
            · rw [q]; exact hc
            · exact z v q
        · exact step _ (by rw [if_neg hc])
  by_cases c4 : ¬ ∀ v ∈ vs, upAt s.cs v = true ∧ newer (rowsAt s.cs v) (rowsAt s.cs n) = false
  · have l1 := (loop1 vs none lt).2 c4
    simp [f__law_elected, b__law_elected, fnEnv, N__law_elected, hm, c1', c3, wipeE, lc0, ne0, sizeLine_val, l1]
    unfold elect
    rw [if_neg (by simp only [not_or]; exact ⟨c1, c2, fun z => z c3⟩), if_neg c4]
    rfl
  have c4 := Decidable.not_not.mp c4
  obtain ⟨y1, l1⟩ := (loop1 vs none lt).1 c4
  have lc2 : lcRun (gN 6) dYes (dOp pIdx (dOp pIdx (dVar 3) (dVar 6)) (dCst (.int 1))) [some (Sl.val s.d), some (Sl.val (.int n)), some (Sl.val (votersD vs)), some (Sl.val (csD s.cs)), some (Sl.val (ldD s.ld)), some (Sl.val (.int s.many)), none, none] (vs.map intD) [] S
      = .ok ([] ++ vs.map fun v => .int (tmAt s.cs v : Nat)) S :=
    lc_typedM (ρ' := fun v => [some (Sl.val s.d), some (Sl.val (.int n)), some (Sl.val (votersD vs)), some (Sl.val (csD s.cs)), some (Sl.val (ldD s.ld)), some (Sl.val (.int s.many)), some (Sl.val (intD v)), none]) (fun v hv => ⟨by simp, by
      have gv := get_lt (lt v hv)
      simp [intD, gv]⟩) (by rw [sizeLine_val]; simp; omega)
  simp only [List.nil_append] at lc2
  have loop2 : ∀ (us : List Nat) (cs : List Cp) (y : Option Sl), cs.length = s.cs.length → (∀ v ∈ us, v < s.cs.length) → ∃ y', forRun (gN 6)
      (dSet 3 (qV (dCall 3 f__law_put (dCons (dVar 3) (dCons (dVar 6) (dCons (dTup (dCons (dCst (.bl true)) (dCons (dVar 7) (dCons (dOp pIdx (dOp pIdx (dVar 3) (dVar 6)) (dCst (.int 2))) dNil)))) dNil))))))
      (us.map intD) [some (Sl.val s.d), some (Sl.val (.int n)), some (Sl.val (votersD vs)), some (Sl.val (csD cs)), some (Sl.val (ldD s.ld)), some (Sl.val (.int s.many)), y, some (Sl.val (.int (maxTm s.cs vs + 1 : Nat)))] S =
      some (.nx [some (Sl.val s.d), some (Sl.val (.int n)), some (Sl.val (votersD vs)), some (Sl.val (csD (us.foldl (putV (maxTm s.cs vs + 1)) cs))), some (Sl.val (ldD s.ld)), some (Sl.val (.int s.many)), y', some (Sl.val (.int (maxTm s.cs vs + 1 : Nat)))], S) := by
    intro us
    induction us with
    | nil => exact fun cs y _ _ => ⟨y, rfl⟩
    | cons u us ih =>
      intro cs y hc hu
      have hu1 : u < cs.length := by rw [hc]; exact hu u List.mem_cons_self
      have gu := get_lt hu1
      have e := l_put_cs cs u ⟨true, maxTm s.cs vs + 1, rowsAt cs u⟩ S (by omega)
      obtain ⟨y', hy⟩ := ih (putV (maxTm s.cs vs + 1) cs u) (some (Sl.val (intD u))) (by simp [putV, hc]) fun v hv => hu v (List.mem_cons_of_mem _ hv)
      refine ⟨y', ?_⟩
      rw [List.map_cons]
      unfold forRun
      simp [intD, gu, sizeLine_val, -Int.natCast_add, e]
      exact hy
  obtain ⟨y', hy⟩ := loop2 vs s.cs y1 rfl lt
  have hadd : pAdd S (.int 1) (.int ((maxTm s.cs vs : Nat) : Int)) = some (.int ((maxTm s.cs vs + 1 : Nat) : Int)) := by
    rw [pAdd_int, Int.add_comm]; rfl
  have hmax : pMax S [.lst (vs.map fun v => D.int (tmAt s.cs v : Nat))] = some (.int ((maxTm s.cs vs : Nat) : Int)) := pMax_map hv
  have lc2' : ∀ y, lcRun (gN 6) dYes (dOp pIdx (dOp pIdx (dVar 3) (dVar 6)) (dCst (.int 1))) (wipeE [some (Sl.val s.d), some (Sl.val (.int n)), some (Sl.val (votersD vs)), some (Sl.val (csD s.cs)), some (Sl.val (ldD s.ld)), some (Sl.val (.int s.many)), y, none] [6]) (vs.map intD) [] S = .ok (vs.map fun v => .int (tmAt s.cs v : Nat)) S := fun y => lc2
  have lc0' : lcRun (gN 6) (dTest (dOp pGe (dVar 6) (dPr pLen (dCons (dVar 3) dNil)))) (dCst (.int 1)) (wipeE [some (Sl.val s.d), some (Sl.val (.int n)), some (Sl.val (votersD vs)), some (Sl.val (csD s.cs)), some (Sl.val (ldD s.ld)), some (Sl.val (.int s.many)), none, none] [6]) (vs.map intD) [] S = .ok [] S := lc0
  simp [f__law_elected, b__law_elected, fnEnv, N__law_elected, hm, c1', c3, lc0', ne0, sizeLine_val, l1, lc2', hmax, hadd, hy, -pAdd_int, -Int.natCast_add]
  unfold elect
  rw [if_neg (by simp only [not_or]; exact ⟨c1, c2, fun z => z c3⟩), if_pos c4]
  rfl
theorem l_behind (s : Sta) (d : Deed) (S : Store) (w : Wf s) (h : d.ok) : f__law_behind [s.d, d.d] S = .ok (optD (behind s d)) S := by
  have hc := l_copy_deed d S h
  have hf := w.few
  have hin : ∀ x : Str, pIn S (.str x) (.tup [.str "stop", .str "start"]) = some (.bl (decide (Str.ofString "stop" = x) || decide (Str.ofString "start" = x))) := fun x => by
    rw [pIn_of (k := 0) Sh.str (by simp; exact ⟨Sh.str, Sh.str⟩) (by omega)]
    simp [D.py]
  cases d with
  | elect n vs =>
    simp [f__law_behind, b__law_behind, fnEnv, N__law_behind, hc]
    simp [Deed.d, l_elected s n vs S w h.2.1 h.2.2, behind]
  | append e =>
    simp [f__law_behind, b__law_behind, fnEnv, N__law_behind, hc, behind]
    cases hl : s.ld with
    | none => simp [Deed.d, hl, addRow, hin, sizeLine_val]
    | some l =>
      have hb := w.ld l hl
      have g := get_lt (cs := s.cs) (n := l) hb
      have e' := l_put_cs s.cs l ⟨upAt s.cs l, tmAt s.cs l, rowsAt s.cs l ++ [(tmAt s.cs l, e)]⟩ S (by omega)
      have hr := w.rows _ (List.mem_of_getElem? g)
      have hr : (rowsAt s.cs l).length ≤ 1000 := hr
      have hz : pAdd S (rowsD (rowsAt s.cs l)) (.tup [rowD (tmAt s.cs l, e)]) = some (rowsD (rowsAt s.cs l ++ [(tmAt s.cs l, e)])) := pAdd_rows (b := [(tmAt s.cs l, e)]) (by rw [sizeLine_val]; simp; omega)
      simp [Deed.d, hl, addRow, hin, sizeLine_val, g, hz, e']
  | copy n =>
    simp [f__law_behind, b__law_behind, fnEnv, N__law_behind, hc, behind]
    cases hl : s.ld with
    | none => simp [Deed.d, hl, copyTo, hin, sizeLine_val]
    | some l =>
      have hb := w.ld l hl
      have g := get_lt (cs := s.cs) (n := l) hb
      by_cases h1 : s.cs.length ≤ n
      · simp [Deed.d, hl, copyTo, hin, sizeLine_val, g, h1]
      have g2 := get_lt (cs := s.cs) (n := n) (by omega)
      by_cases h2 : n = l
      · subst h2
        simp [Deed.d, hl, copyTo, hin, sizeLine_val, g, h1]
      have e' := l_put_cs s.cs n ⟨true, tmAt s.cs l, rowsAt s.cs l⟩ S (by omega)
      cases hu : upAt s.cs n with
      | false => simp [Deed.d, hl, copyTo, hin, sizeLine_val, g, h1, h2, g2, hu, ci]
      | true => simp [Deed.d, hl, copyTo, hin, sizeLine_val, g, h1, h2, g2, hu, e', ci]
  | commit k =>
    simp [f__law_behind, b__law_behind, fnEnv, N__law_behind, hc, behind]
    cases hl : s.ld with
    | none => simp [Deed.d, hl, commitTo, hin, sizeLine_val]
    | some l =>
      have hb := w.ld l hl
      have g := get_lt (cs := s.cs) (n := l) hb
      have hk := h.1
      by_cases h1 : s.many < k
      · by_cases h2 : k ≤ (rowsAt s.cs l).length
        · obtain ⟨r, hr, e⟩ := take_last _ k hk h2
          have hnot : ¬ (rowsAt s.cs l).length < k := by omega
          by_cases h3 : r.1 = tmAt s.cs l
          · have lc : ∀ x6 x7 x8 : Sl, lcRun (gN 11) (dTest (dOp pEq (dSl (dOp pIdx (dVar 11) (dCst (.int 2))) dNo (dSo (dOp pIdx (dVar 1) (dCst (.int 1))))) (dVar 9))) (dCst (.int 1))
                [some (Sl.val s.d), some (Sl.val (.tup [.str "commit", .int k])), some (Sl.val (csD s.cs)), some (Sl.val (.int l)), some (Sl.val (.int s.many)), none, some x6, some x7, some x8, some (Sl.val (rowsD ((rowsAt s.cs l).take k))), none, none] (s.cs.map Cp.d) [] S
                = .ok ([] ++ (s.cs.filter fun c => decide (c.rows.take k = (rowsAt s.cs l).take k)).map fun _ => .int 1) S := fun x6 x7 x8 =>
              lc_typed (ρ' := fun c => [some (Sl.val s.d), some (Sl.val (.tup [.str "commit", .int k])), some (Sl.val (csD s.cs)), some (Sl.val (.int l)), some (Sl.val (.int s.many)), none, some x6, some x7, some x8, some (Sl.val (rowsD ((rowsAt s.cs l).take k))), none, some (Sl.val c.d)]) (fun c _ => ⟨by simp, by simp, by simp⟩) (by rw [sizeLine_val]; simp; omega)
            simp only [List.nil_append] at lc
            have hm : ∀ x : Nat, x ≤ 5 → pMul S (.int 2) (.int x) = some (.int (2 * x)) := fun x hx => pMul_int (by
              have := bits_nat (b := 3) (a := (x : Int)) (by omega)
              have h2 : Builtin.Int.intBits 2 = 2 := by decide
              omega)
            have hx : (s.cs.filter fun c => decide (c.rows.take k = (rowsAt s.cs l).take k)).length ≤ 5 := Nat.le_trans (List.length_filter_le _ _) hf
            have hm := hm _ hx
            simp [Deed.d, hl, commitTo, hin, sizeLine_val, g, h1, h2, hnot, hr, h3, e, wipeE, lc, hm]
            generalize (List.filter (fun c : Cp => decide (List.take k c.rows = List.take k (rowsAt s.cs l))) s.cs).length = x
            by_cases hc : s.cs.length < 2 * x
            · rw [if_pos (by omega), if_pos hc]; rfl
            · rw [if_neg (by omega), if_neg hc]; rfl
          · have h3' : ¬ (r.1 : Int) = tmAt s.cs l := by omega
            simp [Deed.d, hl, commitTo, hin, sizeLine_val, g, h1, h2, hnot, hr, h3, h3', e]
        · have hnot : (rowsAt s.cs l).length < k := by omega
          simp [Deed.d, hl, commitTo, hin, sizeLine_val, g, h1, h2, hnot]
      · simp [Deed.d, hl, commitTo, hin, sizeLine_val, g, h1]
  | stop n =>
    simp [f__law_behind, b__law_behind, fnEnv, N__law_behind, hc, behind]
    by_cases h1 : s.cs.length ≤ n
    · simp [Deed.d, turn, hin, sizeLine_val, h1]
    have g2 := get_lt (cs := s.cs) (n := n) (by omega)
    have e' := l_put_cs s.cs n ⟨false, tmAt s.cs n, rowsAt s.cs n⟩ S (by omega)
    cases hu : upAt s.cs n with
    | false => simp [Deed.d, turn, hin, sizeLine_val, h1, g2, hu]
    | true =>
      have hpa : pAdd S (.tup [.bl false]) (.tup [.int (tmAt s.cs n), rowsD (rowsAt s.cs n)]) = some (Cp.d ⟨false, tmAt s.cs n, rowsAt s.cs n⟩) := pAdd_tup (by rw [sizeLine_val]; simp)
      by_cases hl : s.ld = some n
      · simp [Deed.d, turn, hin, sizeLine_val, h1, g2, hu, hpa, e', hl]
      · simp [Deed.d, turn, hin, sizeLine_val, h1, g2, hu, hpa, e', hl]
  | start n =>
    simp [f__law_behind, b__law_behind, fnEnv, N__law_behind, hc, behind]
    by_cases h1 : s.cs.length ≤ n
    · simp [Deed.d, turn, hin, sizeLine_val, h1]
    have g2 := get_lt (cs := s.cs) (n := n) (by omega)
    have e' := l_put_cs s.cs n ⟨true, tmAt s.cs n, rowsAt s.cs n⟩ S (by omega)
    cases hu : upAt s.cs n with
    | true => simp [Deed.d, turn, hin, sizeLine_val, h1, g2, hu]
    | false =>
      have hpa : pAdd S (.tup [.bl true]) (.tup [.int (tmAt s.cs n), rowsD (rowsAt s.cs n)]) = some (Cp.d ⟨true, tmAt s.cs n, rowsAt s.cs n⟩) := pAdd_tup (by rw [sizeLine_val]; simp)
      by_cases hl : s.ld = some n
      · simp [Deed.d, turn, hin, sizeLine_val, h1, g2, hu, hpa, e', hl]
      · simp [Deed.d, turn, hin, sizeLine_val, h1, g2, hu, hpa, e', hl]
end K78

/-! The kettle: numbers drawn. -/
namespace K78
open PySem Py Cop
/-- a kettle stands at n, from which at most c more was poured -/
def Kt (S : Store) (n : Nat) (c : Nat) : Prop := ∃ a b e : Nat, S[n]? = some (.lst [.int a, .int b, .int e]) ∧ b < 2 ^ 100 ∧ e ≤ c
/-- nothing but the object at n changed -/
structure Sm (n : Nat) (S S' : Store) : Prop where
  len : S'.length = S.length
  ne : ∀ k, k ≠ n → S'[k]? = S[k]?
theorem Sm.refl {n : Nat} {S : Store} : Sm n S S := ⟨rfl, fun _ _ => rfl⟩
theorem Sm.trans {n : Nat} {S S' S'' : Store} (h : Sm n S S') (k : Sm n S' S'') : Sm n S S'' := ⟨k.len.trans h.len, fun j hj => (k.ne j hj).trans (h.ne j hj)⟩
theorem Sm.set {n : Nat} {S : Store} {o : Ob} : Sm n S (S.set n o) := ⟨by simp, fun k hk => List.getElem?_set_ne (fun z => hk z.symm)⟩
theorem Kt.mono {S : Store} {n c c' : Nat} (h : Kt S n c) (l : c ≤ c') : Kt S n c' := let ⟨a, b, e, h1, h2, h4⟩ := h; ⟨a, b, e, h1, h2, Nat.le_trans h4 l⟩
theorem seq_kt {S : Store} {n : Nat} {ds : List D} (h : S[n]? = some (.lst ds)) : seqOf S (.ref n) = some ds := seqOf_ref_lst h
theorem st_set {S : Store} {n : Nat} {ds : List D} {v : D} {i : Int} {j : Nat} (h : S[n]? = some (.lst ds)) (hi : L2.ixN ds.length i = some j) : stSet S (.ref n) (.int i) v = some (S.set n (.lst (ds.set j v))) := by
  simp only [stSet, h, hi, Option.map_some]
theorem set_at {S : Store} {n : Nat} {o : Ob} (h : n < S.length) : (S.set n o)[n]? = some o := by simp [h]
theorem pour_gen (S : Store) (n e b : Nat) (t k1 k2 k3 k4 k5 k6 : Int) (hs : seqOf S (.ref n) = some [.int 0, .int b, .int e])
    (hst : stSet S (.ref n) (.int 2) (.int ((e : Int) + 1)) = some (S.set n (.lst [.int 0, .int b, .int ((e : Int) + 1)])))
    (hs2 : seqOf (S.set n (.lst [.int 0, .int b, .int ((e : Int) + 1)])) (.ref n) = some [.int 0, .int b, .int ((e : Int) + 1)])
    (m1 : ∀ S, pMul S (.int k1) (.int ((e : Int) + 1)) = some (.int (k1 * ((e : Int) + 1))))
    (m2 : ∀ S (x : Int), pMul S (.int (x % k3)) (.int (x % k3)) = some (.int (x % k3 * (x % k3))))
    (m3 : ∀ S, pMul S (.int k2) (.int ((e : Int) + 1)) = some (.int (k2 * ((e : Int) + 1))))
    (m4 : ∀ S (x : Int), pMul S (.int (x % k4)) (.int k5) = some (.int (x % k4 * k5)))
    (d1 : ∀ S (x : Int), pDiv S (.int x) (.int k6) = some (.int (x / k6)))
    (q1 : ∀ S (x : Int), pMod S (.int x) (.int k3) = some (.int (x % k3)))
    (q2 : ∀ S (x : Int), pMod S (.int x) (.int k4) = some (.int (x % k4)))
    (q3 : ∀ S (x : Int), pMod S (.int x) (.int t) = some (.int (x % t))) :
    ∃ x : Int, dFn 2 5 (dSeq (dIfS (dTest (dOp pGt (dOp pIdx (dVar 0) (dCst (.int 0))) (dCst (.int 0)))) (dSeq (dSet 2 (qV (dOp pMod (dPr pInt (dCons (dOp pIdx (dVar 0) (dCst (.int 0))) (dNil))) (dVar 1)))) (dSeq (dSto (dOp pDiv (dOp pIdx (dVar 0) (dCst (.int 0))) (dVar 1)) (dVar 0) (dCst (.int 0))) (dRet (dVar 2)))) (dNop)) (dSeq (dSto (dOp pAdd (dOp pIdx (dVar 0) (dCst (.int 2))) (dCst (.int 1))) (dVar 0) (dCst (.int 2))) (dSeq (dSet 3 (qV (dOp pMod (dPr pInt (dCons (dOp pAdd (dOp pIdx (dVar 0) (dCst (.int 1))) (dOp pMul (dCst (.int k1)) (dOp pIdx (dVar 0) (dCst (.int 2))))) (dNil))) (dCst (.int k3))))) (dSeq (dSet 4 (qV (dOp pAdd (dOp pMul (dOp pMod (dPr pInt (dCons (dOp pAdd (dOp pMul (dVar 3) (dVar 3)) (dOp pMul (dCst (.int k2)) (dOp pIdx (dVar 0) (dCst (.int 2))))) (dNil))) (dCst (.int k4))) (dCst (.int k5))) (dVar 3)))) (dRet (dOp pMod (dPr pInt (dCons (dOp pDiv (dVar 4) (dCst (.int k6))) (dNil))) (dVar 1))))))) [.ref n, .int t] S = .ok (.int (x % t)) (S.set n (.lst [.int 0, .int b, .int ((e : Int) + 1)])) := by
  simp [fnEnv, hs, hst, hs2, m1, m2, m3, m4, d1, q1, q2, q3]
  exact ⟨_, rfl⟩
theorem pour (S : Store) (n c t : Nat) (hk : Kt S n c) (hc : c < 2 ^ 100) (ht : 0 < t) (ht2 : t < 2 ^ 100) :
    ∃ (r : Nat) (S' : Store), f__law_pour [.ref n, .int t] S = .ok (.int r) S' ∧ r < t ∧ Kt S' n (c + 1) ∧ Sm n S S' := by
  obtain ⟨a, b, e, h, hb, he⟩ := hk
  have hn : n < S.length := (List.getElem?_eq_some_iff.mp h).1
  have hs := seq_kt h
  have htI : (0 : Int) < (t : Int) := by omega
  have hlog : ((t : Int)).natAbs.log2 < 9000 := by
    have : t.log2 < 100 := (Nat.log2_lt (by omega)).mpr ht2
    simp only [Int.natAbs_natCast]
    omega
  by_cases h0 : 0 < a
  · have hst : stSet S (.ref n) (.int 0) (.int ((a : Int) / t)) = some (S.set n (.lst [.int ((a : Int) / t), .int b, .int e])) := st_set (j := 0) h rfl
    refine ⟨a % t, S.set n (.lst [.int ((a : Int) / t), .int b, .int e]), ?_, Nat.mod_lt _ ht, ⟨a / t, b, e, by rw [set_at hn]; simp, hb, by omega⟩, Sm.set⟩
    simp [f__law_pour, b__law_pour, fnEnv, N__law_pour, hs, h0, pMod_int htI, pDiv_int htI hlog, hst]
  · have h0' : a = 0 := by omega
    subst h0'
    have h : S[n]? = some (.lst [.int 0, .int b, .int e]) := h
    have hs : seqOf S (.ref n) = some [.int 0, .int b, .int e] := hs
    have hst : stSet S (.ref n) (.int 2) (.int ((e : Int) + 1)) = some (S.set n (.lst [.int 0, .int b, .int ((e : Int) + 1)])) := st_set (j := 2) h rfl
    have hs2 : seqOf (S.set n (.lst [.int 0, .int b, .int ((e : Int) + 1)])) (.ref n) = some [.int 0, .int b, .int ((e : Int) + 1)] := seqOf_ref_lst (set_at hn)
    have m1 : ∀ S, pMul S (.int 67867979) (.int ((e : Int) + 1)) = some (.int (67867979 * ((e : Int) + 1))) := fun S => pMul_b (i := 64) (j := 101) (by decide) (by omega) (by omega)
    have m2 : ∀ S (x : Int), pMul S (.int (x % 2305843009213693951)) (.int (x % 2305843009213693951)) = some (.int (x % 2305843009213693951 * (x % 2305843009213693951))) := fun S x => pMul_b (i := 64) (j := 64) (by omega) (by omega) (by omega)
    have m3 : ∀ S, pMul S (.int 439) (.int ((e : Int) + 1)) = some (.int (439 * ((e : Int) + 1))) := fun S => pMul_b (i := 64) (j := 101) (by decide) (by omega) (by omega)
    have m4 : ∀ S (x : Int), pMul S (.int (x % 2305843009213693921)) (.int 49979693) = some (.int (x % 2305843009213693921 * 49979693)) := fun S x => pMul_b (i := 64) (j := 64) (by omega) (by decide) (by omega)
    have d1 : ∀ S (x : Int), pDiv S (.int x) (.int 65809) = some (.int (x / 65809)) := fun S x => pDiv_int (by omega) (by decide)
    have q1 : ∀ S (x : Int), pMod S (.int x) (.int 2305843009213693951) = some (.int (x % 2305843009213693951)) := fun S x => pMod_int (by omega)
    have q2 : ∀ S (x : Int), pMod S (.int x) (.int 2305843009213693921) = some (.int (x % 2305843009213693921)) := fun S x => pMod_int (by omega)
    have q3 : ∀ S (x : Int), pMod S (.int x) (.int t) = some (.int (x % t)) := fun S x => pMod_int htI
    have fin : ∀ x : Int, ∃ r : Nat, ((r : Nat) : Int) = x % t ∧ r < t := fun x => ⟨(x % t).toNat, Int.toNat_of_nonneg (Int.emod_nonneg _ (by omega)), by
      have := Int.emod_lt_of_pos x htI
      have := Int.emod_nonneg x (b := (t : Int)) (by omega)
      omega⟩
    have ev : ∃ x : Int, f__law_pour [.ref n, .int t] S = .ok (.int (x % t)) (S.set n (.lst [.int 0, .int b, .int ((e : Int) + 1)])) := by
      exact pour_gen S n e b t 67867979 439 2305843009213693951 2305843009213693921 49979693 65809 hs hst hs2 m1 m2 m3 m4 d1 q1 q2 q3
    obtain ⟨x, hx⟩ := ev
    obtain ⟨r, hr, hl⟩ := fin x
    refine ⟨r, _, by rw [hx, hr]; rfl, hl, ⟨0, b, e + 1, set_at hn, hb, by omega⟩, Sm.set⟩
end K78

/-! The kettle filled; deeds drawn. -/
namespace K78
open PySem Py Cop
theorem kettle_gen (S : Store) (ns : List Int) (spot : Nat) (k1 k2 k3 k4 k5 k6 km c10 c51 c5 c17 P1 P2 P17 : Int) (hs : seqOf S (.ref 0) = some (ns.map D.int))
    (m1 : ∀ S, pMul S (.int k1) (.int (spot : Nat)) = some (.int (k1 * spot)))
    (m2 : ∀ S (x : Int), pMul S (.int (x % km)) (.int k3) = some (.int (x % km * k3)))
    (m3 : ∀ S, pMul S (.int k4) (.int (spot : Nat)) = some (.int (k4 * spot)))
    (m4 : ∀ (S : Store) (c : Prop) [Decidable c], pMul S (.int k5) (.int (if c then 1 else 0)) = some (.int (k5 * (if c then 1 else 0))))
    (p1 : ∀ S, pPow S (.int c10) (.int c51) = some (.int P1)) (p2 : ∀ S, pPow S (.int P1) (.int c5) = some (.int P2)) (p3 : ∀ S, pPow S (.int c10) (.int c17) = some (.int P17))
    (q1 : ∀ S (x : Int), pMod S (.int x) (.int P2) = some (.int (x % P2))) (q2 : ∀ S (x : Int), pMod S (.int x) (.int km) = some (.int (x % km))) :
    ∃ (g : Int) (b : Bool), dFn 2 5 (dSeq (dSet 2 (qV (dIf (dTest (dOp pLt (dVar 1) (dPr pLen (dCons (dVar 0) (dNil))))) (dPr pInt (dCons (dOp pIdx (dVar 0) (dVar 1)) (dNil))) (dOp pAdd (dOp pMul (dCst (.int k1)) (dVar 1)) (dCst (.int k2)))))) (dSeq (dSet 3 (qV (dOp pMod (dPr pInt (dCons (dPr pAbs (dCons (dVar 2) (dNil))) (dNil))) (dOp pPow (dOp pPow (dCst (.int c10)) (dCst (.int c51))) (dCst (.int c5)))))) (dSeq (dSet 4 (qV (dOp pAdd (dOp pAdd (dOp pAdd (dOp pMul (dOp pMod (dPr pInt (dCons (dVar 3) (dNil))) (dCst (.int km))) (dCst (.int k3))) (dOp pMul (dCst (.int k4)) (dVar 1))) (dOp pMul (dCst (.int k5)) (dPr pInt (dCons (dOp pLt (dVar 2) (dCst (.int 0))) (dNil))))) (dCst (.int k6))))) (dRet (dNew (dDisp (dCons (dPr pMax (dCons (dCst (.int 0)) (dCons (dOp pSub (dVar 3) (dOp pPow (dCst (.int c10)) (dCst (.int c17)))) (dNil)))) (dCons (dVar 4) (dCons (dCst (.int 0)) (dNil)))))))))) [.ref 0, .int spot] S = .ok (.ref S.length) (S ++ [.lst [.int (if g > 0 then g else 0), .int ((g + P17) % km * k3 + k4 * spot + k5 * (if b then 1 else 0) + k6), .int 0]]) := by
  by_cases h : spot < ns.length
  · have g1 : (ns.map D.int)[spot]? = some (.int ns[spot]) := by simp [h]
    refine ⟨(if ns[spot] < 0 then -ns[spot] else ns[spot]) % P2 - P17, decide (ns[spot] < 0), ?_⟩
    simp [fnEnv, hs, h, atI_nat, g1, m1, m2, m3, m4, p1, p2, p3, q1, q2, sizeLine_val, -List.getElem?_map]
  · refine ⟨(if k1 * spot + k2 < 0 then -(k1 * spot + k2) else k1 * spot + k2) % P2 - P17, decide (k1 * spot + k2 < 0), ?_⟩
    simp [fnEnv, hs, h, m1, m2, m3, m4, p1, p2, p3, q1, q2, sizeLine_val]
theorem pPow_int {S : Store} {a : Int} {n b : Nat} (h : Builtin.Int.intBits a ≤ b) (l : b * n ≤ 134217728) : pPow S (.int a) (.int (n : Nat)) = some (.int (a ^ n)) := by
  refine if_pos ⟨by omega, ?_⟩
  rw [Int.toNat_natCast]
  exact Nat.le_trans (Nat.mul_le_mul_right n h) l
theorem kettle (S : Store) (ns : List Int) (spot : Nat) (hs : S[0]? = some (.frz (ns.map D.int))) (hp : spot < 100) :
    ∃ a b : Nat, f__law_kettle [.ref 0, .int spot] S = .ok (.ref S.length) (S ++ [.lst [.int a, .int b, .int (0 : Nat)]]) ∧ b < 2 ^ 100 := by
  obtain ⟨g, c, h⟩ := kettle_gen S ns spot 1109 223 181 1249 127 89 2305843009213693907 10 51 5 17 (10 ^ 51) ((10 ^ 51) ^ 5) (10 ^ 17) (seqOf_ref_frz hs)
    (fun S => pMul_b (i := 64) (j := 64) (by decide) (by omega) (by omega))
    (fun S x => pMul_b (i := 64) (j := 64) (by omega) (by decide) (by omega))
    (fun S => pMul_b (i := 64) (j := 64) (by decide) (by omega) (by omega))
    (fun S c _ => pMul_b (i := 64) (j := 64) (by decide) (by split <;> decide) (by omega))
    (fun S => pPow_int (n := 51) (bits_nat (b := 4) (by decide)) (by decide)) (fun S => pPow_int (n := 5) (bits_nat (b := 170) (by decide)) (by decide)) (fun S => pPow_int (n := 17) (bits_nat (b := 4) (by decide)) (by decide)) (fun S x => pMod_int (by decide)) (fun S x => pMod_int (by decide))
  refine ⟨(if g > 0 then g else 0).toNat, ((g + 10 ^ 17) % 2305843009213693907 * 181 + 1249 * spot + 127 * (if c = true then 1 else 0) + 89).toNat, ?_, ?_⟩
  · have e1 : (((if g > 0 then g else 0).toNat : Nat) : Int) = if g > 0 then g else 0 := Int.toNat_of_nonneg (by split <;> omega)
    have e2 : ((((g + 10 ^ 17) % 2305843009213693907 * 181 + 1249 * spot + 127 * (if c = true then 1 else 0) + 89).toNat : Nat) : Int) = (g + 10 ^ 17) % 2305843009213693907 * 181 + 1249 * spot + 127 * (if c = true then 1 else 0) + 89 := Int.toNat_of_nonneg (by split <;> omega)
    rw [e1, e2]
    exact h
  · split <;> omega
end K78

set_option maxHeartbeats 8000000
/-! A deed drawn. -/
namespace K78
open PySem Py Cop
theorem pick (S : Store) (n c : Nat) (x : D) (items : List D) (hx : ∀ S, pLen S [x] = some (.int (items.length : Nat))) (hi : ∀ S (i : Nat), pIdx S x (.int i) = items[i]?) (hk : Kt S n c) (hc : c < 2 ^ 100) (h0 : items ≠ []) (hl : items.length < 2 ^ 100) :
    ∃ y S', f__law_pick [.ref n, x] S = .ok y S' ∧ y ∈ items ∧ Kt S' n (c + 1) ∧ Sm n S S' := by
  obtain ⟨r, S', e, hr, hk', hs⟩ := pour S n c items.length hk hc (List.length_pos_iff.mpr h0) hl
  have g : items[r]? = some items[r] := by simp [hr]
  refine ⟨items[r], S', ?_, List.getElem_mem hr, hk', hs⟩
  simp [f__law_pick, b__law_pick, fnEnv, N__law_pick, hx, e, hi, g]
theorem voters_draw (n : Nat) (ρ : Py.Env) (h0 : ρ[0]? = some (some (Sl.val (.ref n)))) (h10 : 10 < ρ.length) : ∀ (us : List Nat) (acc : List D) (S : Store) (c : Nat), Kt S n c → c + us.length < 2 ^ 100 → acc.length + us.length ≤ 1000 →
    ∃ (ws : List Nat) (S' : Store), lcRun (gN 10) (dTest (dOp pGt (dCall 2 f__law_pour (dCons (dVar 0) (dCons (dCst (.int 4)) dNil))) (dCst (.int 0)))) (dVar 10) ρ (us.map intD) acc S = .ok (acc ++ ws.map intD) S' ∧ ws.Sublist us ∧ Kt S' n (c + us.length) ∧ Sm n S S'
  | [], acc, S, c, hk, _, _ => ⟨[], S, by simp [lcRun], List.Sublist.refl _, hk, Sm.refl⟩
  | u :: us, acc, S, c, hk, hc, hl => by
    simp only [List.length_cons] at hc hl
    obtain ⟨r, S1, e, hr, hk1, hs1⟩ := pour S n c 4 hk (by omega) (by omega) (by omega)
    have e : f__law_pour [.ref n, .int 4] S = .ok (.int r) S1 := e
    have z0 : (ρ.set 10 (some (Sl.val (intD u))))[0]? = some (some (Sl.val (.ref n))) := by rw [List.getElem?_set_ne (by omega)]; exact h0
    have z10 : (ρ.set 10 (some (Sl.val (intD u))))[10]? = some (some (Sl.val (intD u))) := by simp [h10]
    rw [List.map_cons]
    unfold lcRun
    by_cases hp : 0 < r
    · obtain ⟨ws, S', e', hw, hk', hs'⟩ := voters_draw n ρ h0 h10 us (acc ++ [intD u]) S1 (c + 1) hk1 (by omega) (by simp; omega)
      refine ⟨u :: ws, S', ?_, hw.cons₂ u, hk'.mono (by simp; omega), hs1.trans hs'⟩
      have hz : acc.length < sizeLine := by rw [sizeLine_val]; omega
      simp [slV_val z0, slV_val z10, e, hp, hz, e']
    · obtain ⟨ws, S', e', hw, hk', hs'⟩ := voters_draw n ρ h0 h10 us acc S1 (c + 1) hk1 (by omega) (by omega)
      refine ⟨ws, S', ?_, hw.cons u, hk'.mono (by simp; omega), hs1.trans hs'⟩
      simp [slV_val z0, slV_val z10, e, hp, e']
theorem rg1_nat (k : Nat) (h : k < 2 ^ 62) : rg1 [.int (k : Nat)] = some ((List.range k).map intD) := by
  refine (if_pos (by omega)).trans ?_
  simp [rgD]
  exact fun _ _ => rfl
/-- who is up -/
def ups (cs : List Cp) : List Nat := (List.range cs.length).filter (upAt cs)
theorem any_deed (S : Store) (n c : Nat) (s : Sta) (w : Wf s) (hk : Kt S n c) (hc : c + 100 < 2 ^ 100) (hm : s.many ≤ 300) (hr : ∀ k ∈ s.cs, k.rows.length ≤ 300) :
    ∃ (d : Deed) (S' : Store), f__law_any_deed [.ref n, s.d] S = .ok d.d S' ∧ d.ok ∧ Kt S' n (c + 30) ∧ Sm n S S' := by
  have hf := w.few
  have h3 := w.some_
  obtain ⟨r1, S1, e1, l1, k1, s1⟩ := pour S n c 2 hk (by omega) (by omega) (by omega)
  obtain ⟨r2, S2, e2, l2, k2, s2⟩ := pour S1 n (c + 1) 2 k1 (by omega) (by omega) (by omega)
  obtain ⟨r3, S3, e3, l3, k3, s3⟩ := pour S2 n (c + 2) 2 k2 (by omega) (by omega) (by omega)
  obtain ⟨r4, S4, e4, l4, k4, s4⟩ := pour S3 n (c + 3) 3 k3 (by omega) (by omega) (by omega)
  have e1 : f__law_pour [.ref n, .int 2] S = .ok (.int r1) S1 := e1
  have e2 : f__law_pour [.ref n, .int 2] S1 = .ok (.int r2) S2 := e2
  have e3 : f__law_pour [.ref n, .int 2] S2 = .ok (.int r3) S3 := e3
  have e4 : f__law_pour [.ref n, .int 3] S3 = .ok (.int r4) S4 := e4
  let ev : Ev := .ans r1 r2 (decide (r3 = 0)) r4
  have evd : D.tup [.str "answer", .tup [.int r1, .int r2], .bl (decide (r3 = 0)), .int r4] = ev.d := rfl
  have hrg : rg1 [.int (s.cs.length : Nat)] = some ((List.range s.cs.length).map intD) := rg1_nat _ (by omega)
  have lcu : lcRun (gN 10) (dTest (dOp pIdx (dOp pIdx (dVar 2) (dVar 10)) (dCst (.int 0)))) (dVar 10) [some (Sl.val (.ref n)), some (Sl.val s.d), some (Sl.val (csD s.cs)), some (Sl.val (ldD s.ld)), some (Sl.val (.int s.many)), some (Sl.val (.int (s.cs.length : Nat))), some (Sl.val ev.d), none, none, none, none] ((List.range s.cs.length).map intD) [] S4
      = .ok ([] ++ ((List.range s.cs.length).filter (upAt s.cs)).map intD) S4 :=
    lc_typed (ρ' := fun v => [some (Sl.val (.ref n)), some (Sl.val s.d), some (Sl.val (csD s.cs)), some (Sl.val (ldD s.ld)), some (Sl.val (.int s.many)), some (Sl.val (.int (s.cs.length : Nat))), some (Sl.val ev.d), none, none, none, some (Sl.val (intD v))]) (fun v hv => ⟨by simp, by
      have gv := get_lt (cs := s.cs) (List.mem_range.mp hv)
      simp [intD, gv], by simp⟩) (by rw [sizeLine_val]; simp; omega)
  simp only [List.nil_append] at lcu
  have hul : (ups s.cs).length ≤ 5 := Nat.le_trans (List.length_filter_le _ _) (by simpa using hf)
  obtain ⟨vs, S5, e5, hvs, k5, s5⟩ := voters_draw n [some (Sl.val (.ref n)), some (Sl.val s.d), some (Sl.val (csD s.cs)), some (Sl.val (ldD s.ld)), some (Sl.val (.int s.many)), some (Sl.val (.int (s.cs.length : Nat))), some (Sl.val ev.d), some (Sl.val (.lst ((ups s.cs).map intD))), none, none, none] rfl (by simp) (ups s.cs) [] S4 (c + 4) k4 (by omega) (by simp; omega)
  simp only [List.nil_append] at e5
  have hz : 0 < s.cs.length := by omega
  obtain ⟨r6, S6, e6, l6, k6, s6⟩ := pour S5 n (c + 9) s.cs.length (k5.mono (by omega)) (by omega) hz (by omega)
  obtain ⟨r7, S7, e7, l7, k7, s7⟩ := pour S6 n (c + 10) s.cs.length k6 (by omega) hz (by omega)
  obtain ⟨r8, S8, e8, l8, k8, s8⟩ := pour S7 n (c + 11) 3 k7 (by omega) (by omega) (by omega)
  have e8 : f__law_pour [.ref n, .int 3] S7 = .ok (.int r8) S8 := e8
  obtain ⟨r9, S9, e9, l9, k9, s9⟩ := pour S8 n (c + 12) s.cs.length k8 (by omega) hz (by omega)
  obtain ⟨r10, S10, e10, l10, k10, s10⟩ := pour S9 n (c + 13) s.cs.length k9 (by omega) hz (by omega)
  have hev : ev.ok := ⟨by omega, by omega, by omega⟩
  have hvok : vs.Pairwise (· < ·) ∧ ∀ v ∈ vs, v ≤ 4 := by
    refine ⟨List.Pairwise.sublist hvs (List.Pairwise.filter _ List.pairwise_lt_range), fun v hv => ?_⟩
    have := List.mem_range.mp (List.mem_filter.mp (hvs.subset hv)).1
    omega
  have s010 : Sm n S S10 := (((((((((s1.trans s2).trans s3).trans s4).trans s5).trans s6).trans s7).trans s8).trans s9).trans s10)
  -- who may be elected
  have hel : ∃ (e : Nat) (S11 : Store), (if ups s.cs = [] then (e = 0 ∧ S11 = S10) else f__law_pick [.ref n, .lst ((ups s.cs).map intD)] S10 = .ok (.int e) S11) ∧ e ≤ 4 ∧ Kt S11 n (c + 15) ∧ Sm n S10 S11 := by
    by_cases hu : ups s.cs = []
    · exact ⟨0, S10, by rw [if_pos hu]; exact ⟨rfl, rfl⟩, by omega, k10.mono (by omega), Sm.refl⟩
    · obtain ⟨y, S11, e11, hy, k11, s11⟩ := pick S10 n (c + 14) (.lst ((ups s.cs).map intD)) ((ups s.cs).map intD) (fun S => by simp) (fun S i => by simp [atI_nat]) k10 (by omega) (by simpa using hu) (by simp; omega)
      obtain ⟨e, he, rfl⟩ := List.mem_map.mp hy
      refine ⟨e, S11, by rw [if_neg hu]; exact e11, ?_, k11, s11⟩
      have := List.mem_range.mp (List.mem_filter.mp he).1
      omega
  obtain ⟨el, S11, h11, hel4, k11, s11⟩ := hel
  have fin : ∀ items : List D, (∀ x ∈ items, ∃ d : Deed, x = d.d ∧ d.ok) → items ≠ [] → items.length ≤ 100 →
      ∃ (d : Deed) (S12 : Store), f__law_pick [.ref n, .lst items] S11 = .ok d.d S12 ∧ d.ok ∧ Kt S12 n (c + 30) ∧ Sm n S S12 := fun items ha hn hl => by
    obtain ⟨y, S12, e12, hy, k12, s12⟩ := pick S11 n (c + 15) (.lst items) items (fun S => by simp) (fun S i => by simp [atI_nat]) k11 (by omega) hn (by omega)
    obtain ⟨d, rfl, hd⟩ := ha y hy
    exact ⟨d, S12, e12, hd, k12.mono (by omega), (s010.trans s11).trans s12⟩
  have hap1 : ∀ a b c d x : D, fApp [a, b, c, d] x = some [a, b, c, d, x] := fun a b c d x => fApp_ok (by rw [sizeLine_val]; simp)
  have hap2 : ∀ a b c d e x : D, fApp [a, b, c, d, e] x = some [a, b, c, d, e, x] := fun a b c d e x => fApp_ok (by rw [sizeLine_val]; simp)
  have had1 : ∀ (S : Store) (a b c d e f g h : D), pAdd S (.lst [a, b, c, d, e, f]) (.lst [g, h]) = some (.lst [a, b, c, d, e, f, g, h]) := fun S a b c d e f g h => pAdd_lst (by rw [sizeLine_val]; simp)
  have had3 : ∀ (S : Store) (a b c d e f g h x : D), pAdd S (.lst [a, b, c, d, e, f, g, h]) (.lst [x, x, x]) = some (.lst [a, b, c, d, e, f, g, h, x, x, x]) := fun S a b c d e f g h x => pAdd_lst (by rw [sizeLine_val]; simp)
  have had0 : ∀ (S : Store) (a b c d e f g h x : D), pAdd S (.lst [a, b, c, d, e, f, g, h]) (.lst [x]) = some (.lst [a, b, c, d, e, f, g, h, x]) := fun S a b c d e f g h x => pAdd_lst (by rw [sizeLine_val]; simp)
  have hm3 : ∀ (S : Store) (x : D), pMul S (.lst [x]) (.int 3) = some (.lst [x, x, x]) := fun S x => (pMul_lst ⟨by decide, by rw [sizeLine_val]; simp⟩).trans rfl
  have hm1 : ∀ (S : Store) (x : D), pMul S (.lst [x]) (.int 1) = some (.lst [x]) := fun S x => (pMul_lst ⟨by decide, by rw [sizeLine_val]; simp⟩).trans rfl
  have hne : ∀ S, pNe S (.lst ((ups s.cs).map intD)) (.lst []) = some (.bl (!decide (ups s.cs = []))) := fun S => by
    rw [pNe_lstN (k := 0) (fun x hx => by obtain ⟨y, _, rfl⟩ := List.mem_map.mp hx; exact Sh.int) (by omega)]
    simp
  -- the deeds among which is drawn
  have mem : ∀ (y : Nat), 1 ≤ y ∧ y ≤ 400 → ∀ x ∈ [D.tup [.str "append", ev.d], .tup [.str "append", ev.d], .tup [.str "copy", .int r6], .tup [.str "copy", .int r7], .tup [.str "commit", .int ((s.many : Int) + 1 + r8)], .tup [.str "commit", .int (y : Nat)], .tup [.str "stop", .int r9], .tup [.str "start", .int r10],
      .tup [.str "elect", .int el, votersD vs], .tup [.str "elect", .int el, votersD vs], .tup [.str "elect", .int el, votersD vs]], ∃ d : Deed, x = d.d ∧ d.ok := by
    intro y hy x hx
    simp only [List.mem_cons, List.not_mem_nil, or_false] at hx
    have c1 : ((s.many : Int) + 1 + r8) = ((s.many + 1 + r8 : Nat) : Int) := by omega
    rcases hx with h | h | h | h | h | h | h | h | h | h | h
    · exact ⟨.append ev, h, hev⟩
    · exact ⟨.append ev, h, hev⟩
    · exact ⟨.copy r6, h, by show r6 ≤ 4; omega⟩
    · exact ⟨.copy r7, h, by show r7 ≤ 4; omega⟩
    · exact ⟨.commit (s.many + 1 + r8), by rw [h, c1]; rfl, by show _ ∧ _; omega⟩
    · exact ⟨.commit y, h, hy⟩
    · exact ⟨.stop r9, h, by show r9 ≤ 4; omega⟩
    · exact ⟨.start r10, h, by show r10 ≤ 4; omega⟩
    · exact ⟨.elect el vs, h, hel4, hvok.1, hvok.2⟩
    · exact ⟨.elect el vs, h, hel4, hvok.1, hvok.2⟩
    · exact ⟨.elect el vs, h, hel4, hvok.1, hvok.2⟩
  have lcu' : lcRun (gN 10) (dTest (dOp pIdx (dOp pIdx (dVar 2) (dVar 10)) (dCst (.int 0)))) (dVar 10) [some (Sl.val (.ref n)), some (Sl.val s.d), some (Sl.val (csD s.cs)), some (Sl.val (ldD s.ld)), some (Sl.val (.int s.many)), some (Sl.val (.int (s.cs.length : Nat))), some (Sl.val ev.d), none, none, none, none] ((List.range s.cs.length).map intD) [] S4 = .ok ((ups s.cs).map intD) S4 := lcu
  have rowsne : ∀ (S : Store) (l : Nat), pNe S (rowsD (rowsAt s.cs l)) (.tup []) = some (.bl (!decide (rowsAt s.cs l = []))) := fun S l => pNe_rows0
  cases hld : s.ld with
  | none =>
    obtain ⟨d, S12, e12, hd, k12, s12⟩ := fin _ (mem 1 (by omega)) (by simp) (by simp)
    refine ⟨d, S12, ?_, hd, k12, s12⟩
    simp [hld] at lcu' e5
    by_cases hu : ups s.cs = []
    · rw [if_pos hu] at h11
      obtain ⟨rfl, rfl⟩ := h11
      have hne' : ∀ S, pNe S (.lst ((ups s.cs).map intD)) (.lst []) = some (.bl false) := fun S => by rw [hne]; simp [hu]
      simp [votersD] at e12
      simp [f__law_any_deed, b__law_any_deed, fnEnv, N__law_any_deed, hld, e1, e2, e3, e4, evd, hrg, wipeE, lcu', e5, e6, e7, e8, e9, e10, sizeLine_val, hap1, hap2, had1, had3, hm3, hne', e12]
    · rw [if_neg hu] at h11
      have hne' : ∀ S, pNe S (.lst ((ups s.cs).map intD)) (.lst []) = some (.bl true) := fun S => by rw [hne]; simp [hu]
      simp [votersD] at e12
      simp [f__law_any_deed, b__law_any_deed, fnEnv, N__law_any_deed, hld, e1, e2, e3, e4, evd, hrg, wipeE, lcu', e5, e6, e7, e8, e9, e10, sizeLine_val, hap1, hap2, had1, had3, hm3, hne', h11, e12]
  | some l =>
    have hb := w.ld l hld
    have g := get_lt hb
    have hrl : (rowsAt s.cs l).length ≤ 300 := hr _ (List.mem_of_getElem? g)
    simp [hld] at lcu' e5
    have sub : ∀ (y : Nat), 1 ≤ y ∧ y ≤ 400 → ∀ x ∈ [D.tup [.str "append", ev.d], .tup [.str "append", ev.d], .tup [.str "copy", .int r6], .tup [.str "copy", .int r7], .tup [.str "commit", .int ((s.many : Int) + 1 + r8)], .tup [.str "commit", .int (y : Nat)], .tup [.str "stop", .int r9], .tup [.str "start", .int r10],
        .tup [.str "elect", .int el, votersD vs]], ∃ d : Deed, x = d.d ∧ d.ok := fun y hy x hx => mem y hy x (List.mem_append_left [D.tup [.str "elect", .int el, votersD vs], D.tup [.str "elect", .int el, votersD vs]] hx)
    by_cases hrows : rowsAt s.cs l = []
    · obtain ⟨d, S12, e12, hd, k12, s12⟩ := fin _ (sub 1 (by omega)) (by simp) (by simp)
      refine ⟨d, S12, ?_, hd, k12, s12⟩
      by_cases hu : ups s.cs = []
      · rw [if_pos hu] at h11
        obtain ⟨rfl, rfl⟩ := h11
        have hne' : ∀ S, pNe S (.lst ((ups s.cs).map intD)) (.lst []) = some (.bl false) := fun S => by rw [hne]; simp [hu]
        simp [votersD] at e12
        simp [f__law_any_deed, b__law_any_deed, fnEnv, N__law_any_deed, hld, e1, e2, e3, e4, evd, hrg, wipeE, lcu', e5, e6, e7, e8, e9, e10, sizeLine_val, hap1, hap2, had1, had0, hm1, hne', g, hrows, e12]
      · rw [if_neg hu] at h11
        have hne' : ∀ S, pNe S (.lst ((ups s.cs).map intD)) (.lst []) = some (.bl true) := fun S => by rw [hne]; simp [hu]
        simp [votersD] at e12
        simp [f__law_any_deed, b__law_any_deed, fnEnv, N__law_any_deed, hld, e1, e2, e3, e4, evd, hrg, wipeE, lcu', e5, e6, e7, e8, e9, e10, sizeLine_val, hap1, hap2, had1, had0, hm1, hne', g, hrows, h11, e12]
    · have hpos : 1 ≤ (rowsAt s.cs l).length := List.length_pos_iff.mpr hrows
      obtain ⟨d, S12, e12, hd, k12, s12⟩ := fin _ (sub (rowsAt s.cs l).length (by omega)) (by simp) (by simp)
      refine ⟨d, S12, ?_, hd, k12, s12⟩
      by_cases hu : ups s.cs = []
      · rw [if_pos hu] at h11
        obtain ⟨rfl, rfl⟩ := h11
        have hne' : ∀ S, pNe S (.lst ((ups s.cs).map intD)) (.lst []) = some (.bl false) := fun S => by rw [hne]; simp [hu]
        simp [votersD] at e12
        simp [f__law_any_deed, b__law_any_deed, fnEnv, N__law_any_deed, hld, e1, e2, e3, e4, evd, hrg, wipeE, lcu', e5, e6, e7, e8, e9, e10, sizeLine_val, hap1, hap2, had1, had0, hm1, hne', g, hrows, e12]
      · rw [if_neg hu] at h11
        have hne' : ∀ S, pNe S (.lst ((ups s.cs).map intD)) (.lst []) = some (.bl true) := fun S => by rw [hne]; simp [hu]
        simp [votersD] at e12
        simp [f__law_any_deed, b__law_any_deed, fnEnv, N__law_any_deed, hld, e1, e2, e3, e4, evd, hrg, wipeE, lcu', e5, e6, e7, e8, e9, e10, sizeLine_val, hap1, hap2, had1, had0, hm1, hne', g, hrows, h11, e12]
end K78

/-! Plays drawn. -/
namespace K78
open PySem Py Cop
def bodyC : DS := dSeq (dSet 6 (qV (dCall 2 f__law_any_deed (dCons (dVar 0) (dCons (dOp pIdx (dRd 3) (dNeg (dCst (.int 1)))) (dNil)))))) (dSeq (dSet 7 (qV (dCall 2 f__law_behind (dCons (dOp pIdx (dRd 3) (dNeg (dCst (.int 1)))) (dCons (dVar 6) (dNil)))))) (dIfS (dTest (dOp pIsNot (dVar 7) (dCst .non))) (dSeq (dOwn 3 fApp (dVar 7)) (dSet 4 (qV (dOp pAdd (dVar 4) (dTup (dCons (dVar 6) (dNil))))))) (dNop)))
theorem runs_ne {s : Sta} {ds : List Deed} {ss : List Sta} (h : Runs s ds ss) : ∃ t, ss.getLast? = some t := by
  have := h.len
  cases e : ss.getLast? with
  | none => rw [List.getLast?_eq_none_iff.mp e] at this; simp at this
  | some t => exact ⟨t, rfl⟩
def envC (n size most : Nat) (ds : List Deed) (ss : List Sta) (x5 x6 x7 : Option Sl) : Py.Env :=
  [some (Sl.val (.ref n)), some (Sl.val (.int size)), some (Sl.val (.int most)), some (Sl.own (ss.map Sta.d)), some (Sl.val (.tup (ds.map Deed.d))), x5, x6, x7]
theorem copies_loop (n size most : Nat) (s0 : Sta) : ∀ (ts : List Nat) (S : Store) (c : Nat) (ds : List Deed) (ss : List Sta) (x5 x6 x7 : Option Sl), Runs s0 ds ss → (∀ d ∈ ds, d.ok) → (∀ s ∈ ss, Wb ds.length s) → ds.length + ts.length ≤ 200 → Kt S n c → c + 30 * ts.length + 100 < 2 ^ 100 →
    ∃ (ds' : List Deed) (ss' : List Sta) (S' : Store) (y5 y6 y7 : Option Sl), forRun (gN 5) bodyC (ts.map intD) (envC n size most ds ss x5 x6 x7) S = some (.nx (envC n size most ds' ss' y5 y6 y7), S') ∧
      Runs s0 ds' ss' ∧ (∀ d ∈ ds', d.ok) ∧ (∀ s ∈ ss', Wb ds'.length s) ∧ ds'.length ≤ ds.length + ts.length ∧ Kt S' n (c + 30 * ts.length) ∧ Sm n S S'
  | [], S, c, ds, ss, x5, x6, x7, hr, hd, hw, hl, hk, hc => ⟨ds, ss, S, x5, x6, x7, rfl, hr, hd, hw, Nat.le_refl _, hk, Sm.refl⟩
  | t :: ts, S, c, ds, ss, x5, x6, x7, hr, hd, hw, hl, hk, hc => by
    simp only [List.length_cons] at hl hc
    obtain ⟨s, hs⟩ := runs_ne hr
    have hsm : s ∈ ss := List.mem_of_getLast? hs
    have wb := hw s hsm
    have wf := wb.wf (by omega)
    have hrow : ∀ k ∈ s.cs, k.rows.length ≤ 300 := fun k hk => by
      obtain ⟨i, _, _, e⟩ := rowsAt_mem hk
      rw [← e]
      have := wb.rows i
      omega
    obtain ⟨d, S1, e1, d1, k1, s1⟩ := any_deed S n c s wf hk (by omega) (by have := wb.many; omega) hrow
    have e2 := l_behind s d S1 wf d1
    have hlast : (ss.map Sta.d).getLast? = some s.d := by rw [List.getLast?_map, hs]; rfl
    have hss := hr.len
    rw [List.map_cons]
    unfold forRun
    cases hb : behind s d with
    | none =>
      rw [hb] at e2
      obtain ⟨ds', ss', S', y5, y6, y7, e', r', o', w', l', k', s'⟩ := copies_loop n size most s0 ts S1 (c + 30) ds ss (some (Sl.val (intD t))) (some (Sl.val d.d)) (some (Sl.val .non)) hr hd hw (by omega) k1 (by omega)
      refine ⟨ds', ss', S', y5, y6, y7, ?_, r', o', w', by simp only [List.length_cons]; omega, k'.mono (by simp only [List.length_cons]; omega), s1.trans s'⟩
      simp only [optD_none] at e2
      simp [envC, bodyC, atI_neg1, hlast, e1, e2]
      exact e'
    | some t' =>
      rw [hb] at e2
      have r2 := hr.snoc hs hb
      have hw2 : ∀ s ∈ ss ++ [t'], Wb (ds ++ [d]).length s := fun u hu => by
        rw [List.length_append, List.length_singleton]
        rcases List.mem_append.mp hu with q | q
        · exact (hw u q).mono (by omega)
        · rw [List.mem_singleton.mp q]; exact behind_wb wb d1 hb
      have hd2 : ∀ x ∈ ds ++ [d], x.ok := fun x hx => by
        rcases List.mem_append.mp hx with q | q
        · exact hd x q
        · rw [List.mem_singleton.mp q]; exact d1
      obtain ⟨ds', ss', S', y5, y6, y7, e', r', o', w', l', k', s'⟩ := copies_loop n size most s0 ts S1 (c + 30) (ds ++ [d]) (ss ++ [t']) (some (Sl.val (intD t))) (some (Sl.val d.d)) (some (Sl.val t'.d)) r2 hd2 hw2 (by simp; omega) k1 (by omega)
      simp only [List.length_append, List.length_singleton] at l'
      refine ⟨ds', ss', S', y5, y6, y7, ?_, r', o', w', by simp only [List.length_cons]; omega, k'.mono (by simp only [List.length_cons]; omega), s1.trans s'⟩
      simp only [optD_some] at e2
      have hap : fApp (ss.map Sta.d) t'.d = some (ss.map Sta.d ++ [t'.d]) := fApp_ok (by rw [sizeLine_val]; simp; omega)
      have had : pAdd S1 (.tup (ds.map Deed.d)) (.tup [d.d]) = some (.tup (ds.map Deed.d ++ [d.d])) := pAdd_tup (by rw [sizeLine_val]; simp; omega)
      simp [envC, bodyC, atI_neg1, hlast, e1, e2, hap, had, sizeLine_val]
      simp [envC] at e'
      exact e'
theorem copies (S : Store) (n c size most : Nat) (hsz : size = 3 ∨ size = 5) (hm : most ≤ 100) (hk : Kt S n c) (hc : c + 30 * most + 100 < 2 ^ 100) :
    ∃ (ds : List Deed) (ss : List Sta) (S' : Store), f__law_copies [.ref n, .int size, .int most] S = .ok (.tup [.tup (ds.map Deed.d), .lst (ss.map Sta.d)]) S' ∧
      Runs (ini size) ds ss ∧ (∀ d ∈ ds, d.ok) ∧ (∀ s ∈ ss, Wb ds.length s) ∧ ds.length ≤ most ∧ Kt S' n (c + 30 * most) ∧ Sm n S S' := by
  obtain ⟨ds', ss', S', y5, y6, y7, e', r', o', w', l', k', s'⟩ := copies_loop n size most (ini size) (List.range most) S c [] [ini size] none none none rfl (fun _ h => by cases h) (fun s hs => by rw [List.mem_singleton.mp hs]; exact ini_wb hsz) (by simp; omega) hk (by simpa using hc)
  simp only [List.length_range] at k' l'
  refine ⟨ds', ss', S', ?_, r', o', w', by simpa using l', k', s'⟩
  have hrg : rg1 [.int (most : Nat)] = some ((List.range most).map intD) := rg1_nat _ (by omega)
  have hmul : ∀ S : Store, pMul S (.tup [.tup [.bl true, .int 0, .tup []]]) (.int (size : Nat)) = some (csD (ini size).cs) := fun S => by
    rw [pMul_tup ⟨by simp, by omega, by omega, by simp⟩]
    simp [flat_rep, ini, csD, Cp.d, rowsD, emptyC]
  have hini : D.tup [csD (ini size).cs, .non, .int 0] = (ini size).d := rfl
  have e' : forRun (gN 5) (dSeq (dSet 6 (qV (dCall 2 f__law_any_deed (dCons (dVar 0) (dCons (dOp pIdx (dRd 3) (dNeg (dCst (.int 1)))) (dNil)))))) (dSeq (dSet 7 (qV (dCall 2 f__law_behind (dCons (dOp pIdx (dRd 3) (dNeg (dCst (.int 1)))) (dCons (dVar 6) (dNil)))))) (dIfS (dTest (dOp pIsNot (dVar 7) (dCst .non))) (dSeq (dOwn 3 fApp (dVar 7)) (dSet 4 (qV (dOp pAdd (dVar 4) (dTup (dCons (dVar 6) (dNil))))))) (dNop))))
    ((List.range most).map intD) [some (Sl.val (.ref n)), some (Sl.val (.int size)), some (Sl.val (.int most)), some (Sl.own [(ini size).d]), some (Sl.val (.tup [])), none, none, none] S = some (.nx (envC n size most ds' ss' y5 y6 y7), S') := e'
  simp [f__law_copies, b__law_copies, fnEnv, N__law_copies, sizeLine_val, hmul, hini, hrg, e', envC]
end K78

/-! The program's plays. -/
namespace Cop
/-- the state behind a play, or the place of the first deed that can't be -/
def playF : Sta → Nat → List Deed → Option Sta × Nat
  | s, _, [] => (some s, 0)
  | s, at_, d :: ds => match behind s d with
    | none => (none, at_)
    | some s' => playF s' (at_ + 1) ds
def agree (s : Sta) (c : Cp) : Nat := (s.cs.filter fun o => decide (o.rows.take s.many = c.rows.take s.many)).length
def isTold (s : Sta) (c : Cp) : Bool := decide (s.many ≤ c.rows.length ∧ s.cs.length < 2 * agree s c)
def eventsIn (s : Sta) : List Ev := match s.cs.find? (isTold s) with
  | some c => (c.rows.take s.many).map Prod.snd
  | none => []
end Cop
namespace K78
open PySem Py Cop
theorem zip_typed {β : Type} (f : β → D) (xs : List β) (k : Nat) : ((xs.map f).zipIdx k).map (fun x => D.tup [.int (x.2 : Nat), x.1]) = (xs.zipIdx k).map fun x => D.tup [.int (x.2 : Nat), f x.1] := by
  induction xs generalizing k with
  | nil => rfl
  | cons x xs ih => simp [List.zipIdx_cons, ih]
theorem e_need_many (k : Nat) (S : Store) (h : k = 3 ∨ k = 5) : f_need_many [.int k] S = .ok .non S := by
  rcases h with h | h <;> subst h <;> simp [f_need_many, b_need_many, fnEnv, N_need_many, e_from_to]
def bodyS : DS := dSeq (dSet 2 (qV (dCall 2 f_behind_deed (dCons (dVar 2) (dCons (dVar 4) (dNil)))))) (dIfS (dTest (dOp pIs (dVar 2) (dCst .non))) (dRet (dTup (dCons (dCst .non) (dCons (dVar 3) (dNil))))) (dNop))
theorem sow_loop (many : D) (v : D) (S : Store) : ∀ (ds : List Deed) (k : Nat) (s : Sta) (x3 x4 : Option Sl), Wb k s → (∀ d ∈ ds, d.ok) → k + ds.length ≤ 900 →
    (∃ y3 y4 t, playF s k ds = (some t, 0) ∧ forRun (gT 2 (gsC (gN 3) (gsC (gN 4) gs0))) bodyS ((ds.zipIdx k).map fun x => D.tup [.int (x.2 : Nat), x.1.d]) [some (Sl.val many), some (Sl.val v), some (Sl.val s.d), x3, x4] S = some (.nx [some (Sl.val many), some (Sl.val v), some (Sl.val t.d), y3, y4], S)) ∨
    (∃ j, playF s k ds = (none, j) ∧ forRun (gT 2 (gsC (gN 3) (gsC (gN 4) gs0))) bodyS ((ds.zipIdx k).map fun x => D.tup [.int (x.2 : Nat), x.1.d]) [some (Sl.val many), some (Sl.val v), some (Sl.val s.d), x3, x4] S = some (.rt (.tup [.non, .int (j : Nat)]), S))
  | [], k, s, x3, x4, _, _, _ => .inl ⟨x3, x4, s, rfl, rfl⟩
  | d :: ds, k, s, x3, x4, w, ho, hl => by
    simp only [List.length_cons] at hl
    have e := e_behind s d S (w.wf (by omega)) (ho d List.mem_cons_self)
    rw [List.zipIdx_cons, List.map_cons]
    unfold forRun playF
    cases hb : behind s d with
    | none =>
      rw [hb] at e
      simp only [optD_none] at e
      refine .inr ⟨k, rfl, ?_⟩
      simp [bodyS, e, sizeLine_val]
    | some s' =>
      rw [hb] at e
      simp only [optD_some] at e
      rcases sow_loop many v S ds (k + 1) s' (some (Sl.val (.int (k : Nat)))) (some (Sl.val d.d)) (behind_wb w (ho d List.mem_cons_self) hb) (fun x hx => ho x (List.mem_cons_of_mem _ hx)) (by omega) with ⟨y3, y4, t, p, q⟩ | ⟨j, p, q⟩
      · refine .inl ⟨y3, y4, t, p, ?_⟩
        simp [bodyS, e]
        exact q
      · refine .inr ⟨j, p, ?_⟩
        simp [bodyS, e]
        exact q
theorem e_sow (k : Nat) (ds : List Deed) (S : Store) (h : k = 3 ∨ k = 5) (ho : ∀ d ∈ ds, d.ok) (hl : ds.length ≤ 400) :
    f_state_or_wrong [.int k, .tup (ds.map Deed.d)] S = .ok (.tup [optD (playF (ini k) 0 ds).1, .int ((playF (ini k) 0 ds).2 : Nat)]) S := by
  have eb := e_begun k S (by omega)
  have hlen : ¬ (400 : Int) < (ds.length : Nat) := by omega
  have hen : enumD (ds.map Deed.d) = (ds.zipIdx 0).map fun x => D.tup [.int (x.2 : Nat), x.1.d] := by rw [enumD_eq]; exact zip_typed Deed.d ds 0
  rcases sow_loop (.int k) (.tup (ds.map Deed.d)) S ds 0 (ini k) none none (ini_wb h) ho (by omega) with ⟨y3, y4, t, p, q⟩ | ⟨j, p, q⟩
  · rw [p]
    simp only [bodyS] at q
    simp [f_state_or_wrong, b_state_or_wrong, fnEnv, N_state_or_wrong, eb, hlen, hen, q, sizeLine_val]
  · rw [p]
    simp only [bodyS] at q
    simp [f_state_or_wrong, b_state_or_wrong, fnEnv, N_state_or_wrong, eb, hlen, hen, q, sizeLine_val]
end K78

/-! The program's plays, and what it says of them. -/
namespace Cop
open PySem Py
theorem playF_runs : ∀ {s : Sta} {ds : List Deed} {ss : List Sta} {k : Nat} (n : Nat), Runs s ds ss → n ≤ ds.length → playF s k (ds.take n) = (ss[n]?, 0)
  | s, [], ss, k, n, h, hn => by
    simp only [Runs] at h
    have : n = 0 := by simpa using hn
    subst this
    subst h
    rfl
  | s, d :: ds, ss, k, n, h, hn => by
    obtain ⟨s', ss', h1, h2, h3⟩ := h
    subst h2
    cases n with
    | zero => rfl
    | succ n =>
      simp only [List.take_succ_cons, playF, h1, List.getElem?_cons_succ]
      exact playF_runs n h3 (by simpa using hn)
/-- the copies that may be elected -/
def canElect (cs : List Cp) (c : Cp) : Bool := c.up && decide (cs.length < 2 * (cs.filter fun o => o.up && !newer o.rows c.rows).length)
def electables (cs : List Cp) : List Nat := (cs.zipIdx.filter fun x => canElect cs x.1).map Prod.snd
end Cop
namespace K78
open PySem Py Cop
def bodyE : DS := dSeq (dSet 7 (qV (dLst (dLc (dItems (dVar 1)) (gN 8) (dTest (dOp pEq (dSl (dOp pIdx (dVar 8) (dCst (.int 2))) (dNo) (dSo (dVar 3))) (dSl (dVar 6) (dNo) (dSo (dVar 3))))) (dVar 8) [8])))) (dIfS (dAnd (dTest (dOp pGe (dPr pLen (dCons (dVar 6) (dNil))) (dVar 3))) (dTest (dOp pGt (dOp pMul (dCst (.int 2)) (dPr pLen (dCons (dVar 7) (dNil)))) (dPr pLen (dCons (dVar 1) (dNil)))))) (dRet (dPr pTuple (dCons (dLst (dLc (dItems (dSl (dVar 6) (dNo) (dSo (dVar 3)))) (gT 2 (gsC (gN 5) (gsC (gN 9) (gs0)))) (dYes) (dVar 9) [5, 9])) (dNil)))) (dNop))
theorem two_mul {S : Store} (x : Nat) (hx : x ≤ 5) : pMul S (.int 2) (.int x) = some (.int (2 * x)) := pMul_int (by
  have := bits_nat (b := 3) (a := (x : Int)) (by omega)
  have h2 : Builtin.Int.intBits 2 = 2 := by decide
  omega)
theorem ev_loop (s : Sta) (S : Store) (hf : s.cs.length ≤ 5) (hr : ∀ c ∈ s.cs, c.rows.length ≤ 1000) : ∀ (cs : List Cp) (x4 x5 x6 x7 : Option Sl), (∀ c ∈ cs, c ∈ s.cs) →
    (∃ y4 y5 y6 y7, cs.find? (isTold s) = none ∧ forRun (gT 3 (gsC (gN 4) (gsC (gN 5) (gsC (gN 6) gs0)))) bodyE (cs.map Cp.d) [some (Sl.val s.d), some (Sl.val (csD s.cs)), some (Sl.val (ldD s.ld)), some (Sl.val (.int s.many)), x4, x5, x6, x7, none, none] S = some (.nx [some (Sl.val s.d), some (Sl.val (csD s.cs)), some (Sl.val (ldD s.ld)), some (Sl.val (.int s.many)), y4, y5, y6, y7, none, none], S)) ∨
    (∃ c, cs.find? (isTold s) = some c ∧ forRun (gT 3 (gsC (gN 4) (gsC (gN 5) (gsC (gN 6) gs0)))) bodyE (cs.map Cp.d) [some (Sl.val s.d), some (Sl.val (csD s.cs)), some (Sl.val (ldD s.ld)), some (Sl.val (.int s.many)), x4, x5, x6, x7, none, none] S = some (.rt (.tup (((c.rows.take s.many).map Prod.snd).map Ev.d)), S))
  | [], x4, x5, x6, x7, _ => .inl ⟨x4, x5, x6, x7, rfl, rfl⟩
  | c :: cs, x4, x5, x6, x7, hm => by
    have hc := hm c List.mem_cons_self
    rw [List.map_cons]
    unfold forRun
    have lc : lcRun (gN 8) (dTest (dOp pEq (dSl (dOp pIdx (dVar 8) (dCst (.int 2))) (dNo) (dSo (dVar 3))) (dSl (dVar 6) (dNo) (dSo (dVar 3))))) (dVar 8) [some (Sl.val s.d), some (Sl.val (csD s.cs)), some (Sl.val (ldD s.ld)), some (Sl.val (.int s.many)), some (Sl.val (.bl c.up)), some (Sl.val (.int c.tm)), some (Sl.val (rowsD c.rows)), x7, none, none] (s.cs.map Cp.d) [] S
       = .ok ([] ++ (s.cs.filter fun (o : Cp) => decide (o.rows.take s.many = c.rows.take s.many)).map Cp.d) S :=
      lc_typed (ρ' := fun o => [some (Sl.val s.d), some (Sl.val (csD s.cs)), some (Sl.val (ldD s.ld)), some (Sl.val (.int s.many)), some (Sl.val (.bl c.up)), some (Sl.val (.int c.tm)), some (Sl.val (rowsD c.rows)), x7, some (Sl.val o.d), none]) (fun o _ => ⟨by simp, by simp, by simp⟩) (by rw [sizeLine_val]; simp; omega)
    simp only [List.nil_append] at lc
    have hx : agree s c ≤ 5 := Nat.le_trans (List.length_filter_le _ _) hf
    have hm2 := two_mul (S := S) _ hx
    have ha : (List.filter (fun o : Cp => decide (o.rows.take s.many = c.rows.take s.many)) s.cs).length = agree s c := rfl
    by_cases hl : s.many ≤ c.rows.length
    · by_cases hg : s.cs.length < 2 * agree s c
      · have ht : isTold s c = true := by simp [isTold, hl, hg]
        refine .inr ⟨c, by simp [ht], ?_⟩
        have hr' := hr c hc
        have lc2 : ∀ x7 : Option Sl, lcRun (gT 2 (gsC (gN 5) (gsC (gN 9) (gs0)))) (dYes) (dVar 9) [some (Sl.val s.d), some (Sl.val (csD s.cs)), some (Sl.val (ldD s.ld)), some (Sl.val (.int s.many)), some (Sl.val (.bl c.up)), none, some (Sl.val (rowsD c.rows)), x7, none, none] ((c.rows.take s.many).map rowD) [] S
          = .ok ([] ++ (c.rows.take s.many).map fun r => r.2.d) S := fun x7 =>
          lc_typedM (ρ' := fun r => [some (Sl.val s.d), some (Sl.val (csD s.cs)), some (Sl.val (ldD s.ld)), some (Sl.val (.int s.many)), some (Sl.val (.bl c.up)), some (Sl.val (.int r.1)), some (Sl.val (rowsD c.rows)), x7, none, some (Sl.val r.2.d)]) (fun r _ => ⟨by simp, by simp⟩) (by rw [sizeLine_val]; simp; omega)
        simp only [List.nil_append, List.map_take] at lc2
        have hg' : (s.cs.length : Int) < 2 * (agree s c : Nat) := by omega
        simp [bodyE, wipeE, lc, ha, hm2, hl, hg', sizeLine_val, lc2]
        try rfl
      · have ht : isTold s c = false := by simp [isTold, hg]
        have hg' : ¬ (s.cs.length : Int) < 2 * (agree s c : Nat) := by omega
        rcases ev_loop s S hf hr cs (some (Sl.val (.bl c.up))) (some (Sl.val (.int c.tm))) (some (Sl.val (rowsD c.rows))) (some (Sl.val (.lst ((s.cs.filter fun (o : Cp) => decide (o.rows.take s.many = c.rows.take s.many)).map Cp.d)))) (fun o ho => hm o (List.mem_cons_of_mem _ ho)) with ⟨y4, y5, y6, y7, p, q⟩ | ⟨c', p, q⟩
        · refine .inl ⟨y4, y5, y6, y7, by simp [ht]; simpa using p, ?_⟩
          simp [bodyE, wipeE, lc, ha, hm2, hl, hg', sizeLine_val]
          exact q
        · refine .inr ⟨c', by simp [ht, p], ?_⟩
          simp only [bodyE, List.map_take, List.map_map] at q
          simp [bodyE, wipeE, lc, ha, hm2, hl, hg', sizeLine_val]
          exact q
    · have ht : isTold s c = false := by simp [isTold, hl]
      rcases ev_loop s S hf hr cs (some (Sl.val (.bl c.up))) (some (Sl.val (.int c.tm))) (some (Sl.val (rowsD c.rows))) (some (Sl.val (.lst ((s.cs.filter fun (o : Cp) => decide (o.rows.take s.many = c.rows.take s.many)).map Cp.d)))) (fun o ho => hm o (List.mem_cons_of_mem _ ho)) with ⟨y4, y5, y6, y7, p, q⟩ | ⟨c', p, q⟩
      · refine .inl ⟨y4, y5, y6, y7, by simp [ht]; simpa using p, ?_⟩
        simp [bodyE, wipeE, lc, ha, hm2, hl, sizeLine_val]
        exact q
      · refine .inr ⟨c', by simp [ht, p], ?_⟩
        simp only [bodyE, List.map_take, List.map_map] at q
        simp [bodyE, wipeE, lc, ha, hm2, hl, sizeLine_val]
        exact q
theorem e_events_in (s : Sta) (S : Store) (w : Wf s) : f_events_in [s.d] S = .ok (.tup ((eventsIn s).map Ev.d)) S := by
  rcases ev_loop s S w.few w.rows s.cs none none none none (fun _ h => h) with ⟨y4, y5, y6, y7, p, q⟩ | ⟨c, p, q⟩
  · simp only [bodyE] at q
    simp [f_events_in, b_events_in, fnEnv, N_events_in, q, eventsIn, p, sizeLine_val]
  · simp only [bodyE] at q
    simp [f_events_in, b_events_in, fnEnv, N_events_in, q, eventsIn, p, sizeLine_val]
end K78

/-! Plays with things that are no deeds. -/
namespace K78
open PySem Py Cop
def OkI : It → Prop
  | .good d => d.ok
  | .bad x => ∀ S : Store, f_is_deed_form [x] S = .ok (.bl false) S ∧ f__law_is_copy_deed [x] S = .ok (.bl false) S
def odd0 : List It := [.bad (.non),
  .bad (.int 0),
  .bad (.tup []),
  .bad (.lst []),
  .bad (.emp),
  .bad (.str "elect"),
  .bad (.tup [.str "elect"]),
  .bad (.tup [.str "elect", .int 0]),
  .good (.elect 0 [0, 1]),
  .bad (.tup [.str "elect", .int 0, .tup [.int 1, .int 0]]),
  .bad (.tup [.str "elect", .int 0, .lst [.int 0, .int 1]]),
  .bad (.tup [.str "elect", .int 5, .tup [.int 0, .int 1]]),
  .bad (.tup [.str "elect", .int 0, .tup [.int 0, .int 5]]),
  .bad (.tup [.str "elect", .bl true, .tup [.int 0, .int 1]]),
  .good (.elect 0 []),
  .bad (.tup [.str "elect", .int 0, .tup [.int 0, .int 0]])]
def odd1 : List It := [.bad (.tup [.str "elect", .int 0, .tup [.int 0, .int 1], .int 0]),
  .bad (.tup [.str "elect", .str "0", .tup [.int 0, .int 1]]),
  .bad (.tup [.str "elect", .int 0, .non]),
  .bad (.tup [.str "append"]),
  .good (.append .off),
  .bad (.tup [.str "append", .tup [.str "on"]]),
  .bad (.tup [.str "append", .non]),
  .bad (.tup [.str "append", .tup [.str "answer", .tup [.int 0, .int 0], .int 1, .int 3]]),
  .bad (.tup [.str "append", .tup [.str "off"], .int 0]),
  .bad (.tup [.str "append", .lst [.str "off"]]),
  .good (.append (.ans 0 0 true 3)),
  .bad (.tup [.str "append", .tup [.str "answer", .lst [.int 0, .int 0], .bl true, .int 3]]),
  .bad (.tup [.str "append", .tup [.str "answer", .tup [.int 0, .int 0], .bl true, .int (-1)]]),
  .bad (.tup [.str "commit", .int 0]),
  .bad (.tup [.str "commit", .int 401]),
  .good (.commit 1)]
def odd2 : List It := [.bad (.tup [.str "commit", .bl true]),
  .bad (.tup [.str "commit", .non]),
  .bad (.tup [.str "commit"]),
  .good (.commit 400),
  .good (.copy 1),
  .bad (.tup [.str "copy", .int 5]),
  .bad (.tup [.str "copy", .int (-1)]),
  .bad (.tup [.str "copy", .bl true]),
  .good (.stop 0),
  .bad (.tup [.str "stop"]),
  .good (.start 4),
  .bad (.tup [.str "start", .str "4"]),
  .bad (.tup [.str "end", .int 0]),
  .bad (.lst [.str "stop", .int 0]),
  .bad (.tup [.emp, .int 0]),
  .bad (.tup [.non, .int 0])]
def odds : List It := odd0 ++ odd1 ++ odd2
theorem odd0_ok : ∀ it ∈ odd0, OkI it := by
  intro it h
  simp only [odd0, List.mem_cons, List.not_mem_nil, or_false] at h
  rcases h with rfl | rfl | rfl | rfl | rfl | rfl | rfl | rfl | rfl | rfl | rfl | rfl | rfl | rfl | rfl | rfl
  all_goals first
    | exact fun S => ⟨by kernel_rfl, by kernel_rfl⟩
    | simp [OkI, Deed.ok, Ev.ok]
theorem odd1_ok : ∀ it ∈ odd1, OkI it := by
  intro it h
  simp only [odd1, List.mem_cons, List.not_mem_nil, or_false] at h
  rcases h with rfl | rfl | rfl | rfl | rfl | rfl | rfl | rfl | rfl | rfl | rfl | rfl | rfl | rfl | rfl | rfl
  all_goals first
    | exact fun S => ⟨by kernel_rfl, by kernel_rfl⟩
    | simp [OkI, Deed.ok, Ev.ok]
theorem odd2_ok : ∀ it ∈ odd2, OkI it := by
  intro it h
  simp only [odd2, List.mem_cons, List.not_mem_nil, or_false] at h
  rcases h with rfl | rfl | rfl | rfl | rfl | rfl | rfl | rfl | rfl | rfl | rfl | rfl | rfl | rfl | rfl | rfl
  all_goals first
    | exact fun S => ⟨by kernel_rfl, by kernel_rfl⟩
    | simp [OkI, Deed.ok, Ev.ok]
theorem odds_ok : ∀ it ∈ odds, OkI it := fun it h => by
  unfold odds at h
  simp only [List.mem_append] at h
  rcases h with (h | h) | h
  · exact odd0_ok it h
  · exact odd1_ok it h
  · exact odd2_ok it h
theorem odds_len : odds.length = 48 := by decide
theorem l_odd (S : Store) (n c : Nat) (hk : Kt S n c) (hc : c + 10 < 2 ^ 100) : ∃ (it : It) (S' : Store), f__law_odd [.ref n] S = .ok it.d S' ∧ OkI it ∧ Kt S' n (c + 1) ∧ Sm n S S' := by
  obtain ⟨y, S', e, hy, k1, s1⟩ := pick S n c (.lst (odds.map It.d)) (odds.map It.d) (fun S => by simp) (fun S i => by simp [atI_nat]) hk (by omega) (by simp [odds, odd0]) (by rw [List.length_map, odds_len]; omega)
  obtain ⟨it, hi, rfl⟩ := List.mem_map.mp hy
  refine ⟨it, S', ?_, odds_ok it hi, k1, s1⟩
  have h : f__law_odd [.ref n] S = endR (rS (f__law_pick [.ref n, .lst (odds.map It.d)] S) [some (Sl.val (.ref n)), some (Sl.val (.lst (odds.map It.d)))] fun x S => some (.rt x, S)) := by kernel_rfl
  rw [h, e]
  rfl
theorem e_form (it : It) (S : Store) (h : OkI it) : ∃ b, f_is_deed_form [it.d] S = .ok (.bl b) S ∧ f__law_is_copy_deed [it.d] S = .ok (.bl b) S := by
  cases it with
  | good d => exact ⟨true, e_deed_form d S h, l_copy_deed d S h⟩
  | bad x => exact ⟨false, (h S).1, (h S).2⟩
theorem e_behindI (s : Sta) (it : It) (S : Store) (w : Wf s) (h : OkI it) : f_behind_deed [s.d, it.d] S = .ok (optD (behindI s it)) S := by
  cases it with
  | good d => exact e_behind s d S w h
  | bad x =>
    have h1 := (h S).1
    simp [f_behind_deed, b_behind_deed, fnEnv, N_behind_deed, It.d, h1, behindI]
theorem l_behindI (s : Sta) (it : It) (S : Store) (w : Wf s) (h : OkI it) : f__law_behind [s.d, it.d] S = .ok (optD (behindI s it)) S := by
  cases it with
  | good d => exact l_behind s d S w h
  | bad x =>
    have h1 := (h S).2
    simp [f__law_behind, b__law_behind, fnEnv, N__law_behind, It.d, h1, behindI]
theorem behindI_wb {k : Nat} {s t : Sta} {it : It} (w : Wb k s) (hd : OkI it) (h : behindI s it = some t) : Wb (k + 1) t := by
  cases it with
  | good d => exact behind_wb w hd h
  | bad x => cases h
theorem sowI_loop (many : D) (v : D) (S : Store) : ∀ (ds : List It) (k : Nat) (s : Sta) (x3 x4 : Option Sl), Wb k s → (∀ d ∈ ds, OkI d) → k + ds.length ≤ 900 →
    (∃ y3 y4 t, playI s k ds = (some t, 0) ∧ Wf t ∧ forRun (gT 2 (gsC (gN 3) (gsC (gN 4) gs0))) bodyS ((ds.zipIdx k).map fun x => D.tup [.int (x.2 : Nat), x.1.d]) [some (Sl.val many), some (Sl.val v), some (Sl.val s.d), x3, x4] S = some (.nx [some (Sl.val many), some (Sl.val v), some (Sl.val t.d), y3, y4], S)) ∨
    (∃ j, playI s k ds = (none, j) ∧ forRun (gT 2 (gsC (gN 3) (gsC (gN 4) gs0))) bodyS ((ds.zipIdx k).map fun x => D.tup [.int (x.2 : Nat), x.1.d]) [some (Sl.val many), some (Sl.val v), some (Sl.val s.d), x3, x4] S = some (.rt (.tup [.non, .int (j : Nat)]), S))
  | [], k, s, x3, x4, w, _, hl => .inl ⟨x3, x4, s, rfl, w.wf (by simp at hl; omega), rfl⟩
  | d :: ds, k, s, x3, x4, w, ho, hl => by
    simp only [List.length_cons] at hl
    have e := e_behindI s d S (w.wf (by omega)) (ho d List.mem_cons_self)
    rw [List.zipIdx_cons, List.map_cons]
    unfold forRun playI
    cases hb : behindI s d with
    | none =>
      rw [hb] at e
      simp only [optD_none] at e
      refine .inr ⟨k, rfl, ?_⟩
      simp [bodyS, e, sizeLine_val]
    | some s' =>
      rw [hb] at e
      simp only [optD_some] at e
      rcases sowI_loop many v S ds (k + 1) s' (some (Sl.val (.int (k : Nat)))) (some (Sl.val d.d)) (behindI_wb w (ho d List.mem_cons_self) hb) (fun x hx => ho x (List.mem_cons_of_mem _ hx)) (by omega) with ⟨y3, y4, t, p, wt, q⟩ | ⟨j, p, q⟩
      · refine .inl ⟨y3, y4, t, p, wt, ?_⟩
        simp [bodyS, e]
        exact q
      · refine .inr ⟨j, p, ?_⟩
        simp [bodyS, e]
        exact q
def bodyD : DS := dSeq (dSet 2 (qV (dCall 2 f__law_behind (dCons (dVar 2) (dCons (dVar 4) (dNil)))))) (dIfS (dTest (dOp pIs (dVar 2) (dCst .non))) (dRet (dTup (dCons (dCst (.str "wrong")) (dCons (dVar 3) (dNil))))) (dNop))
theorem due_loop (many : D) (v : D) (S : Store) : ∀ (ds : List It) (k : Nat) (s : Sta) (x3 x4 : Option Sl), Wb k s → (∀ d ∈ ds, OkI d) → k + ds.length ≤ 900 →
    (∃ y3 y4 t, playI s k ds = (some t, 0) ∧ forRun (gT 2 (gsC (gN 3) (gsC (gN 4) gs0))) bodyD ((ds.zipIdx k).map fun x => D.tup [.int (x.2 : Nat), x.1.d]) [some (Sl.val many), some (Sl.val v), some (Sl.val s.d), x3, x4] S = some (.nx [some (Sl.val many), some (Sl.val v), some (Sl.val t.d), y3, y4], S)) ∨
    (∃ j, playI s k ds = (none, j) ∧ forRun (gT 2 (gsC (gN 3) (gsC (gN 4) gs0))) bodyD ((ds.zipIdx k).map fun x => D.tup [.int (x.2 : Nat), x.1.d]) [some (Sl.val many), some (Sl.val v), some (Sl.val s.d), x3, x4] S = some (.rt (.tup [.str "wrong", .int (j : Nat)]), S))
  | [], k, s, x3, x4, w, _, hl => .inl ⟨x3, x4, s, rfl, rfl⟩
  | d :: ds, k, s, x3, x4, w, ho, hl => by
    simp only [List.length_cons] at hl
    have e := l_behindI s d S (w.wf (by omega)) (ho d List.mem_cons_self)
    rw [List.zipIdx_cons, List.map_cons]
    unfold forRun playI
    cases hb : behindI s d with
    | none =>
      rw [hb] at e
      simp only [optD_none] at e
      refine .inr ⟨k, rfl, ?_⟩
      simp [bodyD, e, sizeLine_val]
    | some s' =>
      rw [hb] at e
      simp only [optD_some] at e
      rcases due_loop many v S ds (k + 1) s' (some (Sl.val (.int (k : Nat)))) (some (Sl.val d.d)) (behindI_wb w (ho d List.mem_cons_self) hb) (fun x hx => ho x (List.mem_cons_of_mem _ hx)) (by omega) with ⟨y3, y4, t, p, q⟩ | ⟨j, p, q⟩
      · refine .inl ⟨y3, y4, t, p, ?_⟩
        simp [bodyD, e]
        exact q
      · refine .inr ⟨j, p, ?_⟩
        simp [bodyD, e]
        exact q
def dueD : Option Sta × Nat → D
  | (some t, _) => .tup [.str "play", t.d]
  | (none, j) => .tup [.str "wrong", .int (j : Nat)]
theorem e_sowI (k : Nat) (ds : List It) (S : Store) (h : k = 3 ∨ k = 5) (ho : ∀ d ∈ ds, OkI d) (hl : ds.length ≤ 400) :
    f_state_or_wrong [.int k, .tup (ds.map It.d)] S = .ok (.tup [optD (playI (ini k) 0 ds).1, .int ((playI (ini k) 0 ds).2 : Nat)]) S ∧ ∀ t, (playI (ini k) 0 ds).1 = some t → Wf t := by
  have eb := e_begun k S (by omega)
  have hlen : ¬ (400 : Int) < (ds.length : Nat) := by omega
  have hen : enumD (ds.map It.d) = (ds.zipIdx 0).map fun x => D.tup [.int (x.2 : Nat), x.1.d] := by rw [enumD_eq]; exact zip_typed It.d ds 0
  rcases sowI_loop (.int k) (.tup (ds.map It.d)) S ds 0 (ini k) none none (ini_wb h) ho (by omega) with ⟨y3, y4, t, p, wt, q⟩ | ⟨j, p, q⟩
  · rw [p]
    simp only [bodyS] at q
    refine ⟨?_, fun t' e => by cases e; exact wt⟩
    simp [f_state_or_wrong, b_state_or_wrong, fnEnv, N_state_or_wrong, eb, hlen, hen, q, sizeLine_val]
  · rw [p]
    simp only [bodyS] at q
    refine ⟨?_, fun t' e => by cases e⟩
    simp [f_state_or_wrong, b_state_or_wrong, fnEnv, N_state_or_wrong, eb, hlen, hen, q, sizeLine_val]
theorem ini_mul {k : Nat} (S : Store) (h : k = 3 ∨ k = 5) : pMul S (.tup [.tup [.bl true, .int 0, .tup []]]) (.int (k : Nat)) = some (csD (ini k).cs) := by
  rw [pMul_tup ⟨by simp, by omega, by omega, by simp⟩]
  simp [flat_rep, ini, csD, Cp.d, rowsD, emptyC]
theorem l_due (k : Nat) (ds : List It) (S : Store) (h : k = 3 ∨ k = 5) (ho : ∀ d ∈ ds, OkI d) (hl : ds.length ≤ 400) :
    f__law_due [.int k, .tup (ds.map It.d)] S = .ok (dueD (playI (ini k) 0 ds)) S := by
  have eb := ini_mul S h
  have hlen : ¬ (400 : Int) < (ds.length : Nat) := by omega
  have hen : enumD (ds.map It.d) = (ds.zipIdx 0).map fun x => D.tup [.int (x.2 : Nat), x.1.d] := by rw [enumD_eq]; exact zip_typed It.d ds 0
  have hini : D.tup [csD (ini k).cs, .non, .int 0] = (ini k).d := rfl
  rcases due_loop (.int k) (.tup (ds.map It.d)) S ds 0 (ini k) none none (ini_wb h) ho (by omega) with ⟨y3, y4, t, p, q⟩ | ⟨j, p, q⟩
  · rw [p]
    simp only [bodyD] at q
    simp [f__law_due, b__law_due, fnEnv, N__law_due, eb, hini, hlen, hen, q, sizeLine_val, dueD]
  · rw [p]
    simp only [bodyD] at q
    simp [f__law_due, b__law_due, fnEnv, N__law_due, eb, hini, hlen, hen, q, sizeLine_val, dueD]
end K78

/-! The law's look at plays. -/
namespace K78
open PySem Py Cop
def bT0 : DS := dSet 6 (qV (dCall 2 f__law_pour (dCons (dVar 0) (dCons (dOp pAdd (dPr pLen (dCons (dVar 2) (dNil))) (dCst (.int 1))) (dNil)))))
def bT1 : DS := dPar2 7 8 (qV (dCall 2 f__law_any_deed (dCons (dVar 0) (dCons (dOp pIdx (dVar 3) (dVar 6)) (dNil))))) (qV (dCall 1 f__law_odd (dCons (dVar 0) (dNil))))
def bT2 : DS := dSet 4 (qO (dCatL (dRd 4) (dLst (dDisp (dCons (dOp pAdd (dOp pAdd (dSl (dVar 2) (dNo) (dSo (dVar 6))) (dTup (dCons (dVar 7) (dNil)))) (dSl (dVar 2) (dSo (dVar 6)) (dNo))) (dCons (dOp pAdd (dSl (dVar 2) (dNo) (dSo (dVar 6))) (dTup (dCons (dVar 8) (dNil)))) (dCons (dOp pAdd (dSl (dVar 2) (dNo) (dSo (dVar 6))) (dSl (dVar 2) (dSo (dOp pAdd (dVar 6) (dCst (.int 1)))) (dNo))) (dNil))))))))
def bT3 : DS := dOwn 4 fApp (dOp pAdd (dOp pAdd (dOp pAdd (dSl (dVar 2) (dNo) (dSo (dVar 6))) (dSl (dVar 2) (dSo (dOp pAdd (dVar 6) (dCst (.int 1)))) (dSo (dOp pAdd (dVar 6) (dCst (.int 2)))))) (dSl (dVar 2) (dSo (dVar 6)) (dSo (dOp pAdd (dVar 6) (dCst (.int 1)))))) (dSl (dVar 2) (dSo (dOp pAdd (dVar 6) (dCst (.int 2)))) (dNo)))
def bT4 : DS := dIfS (dOr (dTest (dOp pNe (dCall 1 f_is_deed (dCons (dVar 8) (dNil))) (dCall 1 f__law_is_copy_deed (dCons (dVar 8) (dNil))))) (dTest (dOp pIsNotB (dCall 1 f_is_deed (dCons (dVar 7) (dNil))) (dCst (.bl true))))) (dRet (dCst (.bl false))) (dNop)
def bV0 : DS := dSet 10 (qV (dCall 2 f__law_due (dCons (dVar 1) (dCons (dVar 9) (dNil)))))
def bV1 : DS := dIfS (dTest (dOp pNe (dSl (dCall 2 f_play_paper (dCons (dVar 1) (dCons (dVar 9) (dNil)))) (dNo) (dSo (dCst (.int 2)))) (dVar 10))) (dRet (dCst (.bl false))) (dNop)
def bV2 : DS := dIfS (dAnd (dTest (dOp pEq (dOp pIdx (dVar 10) (dCst (.int 0))) (dCst (.str "play")))) (dTest (dOp pNe (dOp pIdx (dCall 2 f_play_paper (dCons (dVar 1) (dCons (dVar 9) (dNil)))) (dCst (.int 2))) (dCall 2 f_committed (dCons (dVar 1) (dCons (dVar 9) (dNil))))))) (dRet (dCst (.bl false))) (dNop)
def bW0 : DS := dPar2 14 15 (qV (dOp pIdx (dCall 2 f__law_pick (dCons (dVar 0) (dCons (dVar 11) (dNil)))) (dCst (.int 2)))) (qV (dOp pIdx (dCall 2 f__law_pick (dCons (dVar 0) (dCons (dVar 11) (dNil)))) (dCst (.int 2))))
def bW1 : DS := dIfS (dTest (dOp pNe (dCall 2 f_is_newer (dCons (dVar 14) (dCons (dVar 15) (dNil)))) (dOp pGt (dCall 1 f__law_last (dCons (dVar 14) (dNil))) (dCall 1 f__law_last (dCons (dVar 15) (dNil)))))) (dRet (dCst (.bl false))) (dNop)
def bT : DS := dSeq bT0 (dSeq bT1 (dSeq bT2 (dSeq bT3 bT4)))
def bV : DS := dSeq bV0 (dSeq bV1 bV2)
def bW : DS := dSeq bW0 bW1
def playD : Option Sta × Nat → D
  | (some t, _) => .tup [.str "play", t.d, evsD (eventsIn t)]
  | (none, j) => .tup [.str "wrong", .int (j : Nat)]
section
variable {S : Store} {k : Nat} {ds : List It}
theorem e_playI (h : k = 3 ∨ k = 5) (ho : ∀ d ∈ ds, OkI d) (hl : ds.length ≤ 400) : f_play_paper [.int k, .tup (ds.map It.d)] S = .ok (playD (playI (ini k) 0 ds)) S := by
  obtain ⟨e, hw⟩ := e_sowI k ds S h ho hl
  cases hp : playI (ini k) 0 ds with
  | mk r j =>
    rw [hp] at e hw
    cases r with
    | none =>
      simp only [optD_none] at e
      simp [f_play_paper, b_play_paper, fnEnv, N_play_paper, e_need_many k _ h, e, sizeLine_val, playD]
    | some t =>
      simp only [optD_some] at e
      have ev := e_events_in t S (hw t rfl)
      simp [f_play_paper, b_play_paper, fnEnv, N_play_paper, e_need_many k _ h, e, ev, sizeLine_val, playD, evsD]
theorem e_commI (h : k = 3 ∨ k = 5) (ho : ∀ d ∈ ds, OkI d) (hl : ds.length ≤ 400) {t : Sta} {j : Nat} (hp : playI (ini k) 0 ds = (some t, j)) : f_committed [.int k, .tup (ds.map It.d)] S = .ok (evsD (eventsIn t)) S := by
  obtain ⟨e, hw⟩ := e_sowI k ds S h ho hl
  rw [hp] at e hw
  simp only [optD_some] at e
  have ev := e_events_in t S (hw t rfl)
  have en : f_need_play [.int k, .tup (ds.map It.d)] S = .ok t.d S := by
    simp [f_need_play, b_need_play, fnEnv, N_need_play, e_need_many k _ h, e, sizeLine_val]
  simp [f_committed, b_committed, fnEnv, N_committed, en, ev, evsD]
theorem e_play_no {v : D} (h : k = 3 ∨ k = 5) (h1 : vis v = true) (h2 : isTupB v = false) : f_play_paper [.int k, v] S = .ok (.tup [.str "wrong", .int 0]) S := by
  have hi := isi_tup (S := S) h1
  rw [h2] at hi
  have e : f_state_or_wrong [.int k, v] S = .ok (.tup [.non, .int 0]) S := by
    simp [f_state_or_wrong, b_state_or_wrong, fnEnv, N_state_or_wrong, hi, sizeLine_val]
  simp [f_play_paper, b_play_paper, fnEnv, N_play_paper, e_need_many k _ h, e, sizeLine_val]
theorem l_due_no {v : D} (h1 : vis v = true) (h2 : isTupB v = false) : f__law_due [.int k, v] S = .ok (.tup [.str "wrong", .int 0]) S := by
  have hi := isi_tup (S := S) h1
  rw [h2] at hi
  simp [f__law_due, b__law_due, fnEnv, N__law_due, hi, sizeLine_val]
theorem e_play_many {L : List D} (h : k = 3 ∨ k = 5) (hl : 400 < L.length) : f_play_paper [.int k, .tup L] S = .ok (.tup [.str "wrong", .int 0]) S := by
  have hl : (400 : Int) < (L.length : Nat) := by omega
  have hi : pIsi S [.tup L, .ty "tuple"] = some (.bl true) := isi_tup rfl
  have e : f_state_or_wrong [.int k, .tup L] S = .ok (.tup [.non, .int 0]) S := by
    simp [f_state_or_wrong, b_state_or_wrong, fnEnv, N_state_or_wrong, hi, hl, sizeLine_val]
  simp [f_play_paper, b_play_paper, fnEnv, N_play_paper, e_need_many k _ h, e, sizeLine_val]
end
/-- a value whose paper is asked -/
def Val (v : D) : Prop := (∃ its : List It, (∀ it ∈ its, OkI it) ∧ its.length ≤ 400 ∧ v = .tup (its.map It.d)) ∨ (vis v = true ∧ isTupB v = false)
def OkL (L : List D) : Prop := ∀ x ∈ L, ∃ it, OkI it ∧ It.d it = x
theorem OkL.val {L : List D} (h : OkL L) (l : L.length ≤ 400) : Val (.tup L) := by
  obtain ⟨its, h1, rfl⟩ := of_mem h
  exact .inl ⟨its, h1, by simpa using l, rfl⟩
theorem OkL.app {L M : List D} (h : OkL L) (k : OkL M) : OkL (L ++ M) := fun x hx => (List.mem_append.mp hx).elim (h x) (k x)
theorem OkL.cut {L : List D} {lo hi : Option Int} (h : OkL L) : OkL (cutD L lo hi) := fun x hx => h x (cutD_mem hx)
theorem OkL.deeds {ds : List Deed} (h : ∀ d ∈ ds, d.ok) : OkL (ds.map Deed.d) := fun x hx => by
  obtain ⟨d, hd, rfl⟩ := List.mem_map.mp hx
  exact ⟨.good d, h d hd, rfl⟩
theorem OkL.one {it : It} (h : OkI it) : OkL [it.d] := fun x hx => ⟨it, h, (List.mem_singleton.mp hx).symm⟩
theorem OkL.rev {L : List D} (h : OkL L) : OkL L.reverse := fun x hx => h x (List.mem_reverse.mp hx)
def envT (n size : Nat) (ds : List Deed) (ss : List Sta) (vs : List D) (x5 x6 x7 x8 : Option Sl) : Py.Env :=
  [some (Sl.val (.ref n)), some (Sl.val (.int size)), some (Sl.val (.tup (ds.map Deed.d))), some (Sl.val (.lst (ss.map Sta.d))), some (Sl.own vs), x5, x6, x7, x8, none, none, none, none, none, none, none]
theorem add_t {S : Store} {L M : List D} (h : L.length + M.length ≤ 1000) : pAdd S (.tup L) (.tup M) = some (.tup (L ++ M)) := pAdd_tup (by rw [sizeLine_val]; omega)
theorem turn_loop (n size : Nat) (ds : List Deed) (ss : List Sta) (s0 : Sta) (hr : Runs s0 ds ss) (hd : ∀ d ∈ ds, d.ok) (hw : ∀ s ∈ ss, Wb ds.length s) (hl : ds.length ≤ 50) : ∀ (xs : List Nat) (S : Store) (c : Nat) (vs : List D) (x5 x6 x7 x8 : Option Sl), Kt S n c → c + 40 * xs.length + 200 < 2 ^ 100 → (∀ v ∈ vs, Val v) → vs.length + 4 * xs.length ≤ 1000 →
    ∃ (ws : List D) (S' : Store) (y5 y6 y7 y8 : Option Sl), forRun (gN 5) bT (xs.map intD) (envT n size ds ss vs x5 x6 x7 x8) S = some (.nx (envT n size ds ss ws y5 y6 y7 y8), S') ∧ (∀ v ∈ ws, Val v) ∧ ws.length ≤ vs.length + 4 * xs.length ∧ Kt S' n (c + 40 * xs.length) ∧ Sm n S S'
  | [], S, c, vs, x5, x6, x7, x8, hk, hc, hv, hz => ⟨vs, S, x5, x6, x7, x8, rfl, hv, Nat.le_refl _, hk, Sm.refl⟩
  | x :: xs, S, c, vs, x5, x6, x7, x8, hk, hc, hv, hz => by
    simp only [List.length_cons] at hc hz
    obtain ⟨r, S1, e1, hr1, k1, s1⟩ := pour S n c (ds.length + 1) hk (by omega) (by omega) (by omega)
    have hss := hr.len
    have hrs : r < ss.length := by omega
    have gs : (ss.map Sta.d)[r]? = some (ss[r]).d := by simp [hrs]
    have wb := hw ss[r] (List.getElem_mem hrs)
    obtain ⟨d, S2, e2, d2, k2, s2⟩ := any_deed S1 n (c + 1) ss[r] (wb.wf (by omega)) k1 (by omega) (by have := wb.many; omega) (fun q hq => by
      obtain ⟨i, _, _, e⟩ := rowsAt_mem hq
      rw [← e]
      have := wb.rows i
      omega)
    obtain ⟨it, S3, e3, o3, k3, s3⟩ := l_odd S2 n (c + 1 + 30) k2 (by omega)
    obtain ⟨b, f1, f2⟩ := e_form it S3 o3
    have f3 := e_deed_form d S3 d2
    have e1 : f__law_pour [.ref n, .int ((ds.length : Int) + 1)] S = .ok (.int r) S1 := e1
    -- the lists
    have D0 := OkL.deeds hd
    have dl : (ds.map Deed.d).length ≤ 50 := by simpa using hl
    have dd : OkL [d.d] := OkL.one (it := .good d) d2
    have hc1 : ∀ lo hi, (cutD (ds.map Deed.d) lo hi).length ≤ 50 := fun lo hi => Nat.le_trans cutD_len dl
    have a1 : ∀ S, pAdd S (.tup (cutD (ds.map Deed.d) none (some (r : Int)))) (.tup [d.d]) = some (.tup (cutD (ds.map Deed.d) none (some (r : Int)) ++ [d.d])) := fun S => add_t (by have := hc1 none (some (r : Int)); simp; omega)
    have a2 : ∀ S, pAdd S (.tup (cutD (ds.map Deed.d) none (some (r : Int)) ++ [d.d])) (.tup (cutD (ds.map Deed.d) (some (r : Int)) none)) = some (.tup (cutD (ds.map Deed.d) none (some (r : Int)) ++ [d.d] ++ cutD (ds.map Deed.d) (some (r : Int)) none)) := fun S => add_t (by have := hc1 none (some (r : Int)); have := hc1 (some (r : Int)) none; simp; omega)
    have a3 : ∀ S, pAdd S (.tup (cutD (ds.map Deed.d) none (some (r : Int)))) (.tup [it.d]) = some (.tup (cutD (ds.map Deed.d) none (some (r : Int)) ++ [it.d])) := fun S => add_t (by have := hc1 none (some (r : Int)); simp; omega)
    have a4 : ∀ S, pAdd S (.tup (cutD (ds.map Deed.d) none (some (r : Int)))) (.tup (cutD (ds.map Deed.d) (some ((r : Int) + 1)) none)) = some (.tup (cutD (ds.map Deed.d) none (some (r : Int)) ++ cutD (ds.map Deed.d) (some ((r : Int) + 1)) none)) := fun S => add_t (by have := hc1 none (some (r : Int)); have := hc1 (some ((r : Int) + 1)) none; omega)
    have a5 : ∀ S, pAdd S (.tup (cutD (ds.map Deed.d) none (some (r : Int)))) (.tup (cutD (ds.map Deed.d) (some ((r : Int) + 1)) (some ((r : Int) + 2)))) = some (.tup (cutD (ds.map Deed.d) none (some (r : Int)) ++ cutD (ds.map Deed.d) (some ((r : Int) + 1)) (some ((r : Int) + 2)))) := fun S => add_t (by have := hc1 none (some (r : Int)); have := hc1 (some ((r : Int) + 1)) (some ((r : Int) + 2)); omega)
    have a6 : ∀ S, pAdd S (.tup (cutD (ds.map Deed.d) none (some (r : Int)) ++ cutD (ds.map Deed.d) (some ((r : Int) + 1)) (some ((r : Int) + 2)))) (.tup (cutD (ds.map Deed.d) (some (r : Int)) (some ((r : Int) + 1)))) = some (.tup (cutD (ds.map Deed.d) none (some (r : Int)) ++ cutD (ds.map Deed.d) (some ((r : Int) + 1)) (some ((r : Int) + 2)) ++ cutD (ds.map Deed.d) (some (r : Int)) (some ((r : Int) + 1)))) := fun S => add_t (by
      have := hc1 none (some (r : Int)); have := hc1 (some ((r : Int) + 1)) (some ((r : Int) + 2)); have := hc1 (some (r : Int)) (some ((r : Int) + 1))
      rw [List.length_append]; omega)
    have a7 : ∀ S, pAdd S (.tup (cutD (ds.map Deed.d) none (some (r : Int)) ++ cutD (ds.map Deed.d) (some ((r : Int) + 1)) (some ((r : Int) + 2)) ++ cutD (ds.map Deed.d) (some (r : Int)) (some ((r : Int) + 1)))) (.tup (cutD (ds.map Deed.d) (some ((r : Int) + 2)) none)) = some (.tup (cutD (ds.map Deed.d) none (some (r : Int)) ++ cutD (ds.map Deed.d) (some ((r : Int) + 1)) (some ((r : Int) + 2)) ++ cutD (ds.map Deed.d) (some (r : Int)) (some ((r : Int) + 1)) ++ cutD (ds.map Deed.d) (some ((r : Int) + 2)) none)) := fun S => add_t (by
      have := hc1 none (some (r : Int)); have := hc1 (some ((r : Int) + 1)) (some ((r : Int) + 2)); have := hc1 (some (r : Int)) (some ((r : Int) + 1)); have := hc1 (some ((r : Int) + 2)) none
      rw [List.length_append, List.length_append]; omega)
    generalize hA : cutD (ds.map Deed.d) none (some (r : Int)) = A at a1 a2 a3 a4 a5 a6 a7
    generalize hB : cutD (ds.map Deed.d) (some (r : Int)) none = B at a2
    generalize hC : cutD (ds.map Deed.d) (some ((r : Int) + 1)) none = C at a4
    generalize hE : cutD (ds.map Deed.d) (some ((r : Int) + 1)) (some ((r : Int) + 2)) = E at a5 a6 a7
    generalize hF : cutD (ds.map Deed.d) (some (r : Int)) (some ((r : Int) + 1)) = F at a6 a7
    generalize hG : cutD (ds.map Deed.d) (some ((r : Int) + 2)) none = G at a7
    have vA : OkL A ∧ A.length ≤ 50 := by rw [← hA]; exact ⟨D0.cut, hc1 _ _⟩
    have vB : OkL B ∧ B.length ≤ 50 := by rw [← hB]; exact ⟨D0.cut, hc1 _ _⟩
    have vC : OkL C ∧ C.length ≤ 50 := by rw [← hC]; exact ⟨D0.cut, hc1 _ _⟩
    have vE : OkL E ∧ E.length ≤ 50 := by rw [← hE]; exact ⟨D0.cut, hc1 _ _⟩
    have vF : OkL F ∧ F.length ≤ 50 := by rw [← hF]; exact ⟨D0.cut, hc1 _ _⟩
    have vG : OkL G ∧ G.length ≤ 50 := by rw [← hG]; exact ⟨D0.cut, hc1 _ _⟩
    have v1 : Val (.tup (A ++ [d.d] ++ B)) := ((vA.1.app dd).app vB.1).val (by simp; omega)
    have v2 : Val (.tup (A ++ [it.d])) := (vA.1.app (OkL.one o3)).val (by simp; omega)
    have v3 : Val (.tup (A ++ C)) := (vA.1.app vC.1).val (by simp; omega)
    have v4 : Val (.tup (A ++ E ++ F ++ G)) := (((vA.1.app vE.1).app vF.1).app vG.1).val (by simp; omega)
    have t0 : bT0 (envT n size ds ss vs (some (Sl.val (intD x))) x6 x7 x8) S = some (.nx (envT n size ds ss vs (some (Sl.val (intD x))) (some (Sl.val (.int r))) x7 x8), S1) := by
      simp [bT0, envT, e1]
    have t1 : bT1 (envT n size ds ss vs (some (Sl.val (intD x))) (some (Sl.val (.int r))) x7 x8) S1 = some (.nx (envT n size ds ss vs (some (Sl.val (intD x))) (some (Sl.val (.int r))) (some (Sl.val d.d)) (some (Sl.val it.d))), S3) := by
      simp only [bT1, envT]
      simp [atI_nat, gs, e2, e3, -List.getElem?_map]
    have t2 : bT2 (envT n size ds ss vs (some (Sl.val (intD x))) (some (Sl.val (.int r))) (some (Sl.val d.d)) (some (Sl.val it.d))) S3 = some (.nx (envT n size ds ss (vs ++ [.tup (A ++ [d.d] ++ B), .tup (A ++ [it.d]), .tup (A ++ C)]) (some (Sl.val (intD x))) (some (Sl.val (.int r))) (some (Sl.val d.d)) (some (Sl.val it.d))), S3) := by
      simp only [bT2, envT]
      have hz2 : vs.length + 3 ≤ 16777216 := by omega
      simp only [List.append_assoc] at a2
      simp [dCatL, sizeLine_val, hA, hB, hC, a1, a2, a3, a4, hz2]
    have t3 : bT3 (envT n size ds ss (vs ++ [.tup (A ++ [d.d] ++ B), .tup (A ++ [it.d]), .tup (A ++ C)]) (some (Sl.val (intD x))) (some (Sl.val (.int r))) (some (Sl.val d.d)) (some (Sl.val it.d))) S3 = some (.nx (envT n size ds ss ((vs ++ [.tup (A ++ [d.d] ++ B), .tup (A ++ [it.d]), .tup (A ++ C)]) ++ [.tup (A ++ E ++ F ++ G)]) (some (Sl.val (intD x))) (some (Sl.val (.int r))) (some (Sl.val d.d)) (some (Sl.val it.d))), S3) := by
      simp only [bT3, envT]
      have hap : fApp (vs ++ [.tup (A ++ [d.d] ++ B), .tup (A ++ [it.d]), .tup (A ++ C)]) (.tup (A ++ E ++ F ++ G)) = some ((vs ++ [.tup (A ++ [d.d] ++ B), .tup (A ++ [it.d]), .tup (A ++ C)]) ++ [.tup (A ++ E ++ F ++ G)]) := fApp_ok (by rw [sizeLine_val]; simp; omega)
      simp [hA, hE, hF, hG, a5, a6, a7, hap, -List.append_assoc]
    have t4 : bT4 (envT n size ds ss ((vs ++ [.tup (A ++ [d.d] ++ B), .tup (A ++ [it.d]), .tup (A ++ C)]) ++ [.tup (A ++ E ++ F ++ G)]) (some (Sl.val (intD x))) (some (Sl.val (.int r))) (some (Sl.val d.d)) (some (Sl.val it.d))) S3 = some (.nx (envT n size ds ss ((vs ++ [.tup (A ++ [d.d] ++ B), .tup (A ++ [it.d]), .tup (A ++ C)]) ++ [.tup (A ++ E ++ F ++ G)]) (some (Sl.val (intD x))) (some (Sl.val (.int r))) (some (Sl.val d.d)) (some (Sl.val it.d))), S3) := by
      have g1 : f_is_deed [it.d] S3 = .ok (.bl b) S3 := by simp [f_is_deed, b_is_deed, fnEnv, N_is_deed, f1]
      have g2 : f_is_deed [d.d] S3 = .ok (.bl true) S3 := by simp [f_is_deed, b_is_deed, fnEnv, N_is_deed, f3]
      simp [bT4, envT, g1, g2, f2, pIsNotB]
    have hv' : ∀ v ∈ (vs ++ [.tup (A ++ [d.d] ++ B), .tup (A ++ [it.d]), .tup (A ++ C)]) ++ [.tup (A ++ E ++ F ++ G)], Val v := fun v hm => by
      rcases List.mem_append.mp hm with q | q
      · rcases List.mem_append.mp q with q | q
        · exact hv v q
        · simp only [List.mem_cons, List.not_mem_nil, or_false] at q
          rcases q with rfl | rfl | rfl
          · exact v1
          · exact v2
          · exact v3
      · rw [List.mem_singleton.mp q]; exact v4
    obtain ⟨ws, S', y5, y6, y7, y8, q1, q2, q3, q4, q5⟩ := turn_loop n size ds ss s0 hr hd hw hl xs S3 (c + 40) ((vs ++ [.tup (A ++ [d.d] ++ B), .tup (A ++ [it.d]), .tup (A ++ C)]) ++ [.tup (A ++ E ++ F ++ G)]) (some (Sl.val (intD x))) (some (Sl.val (.int r))) (some (Sl.val d.d)) (some (Sl.val it.d)) (k3.mono (by omega)) (by omega) hv' (by simp; omega)
    refine ⟨ws, S', y5, y6, y7, y8, ?_, q2, by simp only [List.length_append, List.length_cons, List.length_nil] at q3 ⊢; omega, q4.mono (by simp only [List.length_cons]; omega), ((s1.trans s2).trans s3).trans q5⟩
    rw [List.map_cons]
    exact (forRun_cons (ρ1 := envT n size ds ss vs (some (Sl.val (intD x))) x6 x7 x8) (by simp [envT]) (stm_of t0 (stm_of t1 (stm_of t2 (stm_of t3 t4))))).trans q1
end K78

/-! The law's look at plays: the loops over values and states. -/
namespace K78
open PySem Py Cop
def envV (n size : Nat) (ds : List Deed) (ss : List Sta) (vs : List D) (x5 x6 x7 x8 x9 x10 x11 x12 x13 x14 x15 : Option Sl) : Py.Env :=
  [some (Sl.val (.ref n)), some (Sl.val (.int size)), some (Sl.val (.tup (ds.map Deed.d))), some (Sl.val (.lst (ss.map Sta.d))), some (Sl.val (.lst vs)), x5, x6, x7, x8, x9, x10, x11, x12, x13, x14, x15]
section
variable {S : Store} {n size : Nat} {ds : List Deed} {ss : List Sta} {vs : List D} {x5 x6 x7 x8 x9 x10 x11 x12 x13 x14 x15 : Option Sl}
theorem pNe_pd {t : Sta} : pNe S (.tup [.str "play", t.d]) (.tup [.str "play", t.d]) = some (.bl false) :=
  pNe_of (k := 9) (Sh.tup (by simp; exact ⟨Sh.str, sta_sh t⟩)) (Sh.tup (by simp; exact ⟨Sh.str, sta_sh t⟩)) (by omega) (b := true) (by
    have h1 := sta_eqv t t
    simp [D.py, pyL, h1])
theorem pNe_wr {j : Int} : pNe S (.tup [.str "wrong", .int j]) (.tup [.str "wrong", .int j]) = some (.bl false) :=
  pNe_of (k := 1) (Sh.tup (by simp; exact ⟨Sh.str, Sh.int⟩)) (Sh.tup (by simp; exact ⟨Sh.str, Sh.int⟩)) (by omega) (b := true) (by simp [D.py, pyL])
theorem pNe_evs {es fs : List Ev} : pNe S (evsD es) (evsD fs) = some (.bl (!decide (es = fs))) := pNe_of (evs_sh es) (evs_sh fs) (by omega) (evs_eqv es fs)
theorem cut2_3 {a b c : D} : cutD [a, b, c] none (some 2) = [a, b] := rfl
theorem cut2_2 {a b : D} : cutD [a, b] none (some 2) = [a, b] := rfl
theorem value_turn {v : D} (hsz : size = 3 ∨ size = 5) (h : Val v) : ∃ y10, bV (envV n size ds ss vs x5 x6 x7 x8 (some (Sl.val v)) x10 x11 x12 x13 x14 x15) S = some (.nx (envV n size ds ss vs x5 x6 x7 x8 (some (Sl.val v)) y10 x11 x12 x13 x14 x15), S) := by
  rcases h with ⟨its, ho, hl, rfl⟩ | ⟨h1, h2⟩
  · have e1 := l_due size its S hsz ho hl
    have e2 := e_playI (S := S) hsz ho hl
    cases hp : playI (ini size) 0 its with
    | mk r j =>
      rw [hp] at e1 e2
      cases r with
      | none =>
        simp only [dueD] at e1
        simp only [playD] at e2
        exact ⟨_, by simp only [bV, bV0, bV1, bV2, envV]; simp [e1, e2, cut2_2, pNe_wr]; rfl⟩
      | some t =>
        simp only [dueD] at e1
        simp only [playD] at e2
        have e3 := e_commI (S := S) hsz ho hl hp
        exact ⟨_, by simp only [bV, bV0, bV1, bV2, envV]; simp [e1, e2, e3, cut2_3, pNe_pd, pNe_evs]; rfl⟩
  · have e1 := l_due_no (S := S) (k := size) h1 h2
    have e2 := e_play_no (S := S) hsz h1 h2
    exact ⟨_, by simp only [bV, bV0, bV1, bV2, envV]; simp [e1, e2, cut2_2, pNe_wr]; rfl⟩
theorem value_loop (hsz : size = 3 ∨ size = 5) : ∀ (xs : List D) (x9 x10 : Option Sl), (∀ v ∈ xs, Val v) → ∃ y9 y10, forRun (gN 9) bV xs (envV n size ds ss vs x5 x6 x7 x8 x9 x10 x11 x12 x13 x14 x15) S = some (.nx (envV n size ds ss vs x5 x6 x7 x8 y9 y10 x11 x12 x13 x14 x15), S)
  | [], x9, x10, _ => ⟨x9, x10, rfl⟩
  | v :: xs, x9, x10, h => by
    obtain ⟨y10, e1⟩ := value_turn (n := n) (ds := ds) (ss := ss) (vs := vs) (S := S) (x5 := x5) (x6 := x6) (x7 := x7) (x8 := x8) (x10 := x10) (x11 := x11) (x12 := x12) (x13 := x13) (x14 := x14) (x15 := x15) hsz (h v List.mem_cons_self)
    obtain ⟨z9, z10, e2⟩ := value_loop hsz xs (some (Sl.val v)) y10 fun w hw => h w (List.mem_cons_of_mem _ hw)
    exact ⟨z9, z10, (forRun_cons (ρ1 := envV n size ds ss vs x5 x6 x7 x8 (some (Sl.val v)) x10 x11 x12 x13 x14 x15) (by simp [envV]) e1).trans e2⟩
end
def bodyC2 : DS := dSeq (dIfS (dOr (dNot (dTest (dPr pIsi (dCons (dVar 1) (dCons (dCst (.ty "tuple")) (dNil)))))) (dOr (dTest (dOp pNe (dPr pLen (dCons (dVar 1) (dNil))) (dCst (.int 2)))) (dNot (dTest (dCall 1 f_is_event (dCons (dOp pIdx (dVar 1) (dCst (.int 1))) (dNil))))))) (dRet (dCst (.bl false))) (dNop)) (dIfS (dOr (dNot (dTest (dPr pIsi (dCons (dOp pIdx (dVar 1) (dCst (.int 0))) (dCons (dCst (.ty "int")) (dNil)))))) (dOr (dTest (dPr pIsi (dCons (dOp pIdx (dVar 1) (dCst (.int 0))) (dCons (dCst (.ty "bool")) (dNil))))) (dTest (dOp pLt (dOp pIdx (dVar 1) (dCst (.int 0))) (dCst (.int 1)))))) (dRet (dCst (.bl false))) (dNop))
theorem copy_rows_loop (v : D) (S : Store) : ∀ (rs : List (Nat × Ev)) (x1 : Option Sl), (∀ r ∈ rs, 1 ≤ r.1 ∧ r.2.ok) → ∃ y1, forRun (gN 1) bodyC2 (rs.map rowD) [some (Sl.val v), x1] S = some (.nx [some (Sl.val v), y1], S)
  | [], x1, _ => ⟨x1, rfl⟩
  | r :: rs, x1, h => by
    obtain ⟨y1, e⟩ := copy_rows_loop v S rs (some (Sl.val (rowD r))) fun q hq => h q (List.mem_cons_of_mem _ hq)
    obtain ⟨h1, h2⟩ := h r List.mem_cons_self
    have hev := e_is_event r.2 S h2
    have hlt : ¬ (r.1 : Int) < 1 := by omega
    have hi : pIsi S [rowD r, .ty "tuple"] = some (.bl true) := isi_tup rfl
    have hln : pLen S [rowD r] = some (.int 2) := rfl
    refine ⟨y1, ?_⟩
    rw [List.map_cons]
    exact (forRun_cons (ρ1 := [some (Sl.val v), some (Sl.val (rowD r))]) (by simp) (by simp [bodyC2, hi, hln, hev, hlt])).trans e
theorem e_copy_rows (rs : List (Nat × Ev)) (S : Store) (h : ∀ r ∈ rs, 1 ≤ r.1 ∧ r.2.ok) : f_are_copy_rows [rowsD rs] S = .ok (.bl true) S := by
  obtain ⟨y1, e⟩ := copy_rows_loop (rowsD rs) S rs none h
  have hi : pIsi S [rowsD rs, .ty "tuple"] = some (.bl true) := isi_tup rfl
  simp only [bodyC2] at e
  simp [f_are_copy_rows, b_are_copy_rows, fnEnv, N_are_copy_rows, hi, e]
theorem e_is_newer (a b : List (Nat × Ev)) (S : Store) (h : ∀ r ∈ a, 1 ≤ r.1 ∧ r.2.ok) (h' : ∀ r ∈ b, 1 ≤ r.1 ∧ r.2.ok) : f_is_newer [rowsD a, rowsD b] S = .ok (.bl (newer a b)) S := by
  simp [f_is_newer, b_is_newer, fnEnv, N_is_newer, e_copy_rows a S h, e_copy_rows b S h', e_are_newer]
theorem newer_loop (n size : Nat) (ds : List Deed) (ss : List Sta) (vs : List D) (x5 x6 x7 x8 x9 x10 : Option Sl) : ∀ (xs : List Sta) (S : Store) (c : Nat) (x11 x12 x13 x14 x15 : Option Sl), Kt S n c → c + 2 * xs.length + 100 < 2 ^ 100 → (∀ s ∈ xs, Wb 300 s ∧ Pos s) →
    ∃ (S' : Store) (y11 y12 y13 y14 y15 : Option Sl), forRun (gT 3 (gsC (gN 11) (gsC (gN 12) (gsC (gN 13) (gs0))))) bW (xs.map Sta.d) (envV n size ds ss vs x5 x6 x7 x8 x9 x10 x11 x12 x13 x14 x15) S = some (.nx (envV n size ds ss vs x5 x6 x7 x8 x9 x10 y11 y12 y13 y14 y15), S') ∧ Kt S' n (c + 2 * xs.length) ∧ Sm n S S'
  | [], S, c, x11, x12, x13, x14, x15, hk, _, _ => ⟨S, x11, x12, x13, x14, x15, rfl, hk, Sm.refl⟩
  | s :: xs, S, c, x11, x12, x13, x14, x15, hk, hc, hw => by
    simp only [List.length_cons] at hc
    obtain ⟨wb, ps⟩ := hw s List.mem_cons_self
    have hne : s.cs.map Cp.d ≠ [] := by
      have := wb.some_
      intro z
      rw [List.map_eq_nil_iff] at z
      rw [z] at this
      simp at this
    have hln : (s.cs.map Cp.d).length < 2 ^ 100 := by have := wb.few; rw [List.length_map]; omega
    obtain ⟨a', S1, e1, ha, k1, s1⟩ := pick S n c (csD s.cs) (s.cs.map Cp.d) (fun S => by simp) (fun S i => by simp) hk (by omega) hne hln
    obtain ⟨b', S2, e2, hb, k2, s2⟩ := pick S1 n (c + 1) (csD s.cs) (s.cs.map Cp.d) (fun S => by simp) (fun S i => by simp) k1 (by omega) hne hln
    obtain ⟨a, ma, rfl⟩ := List.mem_map.mp ha
    obtain ⟨b, mb, rfl⟩ := List.mem_map.mp hb
    have fine : ∀ q ∈ s.cs, ∀ r ∈ q.rows, 1 ≤ r.1 ∧ r.2.ok := fun q hq r hr => by
      obtain ⟨i, _, _, e⟩ := rowsAt_mem hq
      exact ⟨ps.rows i r (by rw [e]; exact hr), wb.evs i r (by rw [e]; exact hr)⟩
    have en := e_is_newer a.rows b.rows S2 (fine a ma) (fine b mb)
    have la := l_last a.rows S2
    have lb := l_last b.rows S2
    obtain ⟨S3, y11, y12, y13, y14, y15, q1, q2, q3⟩ := newer_loop n size ds ss vs x5 x6 x7 x8 x9 x10 xs S2 (c + 2) (some (Sl.val (csD s.cs))) (some (Sl.val (ldD s.ld))) (some (Sl.val (.int s.many))) (some (Sl.val (rowsD a.rows))) (some (Sl.val (rowsD b.rows))) k2 (by omega) fun t ht => hw t (List.mem_cons_of_mem _ ht)
    refine ⟨S3, y11, y12, y13, y14, y15, ?_, q2.mono (by simp only [List.length_cons]; omega), (s1.trans s2).trans q3⟩
    rw [List.map_cons]
    refine (forRun_cons (ρ1 := envV n size ds ss vs x5 x6 x7 x8 x9 x10 (some (Sl.val (csD s.cs))) (some (Sl.val (ldD s.ld))) (some (Sl.val (.int s.many))) x14 x15) (by simp [envV]) (stm_of (ρ2 := envV n size ds ss vs x5 x6 x7 x8 x9 x10 (some (Sl.val (csD s.cs))) (some (Sl.val (ldD s.ld))) (some (Sl.val (.int s.many))) (some (Sl.val (rowsD a.rows))) (some (Sl.val (rowsD b.rows)))) (S2 := S2) (by simp only [bW0, envV]; simp [e1, e2]) ?_)).trans q1
    have hnw : newer a.rows b.rows = decide ((lastT b.rows : Int) < lastT a.rows ∨ ((lastT b.rows : Int) = lastT a.rows ∧ (b.rows.length : Int) < a.rows.length)) := by
      unfold newer
      congr 1
      apply propext
      omega
    simp only [bW1, envV]
    simp [en, la, lb, hnw]
end K78

/-! The law. -/
namespace K78
open PySem Py Cop
def bA0 : DS := dSet 1 (qV (dCall 2 f__law_pick (dCons (dVar 0) (dCons (dLst (dDisp (dCons (dCst (.int 3)) (dCons (dCst (.int 3)) (dCons (dCst (.int 5)) (dNil)))))) (dNil)))))
def bA1 : DS := dBnd (dCall 3 f__law_copies (dCons (dVar 0) (dCons (dVar 1) (dCons (dCst (.int 30)) (dNil))))) (gT 2 (gsC (gN 2) (gsC (gN 3) (gs0))))
def bA2 : DS := dSet 4 (qO (dDisp (dCons (dVar 2) (dCons (dLst (dPrL qList (dCons (dVar 2) (dNil)))) (dCons (dCst .non) (dCons (dCst (.int 0)) (dCons (dCst .emp) (dCons (dCst (.str "deeds")) (dCons (dRevT (dVar 2)) (dCons (dOp pAdd (dVar 2) (dVar 2)) (dNil)))))))))))
def bA7 : DS := dRet (dOp pEq (dCall 2 f_play_paper (dCons (dVar 1) (dCons (dOp pMul (dTup (dCons (dTup (dCons (dCst (.str "append")) (dCons (dTup (dCons (dCst (.str "off")) (dNil))) (dNil)))) (dNil))) (dCst (.int 401))) (dNil)))) (dTup (dCons (dCst (.str "wrong")) (dCons (dCst (.int 0)) (dNil)))))
def bL1 : DS := dSet 4 (qV (dTup (dCons (dCst (.str "off")) (dNil))))
def bL2 : DS := dSet 5 (qV (dLst (dDisp (dCons (dCall 2 f_play_paper (dCons (dCst (.int 5)) (dCons (dTup (dCons (dTup (dCons (dCst (.str "elect")) (dCons (dCst (.int 0)) (dCons (dTup (dCons (dCst (.int 0)) (dCons (dCst (.int 1)) (dNil)))) (dNil))))) (dNil))) (dNil)))) (dCons (dCall 2 f_is_newer (dCons (dTup (dCons (dTup (dCons (dCst (.int 2)) (dCons (dVar 4) (dNil)))) (dNil))) (dCons (dTup (dCons (dTup (dCons (dCst (.int 1)) (dCons (dVar 4) (dNil)))) (dCons (dTup (dCons (dCst (.int 1)) (dCons (dVar 4) (dNil)))) (dNil)))) (dNil)))) (dCons (dCall 1 f_is_deed (dCons (dTup (dCons (dCst (.str "commit")) (dCons (dCst (.int 0)) (dNil)))) (dNil))) (dNil)))))))
def bL3 : DS := dSet 6 (qV (dTup (dCons (dTup (dCons (dCst (.str "stop")) (dCons (dCst (.int 4)) (dNil)))) (dCons (dTup (dCons (dCst (.str "elect")) (dCons (dCst (.int 0)) (dCons (dTup (dCons (dCst (.int 0)) (dCons (dCst (.int 1)) (dNil)))) (dNil))))) (dNil)))))
def bL4 : DS := dRet (dAndV (dOp pEq (dVar 5) (dLst (dDisp (dCons (dTup (dCons (dCst (.str "wrong")) (dCons (dCst (.int 0)) (dNil)))) (dCons (dCst (.bl true)) (dCons (dCst (.bl false)) (dNil))))))) (dOp pEq (dCall 2 f_play_paper (dCons (dCst (.int 5)) (dCons (dVar 6) (dNil)))) (dTup (dCons (dCst (.str "wrong")) (dCons (dCst (.int 1)) (dNil))))))
def tailL : DS := dSeq bL1 (dSeq bL2 (dSeq bL3 (bL4)))
def loop3 : DS := dFor (dRg rg1 (dCons (dCst (.int 14)) (dNil))) (gN 5) bT
def loop5 : DS := dFor (dItems (dVar 4)) (gN 9) bV
def loop6 : DS := dFor (dItems (dStepL (5 : Nat) (dVar 3))) (gT 3 (gsC (gN 11) (gsC (gN 12) (gsC (gN 13) (gs0))))) bW
theorem b_right_eq : b__law_right = dSeq bA0 (dSeq bA1 (dSeq bA2 (dSeq loop3 (dSeq (dFrz 4) (dSeq loop5 (dSeq loop6 bA7)))))) := rfl
theorem l_right (S : Store) (n c : Nat) (hk : Kt S n c) (hc : c + 5000 < 2 ^ 100) : ∃ S', f__law_right [.ref n] S = .ok (.bl true) S' ∧ Kt S' n (c + 2000) ∧ Sm n S S' := by
  obtain ⟨y, S1, e1, hy, k1, s1⟩ := pick S n c (.lst [.int 3, .int 3, .int 5]) [.int 3, .int 3, .int 5] (fun S => by simp) (fun S i => by simp [atI_nat]) hk (by omega) (by simp) (by simp)
  have hy : ∃ size : Nat, y = .int size ∧ (size = 3 ∨ size = 5) := by
    simp at hy
    rcases hy with h | h
    · exact ⟨3, h, .inl rfl⟩
    · exact ⟨5, h, .inr rfl⟩
  obtain ⟨size, rfl, hsz⟩ := hy
  obtain ⟨ds, ss, S2, e2, hr, hd, hw, hl, k2, s2⟩ := copies S1 n (c + 1) size 30 hsz (by omega) k1 (by omega)
  have e2 : f__law_copies [.ref n, .int (size : Nat), .int 30] S1 = .ok (.tup [.tup (ds.map Deed.d), .lst (ss.map Sta.d)]) S2 := e2
  have D0 := OkL.deeds hd
  have dl : (ds.map Deed.d).length ≤ 30 := by simpa using hl
  let vs0 : List D := [.tup (ds.map Deed.d), .lst (ds.map Deed.d), .non, .int 0, .emp, .str "deeds", .tup (ds.map Deed.d).reverse, .tup (ds.map Deed.d ++ ds.map Deed.d)]
  have hv0 : ∀ v ∈ vs0, Val v := fun v hv => by
    simp only [vs0, List.mem_cons, List.not_mem_nil, or_false] at hv
    rcases hv with rfl | rfl | rfl | rfl | rfl | rfl | rfl | rfl
    · exact D0.val (by omega)
    · exact .inr ⟨rfl, rfl⟩
    · exact .inr ⟨rfl, rfl⟩
    · exact .inr ⟨rfl, rfl⟩
    · exact .inr ⟨rfl, rfl⟩
    · exact .inr ⟨rfl, rfl⟩
    · exact D0.rev.val (by rw [List.length_reverse]; omega)
    · exact (D0.app D0).val (by rw [List.length_append]; omega)
  obtain ⟨ws, S3, y5, y6, y7, y8, q1, q2, q3, k3, s3⟩ := turn_loop n size ds ss (ini size) hr hd hw (by omega) (List.range 14) S2 (c + 1 + 30 * 30) vs0 none none none none k2 (by simp; omega) hv0 (by simp [vs0])
  obtain ⟨y9, y10, q4⟩ := value_loop (n := n) (ds := ds) (ss := ss) (vs := ws) (S := S3) (x5 := y5) (x6 := y6) (x7 := y7) (x8 := y8) (x11 := none) (x12 := none) (x13 := none) (x14 := none) (x15 := none) hsz ws none none q2
  obtain ⟨ts, ht1, ht2⟩ := of_mem (f := Sta.d) (P := fun s => s ∈ ss) (ds := stepD (ss.map Sta.d) ((5 : Nat) : Int)) (fun x hx => by
    obtain ⟨s, hs, e⟩ := List.mem_map.mp (stepD_mem hx)
    exact ⟨s, hs, e⟩)
  have hss := hr.len
  have hts : ts.length ≤ 31 := by
    have h1 : ts.length = (stepD (ss.map Sta.d) ((5 : Nat) : Int)).length := by rw [← ht2, List.length_map]
    have h2 : (stepD (ss.map Sta.d) ((5 : Nat) : Int)).length ≤ (ss.map Sta.d).length := by
      unfold stepD
      refine Nat.le_trans (List.length_filterMap_le _ _) ?_
      unfold stepIx
      refine sliceRange_length_le _ _ _ _ (fun hc => ?_) fun hc => absurd hc (by simp [sliceBounds])
      simp [sliceBounds]
    rw [List.length_map] at h2
    omega
  have hps := hr.pos ini_pos
  obtain ⟨S4, y11, y12, y13, y14, y15, q5, k4, s4⟩ := newer_loop n size ds ss ws y5 y6 y7 y8 y9 y10 ts S3 (c + 1 + 30 * 30 + 40 * (List.range 14).length) none none none none none k3 (by simp; omega) fun s hs => ⟨(hw s (ht1 s hs)).mono (by omega), hps s (ht1 s hs)⟩
  refine ⟨S4, ?_, k4.mono (by simp; omega), ((s1.trans s2).trans s3).trans s4⟩
  have h401 : f_play_paper [.int (size : Nat), .tup (List.replicate 401 [D.tup [.str "append", .tup [.str "off"]]]).flatten] S4 = .ok (.tup [.str "wrong", .int 0]) S4 := e_play_many hsz (by simp)
  have a0 : bA0 (fnEnv N__law_right.length [.ref n]) S = some (.nx [some (Sl.val (.ref n)), some (Sl.val (.int (size : Nat))), none, none, none, none, none, none, none, none, none, none, none, none, none, none], S1) := by
    simp [bA0, fnEnv, N__law_right, e1, sizeLine_val]
  have a1 : bA1 [some (Sl.val (.ref n)), some (Sl.val (.int (size : Nat))), none, none, none, none, none, none, none, none, none, none, none, none, none, none] S1 = some (.nx [some (Sl.val (.ref n)), some (Sl.val (.int (size : Nat))), some (Sl.val (.tup (ds.map Deed.d))), some (Sl.val (.lst (ss.map Sta.d))), none, none, none, none, none, none, none, none, none, none, none, none], S2) := by
    simp [bA1, e2]
  have a2 : bA2 [some (Sl.val (.ref n)), some (Sl.val (.int (size : Nat))), some (Sl.val (.tup (ds.map Deed.d))), some (Sl.val (.lst (ss.map Sta.d))), none, none, none, none, none, none, none, none, none, none, none, none] S2 = some (.nx (envT n size ds ss vs0 none none none none), S2) := by
    have ha : pAdd S2 (.tup (ds.map Deed.d)) (.tup (ds.map Deed.d)) = some (.tup (ds.map Deed.d ++ ds.map Deed.d)) := add_t (by omega)
    simp [bA2, dRevT, ha, sizeLine_val, envT, vs0]
  have a3 : loop3 (envT n size ds ss vs0 none none none none) S2 = some (.nx (envT n size ds ss ws y5 y6 y7 y8), S3) := by
    have hrg : rg1 [.int 14] = some ((List.range 14).map intD) := rg1_nat 14 (by omega)
    unfold loop3
    rw [dFor_ev]
    simp only [dRg_ev, dCons_ev, dCst_ev, dNil_ev, R.ok_bind, hrg, optM_some, rS_ok]
    exact q1
  have a4 : dFrz 4 (envT n size ds ss ws y5 y6 y7 y8) S3 = some (.nx (envV n size ds ss ws y5 y6 y7 y8 none none none none none none none), S3) := by
    simp [envT, envV]
  have a5 : loop5 (envV n size ds ss ws y5 y6 y7 y8 none none none none none none none) S3 = some (.nx (envV n size ds ss ws y5 y6 y7 y8 y9 y10 none none none none none), S3) := by
    unfold loop5
    rw [dFor_ev]
    have : dItems (dVar 4) (envV n size ds ss ws y5 y6 y7 y8 none none none none none none none) S3 = .ok ws S3 := by simp [envV]
    rw [this, rS_ok]
    exact q4
  have a6 : loop6 (envV n size ds ss ws y5 y6 y7 y8 y9 y10 none none none none none) S3 = some (.nx (envV n size ds ss ws y5 y6 y7 y8 y9 y10 y11 y12 y13 y14 y15), S4) := by
    unfold loop6
    rw [dFor_ev]
    have : dItems (dStepL ((5 : Nat) : Int) (dVar 3)) (envV n size ds ss ws y5 y6 y7 y8 y9 y10 none none none none none) S3 = .ok (ts.map Sta.d) S3 := by
      rw [ht2]
      simp [envV, dStepL]
    rw [this, rS_ok]
    exact q5
  have a7 : bA7 (envV n size ds ss ws y5 y6 y7 y8 y9 y10 y11 y12 y13 y14 y15) S4 = some (.rt (.bl true), S4) := by
    have hm : pMul S4 (.tup [.tup [.str "append", .tup [.str "off"]]]) (.int 401) = some (.tup (List.replicate 401 [D.tup [.str "append", .tup [.str "off"]]]).flatten) := pMul_tup ⟨by simp, by simp, by simp, by simp⟩
    have hq : pEq S4 (.tup [.str "wrong", .int 0]) (.tup [.str "wrong", .int 0]) = some (.bl true) :=
      pEq_of (k := 1) (Sh.tup (by simp; exact ⟨Sh.str, Sh.int⟩)) (Sh.tup (by simp; exact ⟨Sh.str, Sh.int⟩)) (by omega) (b := true) (by simp [D.py, pyL])
    generalize (List.replicate 401 [D.tup [.str "append", .tup [.str "off"]]]).flatten = X at hm h401
    simp only [bA7, envV]
    simp [sizeLine_val, hm, h401, hq]
  have hfn : f__law_right = dFn 1 N__law_right.length b__law_right := rfl
  rw [hfn, dFn_ev, if_pos (show [D.ref n].length = 1 from rfl), b_right_eq, stm_of a0 (stm_of a1 (stm_of a2 (stm_of a3 (stm_of a4 (stm_of a5 (stm_of a6 a7))))))]
  rfl
theorem l_tail (S : Store) (x0 x1 x2 x3 : Option Sl) : tailL [x0, x1, x2, x3, none, none, none] S = some (.rt (.bl true), S) := by kernel_rfl
end K78

/-! The law. -/
namespace K78
open PySem Py Cop
def bodyT : DS := dIfS (dNot (dTest (dCall 1 f__law_right (dCons (dVar 2) (dNil))))) (dRet (dCst (.bl false))) (dNop)
def bodyO : DS := dSeq (dSet 2 (qV (dCall 2 f__law_kettle (dCons (dVar 0) (dCons (dVar 1) (dNil)))))) (dFor (dRg rg1 (dCons (dCst (.int 3)) (dNil))) (gN 3) bodyT)
def envO (x1 x2 x3 : Option Sl) : Py.Env := [some (Sl.val (.ref 0)), x1, x2, x3, none, none, none]
theorem turns (n : Nat) : ∀ (xs : List D) (S : Store) (c : Nat) (x1 x3 : Option Sl), Kt S n c → c + 2000 * xs.length + 5000 < 2 ^ 100 → ∃ (y3 : Option Sl) (S' : Store), forRun (gN 3) bodyT xs (envO x1 (some (Sl.val (.ref n))) x3) S = some (.nx (envO x1 (some (Sl.val (.ref n))) y3), S') ∧ Sm n S S'
  | [], S, c, x1, x3, _, _ => ⟨x3, S, rfl, Sm.refl⟩
  | x :: xs, S, c, x1, x3, hk, hc => by
    simp only [List.length_cons] at hc
    obtain ⟨S1, e1, k1, s1⟩ := l_right S n c hk (by omega)
    obtain ⟨y3, S', e2, s2⟩ := turns n xs S1 (c + 2000) x1 (some (Sl.val x)) k1 (by omega)
    refine ⟨y3, S', ?_, s1.trans s2⟩
    exact (forRun_cons (ρ1 := envO x1 (some (Sl.val (.ref n))) (some (Sl.val x))) (by simp [envO]) (by simp [bodyT, envO, e1])).trans e2
theorem spots (ns : List Int) : ∀ (xs : List Nat) (S : Store) (x1 x2 x3 : Option Sl), S[0]? = some (.frz (ns.map D.int)) → (∀ x ∈ xs, x < 100) → ∃ (y1 y2 y3 : Option Sl) (S' : Store), forRun (gN 1) bodyO (xs.map intD) (envO x1 x2 x3) S = some (.nx (envO y1 y2 y3), S')
  | [], S, x1, x2, x3, _, _ => ⟨x1, x2, x3, S, rfl⟩
  | x :: xs, S, x1, x2, x3, h0, hx => by
    obtain ⟨a, b, e1, hb⟩ := kettle S ns x h0 (hx x List.mem_cons_self)
    have hlen : 0 < S.length := (List.getElem?_eq_some_iff.mp h0).1
    have hk : Kt (S ++ [.lst [.int a, .int b, .int (0 : Nat)]]) S.length 0 := ⟨a, b, 0, by simp, hb, Nat.le_refl _⟩
    have hrg : rg1 [.int 3] = some ((List.range 3).map intD) := rg1_nat 3 (by omega)
    obtain ⟨y3, S2, e2, s2⟩ := turns S.length ((List.range 3).map intD) (S ++ [.lst [.int a, .int b, .int (0 : Nat)]]) 0 (some (Sl.val (intD x))) x3 hk (by simp)
    have h2 : S2[0]? = some (.frz (ns.map D.int)) := by
      rw [s2.ne 0 (by omega), List.getElem?_append_left hlen]
      exact h0
    obtain ⟨z1, z2, z3, S3, e3⟩ := spots ns xs S2 (some (Sl.val (intD x))) (some (Sl.val (.ref S.length))) y3 h2 fun y hy => hx y (List.mem_cons_of_mem _ hy)
    refine ⟨z1, z2, z3, S3, ?_⟩
    rw [List.map_cons]
    refine (forRun_cons (ρ1 := envO (some (Sl.val (intD x))) x2 x3) (by simp [envO]) ?_).trans e3
    have e1 : f__law_kettle [.ref 0, intD x] S = .ok (.ref S.length) (S ++ [.lst [.int a, .int b, .int (0 : Nat)]]) := e1
    refine stm_of (ρ2 := envO (some (Sl.val (intD x))) (some (Sl.val (.ref S.length))) x3) (S2 := S ++ [.lst [.int a, .int b, .int (0 : Nat)]]) (by simp only [envO]; simp [e1]) ?_
    rw [dFor_ev]
    simp only [dRg_ev, dCons_ev, dCst_ev, dNil_ev, R.ok_bind, hrg, optM_some, rS_ok]
    exact e2
theorem some_spots (L : Nat) : ∃ m : Nat, m ≤ 3 ∧ pMax ([] : Store) [.int 1, .int (if (L : Int) < 3 then (L : Int) else 3)] = some (.int (m : Nat)) := by
  by_cases h : L < 3
  · by_cases h1 : 1 < L
    · exact ⟨L, by omega, by rw [pMax_int, if_pos (by omega), if_pos (by omega)]⟩
    · exact ⟨1, by omega, by rw [pMax_int, if_pos (c := (L : Int) < 3) (by omega), if_neg (by omega)]; rfl⟩
  · exact ⟨3, by omega, by rw [pMax_int, if_neg (c := (L : Int) < 3) (by omega), if_pos (by omega)]; rfl⟩
theorem plain : Plain := fun ns _ _ => by
  obtain ⟨m, hm, em⟩ := some_spots ns.length
  obtain ⟨y1, y2, y3, S', e⟩ := spots ns (List.range m) [.frz (ns.map D.int)] none none none rfl fun x hx => by
    have := List.mem_range.mp hx
    omega
  refine ⟨S', ?_⟩
  have hs : seqOf [Ob.frz (ns.map D.int)] (.ref 0) = some (ns.map D.int) := seqOf_ref_frz rfl
  have hrg := rg1_nat m (by omega)
  have hb : b_law = dSeq (dFor (dRg rg1 (dCons (dPr pMax (dCons (dCst (.int 1)) (dCons (dPr pMin (dCons (dCst (.int 3)) (dCons (dPr pLen (dCons (dVar 0) (dNil))) (dNil)))) (dNil)))) (dNil))) (gN 1) bodyO) tailL := rfl
  have hf : dFor (dRg rg1 (dCons (dPr pMax (dCons (dCst (.int 1)) (dCons (dPr pMin (dCons (dCst (.int 3)) (dCons (dPr pLen (dCons (dVar 0) (dNil))) (dNil)))) (dNil)))) (dNil))) (gN 1) bodyO (envO none none none) [.frz (ns.map D.int)] = some (.nx (envO y1 y2 y3), S') := by
    rw [dFor_ev]
    have : (dRg rg1 (dCons (dPr pMax (dCons (dCst (.int 1)) (dCons (dPr pMin (dCons (dCst (.int 3)) (dCons (dPr pLen (dCons (dVar 0) (dNil))) (dNil)))) (dNil)))) (dNil))) (envO none none none) [.frz (ns.map D.int)] = .ok ((List.range m).map intD) [.frz (ns.map D.int)] := by
      simp only [envO]
      simp only [dRg_ev, dCons_ev, dPr_ev, dCst_ev, dNil_ev, dVar_ev, R.ok_bind]
      rw [slV_val (d := .ref 0) rfl]
      simp only [optM_some, R.ok_bind, pLen_ref, hs, Option.map_some, pMin_int, List.length_map]
      have em' : pMax [Ob.frz (ns.map D.int)] [.int 1, .int (if ((ns.length : Nat) : Int) < 3 then ((ns.length : Nat) : Int) else 3)] = some (.int (m : Nat)) := em
      rw [em']
      simp only [optM_some, R.ok_bind, hrg]
    rw [this, rS_ok, e]
  have hfn : f_law = dFn 1 N_law.length b_law := rfl
  rw [hfn, dFn_ev, if_pos (show [D.ref 0].length = 1 from rfl), hb]
  have he : fnEnv N_law.length [D.ref 0] = envO none none none := rfl
  rw [he, stm_of hf (l_tail S' (some (Sl.val (.ref 0))) y1 y2 y3)]
  rfl
end K78

theorem PySem.Challenge.cw_errandwide_k78_whole_deeds_of_copies_jud_holds : PySem.Challenge.rw_errandwide_k78_whole_deeds_of_copies_jud.Holds := by
  exact K78.holds_of K78.plain

