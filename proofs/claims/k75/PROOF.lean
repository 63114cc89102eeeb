import PyProof.Rows.All
import Wide.All
import OpenK.AllK
import Wide.FinOn
import KE.DataEq
import KE.DataCmp
import KE.SortData
import HandS.ForMost
import HandS.ForExc
import HandS.TryMany
import HandS.Wide
import HandS.WideBits
import HandS.IsInst
import HandS.TupAny
import HandS.TupMul
import HandS.Star
import KE.GoesEnum
import HandS.Walk
import HandS.Zip
import HandS.Conv
import HandS.SetFor
import HandS.Strs
import HandS.Flow
import HandS.Style
import HandS.Defaults
import HandS.HeadHook2
import HandS.Head0
import HandS.Head1
import HandS.Head2
import HandS.HeadEnd
import HandS.EndBits
import KE.KStateDown
import KE.KEqNest
import HandS.SortInts
import HandS.Text
import HandS.DictTup
import HandS.RaiseMore
import PySem.Challenge.RW_errandwide_k75_halls_as_texts
set_option Elab.async false
set_option linter.all false
set_option maxRecDepth 100000
set_option maxHeartbeats 2000000
/-! Part 1: data, stores, how they lie in the heap, results. -/
namespace Py
open PySem PySem.Spec PyProof.Rows L2

/-- a value of the program: tuples (tup) and lists that are not changed any more (lst) by what they hold; ref: an object of the store; glo: a def or class of the text; emp: an empty dict that stays so -/
inductive D where
  | non | bl (b : Bool) | int (i : Int) | str (x : Str) | ty (n : String) | ref (n : Nat) | glo (g : Nat) | tup (ds : List D) | lst (ds : List D) | emp

/-- an object of the store: a list; a list that is read only (the script) -/
inductive Ob where
  | lst (ds : List D) | frz (ds : List D)
  | dK (kvs : List (L2.Key × D)) | dT (kvs : List (List L2.Key × D))
  | ins (c : Nat) (fs : List (Str × D))
abbrev Store := List Ob

/-- what the end of a piece of code is: a value, an exception of the text's class c, or out of this evaluator's reach -/
inductive R (α : Type) where
  | ok (a : α) (S : Store) | exc (c : Nat) (S : Store) | bad
abbrev M (α : Type) := Store → R α
def R.bind {α β : Type} (r : R α) (k : α → M β) : R β := match r with
  | .ok a S => k a S
  | .exc c S => .exc c S
  | .bad => .bad
@[simp] theorem R.ok_bind {α β : Type} {S : Store} (a : α) (k : α → M β) : (R.ok a S).bind k = k a S := rfl
@[simp] theorem R.exc_bind {α β : Type} {S : Store} (c : Nat) (k : α → M β) : (R.exc c S : R α).bind k = .exc c S := rfl
@[simp] theorem R.bad_bind {α β : Type} (k : α → M β) : (R.bad : R α).bind k = .bad := rfl

/-! ### data as the library reads it -/
mutual
/-- nothing but data within -/
def D.okd : D → Bool
  | .non => true
  | .bl _ => true
  | .int _ => true
  | .str _ => true
  | .ty _ => false
  | .ref _ => false
  | .glo _ => false
  | .tup ds => okdL ds
  | .lst ds => okdL ds
  | .emp => false
def okdL : List D → Bool
  | [] => true
  | d :: ds => d.okd && okdL ds
end
mutual
def D.py : D → PyData
  | .non => .none
  | .bl b => .bool b
  | .int i => .int i
  | .str x => .str x
  | .ty _ => .none
  | .ref _ => .none
  | .glo _ => .none
  | .tup ds => .tuple (pyL ds)
  | .lst ds => .list (pyL ds)
  | .emp => .none
def pyL : List D → List PyData
  | [] => []
  | d :: ds => d.py :: pyL ds
end
mutual
theorem D.py_plain : ∀ d : D, d.py.plain = true
  | .non => rfl
  | .bl _ => rfl
  | .int _ => rfl
  | .str _ => rfl
  | .ty _ => rfl
  | .ref _ => rfl
  | .glo _ => rfl
  | .tup ds => by rw [D.py, PyData.plain]; exact pyL_plain ds
  | .lst ds => by rw [D.py, PyData.plain]; exact pyL_plain ds
  | .emp => rfl
theorem pyL_plain : ∀ ds : List D, PyData.plainAll (pyL ds) = true
  | [] => rfl
  | d :: ds => by rw [pyL, PyData.plainAll, D.py_plain d, pyL_plain ds]; rfl
end

/-! ### how data lie in the heap -/
/-- the text's own objects: the written part, where each def and class stands -/
structure Gc where
  K : PySem.W.Frag
  ad : Nat → Option Addr
  /-- the tuples of the text that are named: what they hold -/
  lits : List (List L2.Key) := []
/-- a tuple: made by the program, or one of the text's that are named -/
def Tq (G : Gc) (H : Hp) (a : Addr) (xs : List V) : Prop := H a = some (.tup xs) ∨ (SqT G.K H a xs ∧ ∃ k, k ∈ G.lits ∧ xs = k.map kV)
theorem Tq.of {G : Gc} {H : Hp} {a : Addr} {xs : List V} (h : H a = some (.tup xs)) : Tq G H a xs := .inl h
theorem Tq.sq {G : Gc} {H : Hp} {a : Addr} {xs : List V} (h : Tq G H a xs) : SqT G.K H a xs := h.elim SqT.of fun h => h.1

/-- what is mutable where one stands: the store's objects (as, by their numbers), others (O) -/
structure Mu where
  as : List Addr
  O : Addr → Prop
def Mu.has (m : Mu) (a : Addr) : Prop := a ∈ m.as ∨ m.O a

mutual
def Rp (G : Gc) (m : Mu) (H : Hp) : D → V → Prop
  | .non, v => v = .non
  | .bl b, v => v = .bl b
  | .int i, v => v = .int i
  | .str x, v => v = .str x
  | .ty n, v => v = .ty n
  | .ref n, v => ∃ a, v = .ref a ∧ m.as[n]? = some a
  | .glo g, v => ∃ a, v = .ref a ∧ G.ad g = some a
  | .tup ds, v => ∃ a xs, v = .ref a ∧ Tq G H a xs ∧ RpL G m H ds xs
  | .lst ds, v => ∃ a xs, v = .ref a ∧ H a = some (.lst xs) ∧ ¬ m.has a ∧ RpL G m H ds xs
  | .emp, v => ∃ a, v = .ref a ∧ H a = some (.dK []) ∧ ¬ m.has a
def RpL (G : Gc) (m : Mu) (H : Hp) : List D → List V → Prop
  | [], xs => xs = []
  | d :: ds, xs => ∃ v r, xs = v :: r ∧ Rp G m H d v ∧ RpL G m H ds r
end
/-- read only, by a primitive: a list may be mutable -/
def Rt (G : Gc) (m : Mu) (H : Hp) (d : D) (v : V) : Prop := match d with
  | .lst ds => ∃ a xs, v = .ref a ∧ H a = some (.lst xs) ∧ a ∉ m.as ∧ RpL G m H ds xs
  | d => Rp G m H d v
/-- a list that one alone holds -/
def Ol (G : Gc) (m : Mu) (H : Hp) (ds : List D) (a : Addr) : Prop := ∃ xs, H a = some (.lst xs) ∧ RpL G m H ds xs
/-- keyed values -/
def RpKV {κ : Type} (G : Gc) (m : Mu) (H : Hp) : List (κ × D) → List (κ × V) → Prop
  | [], xs => xs = []
  | p :: r, xs => ∃ v s, xs = (p.1, v) :: s ∧ Rp G m H p.2 v ∧ RpKV G m H r s
def RpO (G : Gc) (m : Mu) (H : Hp) : Ob → Addr → Prop
  | .lst ds, a => Ol G m H ds a
  | .frz ds, a => ∃ o xs, H a = some (.frz o (.lst xs)) ∧ RpL G m H ds xs
  | .dK kvs, a => ∃ xs, H a = some (.dK xs) ∧ RpKV G m H kvs xs
  | .dT kvs, a => ∃ xs, H a = some (.dT xs) ∧ RpKV G m H kvs xs
  | .ins c fs, a => ∃ C dx xs, G.ad c = some C ∧ H a = some (.ins C dx xs) ∧ RpKV G m H fs xs

/-- the step from a state to a later one: the store grows by what is new, objects that are not in it stay -/
structure Le (G : Gc) (m : Mu) (H : Hp) (m' : Mu) (H' : Hp) : Prop where
  as : ∃ e, m'.as = m.as ++ e ∧ ∀ a ∈ e, H a = none
  O : m'.O = m.O
  kept : ∀ a o, H a = some o → a ∉ m.as → H' a = some o
  tups : ∀ a xs, Tq G H a xs → Tq G H' a xs
  there : ∀ a, H a ≠ none → H' a ≠ none
structure Holds (G : Gc) (m : Mu) (H : Hp) (S : Store) : Prop where
  len : m.as.length = S.length
  nd : m.as.Nodup
  ob : ∀ (n : Nat) (ob : Ob) (a : Addr), S[n]? = some ob → m.as[n]? = some a → RpO G m H ob a
  dis : ∀ a, m.O a → a ∉ m.as
  there : ∀ a, m.O a → H a ≠ none

section
variable {G : Gc} {m m' m'' : Mu} {H H' H'' : Hp} {S S' : Store}
mutual
theorem Rp.mono (ha : ∀ (n : Nat) (a : Addr), m.as[n]? = some a → m'.as[n]? = some a) (ht : ∀ a xs, Tq G H a xs → Tq G H' a xs)
    (hl : ∀ a o, H a = some o → ¬ m.has a → H' a = some o ∧ ¬ m'.has a) : ∀ (d : D) (v : V), Rp G m H d v → Rp G m' H' d v
  | .non, _, h => h
  | .bl _, _, h => h
  | .int _, _, h => h
  | .str _, _, h => h
  | .ty _, _, h => h
  | .ref n, _, ⟨a, e, h⟩ => ⟨a, e, ha n a h⟩
  | .glo _, _, h => h
  | .tup ds, _, ⟨a, xs, e, h1, h2⟩ => ⟨a, xs, e, ht a xs h1, RpL.mono ha ht hl ds xs h2⟩
  | .lst ds, _, ⟨a, xs, e, h1, h2, h3⟩ => ⟨a, xs, e, (hl a _ h1 h2).1, (hl a _ h1 h2).2, RpL.mono ha ht hl ds xs h3⟩
  | .emp, _, ⟨a, e, h1, h2⟩ => ⟨a, e, (hl a _ h1 h2).1, (hl a _ h1 h2).2⟩
theorem RpL.mono (ha : ∀ (n : Nat) (a : Addr), m.as[n]? = some a → m'.as[n]? = some a) (ht : ∀ a xs, Tq G H a xs → Tq G H' a xs)
    (hl : ∀ a o, H a = some o → ¬ m.has a → H' a = some o ∧ ¬ m'.has a) : ∀ (ds : List D) (xs : List V), RpL G m H ds xs → RpL G m' H' ds xs
  | [], _, h => h
  | d :: ds, _, ⟨v, r, e, h1, h2⟩ => ⟨v, r, e, Rp.mono ha ht hl d v h1, RpL.mono ha ht hl ds r h2⟩
end
theorem RpL.imp (hl : ∀ d v, Rp G m H d v → Rp G m' H' d v) : ∀ {ds : List D} {xs : List V}, RpL G m H ds xs → RpL G m' H' ds xs
  | [], _, h => h
  | _ :: _, _, ⟨v, r, e, h1, h2⟩ => ⟨v, r, e, hl _ _ h1, RpL.imp hl h2⟩
theorem RpKV.imp {κ : Type} (hl : ∀ d v, Rp G m H d v → Rp G m' H' d v) : ∀ {ds : List (κ × D)} {xs : List (κ × V)}, RpKV G m H ds xs → RpKV G m' H' ds xs
  | [], _, h => h
  | _ :: _, _, ⟨v, r, e, h1, h2⟩ => ⟨v, r, e, hl _ _ h1, RpKV.imp hl h2⟩
theorem RpO.mono {a : Addr} (hk : ∀ o, H a = some o → H' a = some o) (hl : ∀ d v, Rp G m H d v → Rp G m' H' d v) {ob : Ob} (h : RpO G m H ob a) : RpO G m' H' ob a := by
  cases ob with
  | lst ds => obtain ⟨xs, e, r⟩ := h; exact ⟨xs, hk _ e, RpL.imp hl r⟩
  | frz ds => obtain ⟨o, xs, e, r⟩ := h; exact ⟨o, xs, hk _ e, RpL.imp hl r⟩
  | dK ds => obtain ⟨xs, e, r⟩ := h; exact ⟨xs, hk _ e, RpKV.imp hl r⟩
  | dT ds => obtain ⟨xs, e, r⟩ := h; exact ⟨xs, hk _ e, RpKV.imp hl r⟩
  | ins c ds => obtain ⟨C, dx, xs, e1, e, r⟩ := h; exact ⟨C, dx, xs, e1, hk _ e, RpKV.imp hl r⟩
theorem RpO.some_ {a : Addr} {ob : Ob} (h : RpO G m H ob a) : ∃ o, H a = some o := by
  cases ob with
  | lst ds => obtain ⟨xs, e, r⟩ := h; exact ⟨_, e⟩
  | frz ds => obtain ⟨o, xs, e, r⟩ := h; exact ⟨_, e⟩
  | dK ds => obtain ⟨xs, e, r⟩ := h; exact ⟨_, e⟩
  | dT ds => obtain ⟨xs, e, r⟩ := h; exact ⟨_, e⟩
  | ins c ds => obtain ⟨C, dx, xs, e1, e, r⟩ := h; exact ⟨_, e⟩
theorem rd_some {a : Addr} {u : HO} (h : Rd H a u) : ∃ o, H a = some o := by
  rcases h with h | ⟨o, h⟩
  · exact ⟨_, h⟩
  · exact ⟨_, h⟩
theorem Le.refl : Le G m H m H := ⟨⟨[], by simp, by simp⟩, rfl, fun _ _ h _ => h, fun _ _ h => h, fun _ h => h⟩
theorem Le.ix (l : Le G m H m' H') {n : Nat} {a : Addr} (h : m.as[n]? = some a) : m'.as[n]? = some a := by
  obtain ⟨e, e1, _⟩ := l.as
  rw [e1, List.getElem?_append_left (List.getElem?_eq_some_iff.mp h).1]
  exact h
theorem Le.rd (l : Le G m H m' H') {a : Addr} {u : HO} (h : Rd H a u) (n : a ∉ m.as) : Rd H' a u := by
  rcases h with h | ⟨o, h⟩
  · exact .inl (l.kept a _ h n)
  · exact .inr ⟨o, l.kept a _ h n⟩
theorem Le.nhas (l : Le G m H m' H') {a : Addr} {o : HO} (h : H a = some o) (n : ¬ m.has a) : ¬ m'.has a := by
  obtain ⟨e, e1, e2⟩ := l.as
  rintro (q | q)
  · rw [e1, List.mem_append] at q
    rcases q with q | q
    · exact n (.inl q)
    · rw [e2 a q] at h; cases h
  · rw [l.O] at q
    exact n (.inr q)
theorem Le.lsts (l : Le G m H m' H') (a : Addr) (o : HO) (h : H a = some o) (n : ¬ m.has a) : H' a = some o ∧ ¬ m'.has a := ⟨l.kept a _ h fun z => n (.inl z), l.nhas h n⟩
theorem Le.rp (l : Le G m H m' H') {d : D} {v : V} (h : Rp G m H d v) : Rp G m' H' d v := Rp.mono (fun _ _ => l.ix) l.tups l.lsts d v h
theorem Le.rpL (l : Le G m H m' H') {ds : List D} {xs : List V} (h : RpL G m H ds xs) : RpL G m' H' ds xs := RpL.mono (fun _ _ => l.ix) l.tups l.lsts ds xs h
theorem Le.trans (l : Le G m H m' H') (k : Le G m' H' m'' H'') : Le G m H m'' H'' := by
  obtain ⟨e, e1, e2⟩ := l.as
  obtain ⟨f, f1, f2⟩ := k.as
  have hn : ∀ a o, H a = some o → a ∉ m.as → a ∉ m'.as := fun a o h n q => by
    rw [e1, List.mem_append] at q
    rcases q with q | q
    · exact n q
    · rw [e2 a q] at h; cases h
  refine ⟨⟨e ++ f, by rw [f1, e1, List.append_assoc], fun a ha => ?_⟩, k.O.trans l.O, fun a o h n => k.kept a o (l.kept a o h n) (hn a o h n), fun a xs h => k.tups a xs (l.tups a xs h), fun a h => k.there a (l.there a h)⟩
  rcases List.mem_append.mp ha with q | q
  · exact e2 a q
  · cases h : H a with
    | none => rfl
    | some o => exact absurd (f2 a q) (l.there a (by rw [h]; simp))
theorem Le.nas (l : Le G m H m' H') {a : Addr} {o : HO} (h : H a = some o) (n : a ∉ m.as) : a ∉ m'.as := by
  obtain ⟨e, e1, e2⟩ := l.as
  intro q
  rw [e1, List.mem_append] at q
  rcases q with q | q
  · exact n q
  · rw [e2 a q] at h; cases h
theorem Rp.rt {d : D} {v : V} (h : Rp G m H d v) : Rt G m H d v := by
  cases d with
  | lst ds =>
    obtain ⟨a, xs, e, h1, h2, h3⟩ := h
    exact ⟨a, xs, e, h1, fun z => h2 (.inl z), h3⟩
  | _ => exact h
theorem Le.rt (l : Le G m H m' H') {d : D} {v : V} (h : Rt G m H d v) : Rt G m' H' d v := by
  cases d with
  | lst ds =>
    obtain ⟨a, xs, e, h1, h2, h3⟩ := h
    exact ⟨a, xs, e, l.kept a _ h1 h2, l.nas h1 h2, l.rpL h3⟩
  | _ => exact l.rp h
end

/-! ### behind a piece of code -/
def Aft (G : Gc) (m : Mu) (H : Hp) {α : Type} (X : XK) (r : R α) (Φ : α → Store → Mu → Hp → Prop) : Prop := match r with
  | .ok a S => ∀ m' H', Le G m H m' H' → Holds G m' H' S → Φ a S m' H'
  | .exc c S => ∀ m' H', Le G m H m' H' → Holds G m' H' S → ∀ ca, G.ad c = some ca → X (.ref ca) none H'
  | .bad => False
section
variable {G : Gc} {m m' : Mu} {H H' : Hp} {α β : Type} {X : XK} {r : R α} {Φ Ψ : α → Store → Mu → Hp → Prop}
theorem Aft.later (h : Aft G m H X r Φ) (l : Le G m H m' H') : Aft G m' H' X r Φ := by
  cases r with
  | ok a S => exact fun m2 H2 l2 h2 => h m2 H2 (l.trans l2) h2
  | exc c S => exact fun m2 H2 l2 h2 => h m2 H2 (l.trans l2) h2
  | bad => exact h
theorem Aft.imp (h : Aft G m H X r Φ) (k : ∀ a S m' H', Le G m H m' H' → Holds G m' H' S → Φ a S m' H' → Ψ a S m' H') : Aft G m H X r Ψ := by
  cases r with
  | ok a S => exact fun m2 H2 l2 h2 => k a S m2 H2 l2 h2 (h m2 H2 l2 h2)
  | exc c S => exact h
  | bad => exact h
theorem Aft.impX {X' : XK} (h : Aft G m H X r Φ) (k : ∀ c H', X c none H' → X' c none H') : Aft G m H X' r Φ := by
  cases r with
  | ok a S => exact h
  | exc c S => exact fun m2 H2 l2 h2 ca e => k _ _ (h m2 H2 l2 h2 ca e)
  | bad => exact h
theorem Aft.bind {k : α → M β} {Φ : β → Store → Mu → Hp → Prop} (h : Aft G m H X (r.bind k) Φ) : Aft G m H X r fun a S m' H' => Aft G m' H' X (k a S) Φ := by
  cases r with
  | ok a S => exact fun m2 H2 l2 h2 => Aft.later (show Aft G m H X (k a S) Φ from h) l2
  | exc c S => exact h
  | bad => exact h
theorem Aft.ok {a : α} {S : Store} (h : Aft G m H X (.ok a S) Φ) (hs : Holds G m H S) : Φ a S m H := h m H Le.refl hs
end

/-! ### the slots -/
abbrev Sg := L2.St
/-- a slot: a value, or a list that it alone holds -/
inductive Sl where
  | val (d : D) | own (ds : List D)
abbrev Env := List (Option Sl)
def RpS (G : Gc) (m : Mu) (H : Hp) : Sl → V → Prop
  | .val d, v => Rp G m H d v
  | .own ds, v => ∃ a, v = .ref a ∧ m.O a ∧ a ∉ m.as ∧ Ol G m H ds a
structure RpE (G : Gc) (m : Mu) (H : Hp) (ρ : Env) (σ : Sg) : Prop where
  at_ : ∀ (i : Nat) (s : Sl), ρ[i]? = some (some s) → ∃ v, σ[i]? = some (some v) ∧ RpS G m H s v
  inj : ∀ (i j : Nat) (ds es : List D) (a : Addr), ρ[i]? = some (some (.own ds)) → ρ[j]? = some (some (.own es)) → σ[i]? = some (some (V.ref a)) → σ[j]? = some (some (V.ref a)) → i = j
  len : ρ.length = σ.length
section
variable {G : Gc} {m m' : Mu} {H H' : Hp} {ρ : Env} {σ : Sg}
theorem Le.ol (l : Le G m H m' H') {ds : List D} {a : Addr} (n : a ∉ m.as) (h : Ol G m H ds a) : Ol G m' H' ds a := by
  obtain ⟨xs, e, q⟩ := h
  exact ⟨xs, l.kept a _ e n, l.rpL q⟩
theorem Le.rps (l : Le G m H m' H') {s : Sl} {v : V} (h : RpS G m H s v) : RpS G m' H' s v := by
  cases s with
  | val d => exact l.rp h
  | own ds =>
    obtain ⟨a, e, h1, h2, h3⟩ := h
    obtain ⟨xs, ex, _⟩ := id h3
    exact ⟨a, e, by rw [l.O]; exact h1, l.nas ex h2, l.ol h2 h3⟩
theorem RpE.le (E : RpE G m H ρ σ) (l : Le G m H m' H') : RpE G m' H' ρ σ :=
  ⟨fun i s h => let ⟨v, e, q⟩ := E.at_ i s h; ⟨v, e, l.rps q⟩, E.inj, E.len⟩
/-- all that is tracked stays -/
theorem sqT_same {K : PySem.W.Frag} (s : Same H H') {a : Addr} {xs : List V} (h : SqT K H a xs) : SqT K H' a xs := by
  rcases h with (h | ⟨o, h⟩) | h
  · exact .inl (.inl (s _ _ h))
  · exact .inl (.inr ⟨o, s _ _ h⟩)
  · exact .inr h
theorem tq_same (s : Same H H') {a : Addr} {xs : List V} (h : Tq G H a xs) : Tq G H' a xs := h.elim (fun h => .inl (s _ _ h)) fun h => .inr ⟨sqT_same s h.1, h.2⟩
theorem Le.same (s : Same H H') : Le G m H m H' := ⟨⟨[], by simp, by simp⟩, rfl, fun a o h _ => s a o h, fun _ _ h => tq_same s h, fun a h => by
  cases e : H a with
  | none => exact absurd e h
  | some o => rw [s a o e]; simp⟩
theorem Holds.same {S : Store} (h : Holds G m H S) (s : Same H H') : Holds G m H' S :=
  ⟨h.len, h.nd, fun n ob a e1 e2 => by
    exact (h.ob n ob a e1 e2).mono (s a) fun d v r => (Le.same (m := m) s).rp r, h.dis, fun a q => (Le.same (G := G) (m := m) s).there a (h.there a q)⟩
theorem Same.new {p : Addr} {o : HO} (h : H p = none) : Same H (upd H p o) := fun a u e => by
  rw [upd_ne (ne_of_none e h)]
  exact e
end

/-! ### readings of code by what it is -/
abbrev DE := Env → M D
abbrev DT := Env → M Bool
abbrev DA := Env → M (List D)
def Inp (G : Gc) (σ : Sg) (H : Hp) (k : Mu → Env → Store → Prop) : Prop := ∃ m ρ S, Holds G m H S ∧ RpE G m H ρ σ ∧ k m ρ S
def RtL (G : Gc) (m : Mu) (H : Hp) : List D → List V → Prop
  | [], xs => xs = []
  | d :: ds, xs => ∃ v r, xs = v :: r ∧ Rt G m H d v ∧ RtL G m H ds r
def tE (G : Gc) (W : WX) (d : DE) : TE := fun σ H Q => Inp G σ H fun m ρ S => Aft G m H (fun c x H' => W c x σ H') (d ρ S) fun r _ m' H' => ∀ v, Rp G m' H' r v → Q v H'
def tR (G : Gc) (W : WX) (d : DE) : TE := fun σ H Q => Inp G σ H fun m ρ S => Aft G m H (fun c x H' => W c x σ H') (d ρ S) fun r _ m' H' => ∀ v, Rt G m' H' r v → Q v H'
def tT (G : Gc) (W : WX) (d : DT) : TT := fun σ H Q => Inp G σ H fun m ρ S => Aft G m H (fun c x H' => W c x σ H') (d ρ S) fun r _ _ H' => Q r H'
def tA (G : Gc) (W : WX) (d : DA) : TA := fun σ H Q => Inp G σ H fun m ρ S => Aft G m H (fun c x H' => W c x σ H') (d ρ S) fun r _ m' H' => ∀ vs, RpL G m' H' r vs → Q vs H'
def tB (G : Gc) (W : WX) (d : DA) : TA := fun σ H Q => Inp G σ H fun m ρ S => Aft G m H (fun c x H' => W c x σ H') (d ρ S) fun r _ m' H' => ∀ vs, RtL G m' H' r vs → Q vs H'
/-- primitives: they read the store -/
abbrev Pr (α β : Type) := Store → α → Option β
def rRes (G : Gc) (m : Mu) (H : Hp) (S : Store) (r : D) (Q : VK) : Prop := ∀ m' H', Le G m H m' H' → Holds G m' H' S → ∀ v, Rp G m' H' r v → Q v H'
def rO (G : Gc) (f : Store → D → D → Option D) : R2 := fun x y H Q => ∃ m S d e r, Holds G m H S ∧ Rt G m H d x ∧ Rt G m H e y ∧ f S d e = some r ∧ rRes G m H S r Q
def rC (G : Gc) (f : Store → List D → Option D) : List V → Hp → VK → Prop := fun vs H Q => ∃ m S ds r, Holds G m H S ∧ RtL G m H ds vs ∧ f S ds = some r ∧ rRes G m H S r Q
def optM {β : Type} (r : Option β) : M β := fun S => match r with
  | some b => .ok b S
  | none => .bad
def dOp (f : Store → D → D → Option D) (a b : DE) : DE := fun ρ S => (a ρ S).bind fun x S => (b ρ S).bind fun y S => optM (f S x y) S
def dPr (f : Store → List D → Option D) (a : DA) : DE := fun ρ S => (a ρ S).bind fun xs S => optM (f S xs) S
section
variable {G : Gc} {W : WX} {X : Cx} {e a b : Expr} {t t' : TE} {da db : DE} {m : Mu} {H : Hp} {S : Store} {σ : Sg}
theorem pe_imp (h : PE X e t) (k : ∀ σ H Q, t' σ H Q → t σ H Q) : PE X e t' := ⟨fun pins s σ H Q I q => h.run pins s σ H Q I (k σ H Q q)⟩
theorem pt_imp {t t' : TT} (h : PT X e t) (k : ∀ σ H Q, t' σ H Q → t σ H Q) : PT X e t' := ⟨fun pins s σ H Q I q => h.run pins s σ H Q I (k σ H Q q)⟩
theorem pa_imp {es : List Expr} {t t' : TA} (h : PA X es t) (k : ∀ σ H Q, t' σ H Q → t σ H Q) : PA X es t' := ⟨fun pos pins s σ H Q I q => h.run pos pins s σ H Q I (k σ H Q q)⟩
theorem opr_imp {f : Value → Value → Sem Value} {r r' : R2} (h : OpR X f r) (k : ∀ x y H Q, r' x y H Q → r x y H Q) : OpR X f r' := fun pins s σ H x y v u Q I rx ry q => h pins s σ H x y v u Q I rx ry (k x y H Q q)
theorem callr_imp {f : Value} {r r' : List V → Hp → VK → Prop} (h : CallR X f r) (k : ∀ xs H Q, r' xs H Q → r xs H Q) : CallR X f r' := fun pins s σ H xs us Q I rx q => h pins s σ H xs us Q I rx (k xs H Q q)
theorem rRes.here {r : D} {Q : VK} (h : rRes G m H S r Q) (hs : Holds G m H S) {v : V} (q : Rp G m H r v) : Q v H := h m H Le.refl hs v q
theorem rRes.new {r : D} {Q : VK} (h : rRes G m H S r Q) (hs : Holds G m H S) {p : Addr} {o : HO} (hp : H p = none) {v : V} (q : Rp G m (upd H p o) r v) : Q v (upd H p o) :=
  h m _ (Le.same (Same.new hp)) (hs.same (Same.new hp)) v q
theorem rRes.later {r : D} {Q : VK} {m' : Mu} {H' : Hp} (h : rRes G m H S r Q) (l : Le G m H m' H') : rRes G m' H' S r Q := fun m2 H2 l2 h2 => h m2 H2 (l.trans l2) h2
theorem aft_opt {r : Option D} {Y : XK} {Q : VK} (h : Aft G m H Y (optM r S) fun r _ m' H' => ∀ v, Rp G m' H' r v → Q v H') : ∃ d, r = some d ∧ rRes G m H S d Q := by
  cases r with
  | none => exact h.elim
  | some d => exact ⟨d, rfl, fun m' H' l hs v q => h m' H' l hs v q⟩
/-- reading a value twice: the weak reading of a strong one -/
theorem jr_of (h : PE X e (tE G W da)) : PE X e (tR G W da) := pe_imp h fun σ H Q ⟨m, ρ, S, hS, hE, q⟩ => ⟨m, ρ, S, hS, hE, q.imp fun r S' m' H' _ _ z v rv => z v rv.rt⟩
theorem tOp_of {f : Store → D → D → Option D} {Q : VK} (h : tE G W (dOp f da db) σ H Q) : tOp (rO G f) (tR G W da) (tR G W db) σ H Q := by
  obtain ⟨m, ρ, S, hS, hE, h⟩ := h
  refine ⟨m, ρ, S, hS, hE, (Aft.bind h).imp fun x S1 m1 H1 l1 hS1 h1 v rv => ?_⟩
  refine ⟨m1, ρ, S1, hS1, hE.le l1, (Aft.bind h1).imp fun y S2 m2 H2 l2 hS2 h2 u ru => ?_⟩
  obtain ⟨d, e, k⟩ := aft_opt h2
  exact ⟨m2, S2, x, y, d, hS2, l2.rt rv, ru, e, k⟩
theorem je_op {op : Operator} {f : Store → D → D → Option D} {pos : Pos} (ho : OpR X (binaryOp op) (rO G f)) (ha : PE X a (tR G W da)) (hb : PE X b (tR G W db)) : PE X (.BinOp a op b pos) (tE G W (dOp f da db)) :=
  pe_imp (pe_op ho ha hb) fun _ _ _ h => tOp_of h
theorem je_cmp {op : CmpOp} {f : Store → D → D → Option D} {pos : Pos} (ho : OpR X (compareOp op) (rO G f)) (ha : PE X a (tR G W da)) (hb : PE X b (tR G W db)) (hm : behindInMarks op b = false) : PE X (.Compare a [op] [b] pos) (tE G W (dOp f da db)) :=
  pe_imp (pe_cmpR ho ha hb hm) fun _ _ _ h => tOp_of h
end
end Py

/-! Part 2: primitives. -/
namespace Py
open PySem PySem.Spec PyProof.Rows L2

section
variable {G : Gc} {X : Cx} {pins : List (Addr × Obj)} {σ : Sg} {m : Mu} {H : Hp} {s : Shared}
mutual
theorem Rp.reads (I : Inv X pins σ H s) (hK : X.K = G.K) : ∀ (d : D) (v : V) (u : Value), d.okd = true → Rp G m H d v → RelV v u → ∃ as, Reads s.heap u d.py as
  | .non, _, _, _, h, r => by
    have h : _ = V.non := h
    subst h; cases r; exact ⟨_, Reads.none⟩
  | .bl b, _, _, _, h, r => by
    have h : _ = V.bl b := h
    subst h; cases r; exact ⟨_, Reads.bool b⟩
  | .int i, _, _, _, h, r => by
    have h : _ = V.int i := h
    subst h; obtain ⟨t, rfl⟩ := r; exact ⟨_, Reads.int i t⟩
  | .str x, _, _, _, h, r => by
    have h : _ = V.str x := h
    subst h; obtain ⟨t, rfl⟩ := r; exact ⟨_, Reads.str x t⟩
  | .ty n, _, _, k, _, _ => by cases k
  | .ref n, _, _, k, _, _ => by cases k
  | .glo n, _, _, k, _, _ => by cases k
  | .emp, _, _, k, _, _ => by cases k
  | .tup ds, _, _, k, ⟨a, xs, e, h1, h2⟩, r => by
    subst e; cases r
    have h1 := h1.sq
    rw [← hK] at h1
    obtain ⟨its, rv, ⟨o, ho, hc, n, hd⟩, _⟩ := I.tuple h1
    obtain ⟨as, hr⟩ := RpL.reads I hK ds xs its k h2 rv
    exact ⟨_, Reads.tuple ho hc hd hr⟩
  | .lst ds, _, _, k, ⟨a, xs, e, h1, _, h2⟩, r => by
    subst e; cases r
    obtain ⟨its, rv, ⟨o, n, ho, hc, _, hd⟩, _⟩ := I.list (.inl (.inl h1))
    obtain ⟨as, hr⟩ := RpL.reads I hK ds xs its k h2 rv
    exact ⟨_, Reads.list ho hc hd hr⟩
theorem RpL.reads (I : Inv X pins σ H s) (hK : X.K = G.K) : ∀ (ds : List D) (vs : List V) (us : List Value), okdL ds = true → RpL G m H ds vs → Vals vs us → ∃ as, ReadsAll s.heap us (pyL ds) as
  | [], _, _, _, h, r => by
    have h : _ = [] := h
    subst h; cases r; exact ⟨_, ReadsAll.nil⟩
  | d :: ds, _, _, k, ⟨v, r', e, h1, h2⟩, r => by
    subst e
    have k' : (d.okd && okdL ds) = true := k
    rw [Bool.and_eq_true] at k'
    cases r with
    | cons r1 r2 =>
      obtain ⟨as, q1⟩ := Rp.reads I hK d _ _ k'.1 h1 r1
      obtain ⟨bs, q2⟩ := RpL.reads I hK ds _ _ k'.2 h2 r2
      exact ⟨_, ReadsAll.cons q1 q2⟩
end
theorem Rt.reads (I : Inv X pins σ H s) (hK : X.K = G.K) {d : D} {v : V} {u : Value} (k : d.okd = true) (h : Rt G m H d v) (r : RelV v u) : ∃ as, Reads s.heap u d.py as := by
  cases d with
  | lst ds =>
    obtain ⟨a, xs, e, h1, _, h2⟩ := h
    subst e; cases r
    obtain ⟨its, rv, ⟨o, n, ho, hc, _, hd⟩, _⟩ := I.list (.inl (.inl h1))
    obtain ⟨as, hr⟩ := RpL.reads I hK ds xs its k h2 rv
    exact ⟨_, Reads.list ho hc hd hr⟩
  | _ => exact Rp.reads (m := m) I hK _ _ _ k h r
end

/-! ### comparisons of data -/
def shal (d : D) : Bool := d.okd && decide (d.py.depth ≤ 100)
theorem shal_ok {d : D} (h : shal d = true) : d.okd = true ∧ d.py.depth ≤ 100 := by
  unfold shal at h
  rw [Bool.and_eq_true, decide_eq_true_eq] at h
  exact h
def pEq (_ : Store) (d e : D) : Option D := if shal d && shal e then some (.bl (PyData.eqv d.py e.py)) else none
def pNe (_ : Store) (d e : D) : Option D := if shal d && shal e then some (.bl (!PyData.eqv d.py e.py)) else none
def isNonD : D → Bool
  | .non => true
  | _ => false
def cmpOk (d e : D) : Bool := shal d && shal e && PySem.W.alike d.py e.py && !isNonD d
theorem cmpOk_ok {d e : D} (h : cmpOk d e = true) : shal d = true ∧ shal e = true ∧ PySem.W.alike d.py e.py = true ∧ d.py ≠ .none := by
  unfold cmpOk at h
  simp only [Bool.and_eq_true] at h
  obtain ⟨⟨⟨h1, h2⟩, h3⟩, h4⟩ := h
  refine ⟨h1, h2, h3, ?_⟩
  have k := (shal_ok h1).1
  cases d <;> simp_all [D.py, isNonD, D.okd]
def pLt (_ : Store) (d e : D) : Option D := if cmpOk d e then some (.bl (PySem.W.dataLt d.py e.py)) else none
def pGt (_ : Store) (d e : D) : Option D := if cmpOk d e then some (.bl (PySem.W.dataLt e.py d.py)) else none
def pLe (_ : Store) (d e : D) : Option D := if cmpOk d e then some (.bl (!PySem.W.dataLt e.py d.py)) else none
def pGe (_ : Store) (d e : D) : Option D := if cmpOk d e then some (.bl (!PySem.W.dataLt d.py e.py)) else none
def itemsOf : D → Option (List D)
  | .tup ds => some ds
  | .lst ds => some ds
  | _ => none
def pIn0 (_ : Store) (d e : D) : Option D := match itemsOf e with
  | some ds => if shal d && shal e then some (.bl ((pyL ds).any fun y => PyData.eqv y d.py)) else none
  | none => none
def pNotIn0 (_ : Store) (d e : D) : Option D := match itemsOf e with
  | some ds => if shal d && shal e then some (.bl (!(pyL ds).any fun y => PyData.eqv y d.py)) else none
  | none => none
/-- a sign in a text -/
def signIn : D → D → Option Bool
  | .str ⟨⟨[c]⟩⟩, .str z => some (decide (c ∈ z.cps.toList))
  | _, _ => none
def pIn (S : Store) (d e : D) : Option D := match signIn d e with
  | some b => some (.bl b)
  | none => pIn0 S d e
def pNotIn (S : Store) (d e : D) : Option D := match signIn d e with
  | some b => some (.bl (!b))
  | none => pNotIn0 S d e
section
variable {G : Gc} {X : Cx}
theorem some_if {α : Type} {c : Bool} {a r : α} (h : (if c = true then some a else none) = some r) : c = true ∧ a = r := by
  cases c with
  | true => exact ⟨rfl, Option.some.inj h⟩
  | false => cases h
theorem op_of_data {op : CmpOp} {f : Store → D → D → Option D} (g : D → D → Bool) (c : D → D → Bool) (hK : X.K = G.K) (hf : ∀ S d e r, f S d e = some r → c d e = true ∧ r = .bl (g d e)) (hc : ∀ d e, c d e = true → d.okd = true ∧ e.okd = true)
    (rule : ∀ {E : Value → Shared → Prop} {s : Shared} {a b : Value} {d e : D} {as bs : List Addr} {Q : Value → Shared → Prop}, Reads s.heap a d.py as → Reads s.heap b e.py bs → c d e = true → Q (.bool (g d e)) s → wpAny (model X.prog X.w) X.A (compareOp op a b) Q E s) :
    OpR X (compareOp op) (rO G f) := by
  intro pins s σ H x y v u Q I rx ry ⟨m, S, d, e, r, hS, hx, hy, hf', k⟩
  obtain ⟨h1, rfl⟩ := hf S d e r hf'
  obtain ⟨k1, k2⟩ := hc d e h1
  obtain ⟨as, q1⟩ := hx.reads I hK k1 rx
  obtain ⟨bs, q2⟩ := hy.reads I hK k2 ry
  exact rule q1 q2 h1 ⟨.bl _, H, I, rfl, k.here hS (v := .bl _) rfl⟩
theorem shal2 {d e : D} (h : (shal d && shal e) = true) : (d.okd = true ∧ d.py.depth ≤ 100) ∧ e.okd = true ∧ e.py.depth ≤ 100 := by
  rw [Bool.and_eq_true] at h
  exact ⟨shal_ok h.1, shal_ok h.2⟩
theorem o_eq (hK : X.K = G.K) (hu : X.A.units + 200 < cLine) : OpR X (compareOp .Eq) (rO G pEq) :=
  op_of_data (fun d e => PyData.eqv d.py e.py) (fun d e => shal d && shal e) hK (fun S d e r h => by obtain ⟨h1, h2⟩ := some_if h; exact ⟨h1, h2.symm⟩) (fun d e h => ⟨(shal2 h).1.1, (shal2 h).2.1⟩)
    fun ra rb hc q => SeqAt.eq_plain ra rb (D.py_plain _) (D.py_plain _) (by have h1 := (shal2 hc).1.2; omega) q
theorem o_ne (hK : X.K = G.K) (hu : X.A.units + 200 < cLine) : OpR X (compareOp .NotEq) (rO G pNe) :=
  op_of_data (fun d e => !PyData.eqv d.py e.py) (fun d e => shal d && shal e) hK (fun S d e r h => by obtain ⟨h1, h2⟩ := some_if h; exact ⟨h1, h2.symm⟩) (fun d e h => ⟨(shal2 h).1.1, (shal2 h).2.1⟩)
    fun ra rb hc q => SeqAt.ne_plain ra rb (D.py_plain _) (D.py_plain _) (by have h1 := (shal2 hc).1.2; omega) q
theorem o_lt (hK : X.K = G.K) (hu : X.A.units + 200 < cLine) : OpR X (compareOp .Lt) (rO G pLt) :=
  op_of_data (fun d e => PySem.W.dataLt d.py e.py) cmpOk hK (fun S d e r h => by obtain ⟨h1, h2⟩ := some_if h; exact ⟨h1, h2.symm⟩) (fun d e h => ⟨(shal_ok (cmpOk_ok h).1).1, (shal_ok (cmpOk_ok h).2.1).1⟩)
    fun ra rb hc q => PySem.W.lt_data ra rb (cmpOk_ok hc).2.2.1 (cmpOk_ok hc).2.2.2 (by have h1 := (shal_ok (cmpOk_ok hc).1).2; omega) q
theorem o_gt (hK : X.K = G.K) (hu : X.A.units + 200 < cLine) : OpR X (compareOp .Gt) (rO G pGt) :=
  op_of_data (fun d e => PySem.W.dataLt e.py d.py) cmpOk hK (fun S d e r h => by obtain ⟨h1, h2⟩ := some_if h; exact ⟨h1, h2.symm⟩) (fun d e h => ⟨(shal_ok (cmpOk_ok h).1).1, (shal_ok (cmpOk_ok h).2.1).1⟩)
    fun ra rb hc q => PySem.W.gt_data ra rb (cmpOk_ok hc).2.2.1 (cmpOk_ok hc).2.2.2 (by have h1 := (shal_ok (cmpOk_ok hc).1).2; omega) q
theorem o_le (hK : X.K = G.K) (hu : X.A.units + 200 < cLine) : OpR X (compareOp .LtE) (rO G pLe) :=
  op_of_data (fun d e => !PySem.W.dataLt e.py d.py) cmpOk hK (fun S d e r h => by obtain ⟨h1, h2⟩ := some_if h; exact ⟨h1, h2.symm⟩) (fun d e h => ⟨(shal_ok (cmpOk_ok h).1).1, (shal_ok (cmpOk_ok h).2.1).1⟩)
    fun ra rb hc q => PySem.W.le_data ra rb (cmpOk_ok hc).2.2.1 (cmpOk_ok hc).2.2.2 (by have h1 := (shal_ok (cmpOk_ok hc).1).2; omega) q
theorem o_ge (hK : X.K = G.K) (hu : X.A.units + 200 < cLine) : OpR X (compareOp .GtE) (rO G pGe) :=
  op_of_data (fun d e => !PySem.W.dataLt d.py e.py) cmpOk hK (fun S d e r h => by obtain ⟨h1, h2⟩ := some_if h; exact ⟨h1, h2.symm⟩) (fun d e h => ⟨(shal_ok (cmpOk_ok h).1).1, (shal_ok (cmpOk_ok h).2.1).1⟩)
    fun ra rb hc q => PySem.W.ge_data ra rb (cmpOk_ok hc).2.2.1 (cmpOk_ok hc).2.2.2 (by have h1 := (shal_ok (cmpOk_ok hc).1).2; omega) q
theorem in_ok {e : D} {ds : List D} (h : itemsOf e = some ds) (k : shal e = true) : (e = .tup ds ∨ e = .lst ds) ∧ PyData.depthAll (pyL ds) < 100 := by
  obtain ⟨k1, k2⟩ := shal_ok k
  cases e <;> simp only [itemsOf] at h <;> first | cases h | skip
  all_goals
    rw [D.py, PyData.depth] at k2
    exact ⟨by simp, by omega⟩
theorem pIn_ok {S : Store} {d e r : D} (h : pIn0 S d e = some r) : ∃ ds, itemsOf e = some ds ∧ (shal d && shal e) = true ∧ r = .bl ((pyL ds).any fun y => PyData.eqv y d.py) := by
  unfold pIn0 at h
  split at h
  · rename_i ds hd
    obtain ⟨h1, h2⟩ := some_if h
    exact ⟨ds, hd, h1, h2.symm⟩
  · cases h
theorem pNotIn_ok {S : Store} {d e r : D} (h : pNotIn0 S d e = some r) : ∃ ds, itemsOf e = some ds ∧ (shal d && shal e) = true ∧ r = .bl (!(pyL ds).any fun y => PyData.eqv y d.py) := by
  unfold pNotIn0 at h
  split at h
  · rename_i ds hd
    obtain ⟨h1, h2⟩ := some_if h
    exact ⟨ds, hd, h1, h2.symm⟩
  · cases h
theorem o_in0 (hK : X.K = G.K) (hu : X.A.units + 200 < cLine) : OpR X (compareOp .In) (rO G pIn0) := by
  intro pins s σ H x y v u Q I rx ry ⟨m, S, d, e, r, hS, hx, hy, hf', k⟩
  obtain ⟨ds, hd, hs, rfl⟩ := pIn_ok hf'
  obtain ⟨⟨k1, k3⟩, k2, k4⟩ := shal2 hs
  obtain ⟨as, q1⟩ := hx.reads I hK k1 rx
  obtain ⟨bs, q2⟩ := hy.reads I hK k2 ry
  have hb := (in_ok hd (by rw [Bool.and_eq_true] at hs; exact hs.2)).2
  rcases (in_ok hd (by rw [Bool.and_eq_true] at hs; exact hs.2)).1 with rfl | rfl
  · rw [D.py] at q2
    exact SeqAt.in_tuple_data q2 q1 (pyL_plain ds) (D.py_plain d) (by omega) ⟨.bl _, H, I, rfl, k.here hS (v := .bl _) rfl⟩
  · rw [D.py] at q2
    exact SeqAt.in_list_data q2 q1 (pyL_plain ds) (D.py_plain d) (by omega) ⟨.bl _, H, I, rfl, k.here hS (v := .bl _) rfl⟩
theorem o_notIn0 (hK : X.K = G.K) (hu : X.A.units + 200 < cLine) : OpR X (compareOp .NotIn) (rO G pNotIn0) := by
  intro pins s σ H x y v u Q I rx ry ⟨m, S, d, e, r, hS, hx, hy, hf', k⟩
  obtain ⟨ds, hd, hs, rfl⟩ := pNotIn_ok hf'
  obtain ⟨⟨k1, k3⟩, k2, k4⟩ := shal2 hs
  obtain ⟨as, q1⟩ := hx.reads I hK k1 rx
  obtain ⟨bs, q2⟩ := hy.reads I hK k2 ry
  have hb := (in_ok hd (by rw [Bool.and_eq_true] at hs; exact hs.2)).2
  rcases (in_ok hd (by rw [Bool.and_eq_true] at hs; exact hs.2)).1 with rfl | rfl
  · rw [D.py] at q2
    exact SeqAt.notIn_tuple_data q2 q1 (pyL_plain ds) (D.py_plain d) (by omega) ⟨.bl _, H, I, rfl, k.here hS (v := .bl _) rfl⟩
  · rw [D.py] at q2
    exact SeqAt.notIn_list_data q2 q1 (pyL_plain ds) (D.py_plain d) (by omega) ⟨.bl _, H, I, rfl, k.here hS (v := .bl _) rfl⟩
theorem signIn_ok {d e : D} {b : Bool} (h : signIn d e = some b) : ∃ (c : Nat) (z : Str), d = .str ⟨#[c]⟩ ∧ e = .str z ∧ b = decide (c ∈ z.cps.toList) := by
  unfold signIn at h
  split at h
  · exact ⟨_, _, rfl, rfl, (Option.some.inj h).symm⟩
  · cases h
theorem o_in (hK : X.K = G.K) (hu : X.A.units + 200 < cLine) : OpR X (compareOp .In) (rO G pIn) := by
  refine opr_imp (OpR.or (o_in0 hK hu) op_in_sign) fun x y H Q ⟨m, S, d, e, r, hS, hx, hy, hf, k⟩ => ?_
  unfold pIn at hf
  split at hf
  · rename_i b hb
    obtain ⟨c, z, rfl, rfl, rfl⟩ := signIn_ok hb
    cases hf
    have hx : x = V.str _ := hx
    have hy : y = V.str _ := hy
    exact .inr ⟨c, z, hx, hy, k.here hS (v := .bl _) rfl⟩
  · exact .inl ⟨m, S, d, e, r, hS, hx, hy, hf, k⟩
theorem o_notIn (hK : X.K = G.K) (hu : X.A.units + 200 < cLine) : OpR X (compareOp .NotIn) (rO G pNotIn) := by
  refine opr_imp (OpR.or (o_notIn0 hK hu) op_notIn_sign) fun x y H Q ⟨m, S, d, e, r, hS, hx, hy, hf, k⟩ => ?_
  unfold pNotIn at hf
  split at hf
  · rename_i b hb
    obtain ⟨c, z, rfl, rfl, rfl⟩ := signIn_ok hb
    cases hf
    have hx : x = V.str _ := hx
    have hy : y = V.str _ := hy
    exact .inr ⟨c, z, hx, hy, k.here hS (v := .bl _) rfl⟩
  · exact .inl ⟨m, S, d, e, r, hS, hx, hy, hf, k⟩
end
end Py

/-! Part 3: primitives on numbers, texts, tuples, lists. -/
namespace Py
open PySem PySem.Spec PyProof.Rows L2

section
variable {G : Gc} {m : Mu} {H : Hp}
theorem RpL.length : ∀ {ds : List D} {xs : List V}, RpL G m H ds xs → xs.length = ds.length
  | [], _, h => by
    have h : _ = [] := h
    rw [h]; rfl
  | d :: ds, _, ⟨v, r, e, _, h⟩ => by
    rw [e, List.length_cons, List.length_cons, RpL.length h]
theorem RpL.append : ∀ {ds es : List D} {xs ys : List V}, RpL G m H ds xs → RpL G m H es ys → RpL G m H (ds ++ es) (xs ++ ys)
  | [], _, _, _, h, k => by
    have h : _ = [] := h
    rw [h]; exact k
  | d :: ds, es, _, ys, ⟨v, r, e, h1, h⟩, k => ⟨v, r ++ ys, by rw [e]; rfl, h1, RpL.append h k⟩
theorem RpL.get : ∀ {ds : List D} {xs : List V} {i : Nat} {d : D}, RpL G m H ds xs → ds[i]? = some d → ∃ v, xs[i]? = some v ∧ Rp G m H d v
  | [], _, _, _, _, e => by simp at e
  | d :: ds, _, 0, _, ⟨v, r, e, h1, h⟩, k => by
    simp at k; subst k; subst e
    exact ⟨v, rfl, h1⟩
  | d :: ds, _, i + 1, d', ⟨v, r, e, h1, h⟩, k => by
    subst e
    obtain ⟨u, q1, q2⟩ := RpL.get (i := i) h (by simpa using k)
    exact ⟨u, by simpa using q1, q2⟩
theorem RpL.getV : ∀ {ds : List D} {xs : List V} {i : Nat} {v : V}, RpL G m H ds xs → xs[i]? = some v → ∃ d, ds[i]? = some d ∧ Rp G m H d v
  | [], _, _, _, h, e => by
    have h : _ = [] := h
    rw [h] at e; simp at e
  | d :: ds, _, 0, _, ⟨v, r, e, h1, h⟩, k => by
    subst e
    simp at k; subst k
    exact ⟨d, rfl, h1⟩
  | d :: ds, _, i + 1, d', ⟨v, r, e, h1, h⟩, k => by
    subst e
    obtain ⟨u, q1, q2⟩ := RpL.getV (i := i) h (by simpa using k)
    exact ⟨u, by simpa using q1, q2⟩
theorem RpL.take : ∀ (n : Nat) {ds : List D} {xs : List V}, RpL G m H ds xs → RpL G m H (ds.take n) (xs.take n)
  | 0, ds, xs, _ => by
    show RpL G m H [] []
    rfl
  | n + 1, [], _, h => by
    have h : _ = [] := h
    rw [h]; rfl
  | n + 1, d :: ds, _, ⟨v, r, e, h1, h⟩ => by
    subst e
    exact ⟨v, r.take n, rfl, h1, RpL.take n h⟩
theorem RpL.drop : ∀ (n : Nat) {ds : List D} {xs : List V}, RpL G m H ds xs → RpL G m H (ds.drop n) (xs.drop n)
  | 0, ds, xs, h => h
  | n + 1, [], _, h => by
    have h : _ = [] := h
    rw [h]; rfl
  | n + 1, d :: ds, _, ⟨v, r, e, h1, h⟩ => by
    subst e
    exact RpL.drop n h
theorem RpL.nil : RpL G m H [] [] := rfl
theorem RpL.rep {ds : List D} {xs : List V} (h : RpL G m H ds xs) : ∀ n : Nat, RpL G m H (List.replicate n ds).flatten (List.replicate n xs).flatten
  | 0 => rfl
  | n + 1 => by
    rw [List.replicate_succ, List.flatten_cons, List.replicate_succ, List.flatten_cons]
    exact h.append (RpL.rep h n)
theorem RpL.set : ∀ {ds : List D} {xs : List V} {i : Nat} {d : D} {v : V}, RpL G m H ds xs → Rp G m H d v → RpL G m H (ds.set i d) (xs.set i v)
  | [], _, _, _, _, h, _ => by
    have h : _ = [] := h
    rw [h]; exact rfl
  | d :: ds, _, 0, _, _, ⟨v, r, e, h1, h⟩, k => by
    subst e
    exact ⟨_, _, rfl, k, h⟩
  | d :: ds, _, i + 1, _, _, ⟨v, r, e, h1, h⟩, k => by
    subst e
    exact ⟨_, _, rfl, h1, RpL.set h k⟩
theorem RpL.inj_ints {ds : List D} : ∀ {ns : List Int} {xs : List V}, RpL G m H (ns.map D.int) xs → xs = ns.map V.int
  | [], _, h => h
  | n :: ns, _, ⟨v, r, e, h1, h⟩ => by
    have h1 : v = V.int n := h1
    rw [e, h1, RpL.inj_ints (ds := ds) h]; rfl
end

/-! ### numbers -/
def pAdd (_ : Store) : D → D → Option D
  | .int i, .int j => some (.int (i + j))
  | .str a, .str b => if a.length + b.length ≤ sizeLine then some (.str (a ++ b)) else none
  | .tup a, .tup b => if a.length + b.length ≤ sizeLine then some (.tup (a ++ b)) else none
  | .lst a, .lst b => if a.length + b.length ≤ sizeLine then some (.lst (a ++ b)) else none
  | _, _ => none
def pSub (_ : Store) : D → D → Option D
  | .int i, .int j => some (.int (i - j))
  | _, _ => none
def pMul (_ : Store) : D → D → Option D
  | .int i, .int j => if Builtin.Int.intBits i + Builtin.Int.intBits j ≤ 134217728 then some (.int (i * j)) else none
  | .tup a, .int k => if a ≠ [] ∧ 2 ≤ k.toNat ∧ k.toNat ≤ 1000 ∧ a.length ≤ 1000 then some (.tup (List.replicate k.toNat a).flatten) else none
  | .lst a, .int k => if k.natAbs < 2 ^ 63 ∧ a.length * k.toNat ≤ sizeLine then some (.lst (List.replicate k.toNat a).flatten) else none
  | _, _ => none
def pDiv (_ : Store) : D → D → Option D
  | .int i, .int j => if 0 < j ∧ j.natAbs.log2 < 9000 then some (.int (i / j)) else none
  | _, _ => none
def pMod (_ : Store) : D → D → Option D
  | .int i, .int j => if 0 < j then some (.int (i % j)) else none
  | _, _ => none
def pPow (_ : Store) : D → D → Option D
  | .int i, .int j => if 0 ≤ j ∧ Builtin.Int.intBits i * j.toNat ≤ 134217728 then some (.int (i ^ j.toNat)) else none
  | _, _ => none
theorem some_ifp {α : Type} {c : Prop} [Decidable c] {a r : α} (h : (if c then some a else none) = some r) : c ∧ a = r := by
  by_cases k : c
  · rw [if_pos k] at h; exact ⟨k, Option.some.inj h⟩
  · rw [if_neg k] at h; cases h
section
variable {G : Gc} {X : Cx} {m : Mu} {H : Hp} {S : Store}
theorem Rt.tup_get {ds : List D} {v : V} (h : Rt G m H (.tup ds) v) : ∃ a xs, v = .ref a ∧ Tq G H a xs ∧ RpL G m H ds xs := h
theorem Rt.lst_get {ds : List D} {v : V} (h : Rt G m H (.lst ds) v) : ∃ a xs, v = .ref a ∧ H a = some (.lst xs) ∧ a ∉ m.as ∧ RpL G m H ds xs := h
/-- a new tuple | list -/
theorem rRes.tup {ds : List D} {xs : List V} {Q : VK} {p : Addr} (k : rRes G m H S (.tup ds) Q) (hS : Holds G m H S) (hp : H p = none) (h : RpL G m H ds xs) : Q (.ref p) (upd H p (.tup xs)) :=
  k.new hS hp (show Rp G m _ (.tup ds) _ from ⟨p, xs, rfl, Tq.of upd_same, (Le.same (Same.new hp)).rpL h⟩)
theorem Holds.fresh (hS : Holds G m H S) {p : Addr} (hp : H p = none) : ¬ m.has p := by
  rintro (q | q)
  · obtain ⟨n, hn⟩ := List.getElem?_of_mem q
    have hl : n < S.length := by rw [← hS.len]; exact (List.getElem?_eq_some_iff.mp hn).1
    have z := hS.ob n S[n] p (by simp [hl]) hn
    obtain ⟨o, e⟩ := z.some_
    rw [hp] at e; cases e
  · exact hS.there p q hp
theorem rRes.lst {ds : List D} {xs : List V} {Q : VK} {p : Addr} (k : rRes G m H S (.lst ds) Q) (hS : Holds G m H S) (hp : H p = none) (h : RpL G m H ds xs) : Q (.ref p) (upd H p (.lst xs)) :=
  k.new hS hp (show Rp G m _ (.lst ds) _ from ⟨p, xs, rfl, upd_same, hS.fresh hp, (Le.same (Same.new hp)).rpL h⟩)
theorem o_add (hK : X.K = G.K) : OpR X (binaryOp .Add) (rO G pAdd) := by
  refine opr_imp (OpR.or op_add (OpR.or op_add_str (OpR.or op_catA op_cat))) fun x y H Q ⟨m, S, d, e, r, hS, hx, hy, hf, k⟩ => ?_
  cases d <;> cases e <;> simp only [pAdd] at hf <;> first | cases hf; done | skip
  · obtain rfl := Option.some.inj hf
    have hx : x = V.int _ := hx
    have hy : y = V.int _ := hy
    exact .inl ⟨_, _, hx, hy, k.here hS (v := .int _) rfl⟩
  · obtain ⟨hc, rfl⟩ := some_ifp hf
    have hx : x = V.str _ := hx
    have hy : y = V.str _ := hy
    exact .inr (.inl ⟨_, _, hx, hy, hc, k.here hS (v := .str _) rfl⟩)
  · obtain ⟨hc, rfl⟩ := some_ifp hf
    obtain ⟨a, xs, rfl, h1, h2⟩ := hx.tup_get
    obtain ⟨b, ys, rfl, h3, h4⟩ := hy.tup_get
    refine .inr (.inr (.inl ⟨a, b, xs, ys, rfl, rfl, by rw [hK]; exact h1.sq, by rw [hK]; exact h3.sq, by rw [h2.length, h4.length]; exact hc, fun e => ?_, fun _ e => ?_, fun _ _ p hp => k.tup hS hp (h2.append h4)⟩))
    · subst e
      have := h2.append h4
      rw [List.nil_append] at this
      exact k.here hS (show Rp G m H (.tup _) _ from ⟨b, ys, rfl, h3, this⟩)
    · subst e
      have := h2.append h4
      rw [List.append_nil] at this
      exact k.here hS (show Rp G m H (.tup _) _ from ⟨a, xs, rfl, h1, this⟩)
  · obtain ⟨hc, rfl⟩ := some_ifp hf
    obtain ⟨a, xs, rfl, h1, _, h2⟩ := hx.lst_get
    obtain ⟨b, ys, rfl, h3, _, h4⟩ := hy.lst_get
    exact .inr (.inr (.inr ⟨a, b, xs, ys, rfl, rfl, h1, h3, by rw [h2.length, h4.length]; exact hc, fun p hp => k.lst hS hp (h2.append h4)⟩))
theorem o_sub : OpR X (binaryOp .Sub) (rO G pSub) := by
  refine opr_imp op_sub fun x y H Q ⟨m, S, d, e, r, hS, hx, hy, hf, k⟩ => ?_
  cases d <;> cases e <;> simp only [pSub] at hf <;> first | cases hf; done | skip
  obtain rfl := Option.some.inj hf
  have hx : x = V.int _ := hx
  have hy : y = V.int _ := hy
  exact ⟨_, _, hx, hy, k.here hS (v := .int _) rfl⟩
theorem mul_cond {i j : Int} (h : Builtin.Int.intBits i + Builtin.Int.intBits j ≤ 134217728) : (Builtin.Int.intBits i : Int) + (Builtin.Int.intBits j : Int) ≤ 134217728 := by omega
theorem o_mul (hK : X.K = G.K) : OpR X (binaryOp .Mult) (rO G pMul) := by
  refine opr_imp (OpR.or op_mulX (OpR.or op_repT op_rep)) fun x y H Q ⟨m, S, d, e, r, hS, hx, hy, hf, k⟩ => ?_
  cases d <;> cases e <;> simp only [pMul] at hf <;> first | cases hf; done | skip
  · obtain ⟨hc, rfl⟩ := some_ifp hf
    have hx : x = V.int _ := hx
    have hy : y = V.int _ := hy
    exact .inl ⟨_, _, hx, hy, mul_cond hc, k.here hS (v := .int _) rfl⟩
  · obtain ⟨⟨c1, c2, c3, c4⟩, rfl⟩ := some_ifp hf
    obtain ⟨a, xs, rfl, h1, h2⟩ := hx.tup_get
    have hy : y = V.int _ := hy
    refine .inr (.inl ⟨a, _, xs, rfl, hy, by rw [hK]; exact h1.sq, fun e => ?_, by omega, by omega, by rw [h2.length]; exact c4, fun p hp => k.tup hS hp (h2.rep _)⟩)
    subst e
    have := h2.length
    exact c1 (List.eq_nil_of_length_eq_zero this.symm)
  · obtain ⟨⟨c1, c3⟩, rfl⟩ := some_ifp hf
    obtain ⟨a, xs, rfl, h1, _, h2⟩ := hx.lst_get
    have hy : y = V.int _ := hy
    exact .inr (.inr ⟨a, _, xs, rfl, hy, h1, by omega, by omega, by rw [h2.length]; exact c3, fun p hp => k.lst hS hp (h2.rep _)⟩)
theorem o_div : OpR X (binaryOp .FloorDiv) (rO G pDiv) := by
  refine opr_imp op_fdivW fun x y H Q ⟨m, S, d, e, r, hS, hx, hy, hf, k⟩ => ?_
  cases d <;> cases e <;> simp only [pDiv] at hf <;> first | cases hf; done | skip
  obtain ⟨hc, rfl⟩ := some_ifp hf
  have hx : x = V.int _ := hx
  have hy : y = V.int _ := hy
  exact ⟨_, _, hx, hy, hc, k.here hS (v := .int _) rfl⟩
theorem o_mod : OpR X (binaryOp .Mod) (rO G pMod) := by
  refine opr_imp op_mod fun x y H Q ⟨m, S, d, e, r, hS, hx, hy, hf, k⟩ => ?_
  cases d <;> cases e <;> simp only [pMod] at hf <;> first | cases hf; done | skip
  obtain ⟨hc, rfl⟩ := some_ifp hf
  have hx : x = V.int _ := hx
  have hy : y = V.int _ := hy
  exact ⟨_, _, hx, hy, hc, k.here hS (v := .int _) rfl⟩
theorem o_pow : OpR X (binaryOp .Pow) (rO G pPow) := by
  refine opr_imp (opI (f := binaryOp .Pow) (C := fun i j => 0 ≤ j ∧ (Builtin.Int.intBits i : Int) * j ≤ 2 ^ 27) (g := fun i j => i ^ j.toNat) fun _ _ _ _ _ _ _ hc q => pow_int hc.1 hc.2 q) fun x y H Q ⟨m, S, d, e, r, hS, hx, hy, hf, k⟩ => ?_
  cases d <;> cases e <;> simp only [pPow] at hf <;> first | cases hf; done | skip
  obtain ⟨hc, rfl⟩ := some_ifp hf
  have hx : x = V.int _ := hx
  have hy : y = V.int _ := hy
  exact ⟨_, _, hx, hy, ⟨hc.1, by
    have h2 := hc.2
    rw [← Int.toNat_of_nonneg hc.1]
    exact_mod_cast h2⟩, k.here hS (v := .int _) rfl⟩
/-- is None, is not None -/
def pIs (_ : Store) : D → D → Option D
  | .glo _, .non => none
  | d, .non => some (.bl (isNonD d))
  | _, _ => none
def pIsNot (_ : Store) : D → D → Option D
  | .glo _, .non => none
  | d, .non => some (.bl (!isNonD d))
  | _, _ => none
theorem isNon_rt {d : D} {x : V} (h : Rt G m H d x) : decide (x = .non) = isNonD d := by
  cases d with
  | non => have h : x = _ := h; subst h; rfl
  | bl _ => have h : x = _ := h; subst h; rfl
  | int _ => have h : x = _ := h; subst h; rfl
  | str _ => have h : x = _ := h; subst h; rfl
  | ty _ => have h : x = _ := h; subst h; rfl
  | ref _ => obtain ⟨a, rfl, _⟩ := h; rfl
  | glo _ => obtain ⟨a, rfl, _⟩ := h; rfl
  | tup _ => obtain ⟨a, _, rfl, _⟩ := h; rfl
  | lst _ => obtain ⟨a, _, rfl, _⟩ := h; rfl
  | emp => obtain ⟨a, rfl, _⟩ := h; rfl
theorem o_is : OpR X (compareOp .Is) (rO G pIs) := by
  refine opr_imp op_isN fun x y H Q ⟨m, S, d, e, r, hS, hx, hy, hf, k⟩ => ?_
  cases e <;> (cases d <;> simp only [pIs] at hf <;> first | cases hf; done | skip)
  all_goals
    obtain rfl := Option.some.inj hf
    have hy : y = V.non := hy
    rw [isNon_rt hx]
    exact ⟨hy, k.here hS (v := .bl _) rfl⟩
theorem o_isNot : OpR X (compareOp .IsNot) (rO G pIsNot) := by
  refine opr_imp op_notN fun x y H Q ⟨m, S, d, e, r, hS, hx, hy, hf, k⟩ => ?_
  cases e <;> (cases d <;> simp only [pIsNot] at hf <;> first | cases hf; done | skip)
  all_goals
    obtain rfl := Option.some.inj hf
    have hy : y = V.non := hy
    rw [isNon_rt hx]
    exact ⟨hy, k.here hS (v := .bl _) rfl⟩
end
end Py

/-! Part 4: names, constants, tests, subscripts, displays, calls of what is built in. -/
namespace Py
open PySem PySem.Spec PyProof.Rows L2

/-! ### forms of syntax -/
def starB : Expr → Bool
  | .Starred .. => true
  | _ => false
theorem starEach_plain {e : Expr} {es : List Expr} {env : PySem.Env} (h : starB e = false) : starEach (e :: es) env = (false, eval e env) :: starEach es env := by
  cases e <;> first | rfl | cases h
theorem backTo_plain {env : PySem.Env} {pos : Pos} : ∀ {es : List Expr}, es.any starB = false → (backTo pos (starEach es env)).any (·.1) = false
  | [], _ => by rfl
  | e :: es, h => by
    rw [List.any_cons, Bool.or_eq_false_iff] at h
    rw [starEach_plain h.1]
    show (false || (backTo pos (starEach es env)).any (·.1)) = false
    rw [backTo_plain h.2]; rfl

section
variable {G : Gc} {W : WX} {X : Cx} {e a b c : Expr} {m : Mu} {H : Hp} {S : Store} {σ : Sg} {pos : Pos}
/-! ### names, constants -/
def slV (ρ : Env) (i : Nat) : Option D := match ρ[i]? with
  | some (some (.val d)) => some d
  | _ => none
def slR (ρ : Env) (i : Nat) : Option D := match ρ[i]? with
  | some (some (.val d)) => some d
  | some (some (.own ds)) => some (.lst ds)
  | _ => none
def dVar (i : Nat) : DE := fun ρ => optM (slV ρ i)
/-- a slot that holds a list of its own, read by a primitive -/
def dRd (i : Nat) : DE := fun ρ => optM (slR ρ i)
theorem slV_ok {ρ : Env} {i : Nat} {d : D} (h : slV ρ i = some d) : ρ[i]? = some (some (.val d)) := by
  unfold slV at h
  split at h
  · rename_i d' hd
    rw [hd, Option.some.inj h]
  · cases h
theorem slR_ok {ρ : Env} {i : Nat} {d : D} (h : slR ρ i = some d) : ρ[i]? = some (some (.val d)) ∨ ∃ ds, d = .lst ds ∧ ρ[i]? = some (some (.own ds)) := by
  unfold slR at h
  split at h
  · rename_i d' hd
    rw [hd, Option.some.inj h]; exact .inl rfl
  · rename_i ds hd
    exact .inr ⟨ds, (Option.some.inj h).symm, hd⟩
  · cases h
theorem RpE.rt {ρ : Env} {i : Nat} {d : D} (E : RpE G m H ρ σ) (h : slR ρ i = some d) : ∃ v, σ[i]? = some (some v) ∧ Rt G m H d v := by
  rcases slR_ok h with k | ⟨ds, rfl, k⟩
  · obtain ⟨v, h1, h2⟩ := E.at_ i _ k
    exact ⟨v, h1, Rp.rt h2⟩
  · obtain ⟨v, h1, a, e, q1, q2, xs, q3, q4⟩ := E.at_ i _ k
    exact ⟨v, h1, a, xs, e, q3, q2, q4⟩
theorem RpE.rp {ρ : Env} {i : Nat} {d : D} (E : RpE G m H ρ σ) (h : slV ρ i = some d) : ∃ v, σ[i]? = some (some v) ∧ Rp G m H d v := E.at_ i _ (slV_ok h)
theorem aft_optG {α : Type} {r : Option α} {Y : XK} {Φ : α → Store → Mu → Hp → Prop} (h : Aft G m H Y (optM r S) Φ) (hS : Holds G m H S) : ∃ d, r = some d ∧ Φ d S m H := by
  cases r with
  | none => exact h.elim
  | some d => exact ⟨d, rfl, h.ok hS⟩
def dCst (d : D) : DE := fun _ S => .ok d S
theorem je_var {i : Nat} {x : Str} (hN : X.N[i]? = some x) (hv : Vis X.env.scope x) (hd : (x == ("__debug__" : Str)) = false) (hcd : (x == ("__classdict__" : Str)) = false) : PE X (.Name x pos) (tE G W (dVar i)) := by
  refine pe_imp (pe_var hN hv hd hcd) fun σ H Q ⟨m, ρ, S, hS, hE, h⟩ => ?_
  obtain ⟨d, e, k⟩ := aft_optG h hS
  obtain ⟨v, h1, h2⟩ := hE.rp e
  exact ⟨v, h1, k v h2⟩
theorem jr_rd {i : Nat} {x : Str} (hN : X.N[i]? = some x) (hv : Vis X.env.scope x) (hd : (x == ("__debug__" : Str)) = false) (hcd : (x == ("__classdict__" : Str)) = false) : PE X (.Name x pos) (tR G W (dRd i)) := by
  refine pe_imp (pe_var hN hv hd hcd) fun σ H Q ⟨m, ρ, S, hS, hE, h⟩ => ?_
  obtain ⟨d, e, k⟩ := aft_optG h hS
  obtain ⟨v, h1, h2⟩ := hE.rt e
  exact ⟨v, h1, k v h2⟩
theorem je_c {e : Expr} {v : V} {d : D} (h : PE X e (tC v)) (r : ∀ (m : Mu) (H : Hp), Rp G m H d v) : PE X e (tE G W (dCst d)) :=
  pe_imp h fun σ H Q ⟨m, ρ, S, hS, hE, h⟩ => h.ok hS v (r m H)

/-! ### tests -/
def asB : D → Option Bool
  | .bl b => some b
  | _ => none
def dTest (d : DE) : DT := fun ρ S => (d ρ S).bind fun x S => optM (asB x) S
def plainTest : Expr → Bool
  | .UnaryOp .Not _ _ => false
  | .BoolOp .. => false
  | .IfExp .. => false
  | .Compare .. => false
  | _ => true
theorem plain_isTrue {env : PySem.Env} (h : plainTest e = true) (whole : Sem Value) : isTrue e env whole = (do let v ← whole; standAt e.pos; holding [v] (truthy v)) := by
  cases e with
  | UnaryOp op x p => cases op <;> first | rfl | cases h
  | BoolOp => cases h
  | IfExp => cases h
  | Compare => cases h
  | _ => rfl
theorem asB_ok {d : D} {b : Bool} {v : V} (h : asB d = some b) (r : Rt G m H d v) : v = .bl b := by
  cases d <;> simp only [asB] at h <;> first | cases h; done | skip
  have := Option.some.inj h
  subst this
  exact r
theorem aft_optT {r : Option Bool} {Y : XK} {Q : Bool → Hp → Prop} (h : Aft G m H Y (optM r S) fun r _ _ H' => Q r H') (hS : Holds G m H S) : ∃ b, r = some b ∧ Q b H := by
  cases r with
  | none => exact h.elim
  | some d => exact ⟨d, rfl, h.ok hS⟩
theorem test_of {d : DE} {Q : Bool → Hp → Prop} (h : tT G W (dTest d) σ H Q) : tR G W d σ H fun x H' => ∃ k, x = .bl k ∧ Q k H' := by
  obtain ⟨m, ρ, S, hS, hE, h⟩ := h
  refine ⟨m, ρ, S, hS, hE, (Aft.bind h).imp fun x S1 m1 H1 l1 hS1 h1 v rv => ?_⟩
  obtain ⟨b, e, q⟩ := aft_optT h1 hS1
  exact ⟨b, asB_ok e rv, q⟩
theorem jt_val {d : DE} (h : PE X e (tR G W d)) (he : plainTest e = true) : PT X e (tT G W (dTest d)) :=
  pt_imp (pt_val h fun whole => plain_isTrue he whole) fun _ _ _ q => test_of q
def dChain (f g : Store → D → D → Option D) (a b c : DE) : DE := fun ρ S => (a ρ S).bind fun x S => (b ρ S).bind fun y S => match (f S x y).bind asB with
  | some true => (c ρ S).bind fun z S => optM (g S y z) S
  | some false => .ok (.bl false) S
  | none => .bad
theorem tChain_of {f g : Store → D → D → Option D} {da db dc : DE} {Q : VK} (h : tE G W (dChain f g da db dc) σ H Q) : tChain (rO G f) (rO G g) (tR G W da) (tR G W db) (tR G W dc) σ H Q := by
  obtain ⟨m, ρ, S, hS, hE, h⟩ := h
  refine ⟨m, ρ, S, hS, hE, (Aft.bind h).imp fun x S1 m1 H1 l1 hS1 h1 v rv => ?_⟩
  refine ⟨m1, ρ, S1, hS1, hE.le l1, (Aft.bind h1).imp fun y S2 m2 H2 l2 hS2 h2 u ru => ?_⟩
  cases hf : f S2 x y with
  | none => rw [hf] at h2; exact h2.elim
  | some d =>
    rw [hf] at h2
    refine ⟨m2, S2, x, y, d, hS2, l2.rt rv, ru, hf, fun m3 H3 l3 hS3 w rw => ?_⟩
    cases hb : asB d with
    | none =>
      have h2 : Aft G m2 H2 _ (match (asB d) with | some true => _ | some false => _ | none => R.bad) _ := h2
      rw [hb] at h2
      exact h2.elim
    | some k =>
      refine ⟨k, asB_ok hb rw.rt, ?_⟩
      have h2 : Aft G m2 H2 _ (match (asB d) with | some true => _ | some false => _ | none => R.bad) _ := h2
      rw [hb] at h2
      cases k with
      | false => exact h2 m3 H3 l3 hS3 (.bl false) rfl
      | true =>
        refine ⟨m3, ρ, S2, hS3, (hE.le l1).le (l2.trans l3), (Aft.bind (h2.later l3)).imp fun z S4 m4 H4 l4 hS4 h4 w' rw' => ?_⟩
        obtain ⟨d', e', k'⟩ := aft_opt h4
        exact ⟨m4, S4, y, z, d', hS4, l4.rt (l3.rt ru), rw', e', k'⟩
theorem je_chain {op op' : CmpOp} {f g : Store → D → D → Option D} {da db dc : DE} (ho : OpR X (compareOp op) (rO G f)) (ho' : OpR X (compareOp op') (rO G g)) (ha : PE X a (tR G W da)) (hb : PE X b (tR G W db)) (hc : PE X c (tR G W dc))
    (hm : behindInMarks op' c = false) : PE X (.Compare a [op, op'] [b, c] pos) (tE G W (dChain f g da db dc)) :=
  pe_imp (pe_chain ho ho' ha hb hc (show lastMarks [op, op'] [b, c] = false from hm)) fun _ _ _ h => tChain_of h
/-- what a test asks of a value that comes as tE -/
theorem tE_test {d : DE} {Q : Bool → Hp → Prop} (h : tT G W (dTest d) σ H Q) : tE G W d σ H fun x H' => ∃ k, x = .bl k ∧ Q k H' := by
  obtain ⟨m, ρ, S, hS, hE, h⟩ := h
  refine ⟨m, ρ, S, hS, hE, (Aft.bind h).imp fun x S1 m1 H1 l1 hS1 h1 v rv => ?_⟩
  obtain ⟨b, e, q⟩ := aft_optT h1 hS1
  exact ⟨b, asB_ok e (Rp.rt rv), q⟩
theorem jt_cmp {op : CmpOp} {f : Store → D → D → Option D} {da db : DE} (ho : OpR X (compareOp op) (rO G f)) (ha : PE X a (tR G W da)) (hb : PE X b (tR G W db)) (hm : behindInMarks op b = false) : PT X (.Compare a [op] [b] pos) (tT G W (dTest (dOp f da db))) :=
  pt_imp (pt_cmpR ho ha hb hm) fun _ _ _ h => tOp_of (tE_test h)
theorem jt_chain {op op' : CmpOp} {f g : Store → D → D → Option D} {da db dc : DE} (ho : OpR X (compareOp op) (rO G f)) (ho' : OpR X (compareOp op') (rO G g)) (ha : PE X a (tR G W da)) (hb : PE X b (tR G W db)) (hc : PE X c (tR G W dc))
    (hm : behindInMarks op' c = false) : PT X (.Compare a [op, op'] [b, c] pos) (tT G W (dTest (dChain f g da db dc))) :=
  pt_imp (pt_chain ho ho' ha hb hc (show lastMarks [op, op'] [b, c] = false from hm)) fun _ _ _ h => tChain_of (tE_test h)
def dAnd (t u : DT) : DT := fun ρ S => (t ρ S).bind fun b S => if b then u ρ S else .ok false S
def dOr (t u : DT) : DT := fun ρ S => (t ρ S).bind fun b S => if b then .ok true S else u ρ S
def dNot (t : DT) : DT := fun ρ S => (t ρ S).bind fun b S => .ok (!b) S
variable {da db dc : DE} {ta tb : DT}
theorem tAnd_of {Q : Bool → Hp → Prop} (h : tT G W (dAnd ta tb) σ H Q) : tAnd (tT G W ta) (tT G W tb) σ H Q := by
  obtain ⟨m, ρ, S, hS, hE, h⟩ := h
  refine ⟨m, ρ, S, hS, hE, (Aft.bind h).imp fun x S1 m1 H1 l1 hS1 h1 => ?_⟩
  cases x with
  | true => exact ⟨m1, ρ, S1, hS1, hE.le l1, h1⟩
  | false => exact h1.ok hS1
theorem tOr_of {Q : Bool → Hp → Prop} (h : tT G W (dOr ta tb) σ H Q) : tOr (tT G W ta) (tT G W tb) σ H Q := by
  obtain ⟨m, ρ, S, hS, hE, h⟩ := h
  refine ⟨m, ρ, S, hS, hE, (Aft.bind h).imp fun x S1 m1 H1 l1 hS1 h1 => ?_⟩
  cases x with
  | false => exact ⟨m1, ρ, S1, hS1, hE.le l1, h1⟩
  | true => exact h1.ok hS1
theorem pw_imp {t t' : TT} (h : PW X e t) (k : ∀ σ H Q, t' σ H Q → t σ H Q) : PW X e t' := ⟨fun wh pins s σ H Q I q => h.run wh pins s σ H Q I (k σ H Q q)⟩
theorem jw_and {rest : List Expr} (ha : PT X a (tT G W ta)) (hb : PW X (.BoolOp .And (b :: rest) pos) (tT G W tb)) : PW X (.BoolOp .And (a :: b :: rest) pos) (tT G W (dAnd ta tb)) := pw_imp (pw_and ha hb) fun _ _ _ h => tAnd_of h
theorem jw_or {rest : List Expr} (ha : PT X a (tT G W ta)) (hb : PW X (.BoolOp .Or (b :: rest) pos) (tT G W tb)) : PW X (.BoolOp .Or (a :: b :: rest) pos) (tT G W (dOr ta tb)) := pw_imp (pw_or ha hb) fun _ _ _ h => tOr_of h
theorem jt_not (ha : PT X a (tT G W ta)) : PT X (.UnaryOp .Not a pos) (tT G W (dNot ta)) := pt_imp (pt_not ha) fun σ H Q ⟨m, ρ, S, hS, hE, h⟩ =>
  ⟨m, ρ, S, hS, hE, (Aft.bind h).imp fun x S1 m1 H1 l1 hS1 h1 => h1.ok hS1⟩
/-- a test's answer as a value: and, or, not of bools -/
def dBl (t : DT) : DE := fun ρ S => (t ρ S).bind fun b S => .ok (.bl b) S
def dAndV (a b : DE) : DE := fun ρ S => (a ρ S).bind fun x S => match asB x with
  | some true => b ρ S
  | some false => .ok (.bl false) S
  | none => .bad
def dOrV (a b : DE) : DE := fun ρ S => (a ρ S).bind fun x S => match asB x with
  | some true => .ok (.bl true) S
  | some false => b ρ S
  | none => .bad
def dNotV (a : DE) : DE := fun ρ S => (a ρ S).bind fun x S => match asB x with
  | some k => .ok (.bl (!k)) S
  | none => .bad
theorem je_and {rest : List Expr} (ha : PE X a (tE G W da)) (hb : PE X (.BoolOp .And (b :: rest) pos) (tE G W db)) : PE X (.BoolOp .And (a :: b :: rest) pos) (tE G W (dAndV da db)) :=
  pe_imp (pe_and ha hb) fun σ H Q ⟨m, ρ, S, hS, hE, h⟩ => ⟨m, ρ, S, hS, hE, (Aft.bind h).imp fun x S1 m1 H1 l1 hS1 h1 v rv => by
    cases hb : asB x with
    | none =>
      rw [hb] at h1
      exact h1.elim
    | some k =>
      rw [hb] at h1
      refine ⟨k, asB_ok hb (Rp.rt rv), ?_⟩
      cases k with
      | true => exact ⟨m1, ρ, S1, hS1, hE.le l1, h1⟩
      | false => exact h1.ok hS1 (.bl false) rfl⟩
theorem je_or {rest : List Expr} (ha : PE X a (tE G W da)) (hb : PE X (.BoolOp .Or (b :: rest) pos) (tE G W db)) : PE X (.BoolOp .Or (a :: b :: rest) pos) (tE G W (dOrV da db)) :=
  pe_imp (pe_or ha hb) fun σ H Q ⟨m, ρ, S, hS, hE, h⟩ => ⟨m, ρ, S, hS, hE, (Aft.bind h).imp fun x S1 m1 H1 l1 hS1 h1 v rv => by
    cases hb : asB x with
    | none =>
      rw [hb] at h1
      exact h1.elim
    | some k =>
      rw [hb] at h1
      refine ⟨k, asB_ok hb (Rp.rt rv), ?_⟩
      cases k with
      | false => exact ⟨m1, ρ, S1, hS1, hE.le l1, h1⟩
      | true => exact h1.ok hS1 (.bl true) rfl⟩
theorem je_not (ha : PE X a (tE G W da)) : PE X (.UnaryOp .Not a pos) (tE G W (dNotV da)) :=
  pe_imp (pe_not ha) fun σ H Q ⟨m, ρ, S, hS, hE, h⟩ => ⟨m, ρ, S, hS, hE, (Aft.bind h).imp fun x S1 m1 H1 l1 hS1 h1 v rv => by
    cases hb : asB x with
    | none =>
      rw [hb] at h1
      exact h1.elim
    | some k =>
      rw [hb] at h1
      exact ⟨k, asB_ok hb (Rp.rt rv), h1.ok hS1 (.bl _) rfl⟩⟩
def dIf (t : DT) (a b : DE) : DE := fun ρ S => (t ρ S).bind fun k S => if k then a ρ S else b ρ S
theorem je_if (hc : PT X c (tT G W ta)) (ha : PE X a (tE G W da)) (hb : PE X b (tE G W db)) : PE X (.IfExp c a b pos) (tE G W (dIf ta da db)) :=
  pe_imp (pe_ifExp hc ha hb) fun σ H Q ⟨m, ρ, S, hS, hE, h⟩ => ⟨m, ρ, S, hS, hE, (Aft.bind h).imp fun x S1 m1 H1 l1 hS1 h1 => by
    cases x with
    | true => exact ⟨m1, ρ, S1, hS1, hE.le l1, h1⟩
    | false => exact ⟨m1, ρ, S1, hS1, hE.le l1, h1⟩⟩
def dNeg (a : DE) : DE := fun ρ S => (a ρ S).bind fun x S => match x with
  | .int i => .ok (.int (-i)) S
  | _ => .bad
theorem je_neg (ha : PE X a (tE G W da)) : PE X (.UnaryOp .USub a pos) (tE G W (dNeg da)) :=
  pe_imp (pe_un un_neg ha) fun σ H Q ⟨m, ρ, S, hS, hE, h⟩ => ⟨m, ρ, S, hS, hE, (Aft.bind h).imp fun x S1 m1 H1 l1 hS1 h1 v rv => by
    cases x with
    | int i => exact ⟨i, rv, h1.ok hS1 (.int _) rfl⟩
    | _ => exact h1.elim⟩
end
end Py

/-! Part 5: subscripts, slices, displays, arguments. -/
namespace Py
open PySem PySem.Spec PyProof.Rows L2

/-- what a list, tuple or list of the store holds -/
def seqOf (S : Store) : D → Option (List D)
  | .tup ds => some ds
  | .lst ds => some ds
  | .ref n => match S[n]? with
    | some (.lst ds) => some ds
    | some (.frz ds) => some ds
    | _ => none
  | _ => none
def pIdx (S : Store) (d e : D) : Option D := match e with
  | .int i => (match d with
    | .str z => if z.length ≤ sizeLine then (atI z.cps.toList i).map fun c => D.str ⟨#[c]⟩ else none
    | d => (seqOf S d).bind fun ds => atI ds i)
  | _ => none
section
variable {G : Gc} {W : WX} {X : Cx} {e a b c : Expr} {m : Mu} {H : Hp} {S : Store} {σ : Sg} {pos : Pos}
theorem seq_ok {d : D} {ds : List D} {v : V} (hS : Holds G m H S) (h : seqOf S d = some ds) (r : Rt G m H d v) : ∃ p xs, v = .ref p ∧ (SqL G.K H p xs ∨ SqT G.K H p xs) ∧ RpL G m H ds xs := by
  cases d <;> simp only [seqOf] at h <;> first | cases h; done | skip
  · rename_i n
    obtain ⟨p, rfl, hp⟩ := r
    split at h
    · rename_i es he
      cases h
      obtain ⟨xs, q1, q2⟩ := hS.ob n _ p he hp
      exact ⟨p, xs, rfl, .inl (SqL.of q1), q2⟩
    · rename_i es he
      cases h
      obtain ⟨o, xs, q1, q2⟩ := hS.ob n _ p he hp
      exact ⟨p, xs, rfl, .inl (.inl (.inr ⟨o, q1⟩)), q2⟩
    · cases h
  · cases h
    obtain ⟨p, xs, rfl, q1, q2⟩ := r
    exact ⟨p, xs, rfl, .inr q1.sq, q2⟩
  · cases h
    obtain ⟨p, xs, rfl, q1, _, q2⟩ := r
    exact ⟨p, xs, rfl, .inl (SqL.of q1), q2⟩
theorem RpL.atI {ds : List D} {xs : List V} {i : Int} {d : D} (h : RpL G m H ds xs) (e : L2.atI ds i = some d) : ∃ v, L2.atI xs i = some v ∧ Rp G m H d v := by
  unfold L2.atI at e ⊢
  rw [h.length]
  cases q : ixN ds.length i with
  | none => rw [q] at e; cases e
  | some j =>
    rw [q] at e
    exact h.get e
theorem i_idx (hK : X.K = G.K) : IxR X (rO G pIdx) := by
  have base : IxR X (rIx X.K) := ix_seq
  intro value slice pins s σ H x y v u Q I rx ry ⟨m, S, d, e, r, hS, hx, hy, hf, k⟩ hs
  refine base value slice pins s σ H x y v u Q I rx ry ?_ hs
  cases e <;> simp only [pIdx] at hf <;> first | cases hf; done | skip
  rename_i i
  have hy : y = V.int i := hy
  have gen : ∀ ds, seqOf S d = some ds → L2.atI ds i = some r → rIx X.K x y H Q := fun ds h1 h2 => by
    obtain ⟨p, xs, rfl, q1, q2⟩ := seq_ok hS h1 hx
    obtain ⟨v, q3, q4⟩ := q2.atI h2
    rcases q1 with q1 | q1
    · exact .inl ⟨p, xs, i, v, rfl, hy, by rw [hK]; exact q1, q3, k.here hS q4⟩
    · exact .inr (.inl ⟨p, xs, i, v, rfl, hy, by rw [hK]; exact q1, q3, k.here hS q4⟩)
  cases d with
  | str z =>
    have hx : x = V.str z := hx
    have hf : (if z.length ≤ sizeLine then (L2.atI z.cps.toList i).map fun c => D.str ⟨#[c]⟩ else none) = some r := hf
    by_cases hz : z.length ≤ sizeLine
    · rw [if_pos hz] at hf
      cases q : L2.atI z.cps.toList i with
      | none => rw [q] at hf; cases hf
      | some c =>
        rw [q] at hf
        have := Option.some.inj hf
        subst this
        exact .inr (.inr ⟨z, i, c, hx, hy, hz, q, k.here hS (v := .str _) rfl⟩)
    · rw [if_neg hz] at hf; cases hf
  | _ =>
    simp only [Option.bind_eq_some_iff] at hf
    obtain ⟨ds, h1, h2⟩ := hf
    exact gen ds h1 h2
def sliceB : Expr → Bool
  | .Slice .. => true
  | _ => false
theorem plainIx_of (h : sliceB b = false) : PlainIx b := by
  intro o i
  cases b <;> first | rfl | cases h
theorem je_ix {f : Store → D → D → Option D} {da db : DE} (hr : IxR X (rO G f)) (ha : PE X a (tR G W da)) (hb : PE X b (tR G W db)) (hs : sliceB b = false) : PE X (.Subscript a b pos) (tE G W (dOp f da db)) :=
  pe_imp (pe_ix hr ha hb (plainIx_of hs)) fun _ _ _ h => tOp_of h

/-! ### slices -/
def cutD (ds : List D) (lo hi : Option Int) : List D := (ds.drop (HT.sIx ds.length 0 lo)).take (HT.sIx ds.length ds.length hi - HT.sIx ds.length 0 lo)
def pSl (S : Store) (d : D) (lo hi : Option Int) : Option D := match d with
  | .tup ds => some (.tup (cutD ds lo hi))
  | .str z => if z.length ≤ sizeLine then some (.str (cutS z lo hi)) else none
  | d => (seqOf S d).map fun ds => .lst (cutD ds lo hi)
def rSl (G : Gc) : V → Option Int → Option Int → Hp → VK → Prop := fun x lo hi H Q => ∃ m S d r, Holds G m H S ∧ Rt G m H d x ∧ pSl S d lo hi = some r ∧ rRes G m H S r Q
theorem RpL.cut {ds : List D} {xs : List V} (h : RpL G m H ds xs) (lo hi : Option Int) : RpL G m H (cutD ds lo hi) (cutV xs lo hi) := by
  unfold cutD cutV
  rw [h.length]
  exact (h.drop _).take _
theorem cutD_whole {ds : List D} {lo hi : Option Int} (h : HT.sIx ds.length 0 lo = 0 ∧ HT.sIx ds.length ds.length hi = ds.length) : cutD ds lo hi = ds := by
  unfold cutD
  rw [h.1, h.2]
  simp
theorem s_sl (hK : X.K = G.K) : SlR X (rSl G) := by
  have base := (SlR.or (sl_tupA (X := X)) (SlR.or sl_list sl_str))
  intro pins s σ H x v vl vu lo hi sl Q I rx hs pl pu ⟨m, S, d, r, hS, hx, hf, k⟩
  refine base pins s σ H x v vl vu lo hi sl Q I rx hs pl pu ?_
  have gen : ∀ ds, seqOf S d = some ds → (∀ es, d ≠ .tup es) → r = .lst (cutD ds lo hi) → rSlL X.K x lo hi H Q := fun ds h1 h2 h3 => by
    subst h3
    obtain ⟨p, xs, rfl, q1, q2⟩ := seq_ok hS h1 hx
    rcases q1 with q1 | q1
    · exact ⟨p, xs, rfl, by rw [hK]; exact q1, fun p hp => k.lst hS hp (q2.cut lo hi)⟩
    · -- only a tuple
      exfalso
      cases d <;> simp only [seqOf] at h1 <;> first | cases h1; done | exact h2 _ rfl | skip
      · rename_i n
        obtain ⟨p', e', hp⟩ := hx
        cases e'
        split at h1
        · rename_i es he
          obtain ⟨ys, z1, _⟩ := hS.ob n _ p he hp
          obtain ⟨_, _, pl, _⟩ := I.list (SqL.of z1)
          obtain ⟨_, _, pt, _⟩ := I.tuple (by rw [hK]; exact q1)
          obtain ⟨o, _, e1, c1, _⟩ := pl
          obtain ⟨o', e2, c2, _⟩ := pt
          rw [e1] at e2; cases e2
          rw [c1] at c2; exact absurd c2 (by decide)
        · rename_i es he
          obtain ⟨o, ys, z1, _⟩ := hS.ob n _ p he hp
          obtain ⟨_, _, pl, _⟩ := I.list (.inl (.inr ⟨o, z1⟩))
          obtain ⟨_, _, pt, _⟩ := I.tuple (by rw [hK]; exact q1)
          obtain ⟨o, _, e1, c1, _⟩ := pl
          obtain ⟨o', e2, c2, _⟩ := pt
          rw [e1] at e2; cases e2
          rw [c1] at c2; exact absurd c2 (by decide)
        · cases h1
      · obtain ⟨p', ys, e', z1, _, _⟩ := hx
        cases e'
        obtain ⟨_, _, pl, _⟩ := I.list (SqL.of z1)
        obtain ⟨_, _, pt, _⟩ := I.tuple (by rw [hK]; exact q1)
        obtain ⟨o, _, e1, c1, _⟩ := pl
        obtain ⟨o', e2, c2, _⟩ := pt
        rw [e1] at e2; cases e2
        rw [c1] at c2; exact absurd c2 (by decide)
  cases d with
  | tup ds =>
    have hf : some (D.tup (cutD ds lo hi)) = some r := hf
    obtain rfl := Option.some.inj hf
    obtain ⟨p, xs, rfl, q1, q2⟩ := hx
    refine .inl ⟨p, xs, rfl, by rw [hK]; exact q1.sq, fun hw => ?_, fun _ p hp => k.tup hS hp (q2.cut lo hi)⟩
    rw [q2.length] at hw
    rw [cutD_whole hw] at k
    exact k.here hS (show Rp G m H (.tup _) _ from ⟨p, xs, rfl, q1, q2⟩)
  | str z =>
    have hf : (if z.length ≤ sizeLine then some (D.str (cutS z lo hi)) else none) = some r := hf
    obtain ⟨hz, rfl⟩ := some_ifp hf
    exact .inr (.inr ⟨z, hx, hz, k.here hS (v := .str _) rfl⟩)
  | _ =>
    simp only [pSl, Option.map_eq_some_iff] at hf
    obtain ⟨ds, h1, h2⟩ := hf
    exact .inr (.inl (gen ds h1 (fun _ z => by cases z) h2.symm))
abbrev DO := Env → M (Option Int)
def tOo (G : Gc) (W : WX) (d : DO) : TO := fun σ H Q => Inp G σ H fun m ρ S => Aft G m H (fun c x H' => W c x σ H') (d ρ S) fun r _ m' H' => Q r H'
def dNo : DO := fun _ S => .ok none S
def dSo (d : DE) : DO := fun ρ S => (d ρ S).bind fun x S => match x with
  | .int i => .ok (some i) S
  | _ => .bad
theorem po_imp {t t' : TO} {o : Option Expr} (h : PO X o t) (k : ∀ σ H Q, t' σ H Q → t σ H Q) : PO X o t' := ⟨fun pins s σ H Q I q => h.run pins s σ H Q I (k σ H Q q)⟩
theorem jo_none : PO X none (tOo G W dNo) := po_imp po_none fun σ H Q ⟨m, ρ, S, hS, hE, h⟩ => h.ok hS
theorem jo_some {d : DE} (h : PE X e (tE G W d)) : PO X (some e) (tOo G W (dSo d)) := po_imp (po_some h) fun σ H Q ⟨m, ρ, S, hS, hE, h⟩ =>
  ⟨m, ρ, S, hS, hE, (Aft.bind h).imp fun x S1 m1 H1 l1 hS1 h1 v rv => by
    cases x with
    | int i => exact ⟨i, rv, h1.ok hS1⟩
    | _ => exact h1.elim⟩
def dSl (a : DE) (lo hi : DO) : DE := fun ρ S => (a ρ S).bind fun x S => (lo ρ S).bind fun l S => (hi ρ S).bind fun u S => optM (pSl S x l u) S
theorem je_sl {lo hi : Option Expr} {da : DE} {dl dh : DO} {p2 : Pos} (hK : X.K = G.K) (ha : PE X a (tR G W da)) (hl : PO X lo (tOo G W dl)) (hh : PO X hi (tOo G W dh)) : PE X (.Subscript a (.Slice lo hi none p2) pos) (tE G W (dSl da dl dh)) :=
  pe_imp (pe_slice (s_sl (G := G) hK) ha hl hh) fun σ H Q ⟨m, ρ, S, hS, hE, h⟩ =>
    ⟨m, ρ, S, hS, hE, (Aft.bind h).imp fun x S1 m1 H1 l1 hS1 h1 v rv => ⟨m1, ρ, S1, hS1, hE.le l1, (Aft.bind h1).imp fun l S2 m2 H2 l2 hS2 h2 => ⟨m2, ρ, S2, hS2, (hE.le l1).le l2, (Aft.bind h2).imp fun u S3 m3 H3 l3 hS3 h3 => by
      obtain ⟨d, e, k⟩ := aft_opt h3
      exact ⟨m3, S3, x, d, hS3, (l2.trans l3).rt rv, e, k⟩⟩⟩⟩

/-! ### arguments, items -/
def dNil : DA := fun _ S => .ok [] S
def dCons (a : DE) (r : DA) : DA := fun ρ S => (a ρ S).bind fun x S => (r ρ S).bind fun xs S => .ok (x :: xs) S
def dStar (a : DE) (r : DA) : DA := fun ρ S => (a ρ S).bind fun x S => match seqOf S x with
  | some ds => (match x with
    | .ref _ => .bad
    | _ => (r ρ S).bind fun xs S => .ok (ds ++ xs) S)
  | none => .bad
theorem ja_nil : PA X [] (tA G W dNil) := pa_imp pa_nil fun σ H Q ⟨m, ρ, S, hS, hE, h⟩ => h.ok hS [] rfl
theorem jb_nil : PA X [] (tB G W dNil) := pa_imp pa_nil fun σ H Q ⟨m, ρ, S, hS, hE, h⟩ => h.ok hS [] rfl
theorem ja_cons {es : List Expr} {da : DE} {dr : DA} (hs : starB e = false) (ha : PE X e (tE G W da)) (hr : PA X es (tA G W dr)) : PA X (e :: es) (tA G W (dCons da dr)) :=
  pa_imp (pa_cons ha hr (starEach_plain hs)) fun σ H Q ⟨m, ρ, S, hS, hE, h⟩ =>
    ⟨m, ρ, S, hS, hE, (Aft.bind h).imp fun x S1 m1 H1 l1 hS1 h1 v rv => ⟨m1, ρ, S1, hS1, hE.le l1, (Aft.bind h1).imp fun xs S2 m2 H2 l2 hS2 h2 vs rvs => h2.ok hS2 (v :: vs) ⟨v, vs, rfl, l2.rp rv, rvs⟩⟩⟩
theorem jb_cons {es : List Expr} {da : DE} {dr : DA} (hs : starB e = false) (ha : PE X e (tR G W da)) (hr : PA X es (tB G W dr)) : PA X (e :: es) (tB G W (dCons da dr)) :=
  pa_imp (pa_cons ha hr (starEach_plain hs)) fun σ H Q ⟨m, ρ, S, hS, hE, h⟩ =>
    ⟨m, ρ, S, hS, hE, (Aft.bind h).imp fun x S1 m1 H1 l1 hS1 h1 v rv => ⟨m1, ρ, S1, hS1, hE.le l1, (Aft.bind h1).imp fun xs S2 m2 H2 l2 hS2 h2 vs rvs => h2.ok hS2 (v :: vs) ⟨v, vs, rfl, l2.rt rv, rvs⟩⟩⟩
theorem ja_star {es : List Expr} {da : DE} {dr : DA} {p : Pos} (hK : X.K = G.K) (ha : PE X e (tR G W da)) (hr : PA X es (tA G W dr)) : PA X (.Starred e p :: es) (tA G W (dStar da dr)) :=
  pa_imp (StX.pa_star ha hr) fun σ H Q ⟨m, ρ, S, hS, hE, h⟩ =>
    ⟨m, ρ, S, hS, hE, (Aft.bind h).imp fun x S1 m1 H1 l1 hS1 h1 v rv => by
      cases hq : seqOf S1 x with
      | none => rw [hq] at h1; exact h1.elim
      | some ds =>
        rw [hq] at h1
        obtain ⟨q, xs, e, k1, k2⟩ := seq_ok hS1 hq rv
        have fin : Aft G m1 H1 (fun c x H' => W c x σ H') ((dr ρ S1).bind fun xs S => .ok (ds ++ xs) S) (fun r _ m' H' => ∀ vs, RpL G m' H' r vs → Q vs H') → _ := fun h1 =>
          (show ∃ p xs, v = V.ref p ∧ (SqT X.K H1 p xs ∨ SqL X.K H1 p xs) ∧ tA G W dr σ H1 fun ys H2 => Q (xs ++ ys) H2 from
            ⟨q, xs, e, by rw [hK]; exact k1.symm, m1, ρ, S1, hS1, hE.le l1, (Aft.bind h1).imp fun ys S2 m2 H2 l2 hS2 h2 vs rvs => h2.ok hS2 (xs ++ vs) ((l2.rpL k2).append rvs)⟩)
        cases x with
        | ref n => exact h1.elim
        | _ => exact fin h1⟩
/-- a tuple display -/
def dTup (r : DA) : DE := fun ρ S => (r ρ S).bind fun xs S => if xs.length ≤ sizeLine then .ok (.tup xs) S else .bad
theorem aft_if {α β : Type} {c : Prop} [Decidable c] {a : β} {Y : XK} {Φ : β → Store → Mu → Hp → Prop} (h : Aft G m H Y (if c then .ok a S else .bad) Φ) : c ∧ Aft G m H Y (.ok a S) Φ := by
  by_cases k : c
  · rw [if_pos k] at h; exact ⟨k, h⟩
  · rw [if_neg k] at h; exact h.elim
theorem je_tup {es : List Expr} {dr : DA} {x1} (h : PA X es (tA G W dr)) : PE X (.Tuple es x1 pos) (tE G W (dTup dr)) :=
  pe_imp (pe_tup h) fun σ H Q ⟨m, ρ, S, hS, hE, h⟩ => ⟨m, ρ, S, hS, hE, (Aft.bind h).imp fun xs S1 m1 H1 l1 hS1 h1 vs rvs => by
    obtain ⟨hc, h1⟩ := aft_if (α := D) h1
    refine ⟨by rw [rvs.length]; exact hc, fun p hp => h1 m1 _ (Le.same (Same.new hp)) (hS1.same (Same.new hp)) (.ref p) ⟨p, vs, rfl, Tq.of upd_same, (Le.same (Same.new hp)).rpL rvs⟩⟩⟩
/-! ### a list just made -/
def Mu.add (m : Mu) (p : Addr) : Mu := ⟨m.as, fun a => m.O a ∨ a = p⟩
def AftL (G : Gc) (m : Mu) (H : Hp) (Y : XK) (r : R (List D)) (Q : VK) : Prop := match r with
  | .ok ds S => ∀ m' H' p, Le G m H m' H' → H p = none → Holds G (m'.add p) H' S → Ol G (m'.add p) H' ds p → Q (.ref p) H'
  | .exc c S => ∀ m' H', Le G m H m' H' → Holds G m' H' S → ∀ ca, G.ad c = some ca → Y (.ref ca) none H'
  | .bad => False
def tL (G : Gc) (W : WX) (d : DA) : TE := fun σ H Q => Inp G σ H fun m ρ S => AftL G m H (fun c x H' => W c x σ H') (d ρ S) Q
theorem Mu.add_rp {p : Addr} {d : D} {v : V} (h : Rp G (m.add p) H d v) : Rp G m H d v := Rp.mono (m := m.add p) (m' := m) (H := H) (H' := H) (fun _ _ z => z) (fun _ _ z => z) (fun a o z n => ⟨z, fun q => n (Or.elim q Or.inl fun q => Or.inr (Or.inl q))⟩) d v h
theorem Mu.add_rpL {p : Addr} {d : List D} {v : List V} (h : RpL G (m.add p) H d v) : RpL G m H d v := RpL.mono (m := m.add p) (m' := m) (H := H) (H' := H) (fun _ _ z => z) (fun _ _ z => z) (fun a o z n => ⟨z, fun q => n (Or.elim q Or.inl fun q => Or.inr (Or.inl q))⟩) d v h
theorem Holds.drop {p : Addr} (h : Holds G (m.add p) H S) : Holds G m H S :=
  ⟨h.len, h.nd, fun n ob a e1 e2 => by
    exact (h.ob n ob a e1 e2).mono (fun _ e => e) fun d v r => Mu.add_rp r, fun a q => h.dis a (.inl q), fun a q => h.there a (.inl q)⟩
def dLst (r : DA) : DE := fun ρ S => (r ρ S).bind fun xs S => .ok (.lst xs) S
/-- a list that is not changed any more -/
theorem je_lst {d : DA} (h : PE X e (tL G W d)) : PE X e (tE G W (dLst d)) :=
  pe_imp h fun σ H Q ⟨m, ρ, S, hS, hE, h⟩ => ⟨m, ρ, S, hS, hE, by
    have h : Aft G m H _ ((d ρ S).bind fun xs S => R.ok (D.lst xs) S) _ := h
    cases hd : d ρ S with
    | bad =>
      rw [hd] at h
      exact h.elim
    | exc c S1 =>
      rw [hd] at h
      show AftL G m H _ (d ρ S) Q
      rw [hd]
      exact h
    | ok ds S1 =>
      rw [hd] at h
      show AftL G m H _ (d ρ S) Q
      rw [hd]
      intro m' H' p l hp hS' ⟨xs, e1, e2⟩
      refine h m' H' l hS'.drop (.ref p) ⟨p, xs, rfl, e1, ?_, Mu.add_rpL e2⟩
      rintro (q | q)
      · exact hS'.dis p (.inr rfl) q
      · rw [l.O] at q
        exact hS.there p q hp⟩
end
end Py

/-! Part 6: enumerate over a tuple. -/
namespace PySem
open Sem (wp)
theorem meets_enum_new1 {v : Value} {o : Obj} {H : Heap → Prop} (B : Begins v o H) :
    Meets (Builtin.«enumerate.__new__» ⟨[.type "enumerate", v], []⟩) (fun _ R s => H s.heap ∧
      R (.ok (.ret (.ref (s.heap.push o).objs.size))) { s with heap := (s.heap.push o).push { cls := .type "enumerate", data := .fields #[.none, .bool false, .ref s.heap.objs.size, rawInt 0, .none, .none] } }) :=
  .of_wp fun prog w A R s h => by
    obtain ⟨hp, g, d, tk, os⟩ := s; obtain ⟨h1, h⟩ := h
    have hsub := sub_enumerate
    have q1 : ∀ {A' : Around} {E : Value → Shared → Prop} {Q : Value → Shared → Prop}, Q (.ref hp.objs.size) ⟨hp.push o, g, d, tk, os⟩ → wpAny (model prog w) A' (pyIter v) Q E ⟨hp, g, d, tk, os⟩ :=
      fun q => B.iter prog w _ _ ⟨hp, g, d, tk, os⟩ _ h1 q
    wp_walk using q1
    refine wpAny_stack_any fun st => wpAny_pure ?_
    split
    · rename_i c _ _ _ _ _
      cases (c == Value.type "enumerate")
      · wp_walk using q1
        exact ⟨_, rfl, h⟩
      · wp_walk using q1
        exact ⟨_, rfl, h⟩
    · wp_walk using q1
      exact ⟨_, rfl, h⟩
section
variable {prog : Program} {w : World} {A : Around} {E : Value → Shared → Prop} {s : Shared}
theorem enum_begins1 {v : Value} {o : Obj} {H : Heap → Prop} {Q : Value → Shared → Prop} (B : Begins v o H) (h1 : H s.heap)
    (h : ∀ h', IsEnum h' (s.heap.objs.size + 1) s.heap.objs.size 0 .none → h'.get? s.heap.objs.size = some o → h'.objs.size = s.heap.objs.size + 2 →
      (∀ b o, s.heap.get? b = some o → h'.get? b = some o) → Q (.ref (s.heap.objs.size + 1)) { s with heap := h' }) :
    wpAny (model prog w) A (call (.type "enumerate") [v]) Q E s := by
  refine callType_new F.called_enumerate (by decide) (F.typeCall_enumerate_1 _) (F.newCall_enumerate_1 _) (fun obj => F.args_object_init_2 obj _) F.entry_enumerate_new
    (meets_enum_new1 B) ⟨h1, ?_⟩
  have hz : (s.heap.push o).objs.size = s.heap.objs.size + 1 := Heap.size_push ..
  show _ ∧ _
  rw [hz]
  have he : IsEnum ((s.heap.push o).push { cls := .type "enumerate", data := .fields #[.none, .bool false, .ref s.heap.objs.size, rawInt 0, .none, .none] }) (s.heap.objs.size + 1) s.heap.objs.size 0 .none := by
    have := Heap.get?_push_size (s.heap.push o) (o := { cls := .type "enumerate", data := .fields #[.none, .bool false, .ref s.heap.objs.size, rawInt 0, .none, .none] }) rfl
    rw [hz] at this; exact this
  refine ⟨⟨_, he, rfl⟩, h _ he (Heap.get?_push_of_some _ (Heap.get?_push_size _ B.free)) (by rw [Heap.size_push, hz]) fun b o x => Heap.get?_push_of_some _ (Heap.get?_push_of_some _ x)⟩
end
end PySem
namespace L2
open PySem PySem.Spec PyProof.Rows
/-- the tuple at a, each item in a new pair -/
def IteT (K : PySem.W.Frag) (a : Addr) : It :=
  ⟨fun i H => ∃ (xs : List V) (x : V), SqT K H a xs ∧ xs[i]? = some x, fun i H v H' => ∃ T x, v = .ref T ∧ H T = none ∧ H' = upd H T (.tup [.int (i : Nat), x]) ∧ ∀ xs, SqT K H a xs → xs[i]? = some x, fun i H => ∃ xs : List V, SqT K H a xs ∧ xs.length ≤ i⟩
theorem turn_enumT {P : Program} {w : World} {K : PySem.W.Frag} {elts : List Expr} {kk : Nat} {tpos : Pos} (a e it : Addr) (hat : a ≠ it) :
    Turn P w K (.Tuple elts kk tpos) (IteT K a) [e, it] e (fun i h => (∃ old, IsEnum h e it ((i : Nat) : Int) old) ∧ h.IsTupleIter it a i ∧ e ≠ it) where
  mem := by simp
  obj := fun i h st b hb => by
    obtain ⟨⟨old, he⟩, ⟨o, ho, hc, hd⟩, _⟩ := st
    have e' : b = e ∨ b = it := by simpa using hb
    rcases e' with z | z
    · rw [z]; exact ⟨_, he, fun v q => nomatch q⟩
    · rw [z]; exact ⟨o, ho, fun v q => by rw [hd] at q; cases q⟩
  keep := fun i h h' st k => let ⟨⟨old, he⟩, hi, hne⟩ := st; ⟨⟨old, k e (by simp) _ he⟩, hi.at fun o q => k it (by simp) o q, hne⟩
  item := by
    intro X hP hw hK hc i pins s σ H E I hf st hg
    subst hP hw hK
    obtain ⟨⟨old, he⟩, hit, hne⟩ := st
    obtain ⟨xs, x, hq, hx⟩ := hg
    obtain ⟨its, rv, p, hz⟩ := I.tuple hq
    obtain ⟨u, hu, ru⟩ := rv.get hx
    have pt : s.heap.IsTuple a its.toArray := p
    have hel : e < s.heap.objs.size := Heap.lt_size he
    have hil : it < s.heap.objs.size := by obtain ⟨_, q, _⟩ := hit; exact Heap.lt_size q
    have hae : a ≠ e := fun z => by
      obtain ⟨o, e1, c1, _⟩ := pt
      rw [z] at e1
      have e2 : s.heap.get? e = _ := he
      rw [e1] at e2
      cases e2
      have c2 : Value.type "enumerate" = Value.type "tuple" := c1
      injection c2 with c3
      exact absurd c3 (by decide)
    refine wpAny_pyNext_enum_itemD (n := its.toArray.size) (Draws.tuple (A := X.A.in1) (I.ok.hd hc) it a hat its.toArray) he ⟨hit, pt⟩ (i := i) ?_ hne ?_ fun y h' tk hP ho st' hT hsz hk => ?_
    · have := (List.getElem?_eq_some_iff.mp hu).1
      simpa using this
    · simp only [List.mem_cons, List.not_mem_nil, or_false, not_or]
      exact ⟨hne, fun z => hae z.symm⟩
    · have ey : y = u := by
        have hP : its.toArray[i]? = some y := hP
        rw [List.getElem?_toArray, hu] at hP
        exact (Option.some.inj hP).symm
      subst ey
      refine ⟨_, rfl, wpAny_letOwnedTupleGo_enum (s := { s with heap := h', toks := tk + 1 }) ho fun h'' he' sb => ?_⟩
      have hT2 : h''.get? s.heap.objs.size = some { cls := .type "tuple", data := .seq #[.int i tk, y] } := (sb.2 _ (Nat.ne_of_gt hel)).trans hT
      have new : ObjOk X.prog X.w (upd H s.heap.objs.size (.tup [.int (i : Nat), x])) h'' s.heap.objs.size (.tup [.int (i : Nat), x]) :=
        ⟨by show 2 ≤ sizeLine; decide, [.int i tk, y], .cons ⟨_, rfl⟩ (.cons ru .nil), ⟨_, hT2, rfl, _, rfl⟩⟩
      have I1 : Inv X pins σ (upd H s.heap.objs.size (.tup [.int (i : Nat), x])) { s with heap := h'', toks := tk + 1 } :=
        I.turnedNew (ch := [e, it]) (fun b ob hb q => (sb.2 b (fun z => hb (by simp [z]))).trans (hk b ob (fun z => hb (by simp [z])) (fun z => hb (by simp [z])) q)) hf (Nat.le_refl _) new
      refine ⟨.ref s.heap.objs.size, _, I1, rfl, ⟨_, x, rfl, I.hok.fresh (Nat.le_refl _), rfl, fun ys hy => by rw [I.tuple_inj hy hq]; exact hx⟩, ⟨⟨y, ?_⟩, st'.1.at fun o q => (sb.2 it (Ne.symm hne)).trans q, hne⟩, fun b hb => ?_⟩
      · have e1 : ((i + 1 : Nat) : Int) = (i : Int) + 1 := by omega
        rw [e1]; exact he'
      · have hb' : b < s.heap.objs.size := by
          have e' : b = e ∨ b = it := by simpa using hb
          rcases e' with z | z
          · rw [z]; exact hel
          · rw [z]; exact hil
        rw [upd_ne (Nat.ne_of_lt hb')]
        exact (hf b hb).1
  done := by
    intro X hP hw hK hc i pins s σ H E I hf st hg
    subst hP hw hK
    obtain ⟨⟨old, he⟩, hit, hne⟩ := st
    obtain ⟨xs, hq, hx⟩ := hg
    obtain ⟨its, rv, p, hz⟩ := I.tuple hq
    obtain ⟨f0, f1, f2, f3, f4, f5⟩ := hf it (by simp)
    have hl := rv.length
    -- the end is told at the number of items: past it the iterator has stood there, too
    have hT : s.TypeIs (.ref e) "enumerate" := ⟨_, he, rfl⟩
    unfold pyNext
    refine wpAny_bind (wpAny_attempt (wpAny_callSpecial?_slot (name := Str.ofString "__next__") hT F.slot_enumerate_next
      (wpAny_call_entry F.slot_enumerate_next hT F.entry_enumerate_next ?_ (F.args_enumerate_next_1 _))))
    show wpAny _ _ (field (.ref e) 2 >>= _) _ _ _
    refine wpAny_bind (wpAny_field he rfl (x := .ref it) rfl ?_)
    refine wpAny_bind (wpAny_nextOf_tuple_end (A := X.A.in1) (I.ok.hd hc) hit (show s.heap.IsTuple a its.toArray from p) (by simp; omega) fun h' x he' hx' => ?_)
    obtain ⟨o, ho, hc'⟩ := hx'
    refine wpAny_bind (wpAny_isInstance (T := "StopIteration") (b := true) ⟨o, ho, hc'⟩ isSubtype_stop ?_)
    exact wpAny_pure ⟨rfl, I.turned (t' := s.toks) (fun b o hb q => he' b o hb q) f0 f1 f3 f4 f5⟩
  self := fun A i s Q E st h => let ⟨⟨_, he⟩, _⟩ := st; wpAny_pyIter_enum he h
def iEnumT (K : PySem.W.Frag) (ta : TA) : TI := fun σ H R => ta σ H fun vs H1 => ∃ a xs, vs = [.ref a] ∧ ((SqL K H1 a xs ∧ R (Ite K a) H1) ∨ (SqT K H1 a xs ∧ R (IteT K a) H1))
theorem pi_enumT {X : Cx} {e : Expr} {ta : TA} {p pos tpos : Pos} {elts : List Expr} {kk : Nat} (hg : Gl X "enumerate") (hm : X.mg "enumerate" = none) (ha : PA X [e] ta) (hs : starEach [e] X.env = [(false, eval e X.env)] := by rfl) :
    PI X (.Tuple elts kk tpos) (.Call (.Name "enumerate" p) [e] [] pos) (iEnumT X.K ta) := by
  refine ⟨fun pins s σ H R I h => ?_⟩
  refine Call_ (ld_blt I hg hm boot_enumerate (PyProof.Rows.callWith_type1 (thn (ha.run pos pins s σ H _ I h) fun us s1 ⟨vs, H1, I1, r1, q1⟩ => ?_) hs rfl))
  obtain ⟨a, xs, ex, q1⟩ := q1
  subst ex
  cases r1 with
  | cons r rr =>
    cases rr
    cases r
    have fre : ∀ b ∈ [s1.heap.objs.size + 1, s1.heap.objs.size], FpOk X pins H1 b := fun b hb => by
      have e' : b = s1.heap.objs.size + 1 ∨ b = s1.heap.objs.size := by simpa using hb
      have hle : s1.heap.objs.size ≤ b := by
        rcases e' with z | z
        · rw [z]; exact Nat.le_add_right _ _
        · rw [z]; exact Nat.le_refl _
      exact I1.fpOk hle (I1.hok.fresh hle)
    rcases q1 with ⟨hq, q⟩ | ⟨hq, q⟩
    · obtain ⟨its, rv, p', hz⟩ := I1.list hq
      refine call_enumerate_list p'.isList fun h' he hit hsz hk => wpAny_pyIter_enum he ?_
      have I2 : Inv X pins σ H1 { s1 with heap := h' } := I1.kept (t' := s1.toks) hk
      exact ⟨s1.heap.objs.size + 1, [s1.heap.objs.size + 1, s1.heap.objs.size], _, _, H1, rfl, I2, turn_enum a (s1.heap.objs.size + 1) s1.heap.objs.size, ⟨⟨.none, he⟩, hit, Nat.succ_ne_self _⟩, fre, q⟩
    · obtain ⟨its, rv, p', hz⟩ := I1.tuple hq
      have pt : s1.heap.IsTuple a its.toArray := p'
      obtain ⟨o1, ho1, _⟩ := id pt
      refine enum_begins1 (begins_tuple a its.toArray) pt fun h' he hit hsz hk => wpAny_pyIter_enum he ?_
      have I2 : Inv X pins σ H1 { s1 with heap := h' } := I1.kept (t' := s1.toks) hk
      exact ⟨s1.heap.objs.size + 1, [s1.heap.objs.size + 1, s1.heap.objs.size], _, _, H1, rfl, I2, turn_enumT a (s1.heap.objs.size + 1) s1.heap.objs.size (Nat.ne_of_lt (Heap.lt_size ho1)), ⟨⟨.none, he⟩, ⟨_, hit, rfl, rfl⟩, Nat.succ_ne_self _⟩, fre, q⟩
theorem walk_enumT {K : PySem.W.Frag} {a : Addr} {xs : List V} : Walk (IteT K a) xs.length (fun H => SqT K H a xs) (YPair (fun i => some (.int (i : Nat))) (fun i => xs[i]?)) := by
  refine ⟨fun i _ hi q => ⟨xs, xs[i], q, by simp [hi]⟩, fun _ q => ⟨xs, q, Nat.le_refl _⟩, fun i H v H' _ q y => ?_⟩
  obtain ⟨T, x, h1, h2, h3, h4⟩ := y
  exact ⟨T, .int (i : Nat), x, h1, h2, h3, rfl, h4 xs q⟩
theorem walk_zipT {K : PySem.W.Frag} {a b : Addr} {xs ys : List V} {n : Nat} (hn : n = min xs.length ys.length) : Walk (RZ.ItzT K a b) n (fun H => SqT K H a xs ∧ SqT K H b ys) (YPair (fun i => xs[i]?) (fun i => ys[i]?)) := by
  subst hn
  refine ⟨fun i _ hi q => ?_, fun _ q => ⟨xs, ys, q.1, q.2, by omega⟩, fun i H v H' _ q y => ?_⟩
  · have h1 : i < xs.length := by omega
    have h2 : i < ys.length := by omega
    exact ⟨xs, ys, xs[i], ys[i], q.1, q.2, by simp [h1], by simp [h2]⟩
  · obtain ⟨T, x, z, h1, h2, h3, h4, h5⟩ := y
    exact ⟨T, x, z, h1, h2, h3, h4 xs q.1, h5 ys q.2⟩
end L2

/-! Part 7: what is walked; targets; comprehensions. -/
namespace Py
open PySem PySem.Spec PyProof.Rows L2

/-- the weak step: what others hold stays; of what one holds (m.O) only what kp names -/
structure Lx (G : Gc) (kp : Addr → Prop) (m : Mu) (H : Hp) (m' : Mu) (H' : Hp) : Prop where
  as : ∃ e, m'.as = m.as ++ e ∧ ∀ a ∈ e, H a = none
  O1 : ∀ a, m'.O a → m.O a ∨ H a = none
  O2 : ∀ a, m.O a → kp a → m'.O a
  kept : ∀ a o, H a = some o → a ∉ m.as → (m.O a → kp a) → H' a = some o
  tups : ∀ a xs, Tq G H a xs → Tq G H' a xs
  there : ∀ a, H a ≠ none → H' a ≠ none
abbrev kAll : Addr → Prop := fun _ => True
section
variable {G : Gc} {kp : Addr → Prop} {m m' m'' : Mu} {H H' H'' : Hp} {S S' : Store}
theorem Le.lx (l : Le G m H m' H') : Lx G kp m H m' H' := ⟨l.as, fun a h => .inl (by rw [l.O] at h; exact h), fun a h _ => by rw [l.O]; exact h, fun a o h n _ => l.kept a o h n, l.tups, l.there⟩
theorem Lx.refl : Lx G kp m H m H := Le.refl.lx
theorem Lx.nas (l : Lx G kp m H m' H') {a : Addr} {o : HO} (h : H a = some o) (n : a ∉ m.as) : a ∉ m'.as := by
  obtain ⟨e, e1, e2⟩ := l.as
  intro q
  rw [e1, List.mem_append] at q
  rcases q with q | q
  · exact n q
  · rw [e2 a q] at h; cases h
theorem Lx.trans (l : Lx G kp m H m' H') (k : Lx G kp m' H' m'' H'') : Lx G kp m H m'' H'' := by
  have ob : ∀ a, H a = none ∨ ∃ o, H a = some o := fun a => by
    cases h : H a with
    | none => exact .inl rfl
    | some o => exact .inr ⟨o, rfl⟩
  have back : ∀ a, H' a = none → H a = none := fun a h => by
    rcases ob a with q | ⟨o, q⟩
    · exact q
    · exact absurd h (l.there a (by rw [q]; simp))
  obtain ⟨e, e1, e2⟩ := l.as
  obtain ⟨f, f1, f2⟩ := k.as
  refine ⟨⟨e ++ f, by rw [f1, e1, List.append_assoc], fun a ha => ?_⟩, fun a h => ?_, fun a h q => k.O2 a (l.O2 a h q) q, fun a o h n q => ?_, fun a xs h => k.tups a xs (l.tups a xs h), fun a h => k.there a (l.there a h)⟩
  · rcases List.mem_append.mp ha with q | q
    · exact e2 a q
    · exact back a (f2 a q)
  · rcases k.O1 a h with q | q
    · exact l.O1 a q
    · exact .inr (back a q)
  · refine k.kept a o (l.kept a o h n q) (l.nas h n) fun z => ?_
    rcases l.O1 a z with z | z
    · exact q z
    · rw [z] at h; cases h
theorem Lx.ix (l : Lx G kp m H m' H') {n : Nat} {a : Addr} (h : m.as[n]? = some a) : m'.as[n]? = some a := by
  obtain ⟨e, e1, _⟩ := l.as
  rw [e1, List.getElem?_append_left (List.getElem?_eq_some_iff.mp h).1]
  exact h
theorem Lx.lsts (l : Lx G kp m H m' H') (a : Addr) (o : HO) (h : H a = some o) (n : ¬ m.has a) : H' a = some o ∧ ¬ m'.has a :=
  ⟨l.kept a _ h (fun z => n (.inl z)) fun z => absurd (.inr z) n, by
    rintro (q | q)
    · exact l.nas h (fun z => n (.inl z)) q
    · rcases l.O1 a q with z | z
      · exact n (.inr z)
      · rw [z] at h; cases h⟩
theorem Lx.rp (l : Lx G kp m H m' H') {d : D} {v : V} (h : Rp G m H d v) : Rp G m' H' d v := Rp.mono (fun _ _ => l.ix) l.tups l.lsts d v h
theorem Lx.rpL (l : Lx G kp m H m' H') {d : List D} {v : List V} (h : RpL G m H d v) : RpL G m' H' d v := RpL.mono (fun _ _ => l.ix) l.tups l.lsts d v h
theorem Lx.rps (l : Lx G kAll m H m' H') {s : Sl} {v : V} (h : RpS G m H s v) : RpS G m' H' s v := by
  cases s with
  | val d => exact l.rp h
  | own ds =>
    obtain ⟨a, e, h1, h2, xs, ex, q⟩ := h
    exact ⟨a, e, l.O2 a h1 trivial, l.nas ex h2, xs, l.kept a _ ex h2 fun _ => trivial, l.rpL q⟩
theorem RpE.lx {ρ : Env} {σ : Sg} (E : RpE G m H ρ σ) (l : Lx G kAll m H m' H') : RpE G m' H' ρ σ :=
  ⟨fun i s h => let ⟨v, e, q⟩ := E.at_ i s h; ⟨v, e, l.rps q⟩, E.inj, E.len⟩
/-- a new list at p -/
theorem Lx.add {p : Addr} (l : Le G m H m' H') (hp : H p = none) : Lx G kp m H (m'.add p) H' :=
  ⟨l.as, fun a h => by
    rcases h with h | h
    · exact .inl (by rw [l.O] at h; exact h)
    · subst h; exact .inr hp, fun a h _ => .inl (by rw [l.O]; exact h), fun a o h n _ => l.kept a o h n, l.tups, l.there⟩
end

/-! ### what is walked -/
/-- J gives the items ds, however things go on by Lx -/
def Serv (G : Gc) (kp : Addr → Prop) (m : Mu) (H : Hp) (ds : List D) (J : It) : Prop := ∃ (Gd : Hp → Prop) (Y : Nat → Hp → V → Hp → Prop), Walk J ds.length Gd Y ∧
  (∀ m' H', Lx G kp m H m' H' → Gd H') ∧ ∀ m' H' i x H'', Lx G kp m H m' H' → i < ds.length → Y i H' x H'' → Same H' H'' ∧ ∃ d, ds[i]? = some d ∧ ∀ m2, Lx G kp m H m2 H' → Rp G m2 H'' d x
abbrev DI := Env → M (List D)
def tI (G : Gc) (W : WX) (d : DI) : TI := fun σ H R => ∃ kp, Inp G σ H fun m ρ S => Aft G m H (fun c x H' => W c x σ H') (d ρ S) fun ds S' m' H' => ∀ J, Serv G kp m' H' ds J → R J H'
/-- within an expression: also a list of one's own -/
def tIw (G : Gc) (W : WX) (d : DI) : TI := fun σ H R => Inp G σ H fun m ρ S => Aft G m H (fun c x H' => W c x σ H') (d ρ S) fun ds S' m' H' => ∀ J, Serv G kAll m' H' ds J → R J H'
section
variable {G : Gc} {W : WX} {X : Cx} {e a b c tg : Expr} {m m' : Mu} {H H' : Hp} {S : Store} {σ : Sg} {pos p : Pos} {kp : Addr → Prop}
theorem pi_imp {t t' : TI} (h : PI X tg e t) (k : ∀ σ H R, t' σ H R → t σ H R) : PI X tg e t' := ⟨fun pins s σ H R I q => h.run pins s σ H R I (k σ H R q)⟩
theorem jiw_of {d : DI} (h : PI X tg e (tI G W d)) : PI X tg e (tIw G W d) := pi_imp h fun _ _ _ q => ⟨_, q⟩

theorem serv_list {p : Addr} {xs : List V} {ds : List D} (h : H p = some (.lst xs)) (n : p ∉ m.as) (k : m.O p → kp p) (r : RpL G m H ds xs) : Serv G kp m H ds (Itl G.K p) := by
  refine ⟨fun H => SqL G.K H p xs, YAt xs, r.length ▸ walk_list, fun m' H' l => SqL.of (l.kept p _ h n k), fun m' H' i x H'' l hi y => ?_⟩
  obtain ⟨e, y⟩ := y
  subst e
  refine ⟨fun _ _ z => z, ?_⟩
  obtain ⟨d, e, q⟩ := r.getV y
  exact ⟨d, e, fun m2 l2 => l2.rp q⟩
theorem serv_tup {p : Addr} {xs : List V} {ds : List D} (h : Tq G H p xs) (r : RpL G m H ds xs) : Serv G kp m H ds (Itt G.K p) := by
  refine ⟨fun H => SqT G.K H p xs, YAt xs, r.length ▸ walk_tup, fun m' H' l => (l.tups p xs h).sq, fun m' H' i x H'' l hi y => ?_⟩
  obtain ⟨e, y⟩ := y
  subst e
  refine ⟨fun _ _ z => z, ?_⟩
  obtain ⟨d, e, q⟩ := r.getV y
  exact ⟨d, e, fun m2 l2 => l2.rp q⟩
/-- a list that is written in the text -/
theorem serv_range {lo : Int} {n : Nat} : Serv G kp m H ((List.range n).map fun (i : Nat) => D.int (lo + i)) (Itr lo n) := by
  refine ⟨fun _ => True, YFn fun i => .int (lo + i), ?_, fun _ _ _ => trivial, fun m' H' i x H'' l hi y => ?_⟩
  · have e : ((List.range n).map fun (i : Nat) => D.int (lo + i)).length = n := by simp
    rw [e]
    exact walk_range
  · obtain ⟨e, y⟩ := y
    subst e
    have hi : i < n := by simpa using hi
    refine ⟨fun _ _ z => z, .int (lo + i), by simp [hi], fun _ _ => y⟩
theorem serv_pair {J : It} {n : Nat} {Gd : Hp → Prop} {xs ys : Nat → Option V} {ds : List D} (hn : ds.length = n) (w : Walk J n Gd (YPair xs ys)) (hg : ∀ m' H', Lx G kp m H m' H' → Gd H')
    (hd : ∀ i x y, i < n → xs i = some x → ys i = some y → ∃ d e, ds[i]? = some (.tup [d, e]) ∧ Rp G m H d x ∧ Rp G m H e y) : Serv G kp m H ds J := by
  subst hn
  refine ⟨Gd, _, w, hg, fun m' H' i v H'' l hi y => ?_⟩
  obtain ⟨T, x, y, rfl, hT, rfl, h1, h2⟩ := y
  obtain ⟨d, e, q1, q2, q3⟩ := hd i x y hi h1 h2
  have sm : Same H' (upd H' T (.tup [x, y])) := Same.new hT
  refine ⟨sm, _, q1, fun m2 l2 => ⟨T, [x, y], rfl, Tq.of upd_same, x, [y], rfl, (Le.same sm).rp (l2.rp q2), y, [], rfl, (Le.same sm).rp (l2.rp q3), rfl⟩⟩
theorem serv_str {z : Str} : Serv G kp m H (z.cps.toList.map fun c => D.str ⟨#[c]⟩) (Its z) := by
  have e : (z.cps.toList.map fun c => D.str ⟨#[c]⟩).length = z.cps.size := by simp
  refine ⟨fun _ => True, _, e ▸ walk_str, fun _ _ _ => trivial, fun m' H' i x H'' l hi y => ?_⟩
  obtain ⟨e, c, h1, h2⟩ := y
  subst e h2
  refine ⟨fun _ _ z => z, .str ⟨#[c]⟩, ?_, fun _ _ => rfl⟩
  have h3 : z.cps.toList[i]? = some c := by simpa using h1
  rw [List.getElem?_map, h3]; rfl

/-! a value that is walked -/
def iSeq (K : PySem.W.Frag) (tl : TE) : TI := fun σ H R => tl σ H fun x H1 => (∃ a, x = .ref a ∧ (∃ xs, SqL K H1 a xs) ∧ R (Itl K a) H1) ∨ (∃ a, x = .ref a ∧ (∃ xs, SqT K H1 a xs) ∧ R (Itt K a) H1) ∨ ∃ z, x = .str z ∧ R (Its z) H1
theorem pi_val {l : Expr} {tl : TE} (hl : PE X l tl) : PI X tg l (iSeq X.K tl) := by
  refine ⟨fun pins s σ H R I h => ?_⟩
  refine thn (hl.run pins s σ H _ I h) fun v s1 ⟨x, H1, I1, r1, q1⟩ => ?_
  rcases q1 with ⟨a, e, ⟨xs, hq⟩, q⟩ | ⟨a, e, ⟨xs, hq⟩, q⟩ | ⟨z, e, q⟩
  · subst e
    cases r1
    obtain ⟨its, rv, p, hz⟩ := I1.list hq
    refine wpAny_pyIter_list p.isList ?_
    refine ⟨s1.heap.objs.size, [s1.heap.objs.size], _, _, H1, rfl, I1.kept (t' := s1.toks) fun b o e => Heap.get?_push_of_some _ e, turn_list a _, ⟨_, Heap.get?_push_size _ rfl, rfl, rfl⟩, fun b hb => ?_, q⟩
    have e : b = s1.heap.objs.size := by simpa using hb
    subst e
    exact I1.fpOk (Nat.le_refl _) (I1.hok.fresh (Nat.le_refl _))
  · subst e
    cases r1
    obtain ⟨its, rv, p, hz⟩ := I1.tuple hq
    refine wpAny_pyIter_tuple (show s1.heap.IsTuple a its.toArray from p) ?_
    refine ⟨s1.heap.objs.size, [s1.heap.objs.size], _, _, H1, rfl, I1.kept (t' := s1.toks) fun b o e => Heap.get?_push_of_some _ e, turn_tuple a _, ⟨_, Heap.get?_push_size _ rfl, rfl, rfl⟩, fun b hb => ?_, q⟩
    have e : b = s1.heap.objs.size := by simpa using hb
    subst e
    exact I1.fpOk (Nat.le_refl _) (I1.hok.fresh (Nat.le_refl _))
  · subst e
    obtain ⟨t, rfl⟩ := r1
    cases ha : z.cps.all (· < 128)
    · exact wpAny_pyIter_wide ha (pi_one (tk := s1.toks) I1 _ (turn_str _ z t "str_iterator" (.inr rfl)) ⟨_, Heap.get?_push_size _ rfl, rfl, rfl⟩ q)
    · exact wpAny_pyIter_ascii ha (pi_one (tk := s1.toks) I1 _ (turn_str _ z t "str_ascii_iterator" (.inl rfl)) ⟨_, Heap.get?_push_size _ rfl, rfl, rfl⟩ q)
def itms : D → Option (List D)
  | .tup ds => some ds
  | .lst ds => some ds
  | .str z => some (z.cps.toList.map fun c => D.str ⟨#[c]⟩)
  | _ => none
theorem serv_val {d : D} {ds : List D} {v : V} {R : It → Hp → Prop} (h : itms d = some ds) (r : Rp G m H d v) (k : ∀ J, Serv G kp m H ds J → R J H) :
    (∃ a, v = .ref a ∧ (∃ xs, SqL G.K H a xs) ∧ R (Itl G.K a) H) ∨ (∃ a, v = .ref a ∧ (∃ xs, SqT G.K H a xs) ∧ R (Itt G.K a) H) ∨ ∃ z, v = .str z ∧ R (Its z) H := by
  cases d <;> simp only [itms] at h <;> first | cases h; done | skip
  · cases h
    exact .inr (.inr ⟨_, r, k _ serv_str⟩)
  · cases h
    obtain ⟨a, xs, e, h1, h2⟩ := r
    exact .inr (.inl ⟨a, e, ⟨xs, h1.sq⟩, k _ (serv_tup h1 h2)⟩)
  · cases h
    obtain ⟨a, xs, e, h1, h2, h3⟩ := r
    exact .inl ⟨a, e, ⟨xs, SqL.of h1⟩, k _ (serv_list h1 (fun z => h2 (.inl z)) (fun z => absurd (.inr z) h2) h3)⟩
theorem serv_valW {d : D} {ds : List D} {v : V} {R : It → Hp → Prop} (h : itms d = some ds) (r : Rt G m H d v) (k : ∀ J, Serv G kAll m H ds J → R J H) :
    (∃ a, v = .ref a ∧ (∃ xs, SqL G.K H a xs) ∧ R (Itl G.K a) H) ∨ (∃ a, v = .ref a ∧ (∃ xs, SqT G.K H a xs) ∧ R (Itt G.K a) H) ∨ ∃ z, v = .str z ∧ R (Its z) H := by
  cases d <;> simp only [itms] at h <;> first | cases h; done | skip
  · cases h
    exact .inr (.inr ⟨_, r, k _ serv_str⟩)
  · cases h
    obtain ⟨a, xs, e, h1, h2⟩ := r
    exact .inr (.inl ⟨a, e, ⟨xs, h1.sq⟩, k _ (serv_tup h1 h2)⟩)
  · cases h
    obtain ⟨a, xs, e, h1, h2, h3⟩ := r
    exact .inl ⟨a, e, ⟨xs, SqL.of h1⟩, k _ (serv_list h1 h2 (fun _ => trivial) h3)⟩
def dItems (d : DE) : DI := fun ρ S => (d ρ S).bind fun x S => optM (itms x) S
theorem ji_val {d : DE} (hK : X.K = G.K) (h : PE X e (tE G W d)) : PI X tg e (tI G W (dItems d)) :=
  pi_imp (pi_val h) fun σ H R ⟨kp, m, ρ, S, hS, hE, h⟩ => ⟨m, ρ, S, hS, hE, (Aft.bind h).imp fun x S1 m1 H1 l1 hS1 h1 v rv => by
    obtain ⟨ds, e, k⟩ := aft_optG h1 hS1
    rw [hK]
    exact serv_val e rv k⟩
theorem ji_valW {d : DE} (hK : X.K = G.K) (h : PE X e (tR G W d)) : PI X tg e (tIw G W (dItems d)) :=
  pi_imp (pi_val h) fun σ H R ⟨m, ρ, S, hS, hE, h⟩ => ⟨m, ρ, S, hS, hE, (Aft.bind h).imp fun x S1 m1 H1 l1 hS1 h1 v rv => by
    obtain ⟨ds, e, k⟩ := aft_optG h1 hS1
    rw [hK]
    exact serv_valW e rv k⟩
/-! range -/
def rgD (lo : Int) (n : Nat) : List D := (List.range n).map fun (i : Nat) => D.int (lo + i)
def rg1 : List D → Option (List D)
  | [.int j] => if j.natAbs < 2 ^ 62 then some (rgD 0 j.toNat) else none
  | _ => none
def rg2 : List D → Option (List D)
  | [.int i, .int j] => if i.natAbs < 2 ^ 62 ∧ j.natAbs < 2 ^ 62 then some (rgD i (j - i).toNat) else none
  | _ => none
def dRg (f : List D → Option (List D)) (r : DA) : DI := fun ρ S => (r ρ S).bind fun xs S => optM (f xs) S
theorem ji_rg1 {r : DA} (hg : Gl X "range") (hm : X.mg "range" = none) (ha : PA X [a] (tA G W r)) (hs : starB a = false) : PI X tg (.Call (.Name "range" p) [a] [] pos) (tI G W (dRg rg1 r)) :=
  pi_imp (pi_range1 hg hm ha (starEach_plain hs)) fun σ H R ⟨kp, m, ρ, S, hS, hE, h⟩ => ⟨m, ρ, S, hS, hE, (Aft.bind h).imp fun x S1 m1 H1 l1 hS1 h1 vs rvs => by
    obtain ⟨ds, e, k⟩ := aft_optG h1 hS1
    unfold rg1 at e
    split at e
    · obtain ⟨b1, e⟩ := some_ifp e
      obtain ⟨v, r, rfl, q, r0⟩ := rvs
      obtain rfl : v = .int _ := q
      obtain rfl : r = [] := r0
      exact ⟨_, rfl, by omega, by omega, k _ (e ▸ serv_range)⟩
    · cases e⟩
theorem ji_rg2 {r : DA} (hg : Gl X "range") (hm : X.mg "range" = none) (ha : PA X [a, b] (tA G W r)) (hs : starB a = false) (hs2 : starB b = false) : PI X tg (.Call (.Name "range" p) [a, b] [] pos) (tI G W (dRg rg2 r)) :=
  pi_imp (pi_range2 hg hm ha ((starEach_plain hs).trans (congrArg _ (starEach_plain hs2))) (starEach_plain hs2)) fun σ H R ⟨kp, m, ρ, S, hS, hE, h⟩ => ⟨m, ρ, S, hS, hE, (Aft.bind h).imp fun x S1 m1 H1 l1 hS1 h1 vs rvs => by
    obtain ⟨ds, e, k⟩ := aft_optG h1 hS1
    unfold rg2 at e
    split at e
    · obtain ⟨b, e⟩ := some_ifp e
      obtain ⟨v, r, rfl, q, v2, r2, rfl, q2, r0⟩ := rvs
      obtain rfl : v = .int _ := q
      obtain rfl : v2 = .int _ := q2
      obtain rfl : r2 = [] := r0
      exact ⟨_, _, rfl, ⟨by omega, by omega, by omega, by omega⟩, k _ (e ▸ serv_range)⟩
    · cases e⟩
/-! enumerate, zip -/
def enumD (ds : List D) : List D := ds.mapIdx fun i d => .tup [.int (i : Nat), d]
def en1 : List D → Option (List D)
  | [.tup ds] => some (enumD ds)
  | [.lst ds] => some (enumD ds)
  | _ => none
def zp2 : List D → Option (List D)
  | [.tup ds, .tup es] => some ((ds.zip es).map fun x => .tup [x.1, x.2])
  | [.lst ds, .lst es] => some ((ds.zip es).map fun x => .tup [x.1, x.2])
  | _ => none
theorem enum_at {ds : List D} {xs : List V} (r : RpL G m H ds xs) (i : Nat) (x y : V) (hi : i < xs.length) (h1 : some (V.int (i : Nat)) = some x) (h2 : xs[i]? = some y) :
    ∃ d e, (enumD ds)[i]? = some (.tup [d, e]) ∧ Rp G m H d x ∧ Rp G m H e y := by
  obtain ⟨d, e, q⟩ := r.getV h2
  refine ⟨.int (i : Nat), d, by unfold enumD; rw [List.getElem?_mapIdx, e]; rfl, (Option.some.inj h1).symm, q⟩
theorem zip_at {ds es : List D} {xs ys : List V} (r : RpL G m H ds xs) (r2 : RpL G m H es ys) (i : Nat) (x y : V) (h1 : xs[i]? = some x) (h2 : ys[i]? = some y) :
    ∃ d e, ((ds.zip es).map fun x => D.tup [x.1, x.2])[i]? = some (.tup [d, e]) ∧ Rp G m H d x ∧ Rp G m H e y := by
  obtain ⟨d, e, q⟩ := r.getV h1
  obtain ⟨d', e', q'⟩ := r2.getV h2
  refine ⟨d, d', ?_, q, q'⟩
  have hz : (ds.zip es)[i]? = some (d, d') := by rw [List.getElem?_zip_eq_some]; exact ⟨e, e'⟩
  rw [List.getElem?_map, hz]; rfl
theorem serv_enum {d : List D} {ds : List D} {vs : List V} {R : It → Hp → Prop} (h : en1 d = some ds) (r : RpL G m H d vs) (k : ∀ J, Serv G kp m H ds J → R J H) :
    ∃ a xs, vs = [.ref a] ∧ ((SqL G.K H a xs ∧ R (Ite G.K a) H) ∨ (SqT G.K H a xs ∧ R (IteT G.K a) H)) := by
  unfold en1 at h
  split at h
  · cases h
    obtain ⟨v, t, rfl, ⟨a, xs, rfl, q1, q2⟩, rfl⟩ := r
    exact ⟨a, xs, rfl, .inr ⟨q1.sq, k _ (serv_pair (n := xs.length) (by simp [enumD, q2.length]) walk_enumT (fun m' H' l => (l.tups a xs q1).sq) fun i x y hi e1 e2 => enum_at q2 i x y hi e1 e2)⟩⟩
  · cases h
    obtain ⟨v, t, rfl, ⟨a, xs, rfl, q1, q3, q2⟩, rfl⟩ := r
    exact ⟨a, xs, rfl, .inl ⟨SqL.of q1, k _ (serv_pair (n := xs.length) (by simp [enumD, q2.length]) walk_enum (fun m' H' l => SqL.of (l.lsts a _ q1 q3).1) fun i x y hi e1 e2 => enum_at q2 i x y hi e1 e2)⟩⟩
  · cases h
theorem serv_zip {d : List D} {ds : List D} {vs : List V} {R : It → Hp → Prop} (h : zp2 d = some ds) (r : RpL G m H d vs) (k : ∀ J, Serv G kp m H ds J → R J H) :
    ∃ a b xs ys, vs = [.ref a, .ref b] ∧ ((SqL G.K H a xs ∧ SqL G.K H b ys ∧ R (Itz G.K a b) H) ∨ (SqT G.K H a xs ∧ SqT G.K H b ys ∧ R (RZ.ItzT G.K a b) H)) := by
  unfold zp2 at h
  split at h
  · cases h
    obtain ⟨v, t, rfl, ⟨a, xs, rfl, q1, q2⟩, v', t', rfl, ⟨b, ys, rfl, p1, p2⟩, rfl⟩ := r
    refine ⟨a, b, xs, ys, rfl, .inr ⟨q1.sq, p1.sq, k _ (serv_pair (n := min xs.length ys.length) (by simp [q2.length, p2.length]) (walk_zipT rfl) (fun m' H' l => ⟨(l.tups a xs q1).sq, (l.tups b ys p1).sq⟩) fun i x y hi e1 e2 => zip_at q2 p2 i x y e1 e2)⟩⟩
  · cases h
    obtain ⟨v, t, rfl, ⟨a, xs, rfl, q1, q3, q2⟩, v', t', rfl, ⟨b, ys, rfl, p1, p3, p2⟩, rfl⟩ := r
    refine ⟨a, b, xs, ys, rfl, .inl ⟨SqL.of q1, SqL.of p1, k _ (serv_pair (n := min xs.length ys.length) (by simp [q2.length, p2.length]) (walk_zip rfl) (fun m' H' l => ⟨SqL.of (l.lsts a _ q1 q3).1, SqL.of (l.lsts b _ p1 p3).1⟩) fun i x y hi e1 e2 => zip_at q2 p2 i x y e1 e2)⟩⟩
  · cases h
theorem ji_enum {r : DA} {elts : List Expr} {kk : Nat} {tpos : Pos} (hK : X.K = G.K) (hg : Gl X "enumerate") (hm : X.mg "enumerate" = none) (ha : PA X [a] (tA G W r)) (hs : starB a = false) : PI X (.Tuple elts kk tpos) (.Call (.Name "enumerate" p) [a] [] pos) (tI G W (dRg en1 r)) :=
  pi_imp (pi_enumT hg hm ha (starEach_plain hs)) fun σ H R ⟨kp, m, ρ, S, hS, hE, h⟩ => ⟨m, ρ, S, hS, hE, (Aft.bind h).imp fun x S1 m1 H1 l1 hS1 h1 vs rvs => by
    obtain ⟨ds, e, k⟩ := aft_optG h1 hS1
    rw [hK]
    exact serv_enum e rvs k⟩
theorem ji_zip {r : DA} {elts : List Expr} {kk : Nat} {tpos : Pos} (hK : X.K = G.K) (hg : Gl X "zip") (hm : X.mg "zip" = none) (ha : PA X [a, b] (tA G W r)) (hs : starB a = false) (hs2 : starB b = false) : PI X (.Tuple elts kk tpos) (.Call (.Name "zip" p) [a, b] [] pos) (tI G W (dRg zp2 r)) :=
  pi_imp (RZ.pi_zipA hg hm ha (starEach_plain hs) (backTo_plain (by simp [hs2]))) fun σ H R ⟨kp, m, ρ, S, hS, hE, h⟩ => ⟨m, ρ, S, hS, hE, (Aft.bind h).imp fun x S1 m1 H1 l1 hS1 h1 vs rvs => by
    obtain ⟨ds, e, k⟩ := aft_optG h1 hS1
    rw [hK]
    exact serv_zip e rvs k⟩
end
end Py

/-! Part 8: targets; comprehensions. -/
namespace Py
open PySem PySem.Spec PyProof.Rows L2

section
variable {G : Gc} {m m' : Mu} {H H' : Hp} {ρ : Env} {σ : Sg}
theorem set_get {α : Type} {l : List (Option α)} {i j : Nat} {x y : α} (h : (l.set i (some x))[j]? = some (some y)) : (j = i ∧ i < l.length ∧ y = x) ∨ (j ≠ i ∧ l[j]? = some (some y)) := by
  rw [List.getElem?_set] at h
  split at h
  · rename_i e
    subst e
    split at h
    · cases h; exact .inl ⟨rfl, by assumption, rfl⟩
    · cases h
  · rename_i e
    exact .inr ⟨fun z => e z.symm, h⟩
theorem RpE.set {d : D} {v : V} (E : RpE G m H ρ σ) (r : Rp G m H d v) (i : Nat) : RpE G m H (ρ.set i (some (.val d))) (σ.set i (some v)) := by
  refine ⟨fun j s h => ?_, fun j k ds es a h1 h2 h3 h4 => ?_, by simp [E.len]⟩
  · rcases set_get h with ⟨e, hl, e2⟩ | ⟨e, h⟩
    · subst e e2
      have : j < σ.length := E.len ▸ hl
      exact ⟨v, by simp [this], r⟩
    · obtain ⟨w, q1, q2⟩ := E.at_ j s h
      exact ⟨w, by rw [List.getElem?_set_ne (fun z => e z.symm)]; exact q1, q2⟩
  · rcases set_get h1 with ⟨_, _, e⟩ | ⟨e, h1⟩
    · cases e
    rcases set_get h2 with ⟨_, _, e'⟩ | ⟨e', h2⟩
    · cases e'
    rw [List.getElem?_set_ne (fun z => e z.symm)] at h3
    rw [List.getElem?_set_ne (fun z => e' z.symm)] at h4
    exact E.inj j k ds es a h1 h2 h3 h4
def wipeE (ρ : Env) : List Nat → Env
  | [] => ρ
  | v :: vs => (wipeE ρ vs).set v none
theorem none_get {α : Type} {l : List (Option α)} {i j : Nat} {y : α} (h : (l.set i none)[j]? = some (some y)) : j ≠ i ∧ l[j]? = some (some y) := by
  rw [List.getElem?_set] at h
  split at h
  · split at h
    · cases h
    · cases h
  · rename_i e
    exact ⟨fun z => e z.symm, h⟩
theorem RpE.wipe (E : RpE G m H ρ σ) : ∀ vs : List Nat, RpE G m H (wipeE ρ vs) (wipe σ vs)
  | [] => E
  | v :: vs => by
    have F := RpE.wipe E vs
    unfold wipeE L2.wipe
    refine ⟨fun j s h => ?_, fun j k ds es a h1 h2 h3 h4 => ?_, by simp [F.len]⟩
    · obtain ⟨e, h⟩ := none_get h
      obtain ⟨w, q1, q2⟩ := F.at_ j s h
      exact ⟨w, by rw [List.getElem?_set_ne (fun z => e z.symm)]; exact q1, q2⟩
    · obtain ⟨e, h1⟩ := none_get h1
      obtain ⟨e', h2⟩ := none_get h2
      rw [List.getElem?_set_ne (fun z => e z.symm)] at h3
      rw [List.getElem?_set_ne (fun z => e' z.symm)] at h4
      exact F.inj j k ds es a h1 h2 h3 h4
theorem wipe_set {i : Nat} {x : Option V} : ∀ {vs : List Nat}, i ∈ vs → L2.wipe (σ.set i x) vs = L2.wipe σ vs
  | v :: vs, h => by
    unfold L2.wipe
    by_cases e : i ∈ vs
    · rw [wipe_set e]
    · rcases List.mem_cons.mp h with e1 | e1
      · subst e1
        have comm : ∀ ws : List Nat, i ∉ ws → L2.wipe (σ.set i x) ws = (L2.wipe σ ws).set i x := by
          intro ws
          induction ws with
          | nil => intro _; rfl
          | cons w ws ih =>
            intro hn
            rw [List.mem_cons, not_or] at hn
            unfold L2.wipe
            rw [ih hn.2, List.set_comm _ _ hn.1]
        rw [comm vs e, List.set_set]
      · exact absurd e1 e
theorem wipe_sub {vs : List Nat} : ∀ {ws : List Nat}, (∀ w ∈ ws, w ∈ vs) → L2.wipe (L2.wipe σ ws) vs = L2.wipe σ vs
  | [], _ => rfl
  | w :: ws, h => by
    rw [show L2.wipe σ (w :: ws) = (L2.wipe σ ws).set w none from rfl, wipe_set (h w List.mem_cons_self)]
    exact wipe_sub fun x hx => h x (List.mem_cons_of_mem _ hx)
theorem wipe_wipe {vs : List Nat} : L2.wipe (L2.wipe σ vs) vs = L2.wipe σ vs := wipe_sub fun _ h => h
end

abbrev DG := D → Env → Option Env
abbrev DGs := List D → Env → Option Env
/-- what is bound: slots of vs only; lists of one's own elsewhere stay -/
structure Bnds (G : Gc) (vs : List Nat) (m : Mu) (H : Hp) (ρ : Env) (σ : Sg) (ρ' : Env) (σ' : Sg) : Prop where
  rp : RpE G m H ρ' σ'
  wp : L2.wipe σ' vs = L2.wipe σ vs
  own : ∀ (i : Nat) (ds : List D), ρ'[i]? = some (some (.own ds)) → ρ[i]? = some (some (.own ds)) ∧ σ'[i]? = σ[i]?
def tG (G : Gc) (vs : List Nat) (g : DG) : TG := fun v σ H Q => ∃ m ρ S d, Holds G m H S ∧ RpE G m H ρ σ ∧ Rp G m H d v ∧ ∃ ρ', g d ρ = some ρ' ∧ ∀ σ', Bnds G vs m H ρ σ ρ' σ' → Q σ' H
def tGs (G : Gc) (vs : List Nat) (g : DGs) : TGs := fun v σ H Q => ∃ m ρ S d, Holds G m H S ∧ RpE G m H ρ σ ∧ RpL G m H d v ∧ ∃ ρ', g d ρ = some ρ' ∧ ∀ σ', Bnds G vs m H ρ σ ρ' σ' → Q σ' H
def gN (i : Nat) : DG := fun d ρ => some (ρ.set i (some (.val d)))
def gT (n : Nat) (g : DGs) : DG := fun d ρ => match d with
  | .tup ds => if ds.length = n then g ds ρ else none
  | _ => none
def gs0 : DGs := fun ds ρ => match ds with
  | [] => some ρ
  | _ => none
def gsC (g : DG) (gs : DGs) : DGs := fun ds ρ => match ds with
  | d :: ds => (g d ρ).bind fun ρ => gs ds ρ
  | [] => none
section
variable {G : Gc} {W : WX} {X : Cx} {e a b c tg : Expr} {m m' : Mu} {H H' : Hp} {S : Store} {σ : Sg} {pos p : Pos} {vs : List Nat} {g : DG} {gs : DGs}
theorem pg_imp {t t' : TG} (h : PG X e t) (k : ∀ v σ H Q, t' v σ H Q → t v σ H Q) : PG X e t' := ⟨fun pins s σ H v u Q I r q => h.run pins s σ H v u Q I r (k v σ H Q q)⟩
theorem pgs_imp {es : List Expr} {t t' : TGs} (h : PGs X es t) (k : ∀ v σ H Q, t' v σ H Q → t v σ H Q) : PGs X es t' := ⟨fun pins s σ H v u Q I r q => h.run pins s σ H v u Q I r (k v σ H Q q)⟩
theorem Bnds.refl {ρ : Env} (h : RpE G m H ρ σ) : Bnds G vs m H ρ σ ρ σ := ⟨h, rfl, fun _ _ z => ⟨z, rfl⟩⟩
theorem Bnds.trans {ρ ρ' ρ'' : Env} {σ' σ'' : Sg} (h : Bnds G vs m H ρ σ ρ' σ') (k : Bnds G vs m H ρ' σ' ρ'' σ'') : Bnds G vs m H ρ σ ρ'' σ'' :=
  ⟨k.rp, k.wp.trans h.wp, fun i ds q => let ⟨a, b⟩ := k.own i ds q; let ⟨a', b'⟩ := h.own i ds a; ⟨a', b.trans b'⟩⟩
theorem Bnds.set {ρ : Env} {d : D} {v : V} {i : Nat} (E : RpE G m H ρ σ) (r : Rp G m H d v) (hi : i ∈ vs) : Bnds G vs m H ρ σ (ρ.set i (some (.val d))) (σ.set i (some v)) :=
  ⟨E.set r i, wipe_set hi, fun j ds h => by
    rcases set_get h with ⟨_, _, e⟩ | ⟨e, h⟩
    · cases e
    · exact ⟨h, by rw [List.getElem?_set_ne (fun z => e z.symm)]⟩⟩
theorem jg_name {i : Nat} {x : Str} (hN : X.N.Nodup) (hi : X.N[i]? = some x) (hx : Loc X.env.scope x) (hf : X.fn x = true ∨ X.env.scope.names.lookup x = some .local) (hv : i ∈ vs) : PG X (.Name x pos) (tG G vs (gN i)) :=
  pg_imp (pg_name hN hi hx hf) fun v σ H Q ⟨m, ρ, S, d, hS, hE, r, ρ', e, k⟩ => by
    cases e
    exact k _ (Bnds.set hE r hv)
theorem jgs_nil : PGs X [] (tGs G vs gs0) := pgs_imp pgs_nil fun v σ H Q ⟨m, ρ, S, d, hS, hE, r, ρ', e, k⟩ => by
  unfold gs0 at e
  split at e
  · cases e
    exact ⟨r, k σ (Bnds.refl hE)⟩
  · cases e
def subB : Expr → Bool
  | .Name .. => true
  | .Tuple .. => true
  | .Subscript .. => true
  | .Attribute .. => true
  | _ => false
theorem jgs_cons {es : List Expr} (h1 : PG X e (tG G vs g)) (h2 : PGs X es (tGs G vs gs))
    (hs : (assignEach (e :: es) X.env).map (·.2) = assign e X.env :: (assignEach es X.env).map (·.2) := by rfl) : PGs X (e :: es) (tGs G vs (gsC g gs)) :=
  pgs_imp (pgs_cons h1 h2 hs) fun v σ H Q ⟨m, ρ, S, d, hS, hE, r, ρ', e, k⟩ => by
    unfold gsC at e
    split at e
    · rename_i ds d
      obtain ⟨v1, rest, rfl, r1, r2⟩ := r
      obtain ⟨ρ1, e1, e2⟩ := Option.bind_eq_some_iff.mp e
      refine ⟨v1, rest, rfl, m, ρ, S, _, hS, hE, r1, ρ1, e1, fun σ1 b1 => ?_⟩
      exact ⟨m, ρ1, S, _, hS, b1.rp, r2, ρ', e2, fun σ2 b2 => k σ2 (b1.trans b2)⟩
    · cases e
theorem jg_tup {es : List Expr} {k n : Nat} (hK : X.K = G.K) (hc : X.calm = true) (h : PGs X es (tGs G vs gs))
    (hn : (assignEach es X.env).length = n := by rfl) (hst : (assignEach es X.env).findIdx? (·.1) = none := by rfl) : PG X (.Tuple es k pos) (tG G vs (gT n gs)) :=
  pg_imp (pg_tup hc h hn hst) fun v σ H Q ⟨m, ρ, S, d, hS, hE, r, ρ', e, k⟩ => by
    unfold gT at e
    split at e
    · rename_i ds
      obtain ⟨e0, e⟩ : ds.length = n ∧ gs ds ρ = some ρ' := by
        by_cases q : ds.length = n
        · rw [if_pos q] at e; exact ⟨q, e⟩
        · rw [if_neg q] at e; cases e
      obtain ⟨a, xs, rfl, q1, q2⟩ := r
      exact ⟨a, xs, rfl, by rw [hK]; exact q1.sq, by rw [q2.length, e0], m, ρ, S, ds, hS, hE, q2, ρ', e, k⟩
    · cases e

/-! ### comprehensions -/
def noX {α : Type} : R α → R α
  | .ok a S => .ok a S
  | _ => .bad
theorem aft_noX {α : Type} {r : R α} {Y Y' : XK} {Φ : α → Store → Mu → Hp → Prop} (h : Aft G m H Y (noX r) Φ) : Aft G m H Y' r Φ := by
  cases r with
  | ok a S => exact h
  | exc c S => exact h.elim
  | bad => exact h.elim
/-- the turns of a comprehension: acc is what was put so far -/
def lcRun (g : DG) (t : DT) (e : DE) (ρ : Env) : List D → List D → M (List D)
  | [], acc => fun S => .ok acc S
  | d :: ds, acc => fun S => match g d ρ with
    | none => .bad
    | some ρ' => (t ρ' S).bind fun b S => if b = true then (e ρ' S).bind fun y S => if acc.length < sizeLine then lcRun g t e ρ ds (acc ++ [y]) S else .bad else lcRun g t e ρ ds acc S
def dLc (di : DI) (g : DG) (t : DT) (e : DE) (vs : List Nat) : DA := fun ρ S => (di ρ S).bind fun ds S => noX (lcRun g t e (wipeE ρ vs) ds [] S)
abbrev WN : WX := fun _ _ _ _ => False
theorem AftL.of {α : Type} {r : R α} {k : α → M (List D)} {Y : XK} {Q : VK} (h : AftL G m H Y (r.bind k) Q) : Aft G m H Y r fun a S m' H' => AftL G m' H' Y (k a S) Q := by
  cases r with
  | ok a S =>
    intro m' H' l hS
    have h : AftL G m H Y (k a S) Q := h
    show AftL G m' H' Y (k a S) Q
    cases q : k a S with
    | ok ds S2 =>
      rw [q] at h
      exact fun m2 H2 p l2 hp => h m2 H2 p (l.trans l2) (by
        cases z : H p with
        | none => rfl
        | some o => exact absurd hp (l.there p (by rw [z]; simp)))
    | exc c S2 =>
      rw [q] at h
      exact fun m2 H2 l2 => h m2 H2 (l.trans l2)
    | bad =>
      rw [q] at h
      exact h
  | exc c S => exact h
  | bad => exact h
theorem Holds.laid {p : Addr} {o : HO} (h : Holds G m H S) (hp : H p = none) : Holds G m (upd H p o) S := h.same (Same.new hp)
/-- a fresh list joins what one holds -/
theorem Holds.join {p : Addr} {o : HO} {H0 : Hp} {m0 : Mu} (h : Holds G m H S) (l : Le G m0 H0 m H) (hp : H p = none) (ho : (upd H p o) p ≠ none) : Holds G (m.add p) (upd H p o) S := by
  have s : Same H (upd H p o) := Same.new hp
  have l2 : Lx G kAll m H (m.add p) (upd H p o) := Lx.add (Le.same s) hp
  refine ⟨h.len, h.nd, fun n ob a e1 e2 => ?_, fun a q => ?_, fun a q => ?_⟩
  · exact (h.ob n ob a e1 e2).mono (s a) fun d v r => l2.rp r
  · rcases q with q | q
    · exact h.dis a q
    · subst q
      intro z
      obtain ⟨n, hn⟩ := List.getElem?_of_mem z
      have hl : n < S.length := by rw [← h.len]; exact (List.getElem?_eq_some_iff.mp hn).1
      have w := h.ob n S[n] a (by simp [hl]) hn
      obtain ⟨o, e⟩ := w.some_
      rw [hp] at e; cases e
  · rcases q with q | q
    · exact (Le.same (G := G) (m := m) s).there a (h.there a q)
    · subst q; exact ho
theorem tups_put {K : PySem.W.Frag} {L a : Addr} {ys xs : List V} {o : HO} (h : H L = some (.lst ys)) (t : SqT K H a xs) : SqT K (upd H L o) a xs := by
  have ne : ∀ b u, H b = some u → (∀ zs, u ≠ .lst zs) → b ≠ L := fun b u e n z => by
    subst z
    rw [h] at e; cases e
    exact n ys rfl
  rcases t with (t | ⟨q, t⟩) | t
  · exact .inl (.inl (by rw [upd_ne (ne a _ t (fun _ z => by cases z))]; exact t))
  · exact .inl (.inr ⟨q, by rw [upd_ne (ne a _ t (fun _ z => by cases z))]; exact t⟩)
  · exact .inr t
/-- a thing that is no tuple and not frozen -/
def NotT (u : HO) : Prop := (∀ zs, u ≠ .tup zs) ∧ ∀ q z, u ≠ .frz q z
theorem notT_lst {xs : List V} : NotT (.lst xs) := ⟨(fun _ z => by cases z), (fun _ _ z => by cases z)⟩
theorem tq_put {L a : Addr} {xs : List V} {u o : HO} (h : H L = some u) (hn : NotT u) (t : Tq G H a xs) : Tq G (upd H L o) a xs := by
  have ne : ∀ b w, H b = some w → ((∃ zs, w = .tup zs) ∨ ∃ q z, w = .frz q z) → b ≠ L := fun b w e n z => by
    subst z
    rw [h] at e; cases e
    rcases n with ⟨zs, n⟩ | ⟨q, z, n⟩
    · exact hn.1 zs n
    · exact hn.2 q z n
  rcases t with t | ⟨(t | ⟨q, t⟩) | t, hl⟩
  · exact .inl (by rw [upd_ne (ne a _ t (.inl ⟨_, rfl⟩))]; exact t)
  · exact .inl (by rw [upd_ne (ne a _ t (.inl ⟨_, rfl⟩))]; exact t)
  · exact .inr ⟨.inl (.inr ⟨q, by rw [upd_ne (ne a _ t (.inr ⟨_, _, rfl⟩))]; exact t⟩), hl⟩
  · exact .inr ⟨.inr t, hl⟩
/-- a list of one's own changes -/
theorem Lx.put {L : Addr} {ys xs : List V} (hO : m.O L) (h : H L = some (.lst ys)) : Lx G (fun a => a ≠ L) m H m (upd H L (.lst xs)) :=
  ⟨⟨[], by simp, by simp⟩, fun a q => .inl q, fun a q _ => q, fun a o e n k => by
    by_cases z : a = L
    · exact absurd z (k (z ▸ hO))
    · rw [upd_ne z]; exact e, fun a xs t => tq_put h notT_lst t, fun a q => by
    by_cases z : a = L
    · subst z; rw [upd_same]; simp
    · rw [upd_ne z]; exact q⟩
theorem Holds.put {L : Addr} {ys xs : List V} (hS : Holds G m H S) (hO : m.O L) (h : H L = some (.lst ys)) : Holds G m (upd H L (.lst xs)) S := by
  have l : Lx G (fun a => a ≠ L) m H m (upd H L (.lst xs)) := Lx.put hO h
  refine ⟨hS.len, hS.nd, fun n ob a e1 e2 => ?_, hS.dis, fun a q => l.there a (hS.there a q)⟩
  have ne : a ≠ L := fun z => hS.dis L hO (z ▸ List.mem_of_getElem? e2)
  exact (hS.ob n ob a e1 e2).mono (fun o e => by rw [upd_ne ne]; exact e) fun d v r => l.rp r
theorem Le.put {L : Addr} {m1 : Mu} {H1 : Hp} {ys xs : List V} (l : Le G m1 H1 m H) (hL : H1 L = none) (h : H L = some (.lst ys)) : Le G m1 H1 m (upd H L (.lst xs)) :=
  ⟨l.as, l.O, fun a o e n => by
    rw [upd_ne (ne_of_none e hL)]
    exact l.kept a o e n, fun a xs t => tq_put h notT_lst (l.tups a xs t), fun a q => by
    by_cases z : a = L
    · subst z; rw [upd_same]; simp
    · rw [upd_ne z]; exact l.there a q⟩
/-- behind a comprehension -/
def FinL (G : Gc) (m : Mu) (H : Hp) (L : Addr) (r : R (List D)) (Q : VK) : Prop := match r with
  | .ok ds S => ∀ m' H', Le G m H m' H' → Holds G (m'.add L) H' S → Ol G (m'.add L) H' ds L → Q (.ref L) H'
  | _ => False
theorem getElem_split {α : Type} {ds : List α} {i : Nat} {d : α} (h : ds[i]? = some d) : ds.drop i = d :: ds.drop (i + 1) := by
  obtain ⟨hl, e⟩ := List.getElem?_eq_some_iff.mp h
  rw [List.drop_eq_getElem_cons hl, e]
/-- inside a comprehension: the list at L is the comprehension's alone -/
theorem Le.del {L : Addr} {m1 : Mu} {H1 : Hp} (l : Le G m1 H1 m H) (hD : H1 L = none) (k : Le G (m.add L) H m' H') : Le G m1 H1 ⟨m'.as, m.O⟩ H' := by
  have l2 : Lx G kAll m1 H1 (m.add L) H := Lx.add l hD
  have l3 : Lx G kAll m1 H1 m' H' := l2.trans k.lx
  exact ⟨l3.as, l.O, fun a o h n => l3.kept a o h n fun _ => trivial, l3.tups, l3.there⟩
theorem Mu.eta {m' : Mu} {L : Addr} (h : m'.O = (m.add L).O) : (⟨m'.as, m.O⟩ : Mu).add L = m' := by
  cases m' with
  | mk as O =>
    have h : O = (m.add L).O := h
    subst h
    rfl
theorem lcT {di : DI} {t : DT} {de : DE} {ρ : Env} {Q : VK} (vs : List Nat) (hS : Holds G m H S) (hE : RpE G m H ρ σ) (h : AftL G m H (fun c x H' => W c x σ H') (dLc di g t de vs ρ S) Q) :
    tLc (tIw G W di) (tG G vs g) (tT G WN t) (tE G WN de) vs σ H Q := by
  refine ⟨m, ρ, S, hS, hE, (AftL.of h).imp fun ds S1 m1 H1 l1 hS1 h1 J sv => ?_⟩
  intro L hD
  obtain ⟨Gd, Y, wk, hGd, hY⟩ := sv
  have sD : Same H1 (upd H1 L (.lst [])) := Same.new hD
  have fin : FinL G m1 H1 L (lcRun g t de (wipeE ρ vs) ds [] S1) Q := by
    revert h1
    cases q : lcRun g t de (wipeE ρ vs) ds [] S1 with
    | ok r S2 => exact fun h1 m' H' l hS' ho => h1 m' H' L l hD hS' ho
    | exc c S2 => exact fun h1 => h1.elim
    | bad => exact fun h1 => h1.elim
  refine lc_it wk (fun i H2 => ∃ m2 acc S2, Le G m1 H1 m2 H2 ∧ Holds G (m2.add L) H2 S2 ∧ Ol G (m2.add L) H2 acc L ∧ FinL G m1 H1 L (lcRun g t de (wipeE ρ vs) (ds.drop i) acc S2) Q) ?_ ?_ ?_ ?_
  · refine ⟨m1, [], S1, Le.same sD, hS1.join Le.refl hD (by rw [upd_same]; simp), ⟨[], upd_same, rfl⟩, fin⟩
  · rintro i H2 hi ⟨m2, acc, S2, l2, _⟩
    exact hGd _ H2 (Lx.add l2 hD)
  · rintro i x H2 H3 hi ⟨m2, acc, S2, l2, hS2, ho, fn⟩ y
    have lx2 : Lx G kAll m1 H1 (m2.add L) H2 := Lx.add l2 hD
    obtain ⟨s3, d, hd, rd⟩ := hY _ H2 i x H3 lx2 hi y
    rw [getElem_split hd] at fn
    have hE3 : RpE G (m2.add L) H3 (wipeE ρ vs) (L2.wipe σ vs) := ((hE.le l1).lx (lx2.trans (Le.same s3).lx)).wipe vs
    have hS3 : Holds G (m2.add L) H3 S2 := hS2.same s3
    have l3 : Le G m1 H1 m2 H3 := l2.trans (Le.same s3)
    have ho3 : Ol G (m2.add L) H3 acc L := by
      obtain ⟨xs, e, q⟩ := ho
      exact ⟨xs, s3 _ _ e, (Le.same s3).rpL q⟩
    unfold lcRun at fn
    cases hgd : g d (wipeE ρ vs) with
    | none => rw [hgd] at fn; exact fn.elim
    | some ρ' =>
      rw [hgd] at fn
      refine ⟨m2.add L, wipeE ρ vs, S2, d, hS3, hE3, rd _ lx2, ρ', hgd, fun σ' bn => ⟨bn.wp.trans wipe_wipe, m2.add L, ρ', S2, hS3, bn.rp, ?_⟩⟩
      dsimp only at fn
      cases ht : t ρ' S2 with
      | exc c S => rw [ht] at fn; exact fn.elim
      | bad => rw [ht] at fn; exact fn.elim
      | ok b S4 =>
        rw [ht] at fn ⊢
        intro m4 H4 l4 hS4
        have l34 := Le.del l3 hD l4
        cases b with
        | false =>
          refine iteF ?_
          refine ⟨⟨m4.as, m2.O⟩, acc, S4, l34, by rw [Mu.eta l4.O]; exact hS4, ?_, fn⟩
          rw [Mu.eta l4.O]
          exact l4.ol (hS3.dis L (.inr rfl)) ho3
        | true =>
          refine iteT ?_
          have fn : FinL G m1 H1 L ((de ρ' S4).bind fun y S => if acc.length < sizeLine then lcRun g t de (wipeE ρ vs) (ds.drop (i + 1)) (acc ++ [y]) S else .bad) Q := fn
          refine ⟨m4, ρ', S4, hS4, bn.rp.le l4, ?_⟩
          cases hd : de ρ' S4 with
          | exc c S => rw [hd] at fn; exact fn.elim
          | bad => rw [hd] at fn; exact fn.elim
          | ok y S5 =>
            rw [hd] at fn ⊢
            have fn : FinL G m1 H1 L (if acc.length < sizeLine then lcRun g t de (wipeE ρ vs) (ds.drop (i + 1)) (acc ++ [y]) S5 else .bad) Q := fn
            intro m5 H5 l5 hS5 v rv
            by_cases hz : acc.length < sizeLine
            · rw [if_pos hz] at fn
              have l35 := Le.del l3 hD (l4.trans l5)
              have nD : L ∉ m5.as := hS5.dis L (by rw [l5.O, l4.O]; exact .inr rfl)
              obtain ⟨xs, e, q⟩ := (l4.trans l5).ol (hS3.dis L (.inr rfl)) ho3
              refine ⟨xs, e, by rw [q.length]; exact hz, ⟨m5.as, m2.O⟩, acc ++ [y], S5, ?_, ?_, ?_, fn⟩
              · exact l35.put hD e
              · rw [Mu.eta (l5.O.trans l4.O)]
                exact hS5.put (by rw [l5.O, l4.O]; exact .inr rfl) e
              · rw [Mu.eta (l5.O.trans l4.O)]
                exact ⟨xs ++ [v], upd_same, (Lx.put (by rw [l5.O, l4.O]; exact .inr rfl) e).rpL (q.append ⟨v, [], rfl, rv, rfl⟩)⟩
            · rw [if_neg hz] at fn; exact fn.elim
  · rintro H2 ⟨m2, acc, S2, l2, hS2, ho, fn⟩
    rw [show ds.drop ds.length = [] by simp] at fn
    exact fn m2 H2 l2 hS2 ho
theorem je_lc {elt iter : Expr} {scope : Scope} {own : List (Str × Nat)} {ifs : List Expr} {di : DI} {t : DT} {de : DE} (hc : X.calm = true) (hN : X.N.Nodup) (hi : PI X tg iter (tIw G W di)) (ok : BlkOk X.N X.env.scope scope own)
    (hg : ∀ (s : Shared) (H : Hp) (C : Addr) (cl : List (Str × Addr)) (fp : List Addr), PG (X.blk s H scope (compEnvC scope cl C X.env) fp) tg (tG G (own.map (·.2)) g)) (ht : ∀ (s : Shared) (H : Hp) (C : Addr) (cl : List (Str × Addr)) (fp : List Addr), PTs (X.blk s H scope (compEnvC scope cl C X.env) fp) ifs (tT G WN t))
    (he : ∀ (s : Shared) (H : Hp) (C : Addr) (cl : List (Str × Addr)) (fp : List Addr), PE (X.blk s H scope (compEnvC scope cl C X.env) fp) elt (tE G WN de)) (hs : ∀ x, foldedSetIterable iter X.env x = pure x) :
    PE X (.ListComp elt [⟨tg, iter, ifs, 0⟩] scope pos) (tL G W (dLc di g t de (own.map (·.2)))) := by
  refine pe_imp (pe_lc hc hN hi ok hg ht he hs) fun σ H Q ⟨m, ρ, S, hS, hE, h⟩ => ?_
  exact lcT (own.map (·.2)) hS hE h
end
end Py

/-! Part 9: calls of what is built in. -/
namespace L2
open PySem PySem.Spec PyProof.Rows
/-- set(t), t a tuple of ints -/
def rSetTI (K : PySem.W.Frag) (w : World) : List V → Hp → VK → Prop := fun xs H Q => ∃ (p : Addr) (ns : List Int), xs = [.ref p] ∧ SqT K H p (ns.map V.int) ∧ ns.length ≤ 1000 ∧
  ∀ (a : Addr) (S : Int → Bool) (n : Nat), H a = none → (∀ k : Int, S k = decide (k ∈ ns)) → n ≤ ns.length → Q (.ref a) (upd H a (SetO w a S n))
theorem cr_setTI {X : Cx} (hc : X.calm = true) : CallR X (.type "set") (rSetTI X.K X.w) := by
  intro pins s σ H xs us Q I r h
  obtain ⟨p, ns, rfl, hq, hl, q⟩ := h
  rw [Vals.ref1 r]
  obtain ⟨its, rv, pt, hz⟩ := I.tuple hq
  have hi : IntsAre its.toArray.toList ns := ints_of_vals rv
  refine call_set_tupI ns (I.ok.hd hc) (show s.heap.IsTuple p its.toArray from pt) hi (by unfold scanBound; omega) fun h' tk c R hcn k => ?_
  exact ⟨.ref s.heap.objs.size, upd H s.heap.objs.size (SetO X.w s.heap.objs.size (fun j => decide (j ∈ ns)) c), I.laid (t' := tk) k (Nat.le_refl _) (setO_new R), rfl, q _ _ _ (I.hok.fresh (Nat.le_refl _)) (fun _ => rfl) hcn⟩
end L2
namespace Py
open PySem PySem.Spec PyProof.Rows L2

/-! ### results -/
def pLen (S : Store) : List D → Option D
  | [.str z] => if z.length ≤ sizeLine then some (.int (z.length : Nat)) else none
  | [d] => (seqOf S d).map fun ds => .int (ds.length : Nat)
  | _ => none
def pInt (_ : Store) : List D → Option D
  | [.int i] => some (.int i)
  | [.bl b] => some (.int (if b then 1 else 0))
  | [.str z] => if z.length ≤ 640 then (PySem.intText? z).map .int else none
  | _ => none
def pAbs (_ : Store) : List D → Option D
  | [.int i] => some (.int (if i < 0 then -i else i))
  | _ => none
def pStr (_ : Store) : List D → Option D
  | [.int i] => if i.natAbs.log2 < 1920 then some (.str (toString i)) else none
  | [.str z] => some (.str z)
  | _ => none
def intsD : List D → Option (List Int)
  | [] => some []
  | .int i :: ds => (intsD ds).map (i :: ·)
  | _ => none
def blsD : List D → Option (List Bool)
  | [] => some []
  | .bl i :: ds => (blsD ds).map (i :: ·)
  | _ => none
def maxI : List Int → Int
  | [] => 0
  | [x] => x
  | x :: xs => let m := maxI xs; if m > x then m else x
def minI : List Int → Int
  | [] => 0
  | [x] => x
  | x :: xs => let m := minI xs; if m < x then m else x
def pMax (_ : Store) : List D → Option D
  | [.int i, .int j] => some (.int (if j > i then j else i))
  | [.lst ds] => (intsD ds).bind fun ns => if ns = [] then none else some (.int (maxI ns))
  | _ => none
def pMin (_ : Store) : List D → Option D
  | [.int i, .int j] => some (.int (if j < i then j else i))
  | [.lst ds] => (intsD ds).bind fun ns => if ns = [] then none else some (.int (minI ns))
  | _ => none
def pSum (_ : Store) : List D → Option D
  | [.lst ds] => (intsD ds).map fun ns => .int ns.sum
  | _ => none
def pAll (_ : Store) : List D → Option D
  | [.lst ds] => (blsD ds).map fun bs => .bl (bs.all id)
  | _ => none
def pAny (_ : Store) : List D → Option D
  | [.lst ds] => (blsD ds).map fun bs => .bl (bs.any id)
  | _ => none
def pTuple (_ : Store) : List D → Option D
  | [.lst ds] => some (.tup ds)
  | [.tup ds] => some (.tup ds)
  | _ => none
/-- the built-in type of a value -/
def tyD : D → Option String
  | .non => some "NoneType"
  | .bl _ => some "bool"
  | .int _ => some "int"
  | .str _ => some "str"
  | .tup _ => some "tuple"
  | .lst _ => some "list"
  | .emp => some "dict"
  | _ => none
def pIsi (_ : Store) : List D → Option D
  | [d, .ty t] => (tyD d).bind fun a => (kitB a t).map .bl
  | _ => none
def pOrd (_ : Store) : List D → Option D
  | [.str z] => if z.length = 1 then some (.int (z.cps.getD 0 0 : Nat)) else none
  | _ => none
section
variable {G : Gc} {W : WX} {X : Cx} {e a b c tg : Expr} {m m' : Mu} {H H' : Hp} {S : Store} {σ : Sg} {pos p : Pos}
theorem intsD_map : ∀ {ds : List D} {ns : List Int}, intsD ds = some ns → ds = ns.map D.int
  | [], ns, h => by cases h; rfl
  | d :: ds, ns, h => by
    cases d <;> simp only [intsD] at h <;> first | cases h; done | skip
    obtain ⟨r, e, e2⟩ := Option.map_eq_some_iff.mp h
    subst e2
    rw [intsD_map e]; rfl
theorem blsD_map : ∀ {ds : List D} {ns : List Bool}, blsD ds = some ns → ds = ns.map D.bl
  | [], ns, h => by cases h; rfl
  | d :: ds, ns, h => by
    cases d <;> simp only [blsD] at h <;> first | cases h; done | skip
    obtain ⟨r, e, e2⟩ := Option.map_eq_some_iff.mp h
    subst e2
    rw [blsD_map e]; rfl
theorem RpL.ints : ∀ {ns : List Int} {xs : List V}, RpL G m H (ns.map D.int) xs → xs = ns.map V.int
  | [], _, h => h
  | n :: ns, _, ⟨v, r, e, h1, h2⟩ => by
    subst e
    obtain rfl : v = V.int n := h1
    rw [RpL.ints h2]; rfl
theorem RpL.bls : ∀ {ns : List Bool} {xs : List V}, RpL G m H (ns.map D.bl) xs → xs = ns.map V.bl
  | [], _, h => h
  | n :: ns, _, ⟨v, r, e, h1, h2⟩ => by
    subst e
    obtain rfl : v = V.bl n := h1
    rw [RpL.bls h2]; rfl
theorem RpL.ofInts : ∀ (ns : List Int), RpL G m H (ns.map D.int) (ns.map V.int)
  | [] => rfl
  | n :: ns => ⟨_, _, rfl, rfl, RpL.ofInts ns⟩
theorem maxI_mem : ∀ {ns : List Int}, ns ≠ [] → maxI ns ∈ ns ∧ ∀ y ∈ ns, y ≤ maxI ns
  | [], h => absurd rfl h
  | [x], _ => by simp [maxI]
  | x :: y :: r, _ => by
    obtain ⟨h1, h2⟩ := maxI_mem (ns := y :: r) (by simp)
    have e : maxI (x :: y :: r) = if maxI (y :: r) > x then maxI (y :: r) else x := rfl
    rw [e]
    split
    · exact ⟨List.mem_cons_of_mem _ h1, fun z hz => by
        rcases List.mem_cons.mp hz with q | q
        · subst q; omega
        · exact h2 z q⟩
    · exact ⟨List.mem_cons_self, fun z hz => by
        rcases List.mem_cons.mp hz with q | q
        · subst q; omega
        · have := h2 z q; omega⟩
theorem minI_mem : ∀ {ns : List Int}, ns ≠ [] → minI ns ∈ ns ∧ ∀ y ∈ ns, minI ns ≤ y
  | [], h => absurd rfl h
  | [x], _ => by simp [minI]
  | x :: y :: r, _ => by
    obtain ⟨h1, h2⟩ := minI_mem (ns := y :: r) (by simp)
    have e : minI (x :: y :: r) = if minI (y :: r) < x then minI (y :: r) else x := rfl
    rw [e]
    split
    · exact ⟨List.mem_cons_of_mem _ h1, fun z hz => by
        rcases List.mem_cons.mp hz with q | q
        · subst q; omega
        · exact h2 z q⟩
    · exact ⟨List.mem_cons_self, fun z hz => by
        rcases List.mem_cons.mp hz with q | q
        · subst q; omega
        · have := h2 z q; omega⟩
theorem RtL.one {d : D} {vs : List V} (h : RtL G m H [d] vs) : ∃ v, vs = [v] ∧ Rt G m H d v := by
  obtain ⟨v, r, e, q, r0⟩ := h
  obtain rfl : r = [] := r0
  exact ⟨v, e, q⟩
theorem RtL.two {d d' : D} {vs : List V} (h : RtL G m H [d, d'] vs) : ∃ v v', vs = [v, v'] ∧ Rt G m H d v ∧ Rt G m H d' v' := by
  obtain ⟨v, r, e, q, v', r', e', q', r0⟩ := h
  subst e'
  obtain rfl : r' = [] := r0
  exact ⟨v, v', e, q, q'⟩
theorem c_len (hK : X.K = G.K) : CallR X (.builtin "len") (rC G pLen) := callr_imp call_len fun vs H Q ⟨m, S, ds, r, hS, hr, hf, k⟩ => by
  match ds, hr, hf with
  | [], hr, hf => cases hf
  | d :: d' :: t, hr, hf => cases d <;> cases hf
  | [d], hr, hf =>
    obtain ⟨v, rfl, rv⟩ := hr.one
    have gen : ∀ es, seqOf S d = some es → r = .int (es.length : Nat) → ∃ x n, [v] = [x] ∧ LenV X.K x H n ∧ Q (.int n) H := fun es h1 h2 => by
      subst h2
      obtain ⟨p, xs, rfl, q1, q2⟩ := seq_ok hS h1 rv
      refine ⟨.ref p, xs.length, rfl, ?_, k.here hS (v := .int _) (by rw [q2.length]; rfl)⟩
      rw [hK]
      rcases q1 with q1 | q1
      · exact .inl ⟨xs, q1, rfl⟩
      · exact .inr ⟨xs, q1, rfl⟩
    cases d with
    | str z =>
      have hf : (if z.length ≤ sizeLine then some (D.int (z.length : Nat)) else none) = some r := hf
      obtain ⟨hz, rfl⟩ := some_ifp hf
      exact ⟨.str z, z.length, by rw [show v = V.str z from rv], ⟨hz, rfl⟩, k.here hS (v := .int _) rfl⟩
    | _ =>
      simp only [pLen, Option.map_eq_some_iff] at hf
      obtain ⟨es, h1, h2⟩ := hf
      exact gen es h1 h2.symm
theorem c_int : CallR X (.type "int") (rC G pInt) := callr_imp (CallR.or call_int1 call_int_str) fun vs H Q ⟨m, S, ds, r, hS, hr, hf, k⟩ => by
  unfold pInt at hf
  split at hf
  · cases hf
    obtain ⟨v, rfl, rv⟩ := hr.one
    obtain rfl : v = V.int _ := rv
    exact .inl (.inl ⟨_, rfl, k.here hS (v := .int _) rfl⟩)
  · cases hf
    obtain ⟨v, rfl, rv⟩ := hr.one
    obtain rfl : v = V.bl _ := rv
    exact .inl (.inr ⟨_, rfl, k.here hS (v := .int _) rfl⟩)
  · rename_i z
    obtain ⟨hz, hf⟩ : z.length ≤ 640 ∧ (PySem.intText? z).map D.int = some r := by
      by_cases hz : z.length ≤ 640
      · rw [if_pos hz] at hf; exact ⟨hz, hf⟩
      · rw [if_neg hz] at hf; cases hf
    obtain ⟨n, e, rfl⟩ := Option.map_eq_some_iff.mp hf
    obtain ⟨v, rfl, rv⟩ := hr.one
    obtain rfl : v = V.str _ := rv
    exact .inr ⟨_, n, rfl, e, hz, k.here hS (v := .int _) rfl⟩
  · cases hf
theorem c_abs : CallR X (.builtin "abs") (rC G pAbs) := callr_imp call_abs fun vs H Q ⟨m, S, ds, r, hS, hr, hf, k⟩ => by
  unfold pAbs at hf
  split at hf
  · cases hf
    obtain ⟨v, rfl, rv⟩ := hr.one
    obtain rfl : v = V.int _ := rv
    exact ⟨_, rfl, k.here hS (v := .int _) rfl⟩
  · cases hf
theorem c_ord : CallR X (.builtin "ord") (rC G pOrd) := callr_imp call_ord fun vs H Q ⟨m, S, ds, r, hS, hr, hf, k⟩ => by
  unfold pOrd at hf
  split at hf
  · obtain ⟨hz, rfl⟩ := some_ifp hf
    obtain ⟨v, rfl, rv⟩ := hr.one
    obtain rfl : v = V.str _ := rv
    exact ⟨_, rfl, hz, k.here hS (v := .int _) rfl⟩
  · cases hf
theorem c_max (hc : X.calm = true) (hK : X.K = G.K) : CallR X (.builtin "max") (rC G pMax) := callr_imp (CallR.or (call_max2 hc) (cr_max hc)) fun vs H Q ⟨m, S, ds, r, hS, hr, hf, k⟩ => by
  unfold pMax at hf
  split at hf
  · cases hf
    obtain ⟨v, v', rfl, rv, rv'⟩ := hr.two
    obtain rfl : v = V.int _ := rv
    obtain rfl : v' = V.int _ := rv'
    exact .inl ⟨_, _, rfl, k.here hS (v := .int _) rfl⟩
  · obtain ⟨ns, e, hf⟩ := Option.bind_eq_some_iff.mp hf
    obtain ⟨hn, hf⟩ : ns ≠ [] ∧ some (D.int (maxI ns)) = some r := by
      split at hf
      · cases hf
      · exact ⟨by assumption, hf⟩
    cases hf
    obtain ⟨v, rfl, rv⟩ := hr.one
    obtain ⟨a, xs, rfl, q1, _, q2⟩ := rv
    rw [intsD_map e] at q2
    obtain rfl := q2.ints
    refine .inr ⟨a, ns, rfl, by rw [hK]; exact SqL.of q1, List.length_pos_iff.mpr hn, fun z h1 h2 => ?_⟩
    obtain ⟨m1, m2⟩ := maxI_mem hn
    have : z = maxI ns := Int.le_antisymm (m2 z h1) (h2 _ m1)
    subst this
    exact k.here hS (v := .int _) rfl
  · cases hf
theorem c_min (hc : X.calm = true) (hK : X.K = G.K) : CallR X (.builtin "min") (rC G pMin) := callr_imp (CallR.or (call_min2 hc) (cr_min hc)) fun vs H Q ⟨m, S, ds, r, hS, hr, hf, k⟩ => by
  unfold pMin at hf
  split at hf
  · cases hf
    obtain ⟨v, v', rfl, rv, rv'⟩ := hr.two
    obtain rfl : v = V.int _ := rv
    obtain rfl : v' = V.int _ := rv'
    exact .inl ⟨_, _, rfl, k.here hS (v := .int _) rfl⟩
  · obtain ⟨ns, e, hf⟩ := Option.bind_eq_some_iff.mp hf
    obtain ⟨hn, hf⟩ : ns ≠ [] ∧ some (D.int (minI ns)) = some r := by
      split at hf
      · cases hf
      · exact ⟨by assumption, hf⟩
    cases hf
    obtain ⟨v, rfl, rv⟩ := hr.one
    obtain ⟨a, xs, rfl, q1, _, q2⟩ := rv
    rw [intsD_map e] at q2
    obtain rfl := q2.ints
    refine .inr ⟨a, ns, rfl, by rw [hK]; exact SqL.of q1, List.length_pos_iff.mpr hn, fun z h1 h2 => ?_⟩
    obtain ⟨m1, m2⟩ := minI_mem hn
    have : z = minI ns := Int.le_antisymm (h2 _ m1) (m2 z h1)
    subst this
    exact k.here hS (v := .int _) rfl
  · cases hf
theorem c_sum (hc : X.calm = true) (hK : X.K = G.K) : CallR X (.builtin "sum") (rC G pSum) := callr_imp (cr_sum hc) fun vs H Q ⟨m, S, ds, r, hS, hr, hf, k⟩ => by
  unfold pSum at hf
  split at hf
  · obtain ⟨ns, e, rfl⟩ := Option.map_eq_some_iff.mp hf
    obtain ⟨v, rfl, rv⟩ := hr.one
    obtain ⟨a, xs, rfl, q1, _, q2⟩ := rv
    rw [intsD_map e] at q2
    obtain rfl := q2.ints
    exact ⟨a, ns, rfl, by rw [hK]; exact SqL.of q1, k.here hS (v := .int _) rfl⟩
  · cases hf
theorem c_all (hc : X.calm = true) (hK : X.K = G.K) : CallR X (.builtin "all") (rC G pAll) := callr_imp (cr_all hc) fun vs H Q ⟨m, S, ds, r, hS, hr, hf, k⟩ => by
  unfold pAll at hf
  split at hf
  · obtain ⟨ns, e, rfl⟩ := Option.map_eq_some_iff.mp hf
    obtain ⟨v, rfl, rv⟩ := hr.one
    obtain ⟨a, xs, rfl, q1, _, q2⟩ := rv
    rw [blsD_map e] at q2
    obtain rfl := q2.bls
    exact ⟨a, ns, rfl, by rw [hK]; exact SqL.of q1, k.here hS (v := .bl _) rfl⟩
  · cases hf
theorem c_any (hc : X.calm = true) (hK : X.K = G.K) : CallR X (.builtin "any") (rC G pAny) := callr_imp (cr_any hc) fun vs H Q ⟨m, S, ds, r, hS, hr, hf, k⟩ => by
  unfold pAny at hf
  split at hf
  · obtain ⟨ns, e, rfl⟩ := Option.map_eq_some_iff.mp hf
    obtain ⟨v, rfl, rv⟩ := hr.one
    obtain ⟨a, xs, rfl, q1, _, q2⟩ := rv
    rw [blsD_map e] at q2
    obtain rfl := q2.bls
    exact ⟨a, ns, rfl, by rw [hK]; exact SqL.of q1, k.here hS (v := .bl _) rfl⟩
  · cases hf
theorem c_tuple (hK : X.K = G.K) : CallR X (.type "tuple") (rC G pTuple) := callr_imp call_tuple_of fun vs H Q ⟨m, S, ds, r, hS, hr, hf, k⟩ => by
  unfold pTuple at hf
  split at hf
  · cases hf
    obtain ⟨v, rfl, rv⟩ := hr.one
    obtain ⟨a, xs, rfl, q1, _, q2⟩ := rv
    exact ⟨a, xs, rfl, .inl ⟨by rw [hK]; exact SqL.of q1, fun l hl => k.new hS hl ⟨l, xs, rfl, Tq.of upd_same, (Le.same (Same.new hl)).rpL q2⟩⟩⟩
  · cases hf
    obtain ⟨v, rfl, rv⟩ := hr.one
    obtain ⟨a, xs, rfl, q1, q2⟩ := rv
    exact ⟨a, xs, rfl, .inr ⟨by rw [hK]; exact q1.sq, k.here hS (v := .ref a) ⟨a, xs, rfl, q1, q2⟩⟩⟩
  · cases hf
theorem tyx {d : D} {v : V} {n : String} (h : tyD d = some n) (r : Rt G m H d v) : TyX G.K H v (.type n) := by
  cases d <;> simp only [tyD] at h <;> first | cases h; done | skip
  · cases h; obtain rfl : v = _ := r; exact .base .non
  · cases h; obtain rfl : v = _ := r; exact .base (.bl _)
  · cases h; obtain rfl : v = _ := r; exact .base (.int _)
  · cases h; obtain rfl : v = _ := r; exact .base (.str _)
  · cases h
    obtain ⟨a, xs, rfl, q1, _⟩ := r
    rcases q1.sq with (q1 | ⟨o, q1⟩) | ⟨o, its, n, q1, q2, _⟩
    · exact .base (.tup q1)
    · exact .fTuple q1
    · exact .kTuple q1 q2
  · cases h
    obtain ⟨a, xs, rfl, q1, _⟩ := r
    exact .base (.lst q1)
  · cases h
    obtain ⟨a, rfl, q1, _⟩ := r
    exact .base (.dK q1)
theorem c_isi (hK : X.K = G.K) : CallR X (.builtin "isinstance") (rC G pIsi) := callr_imp call_isi fun vs H Q ⟨m, S, ds, r, hS, hr, hf, k⟩ => by
  unfold pIsi at hf
  split at hf
  · obtain ⟨a, e, hf⟩ := Option.bind_eq_some_iff.mp hf
    obtain ⟨b, e2, rfl⟩ := Option.map_eq_some_iff.mp hf
    obtain ⟨v, v', rfl, rv, rv'⟩ := hr.two
    obtain rfl : v' = V.ty _ := rv'
    exact ⟨v, _, _, _, b, rfl, .ty _, by rw [hK]; exact tyx e rv, kit_ty e2, k.here hS (v := .bl _) rfl⟩
  · cases hf
theorem tCB_of {f : Store → List D → Option D} {r : DA} {Q : VK} (h : tE G W (dPr f r) σ H Q) : tCB (rC G f) (tB G W r) σ H Q := by
  obtain ⟨m, ρ, S, hS, hE, h⟩ := h
  refine ⟨m, ρ, S, hS, hE, (Aft.bind h).imp fun xs S1 m1 H1 l1 hS1 h1 vs rvs => ?_⟩
  obtain ⟨d, e, k⟩ := aft_opt h1
  exact ⟨m1, S1, xs, d, hS1, rvs, e, k⟩
theorem je_callB {id x : String} {f : Store → List D → Option D} {es : List Expr} {r : DA} (hc : CallR X (.builtin id) (rC G f)) (hg : Gl X x) (hm : X.mg x = none) (hv : bootBuiltins x = some (.builtin id)) (ha : PA X (e :: es) (tB G W r)) (hs : (e :: es).any starB = false)
    (hn : (x : Str) ≠ "__name__" := by decide) (hdb : ((x : Str) == ("__debug__" : Str)) = false := by decide) : PE X (.Call (.Name x p) (e :: es) [] pos) (tE G W (dPr f r)) := by
  rw [List.any_cons, Bool.or_eq_false_iff] at hs
  exact pe_imp (pe_callB hc hg hm hv ha hn hdb (starEach_plain hs.1) (backTo_plain hs.2)) fun _ _ _ h => tCB_of h
theorem je_callT {id x : String} {f : Store → List D → Option D} {es : List Expr} {r : DA} (hc : CallR X (.type id) (rC G f)) (hg : Gl X x) (hm : X.mg x = none) (hv : bootBuiltins x = some (.type id)) (ha : PA X (e :: es) (tB G W r)) (hs : (e :: es).any starB = false)
    (hn : (x : Str) ≠ "__name__" := by decide) (hdb : ((x : Str) == ("__debug__" : Str)) = false := by decide) : PE X (.Call (.Name x p) (e :: es) [] pos) (tE G W (dPr f r)) := by
  rw [List.any_cons, Bool.or_eq_false_iff] at hs
  exact pe_imp (pe_callTy hc hg hm hv ha hn hdb (starEach_plain hs.1) (backTo_plain hs.2)) fun _ _ _ h => tCB_of h
/-! ### what makes a new list -/
/-- a new list of ds -/
theorem AftL.new {ds : List D} {vs : List V} {Y : XK} {Q : VK} (h : AftL G m H Y (.ok ds S) Q) (hS : Holds G m H S) (r : RpL G m H ds vs) {l : Addr} (hl : H l = none) : Q (.ref l) (upd H l (.lst vs)) := by
  have s : Same H (upd H l (.lst vs)) := Same.new hl
  have lx : Lx G kAll m H (m.add l) (upd H l (.lst vs)) := Lx.add (Le.same s) hl
  refine h m _ l (Le.same s) hl ?_ ⟨vs, upd_same, lx.rpL r⟩
  exact hS.join Le.refl hl (by rw [upd_same]; simp)
def qList (_ : Store) : List D → Option (List D)
  | [.lst ds] => some ds
  | [.tup ds] => some ds
  | _ => none
def dPrL (f : Store → List D → Option (List D)) (r : DA) : DA := fun ρ S => (r ρ S).bind fun xs S => optM (f S xs) S
theorem aftL_opt {r : Option (List D)} {Y : XK} {Q : VK} (h : AftL G m H Y (optM r S) Q) : ∃ ds, r = some ds ∧ AftL G m H Y (.ok ds S) Q := by
  cases r with
  | none => exact h.elim
  | some d => exact ⟨d, rfl, h⟩
/-- [a, b, ..] -/
theorem jl_lst {es : List Expr} {r : DA} {k : Nat} (ha : PA X es (tA G W r)) : PE X (.List es pos) (tL G W (fun ρ S => (r ρ S).bind fun xs S => if xs.length ≤ sizeLine then .ok xs S else .bad)) :=
  pe_imp (pe_lst ha) fun σ H Q ⟨m, ρ, S, hS, hE, h⟩ => ⟨m, ρ, S, hS, hE, (AftL.of h).imp fun xs S1 m1 H1 l1 hS1 h1 vs rvs => by
    by_cases hz : xs.length ≤ sizeLine
    · rw [if_pos hz] at h1
      exact ⟨by rw [rvs.length]; exact hz, fun p hp => AftL.new h1 hS1 rvs hp⟩
    · rw [if_neg hz] at h1; exact h1.elim⟩
/-- list(x) -/
theorem jl_list {r : DA} {es : List Expr} (hK : X.K = G.K) (hg : Gl X "list") (hm : X.mg "list" = none) (ha : PA X (e :: es) (tB G W r)) (hs : (e :: es).any starB = false) : PE X (.Call (.Name "list" p) (e :: es) [] pos) (tL G W (dPrL qList r)) := by
  rw [List.any_cons, Bool.or_eq_false_iff] at hs
  exact pe_imp (pe_callTy call_list_of hg hm PyProof.Rows.boot_list ha (by decide) (by decide) (starEach_plain hs.1) (backTo_plain hs.2)) fun σ H Q ⟨m, ρ, S, hS, hE, h⟩ => ⟨m, ρ, S, hS, hE, (AftL.of h).imp fun xs S1 m1 H1 l1 hS1 h1 vs rvs => by
    obtain ⟨ds, e, h1⟩ := aftL_opt h1
    unfold qList at e
    split at e
    · cases e
      obtain ⟨v, rfl, rv⟩ := rvs.one
      obtain ⟨a, xs, rfl, q1, _, q2⟩ := rv
      exact ⟨a, xs, rfl, .inl (by rw [hK]; exact SqL.of q1), fun l hl => AftL.new h1 hS1 q2 hl⟩
    · cases e
      obtain ⟨v, rfl, rv⟩ := rvs.one
      obtain ⟨a, xs, rfl, q1, q2⟩ := rv
      exact ⟨a, xs, rfl, .inr (by rw [hK]; exact q1.sq), fun l hl => AftL.new h1 hS1 q2 hl⟩
    · cases e⟩
/-- list(range(a)) -/
def lrg (d : D) : Option (List D) := match d with
  | .int j => if j.natAbs ≤ 2 ^ 24 then some (rgD 0 j.toNat) else none
  | _ => none
def dLrg (d : DE) : DA := fun ρ S => (d ρ S).bind fun x S => optM (lrg x) S
theorem rgV_eq (a b : Int) : RpL G m H (rgD a (b - a).toNat) (rgV a b) := by
  unfold rgD rgV
  induction (List.range (b - a).toNat) with
  | nil => exact rfl
  | cons i l ih => exact ⟨_, _, rfl, rfl, ih⟩
theorem jl_rg {d : DE} {p2 q : Pos} (hc : X.calm = true) (hg : Gl X "list") (hm : X.mg "list" = none) (hg2 : Gl X "range") (hm2 : X.mg "range" = none) (ha : PE X a (tE G W d)) (hs : starB a = false) :
    PE X (.Call (.Name "list" p) [.Call (.Name "range" p2) [a] [] q] [] pos) (tL G W (dLrg d)) :=
  pe_imp (pe_listRg hc hg hm (prg_1 hg2 hm2 ha (starEach_plain hs)) (by rfl)) fun σ H Q ⟨m, ρ, S, hS, hE, h⟩ => ⟨m, ρ, S, hS, hE, (AftL.of h).imp fun x S1 m1 H1 l1 hS1 h1 v rv => by
    obtain ⟨ds, e, h1⟩ := aftL_opt h1
    unfold lrg at e
    split at e
    · rename_i j
      obtain ⟨b1, e⟩ := some_ifp e
      subst e
      refine ⟨j, rv, ⟨by omega, by omega, by omega, by omega, by omega⟩, fun l hl => AftL.new h1 hS1 ?_ hl⟩
      have := rgV_eq (G := G) (m := m1) (H := H1) 0 j
      rw [Int.sub_zero] at this
      exact this
    · cases e⟩
/-- sorted(set(t)), t a tuple of ints -/
def insI (x : Int) : List Int → List Int
  | [] => [x]
  | y :: ys => if x < y then x :: y :: ys else if x = y then y :: ys else y :: insI x ys
def setI : List Int → List Int
  | [] => []
  | x :: xs => insI x (setI xs)
theorem insI_mem {x k : Int} : ∀ {ys : List Int}, k ∈ insI x ys ↔ k = x ∨ k ∈ ys
  | [] => by simp [insI]
  | y :: ys => by
    unfold insI
    split
    · simp
    · split
      · rename_i h; subst h; simp
      · simp only [List.mem_cons, insI_mem (ys := ys)]
        constructor
        · rintro (h | h | h) <;> simp [h]
        · rintro (h | h | h) <;> simp [h]
theorem insI_pw {x : Int} : ∀ {ys : List Int}, ys.Pairwise (· < ·) → (insI x ys).Pairwise (· < ·)
  | [], _ => by simp [insI]
  | y :: ys, h => by
    obtain ⟨h1, h2⟩ := List.pairwise_cons.mp h
    unfold insI
    split
    · rename_i hl
      exact List.pairwise_cons.mpr ⟨fun z hz => by
        rcases List.mem_cons.mp hz with q | q
        · subst q; exact hl
        · have := h1 z q; omega, h⟩
    · split
      · exact h
      · rename_i n1 n2
        refine List.pairwise_cons.mpr ⟨fun z hz => ?_, insI_pw h2⟩
        rcases insI_mem.mp hz with q | q
        · subst q; omega
        · exact h1 z q
theorem setI_mem {k : Int} : ∀ {xs : List Int}, k ∈ setI xs ↔ k ∈ xs
  | [] => by simp [setI]
  | x :: xs => by
    unfold setI
    rw [insI_mem, setI_mem, List.mem_cons]
theorem setI_pw : ∀ {xs : List Int}, (setI xs).Pairwise (· < ·)
  | [] => List.Pairwise.nil
  | x :: xs => insI_pw setI_pw
theorem pw_unique : ∀ {xs ys : List Int}, xs.Pairwise (· < ·) → ys.Pairwise (· < ·) → (∀ k, k ∈ xs ↔ k ∈ ys) → xs = ys
  | [], [], _, _, _ => rfl
  | [], y :: ys, _, _, h => absurd ((h y).mpr List.mem_cons_self) (by simp)
  | x :: xs, [], _, _, h => absurd ((h x).mp List.mem_cons_self) (by simp)
  | x :: xs, y :: ys, h1, h2, h => by
    obtain ⟨a1, a2⟩ := List.pairwise_cons.mp h1
    obtain ⟨b1, b2⟩ := List.pairwise_cons.mp h2
    have e : x = y := by
      rcases List.mem_cons.mp ((h x).mp List.mem_cons_self) with q | q
      · exact q
      · rcases List.mem_cons.mp ((h y).mpr List.mem_cons_self) with q' | q'
        · exact q'.symm
        · have := b1 x q; have := a1 y q'; omega
    subst e
    rw [pw_unique a2 b2 fun k => ⟨fun hk => by
      rcases List.mem_cons.mp ((h k).mp (List.mem_cons_of_mem _ hk)) with q | q
      · subst q; have := a1 k hk; omega
      · exact q, fun hk => by
      rcases List.mem_cons.mp ((h k).mpr (List.mem_cons_of_mem _ hk)) with q | q
      · subst q; have := b1 k hk; omega
      · exact q⟩]
def qSortSet (d : D) : Option (List D) := match d with
  | .tup ds => (intsD ds).bind fun ns => if ns.length < 64 then some ((setI ns).map D.int) else none
  | _ => none
def dSortSet (d : DE) : DA := fun ρ S => (d ρ S).bind fun x S => optM (qSortSet x) S
theorem jl_sortSet {d : DE} {p2 q : Pos} (hc : X.calm = true) (hK : X.K = G.K) (hg : Gl X "sorted") (hm : X.mg "sorted" = none) (hg2 : Gl X "set") (hm2 : X.mg "set" = none) (ha : PE X a (tE G W d)) (hs : starB a = false) :
    PE X (.Call (.Name "sorted" p) [.Call (.Name "set" p2) [a] [] q] [] pos) (tL G W (dSortSet d)) :=
  pe_imp (pe_callB (cr_sortedSet hc) hg hm PyProof.Rows.boot_sorted (pa_cons (pe_callTy (cr_setTI hc) hg2 hm2 PyProof.Rows.boot_set (pa_cons ha pa_nil (starEach_plain hs)) (by decide) (by decide) (starEach_plain hs) (by rfl)) pa_nil (by rfl)) (by decide) (by decide) (by rfl) (by rfl))
    fun σ H Q ⟨m, ρ, S, hS, hE, h⟩ => ⟨m, ρ, S, hS, hE, (AftL.of h).imp fun x S1 m1 H1 l1 hS1 h1 v rv => by
    obtain ⟨ds, e, h1⟩ := aftL_opt h1
    unfold qSortSet at e
    split at e
    · obtain ⟨ns, e0, e⟩ := Option.bind_eq_some_iff.mp e
      obtain ⟨hl, rfl⟩ := some_ifp e
      obtain ⟨a, xs, rfl, q1, q2⟩ := rv
      rw [intsD_map e0] at q2
      obtain rfl := q2.ints
      refine ⟨a, ns, rfl, by rw [hK]; exact q1.sq, by omega, fun b T n hb hT hn => ⟨b, T, n, rfl, upd_same, by omega, fun ms p hp hm _ hpn => ?_⟩⟩
      have sm : Same H1 (upd H1 b (SetO X.w b T n)) := Same.new hb
      have e1 : ms = setI ns := pw_unique hp setI_pw fun k => by rw [hm k, setI_mem, hT k, decide_eq_true_iff]
      subst e1
      have h2 : AftL G m1 (upd H1 b (SetO X.w b T n)) (fun c x H' => W c x σ H') (.ok ((setI ns).map D.int) S1) Q := fun m' H' p' l hp' => h1 m' H' p' ((Le.same sm).trans l) (sm.free hp')
      exact AftL.new h2 (hS1.same sm) (RpL.ofInts _) hpn
    · cases e⟩
end
end Py

/-! Part 10: statements. -/
namespace Py
open PySem PySem.Spec PyProof.Rows L2

/-! ### slots' values: values, fresh lists -/
abbrev DQ := Env → M Sl
/-- what an expression gives to a slot -/
def AftQ (G : Gc) (m : Mu) (H : Hp) (Y : XK) (r : R Sl) (Q : VK) : Prop := match r with
  | .ok s S => ∀ m' H' v, Lx G kAll m H m' H' → (∀ a, m'.O a → m.O a ∨ ∃ ds, s = .own ds ∧ v = .ref a ∧ H a = none) → Holds G m' H' S → RpS G m' H' s v → (∀ ds a, s = .own ds → v = .ref a → H a = none) → Q v H'
  | .exc c S => ∀ m' H', Le G m H m' H' → Holds G m' H' S → ∀ ca, G.ad c = some ca → Y (.ref ca) none H'
  | .bad => False
def tQ (G : Gc) (W : WX) (q : DQ) : TE := fun σ H Q => Inp G σ H fun m ρ S => AftQ G m H (fun c x H' => W c x σ H') (q ρ S) Q
def qV (d : DE) : DQ := fun ρ S => (d ρ S).bind fun x S => .ok (.val x) S
def qO (d : DA) : DQ := fun ρ S => (d ρ S).bind fun x S => .ok (.own x) S
section
variable {G : Gc} {W : WX} {X : Cx} {e a b c tg : Expr} {m m' : Mu} {H H' : Hp} {S : Store} {σ : Sg} {pos p : Pos}
theorem tE_of {d : DE} {Q : VK} (h : tQ G W (qV d) σ H Q) : tE G W d σ H Q := by
  obtain ⟨m, ρ, S, hS, hE, h⟩ := h
  refine ⟨m, ρ, S, hS, hE, ?_⟩
  have h : AftQ G m H _ ((d ρ S).bind fun x S => .ok (.val x) S) Q := h
  show Aft G m H _ (d ρ S) fun r _ m' H' => ∀ v, Rp G m' H' r v → Q v H'
  cases q : d ρ S with
  | ok x S1 =>
    rw [q] at h
    exact fun m' H' l hS' v rv => h m' H' v l.lx (fun a z => .inl (by rw [l.O] at z; exact z)) hS' rv (fun _ _ z => by cases z)
  | exc c S1 =>
    rw [q] at h
    exact h
  | bad =>
    rw [q] at h
    exact h
theorem tL_of {d : DA} {Q : VK} (h : tQ G W (qO d) σ H Q) : tL G W d σ H Q := by
  obtain ⟨m, ρ, S, hS, hE, h⟩ := h
  refine ⟨m, ρ, S, hS, hE, ?_⟩
  have h : AftQ G m H _ ((d ρ S).bind fun x S => .ok (.own x) S) Q := h
  show AftL G m H _ (d ρ S) Q
  cases q : d ρ S with
  | ok x S1 =>
    rw [q] at h
    exact fun m' H' p l hp hS' ho => h (m'.add p) H' (.ref p) (Lx.add l hp) (fun a z => by
      rcases z with z | z
      · exact .inl (by rw [l.O] at z; exact z)
      · exact .inr ⟨x, rfl, by rw [z], by rw [z]; exact hp⟩) hS' ⟨p, rfl, .inr rfl, hS'.dis p (.inr rfl), ho⟩ (fun ds a _ z => by cases z; exact hp)
  | exc c S1 =>
    rw [q] at h
    exact h
  | bad =>
    rw [q] at h
    exact h
/-- a new list as a value that does not change any more -/
theorem tL_frz {d : DA} {Q : VK} (h : tE G W (dLst d) σ H Q) : tL G W d σ H Q := by
  obtain ⟨m, ρ, S, hS, hE, h⟩ := h
  refine ⟨m, ρ, S, hS, hE, ?_⟩
  have h : Aft G m H _ ((d ρ S).bind fun xs S => R.ok (D.lst xs) S) _ := h
  cases hd : d ρ S with
  | bad =>
    rw [hd] at h
    exact h.elim
  | exc c S1 =>
    rw [hd] at h
    show AftL G m H _ (d ρ S) Q
    rw [hd]
    exact h
  | ok ds S1 =>
    rw [hd] at h
    show AftL G m H _ (d ρ S) Q
    rw [hd]
    intro m' H' p l hp hS' ⟨xs, e1, e2⟩
    refine h m' H' l hS'.drop (.ref p) ⟨p, xs, rfl, e1, ?_, Mu.add_rpL e2⟩
    rintro (q | q)
    · exact hS'.dis p (.inr rfl) q
    · rw [l.O] at q
      exact hS.there p q hp
/-- a new list as an object of the store -/
def dNew (r : DA) : DE := fun ρ S => (r ρ S).bind fun xs S => .ok (.ref S.length) (S ++ [.lst xs])
theorem Le.grow {p : Addr} (l : Le G m H m' H') (hp : H p = none) : Le G m H ⟨m'.as ++ [p], m'.O⟩ H' := by
  obtain ⟨e, e1, e2⟩ := l.as
  refine ⟨⟨e ++ [p], by rw [e1, List.append_assoc], fun a ha => ?_⟩, l.O, l.kept, l.tups, l.there⟩
  rcases List.mem_append.mp ha with q | q
  · exact e2 a q
  · rw [List.mem_singleton.mp q]; exact hp
theorem rp_grow {p : Addr} {ds : List D} {xs : List V} (h : RpL G (m.add p) H ds xs) : RpL G ⟨m.as ++ [p], m.O⟩ H ds xs :=
  RpL.mono (m := m.add p) (m' := ⟨m.as ++ [p], m.O⟩) (H := H) (H' := H) (fun n a q => by
    have q : m.as[n]? = some a := q
    show (m.as ++ [p])[n]? = some a
    rw [List.getElem?_append_left (List.getElem?_eq_some_iff.mp q).1]; exact q) (fun _ _ z => z) (fun a o z n => ⟨z, fun q => n (by
    rcases q with q | q
    · rcases List.mem_append.mp q with q | q
      · exact .inl q
      · exact .inr (.inr (List.mem_singleton.mp q))
    · exact .inr (.inl q))⟩) ds xs h
theorem Holds.grow {p : Addr} {ds : List D} (h : Holds G (m.add p) H S) (ho : Ol G (m.add p) H ds p) (hn : ¬ m.O p) : Holds G ⟨m.as ++ [p], m.O⟩ H (S ++ [.lst ds]) := by
  have pn : p ∉ m.as := h.dis p (.inr rfl)
  have hl : m.as.length = S.length := h.len
  refine ⟨by simp [hl], ?_, fun n ob a e1 e2 => ?_, fun a q z => ?_, fun a q => h.there a (.inl q)⟩
  · show (m.as ++ [p]).Nodup
    rw [List.nodup_append]
    exact ⟨h.nd, by simp, fun a ha b hb => by
      rw [List.mem_singleton.mp hb]
      exact fun z => pn (z ▸ ha)⟩
  · have e2 : (m.as ++ [p])[n]? = some a := e2
    by_cases hn : n < S.length
    · rw [List.getElem?_append_left hn] at e1
      rw [List.getElem?_append_left (by rw [hl]; exact hn)] at e2
      refine (h.ob n ob a e1 e2).mono (fun _ e => e) fun d v r => ?_
      obtain ⟨v', r', e', q, _⟩ := rp_grow (ds := [d]) (xs := [v]) ⟨v, [], rfl, r, rfl⟩
      cases e'
      exact q
    · rw [List.getElem?_append_right (by omega)] at e1
      rw [List.getElem?_append_right (by rw [hl]; omega)] at e2
      have hn2 : n - S.length = 0 := by
        have := (List.getElem?_eq_some_iff.mp e1).1
        simp at this
        omega
      rw [hn2] at e1
      rw [hl, hn2] at e2
      cases e1
      cases e2
      obtain ⟨xs, e, r⟩ := ho
      exact ⟨xs, e, rp_grow r⟩
  · have z : a ∈ m.as ++ [p] := z
    rcases List.mem_append.mp z with z | z
    · exact h.dis a (.inl q) z
    · rw [List.mem_singleton.mp z] at q
      exact hn q
theorem tL_new {d : DA} {Q : VK} (h : tE G W (dNew d) σ H Q) : tL G W d σ H Q := by
  obtain ⟨m, ρ, S, hS, hE, h⟩ := h
  refine ⟨m, ρ, S, hS, hE, ?_⟩
  have h : Aft G m H _ ((d ρ S).bind fun xs S => R.ok (D.ref S.length) (S ++ [Ob.lst xs])) _ := h
  cases hd : d ρ S with
  | bad =>
    rw [hd] at h
    exact h.elim
  | exc c S1 =>
    rw [hd] at h
    show AftL G m H _ (d ρ S) Q
    rw [hd]
    exact h
  | ok ds S1 =>
    rw [hd] at h
    show AftL G m H _ (d ρ S) Q
    rw [hd]
    intro m' H' p l hp hS' ho
    have hn : ¬ m'.O p := fun q => by
      rw [l.O] at q
      exact hS.there p q hp
    refine h _ H' (l.grow hp) (hS'.grow ho hn) (.ref p) ⟨p, rfl, ?_⟩
    have hl : m'.as.length = S1.length := hS'.len
    show (m'.as ++ [p])[S1.length]? = some p
    rw [← hl]
    simp
theorem je_new {d : DA} (h : PE X e (tL G W d)) : PE X e (tE G W (dNew d)) := pe_imp h fun _ _ _ q => tL_new q
end

/-! ### statements: what they do -/
inductive Out where
  | nx (ρ : Env) | br (ρ : Env) | ct (ρ : Env) | rt (d : D) | ex (c : Nat) (ρ : Env)
abbrev Res := Option (Out × Store)
abbrev DS := Env → Store → Res
def rS {α : Type} (r : R α) (ρ : Env) (k : α → Store → Res) : Res := match r with
  | .ok a S => k a S
  | .exc c S => some (.ex c ρ, S)
  | .bad => none
def dSeq (a b : DS) : DS := fun ρ S => match a ρ S with
  | some (.nx ρ', S') => b ρ' S'
  | r => r
def dNop : DS := fun ρ S => some (.nx ρ, S)
def dSet (i : Nat) (q : DQ) : DS := fun ρ S => rS (q ρ S) ρ fun s S => some (.nx (ρ.set i (some s)), S)
def dBnd (d : DE) (g : DG) : DS := fun ρ S => rS (d ρ S) ρ fun x S => match g x ρ with
  | some ρ' => some (.nx ρ', S)
  | none => none
def dPar2 (i j : Nat) (q q' : DQ) : DS := fun ρ S => rS (q ρ S) ρ fun s S => rS (q' ρ S) ρ fun s' S => some (.nx ((ρ.set i (some s)).set j (some s')), S)
def dPar3 (i j l : Nat) (q q' q'' : DQ) : DS := fun ρ S => rS (q ρ S) ρ fun s S => rS (q' ρ S) ρ fun s' S => rS (q'' ρ S) ρ fun s'' S => some (.nx (((ρ.set i (some s)).set j (some s')).set l (some s'')), S)
def dRet (d : DE) : DS := fun ρ S => rS (d ρ S) ρ fun x S => some (.rt x, S)
def dRetN : DS := fun ρ S => some (.rt .non, S)
def dDrop (d : DE) : DS := fun ρ S => rS (d ρ S) ρ fun x S => some (.nx ρ, S)
def dIfS (t : DT) (a b : DS) : DS := fun ρ S => rS (t ρ S) ρ fun c S => if c = true then a ρ S else b ρ S
def dBrk : DS := fun ρ S => some (.br ρ, S)
def dCnt : DS := fun ρ S => some (.ct ρ, S)
def dBad : DS := fun _ _ => none
/-- a list of one's own does not change any more -/
def dFrz (i : Nat) : DS := fun ρ S => match ρ[i]? with
  | some (some (.own ds)) => some (.nx (ρ.set i (some (.val (.lst ds)))), S)
  | _ => none
/-- x.append(e) -/
def dApp (i : Nat) (d : DE) : DS := fun ρ S => rS (d ρ S) ρ fun y S => match ρ[i]? with
  | some (some (.own ds)) => if ds.length < sizeLine then some (.nx (ρ.set i (some (.own (ds ++ [y])))), S) else none
  | _ => none
/-- o[i] = v, o a list of the store -/
def stSet (S : Store) (o i v : D) : Option Store := match o, i with
  | .ref n, .int k => match S[n]? with
    | some (.lst ds) => (ixN ds.length k).map fun j => S.set n (.lst (ds.set j v))
    | _ => none
  | _, _ => none
def dSto (v o i : DE) : DS := fun ρ S => rS (v ρ S) ρ fun x S => rS (o ρ S) ρ fun y S => rS (i ρ S) ρ fun z S => match stSet S y z x with
  | some S' => some (.nx ρ, S')
  | none => none
def forRun (g : DG) (b : DS) : List D → DS
  | [], ρ, S => some (.nx ρ, S)
  | d :: ds, ρ, S => match g d ρ with
    | none => none
    | some ρ' => match b ρ' S with
      | some (.nx ρ2, S2) => forRun g b ds ρ2 S2
      | some (.ct ρ2, S2) => forRun g b ds ρ2 S2
      | some (.br ρ2, S2) => some (.nx ρ2, S2)
      | r => r
def dFor (di : DI) (g : DG) (b : DS) : DS := fun ρ S => rS (di ρ S) ρ fun ds S => forRun g b ds ρ S
def whRun (t : DT) (b : DS) : Nat → DS
  | 0, _, _ => none
  | n + 1, ρ, S => rS (t ρ S) ρ fun c S => if c = true then match b ρ S with
      | some (.nx ρ2, S2) => whRun t b n ρ2 S2
      | some (.ct ρ2, S2) => whRun t b n ρ2 S2
      | some (.br ρ2, S2) => some (.nx ρ2, S2)
      | r => r
    else some (.nx ρ, S)

/-! ### .. read -/
structure RpF (G : Gc) (kp : Addr → Prop) (m : Mu) (H : Hp) (ρ : Env) (σ : Sg) : Prop where
  rp : RpE G m H ρ σ
  sub : ∀ a, kp a → m.O a
  own : ∀ (i : Nat) (ds : List D) (a : Addr), ρ[i]? = some (some (.own ds)) → σ[i]? = some (some (.ref a)) → ¬ kp a
def AftS (G : Gc) (W : WX) (kp : Addr → Prop) (m : Mu) (H : Hp) (D : Ends) (r : Res) : Prop := match r with
  | none => False
  | some (.nx ρ, S) => ∀ m' H' σ', Lx G kp m H m' H' → Holds G m' H' S → RpF G kp m' H' ρ σ' → D.nx σ' H'
  | some (.br ρ, S) => ∀ m' H' σ', Lx G kp m H m' H' → Holds G m' H' S → RpF G kp m' H' ρ σ' → D.bk σ' H'
  | some (.ct ρ, S) => ∀ m' H' σ', Lx G kp m H m' H' → Holds G m' H' S → RpF G kp m' H' ρ σ' → D.ct σ' H'
  | some (.rt d, S) => ∀ m' H' v, Lx G kp m H m' H' → (∀ a, kp a → m'.O a) → Holds G m' H' S → Rp G m' H' d v → D.rt v H'
  | some (.ex c ρ, S) => ∀ m' H' σ', Lx G kp m H m' H' → Holds G m' H' S → RpF G kp m' H' ρ σ' → ∀ ca, G.ad c = some ca → W (.ref ca) none σ' H'
def tS (G : Gc) (W : WX) (d : DS) : TS := fun D σ H => ∃ kp m ρ S, Holds G m H S ∧ RpF G kp m H ρ σ ∧ AftS G W kp m H D (d ρ S)
section
variable {G : Gc} {W : WX} {X : Cx} {e a b c tg : Expr} {m m' : Mu} {H H' : Hp} {S : Store} {σ : Sg} {pos p : Pos} {kp : Addr → Prop} {ρ : Env} {st : Stmt} {rest : List Stmt} {Dn Dn' : Ends} {r : Res}
theorem AftS.later (h : AftS G W kp m H Dn r) (l : Lx G kp m H m' H') : AftS G W kp m' H' Dn r := by
  cases r with
  | none => exact h
  | some x =>
    obtain ⟨o, S⟩ := x
    cases o with
    | nx ρ => exact fun m2 H2 σ2 l2 => h m2 H2 σ2 (l.trans l2)
    | br ρ => exact fun m2 H2 σ2 l2 => h m2 H2 σ2 (l.trans l2)
    | ct ρ => exact fun m2 H2 σ2 l2 => h m2 H2 σ2 (l.trans l2)
    | rt d => exact fun m2 H2 v l2 => h m2 H2 v (l.trans l2)
    | ex c ρ => exact fun m2 H2 σ2 l2 => h m2 H2 σ2 (l.trans l2)
theorem RpF.le (F : RpF G kp m H ρ σ) (l : Le G m H m' H') : RpF G kp m' H' ρ σ := ⟨F.rp.le l, fun a h => by rw [l.O]; exact F.sub a h, F.own⟩
theorem ps_imp {t t' : TS} (h : PS X st t) (k : ∀ D σ H, t' D σ H → t D σ H) : PS X st t' := ⟨fun pins s σ H D I q => h.run pins s σ H D I (k D σ H q)⟩
theorem pss_imp {sts : List Stmt} {t t' : TS} (h : PSs X sts t) (k : ∀ D σ H, t' D σ H → t D σ H) : PSs X sts t' := ⟨fun pins s σ H D I q => h.run pins s σ H D I (k D σ H q)⟩
/-- a statement that begins with an expression's value -/
theorem AftS.rS {α : Type} {q : R α} {k : α → Store → Res} (h : AftS G W kp m H Dn (Py.rS q ρ k)) (F : RpF G kp m H ρ σ) : Aft G m H (fun c x H' => W c x σ H') q fun a S m' H' => AftS G W kp m' H' Dn (k a S) := by
  cases q with
  | ok a S => exact fun m' H' l hS => AftS.later (show AftS G W kp m H Dn (k a S) from h) l.lx
  | exc c S => exact fun m' H' l hS ca e => h m' H' σ l.lx hS (F.le l) ca e
  | bad => exact h
theorem jss_nil : PSs X [] (tS G W dNop) := pss_imp pss_nil fun D σ H ⟨kp, m, ρ, S, hS, F, h⟩ => h m H σ Lx.refl hS F
theorem seq_of {a b : DS} (h : tS G W (dSeq a b) Dn σ H) : tS G W a { Dn with nx := tS G W b Dn } σ H := by
  obtain ⟨kp, m, ρ, S, hS, F, h⟩ := h
  refine ⟨kp, m, ρ, S, hS, F, ?_⟩
  unfold dSeq at h
  cases q : a ρ S with
  | none => rw [q] at h; exact h
  | some x =>
    obtain ⟨o, S1⟩ := x
    rw [q] at h
    cases o with
    | nx ρ1 => exact fun m' H' σ' l hS' F' => ⟨kp, m', ρ1, S1, hS', F', AftS.later h l⟩
    | br ρ1 => exact h
    | ct ρ1 => exact h
    | rt d => exact h
    | ex c ρ1 => exact h
theorem jss_cons {a b : DS} (h1 : PS X st (tS G W a)) (h2 : PSs X rest (tS G W b)) : PSs X (st :: rest) (tS G W (dSeq a b)) := pss_imp (pss_cons h1 h2) fun D σ H h => seq_of h
theorem jss_one {a : DS} (h1 : PS X st (tS G W a)) : PSs X [st] (tS G W a) := pss_one h1
theorem js_pass : PS X (.Pass pos) (tS G W dNop) := ps_imp ps_pass fun D σ H ⟨kp, m, ρ, S, hS, F, h⟩ => h m H σ Lx.refl hS F
theorem js_brk : PS X (.Break pos) (tS G W dBrk) := ps_imp ps_break fun D σ H ⟨kp, m, ρ, S, hS, F, h⟩ => h m H σ Lx.refl hS F
theorem js_cnt : PS X (.Continue pos) (tS G W dCnt) := ps_imp ps_continue fun D σ H ⟨kp, m, ρ, S, hS, F, h⟩ => h m H σ Lx.refl hS F
/-- code that is not come to -/
theorem js_bad : PS X st (tS G W dBad) := ps_imp ps_never fun D σ H ⟨kp, m, ρ, S, hS, F, h⟩ => h
theorem js_ret {d : DE} (h : PE X e (tE G W d)) : PS X (.Return (some e) pos) (tS G W (dRet d)) := ps_imp (ps_ret h) fun D σ H ⟨kp, m, ρ, S, hS, F, h⟩ =>
  ⟨m, ρ, S, hS, F.rp, (AftS.rS h F).imp fun x S1 m1 H1 l1 hS1 h1 v rv => h1 m1 H1 v Lx.refl (fun a z => by rw [l1.O]; exact F.sub a z) hS1 rv⟩
theorem js_retN : PS X (.Return none pos) (tS G W dRetN) := ps_imp ps_retN fun D σ H ⟨kp, m, ρ, S, hS, F, h⟩ => h m H .non Lx.refl F.sub hS rfl
theorem js_if {t : DT} {x y : DS} {sa sb : List Stmt} (hc : PT X c (tT G W t)) (ha : PSs X sa (tS G W x)) (hb : PSs X sb (tS G W y)) : PS X (.If c sa sb pos) (tS G W (dIfS t x y)) :=
  ps_imp (ps_if hc ha hb) fun D σ H ⟨kp, m, ρ, S, hS, F, h⟩ => ⟨m, ρ, S, hS, F.rp, (AftS.rS h F).imp fun c S1 m1 H1 l1 hS1 h1 => by
    cases c with
    | true => exact iteT ⟨kp, m1, ρ, S1, hS1, F.le l1, h1⟩
    | false => exact iteF ⟨kp, m1, ρ, S1, hS1, F.le l1, h1⟩⟩
theorem js_drop {d : DE} (he : PE X e (tE G W d)) (hs : swapsWith e none pos.line X.env = pure false) : PS X (.Expr e pos) (tS G W (dDrop d)) := ps_imp (ps_expr he hs) fun D σ H ⟨kp, m, ρ, S, hS, F, h⟩ =>
  ⟨m, ρ, S, hS, F.rp, (AftS.rS h F).imp fun x S1 m1 H1 l1 hS1 h1 v rv => h1 m1 H1 σ Lx.refl hS1 (F.le l1)⟩

/-! slots -/
theorem RpE.setS {s : Sl} {v : V} (E : RpE G m H ρ σ) (r : RpS G m H s v) (i : Nat) (fr : ∀ ds a, s = .own ds → v = .ref a → ∀ j es, j ≠ i → ρ[j]? = some (some (.own es)) → σ[j]? ≠ some (some (V.ref a))) : RpE G m H (ρ.set i (some s)) (σ.set i (some v)) := by
  refine ⟨fun j s' h => ?_, fun j k ds es a h1 h2 h3 h4 => ?_, by simp [E.len]⟩
  · rcases set_get h with ⟨e, hl, e2⟩ | ⟨e, h⟩
    · subst e e2
      have : j < σ.length := E.len ▸ hl
      exact ⟨v, by simp [this], r⟩
    · obtain ⟨w, q1, q2⟩ := E.at_ j s' h
      exact ⟨w, by rw [List.getElem?_set_ne (fun z => e z.symm)]; exact q1, q2⟩
  · rcases set_get h1 with ⟨e1, l1, e⟩ | ⟨e, g1⟩
    · rcases set_get h2 with ⟨e2, l2, e'⟩ | ⟨e', g2⟩
      · rw [e1, e2]
      · subst e1 e
        have hv : v = .ref a := by
          have : j < σ.length := E.len ▸ l1
          rw [List.getElem?_set_self this] at h3
          exact Option.some.inj (Option.some.inj h3)
        rw [List.getElem?_set_ne (fun z => e' z.symm)] at h4
        exact absurd h4 (fr ds a rfl hv k es e' g2)
    · rcases set_get h2 with ⟨e2, l2, e'⟩ | ⟨e', g2⟩
      · subst e2 e'
        have hv : v = .ref a := by
          have : k < σ.length := E.len ▸ l2
          rw [List.getElem?_set_self this] at h4
          exact Option.some.inj (Option.some.inj h4)
        rw [List.getElem?_set_ne (fun z => e z.symm)] at h3
        exact absurd h3 (fr es a rfl hv j ds e g1)
      · rw [List.getElem?_set_ne (fun z => e z.symm)] at h3
        rw [List.getElem?_set_ne (fun z => e' z.symm)] at h4
        exact E.inj j k ds es a g1 g2 h3 h4
theorem RpF.setS {s : Sl} {v : V} (F : RpF G kp m H ρ σ) (r : RpS G m H s v) (i : Nat) (fr : ∀ ds a, s = .own ds → v = .ref a → ¬ kp a ∧ ∀ j es, j ≠ i → ρ[j]? = some (some (.own es)) → σ[j]? ≠ some (some (V.ref a))) : RpF G kp m H (ρ.set i (some s)) (σ.set i (some v)) :=
  ⟨F.rp.setS r i fun ds a e1 e2 => (fr ds a e1 e2).2, F.sub, fun j ds a h1 h2 => by
    rcases set_get h1 with ⟨e, hl, e2⟩ | ⟨e, h⟩
    · subst e
      have : j < σ.length := F.rp.len ▸ hl
      rw [List.getElem?_set_self this] at h2
      exact (fr ds a e2.symm (Option.some.inj (Option.some.inj h2))).1
    · rw [List.getElem?_set_ne (fun z => e z.symm)] at h2
      exact F.own j ds a h h2⟩
/-- the address of a list of one's own is known -/
theorem RpE.known (E : RpE G m H ρ σ) {j : Nat} {es : List D} {a : Addr} (h : ρ[j]? = some (some (.own es))) (h2 : σ[j]? = some (some (V.ref a))) : m.O a ∧ a ∉ m.as ∧ ∃ xs, H a = some (.lst xs) ∧ RpL G m H es xs := by
  obtain ⟨v, q1, b, e, q2, q3, xs, q4, q5⟩ := E.at_ j _ h
  rw [h2] at q1
  cases Option.some.inj q1
  cases e
  exact ⟨q2, q3, xs, q4, q5⟩
/-- a slot takes what an expression gave -/
theorem RpF.take {s : Sl} {v : V} (F : RpF G kp m H ρ σ) (hS : Holds G m H S) (l : Lx G kAll m H m' H') (r : RpS G m' H' s v) (fr : ∀ ds a, s = .own ds → v = .ref a → H a = none) (i : Nat) : RpF G kp m' H' (ρ.set i (some s)) (σ.set i (some v)) := by
  have F1 : RpF G kp m' H' ρ σ := ⟨F.rp.lx l, fun a h => l.O2 a (F.sub a h) trivial, F.own⟩
  refine F1.setS r i fun ds a e1 e2 => ⟨fun q => hS.there a (F.sub a q) (fr ds a e1 e2), fun j es _ h1 h2 => ?_⟩
  obtain ⟨_, _, xs, q, _⟩ := F.rp.known h1 h2
  rw [fr ds a e1 e2] at q; cases q
theorem Lx.weak (l : Lx G kAll m H m' H') : Lx G kp m H m' H' := ⟨l.as, l.O1, fun a h _ => l.O2 a h trivial, fun a o h n _ => l.kept a o h n fun _ => trivial, l.tups, l.there⟩
theorem AftS.rQ {q : R Sl} {k : Sl → Store → Res} (h : AftS G W kp m H Dn (Py.rS q ρ k)) (F : RpF G kp m H ρ σ) {Q : VK}
    (hk : ∀ s S m' H' v, Lx G kAll m H m' H' → Holds G m' H' S → RpS G m' H' s v → (∀ ds a, s = .own ds → v = .ref a → H a = none) → AftS G W kp m' H' Dn (k s S) → Q v H') : AftQ G m H (fun c x H' => W c x σ H') q Q := by
  cases q with
  | ok s S => exact fun m' H' v l _ hS r fr => hk s S m' H' v l hS r fr (AftS.later (show AftS G W kp m H Dn (k s S) from h) l.weak)
  | exc c S => exact fun m' H' l hS ca e => h m' H' σ l.lx hS (F.le l) ca e
  | bad => exact h
/-- x = e -/
theorem js_set {i : Nat} {q : DQ} (h : PS X st (tAsg (tQ G W q) (gName i))) : PS X st (tS G W (dSet i q)) := ps_imp h fun D σ H ⟨kp, m, ρ, S, hS, F, h⟩ =>
  ⟨m, ρ, S, hS, F.rp, AftS.rQ h F fun s S1 m1 H1 v l hS1 r fr h1 => h1 m1 H1 _ Lx.refl hS1 (F.take hS l r fr i)⟩
theorem asg_imp {te te' : TE} {g : TG} (h : PS X st (tAsg te g)) (k : ∀ σ H Q, te' σ H Q → te σ H Q) : PS X st (tAsg te' g) := ps_imp h fun D σ H q => k _ _ _ q
/-- pattern = e -/
theorem js_bnd {d : DE} {g : DG} {vs : List Nat} (h : PS X st (tAsg (tE G W d) (tG G vs g))) : PS X st (tS G W (dBnd d g)) := ps_imp h fun D σ H ⟨kp, m, ρ, S, hS, F, h⟩ =>
  ⟨m, ρ, S, hS, F.rp, (AftS.rS h F).imp fun x S1 m1 H1 l1 hS1 h1 v rv => by
    cases q : g x ρ with
    | none => rw [q] at h1; exact h1.elim
    | some ρ' =>
      rw [q] at h1
      have F1 := F.le l1
      refine ⟨m1, ρ, S1, x, hS1, F1.rp, rv, ρ', q, fun σ' bn => h1 m1 H1 σ' Lx.refl hS1 ⟨bn.rp, F1.sub, fun i ds a e1 e2 => ?_⟩⟩
      obtain ⟨k1, k2⟩ := bn.own i ds e1
      exact F1.own i ds a k1 (by rw [← k2]; exact e2)⟩
theorem js_par2 {i j : Nat} {q q' : DQ} (h : PS X st (tPar i j (tCons (tQ G W q) (tCons (tQ G W q') tNil)))) : PS X st (tS G W (dPar2 i j q q')) := ps_imp h fun D σ H ⟨kp, m, ρ, S, hS, F, h⟩ =>
  ⟨m, ρ, S, hS, F.rp, AftS.rQ h F fun s S1 m1 H1 v l hS1 r fr h1 => by
    have F1 : RpF G kp m1 H1 ρ σ := ⟨F.rp.lx l, fun a h => l.O2 a (F.sub a h) trivial, F.own⟩
    refine ⟨m1, ρ, S1, hS1, F1.rp, AftS.rQ h1 F1 fun s' S2 m2 H2 v' l2 hS2 r' fr' h2 => ⟨v, v', rfl, h2 m2 H2 _ Lx.refl hS2 ?_⟩⟩
    have F2 : RpF G kp m2 H2 (ρ.set i (some s)) (σ.set i (some v)) := F.take hS (l.trans l2) (l2.rps r) fr i
    refine F2.setS r' j fun ds a e1 e2 => ⟨fun z => hS1.there a (F1.sub a z) (fr' ds a e1 e2), fun k es _ k1 k2 => ?_⟩
    have F3 : RpF G kp m1 H1 (ρ.set i (some s)) (σ.set i (some v)) := F.take hS l r fr i
    obtain ⟨_, _, xs, z, _⟩ := F3.rp.known k1 k2
    rw [fr' ds a e1 e2] at z; cases z⟩
theorem js_par3 {i j n : Nat} {q q' q'' : DQ} (h : PS X st (tPar3 i j n (tCons (tQ G W q) (tCons (tQ G W q') (tCons (tQ G W q'') tNil))))) : PS X st (tS G W (dPar3 i j n q q' q'')) := ps_imp h fun D σ H ⟨kp, m, ρ, S, hS, F, h⟩ =>
  ⟨m, ρ, S, hS, F.rp, AftS.rQ h F fun s S1 m1 H1 v l hS1 r fr h1 => by
    have F1 : RpF G kp m1 H1 ρ σ := ⟨F.rp.lx l, fun a h => l.O2 a (F.sub a h) trivial, F.own⟩
    refine ⟨m1, ρ, S1, hS1, F1.rp, AftS.rQ h1 F1 fun s' S2 m2 H2 v' l2 hS2 r' fr' h2 => ?_⟩
    have F2 : RpF G kp m2 H2 ρ σ := ⟨F1.rp.lx l2, fun a h => l2.O2 a (F1.sub a h) trivial, F1.own⟩
    refine ⟨m2, ρ, S2, hS2, F2.rp, AftS.rQ h2 F2 fun s'' S3 m3 H3 v'' l3 hS3 r'' fr'' h3 => ⟨v, v', v'', rfl, h3 m3 H3 _ Lx.refl hS3 ?_⟩⟩
    have A1 : RpF G kp m1 H1 (ρ.set i (some s)) (σ.set i (some v)) := F.take hS l r fr i
    have A2 : ∀ (m2 : Mu) (H2 : Hp), Lx G kAll m1 H1 m2 H2 → RpS G m2 H2 s' v' → RpF G kp m2 H2 ((ρ.set i (some s)).set j (some s')) ((σ.set i (some v)).set j (some v')) := fun m2 H2 l2 r' => A1.take hS1 l2 r' fr' j
    exact (A2 m2 H2 l2 r').take hS2 l3 r'' fr'' n⟩
end
end Py

/-! Part 11: lists of one's own, stores, loops, calls, defs. -/
namespace Py
open PySem PySem.Spec PyProof.Rows L2
section
variable {G : Gc} {W : WX} {X : Cx} {e a b c tg : Expr} {m m' : Mu} {H H' : Hp} {S : Store} {σ : Sg} {pos p : Pos} {kp : Addr → Prop} {ρ : Env} {st : Stmt} {rest : List Stmt} {Dn Dn' : Ends} {r : Res}

/-! ### a list of one's own does not change any more -/
def Mu.del (m : Mu) (p : Addr) : Mu := ⟨m.as, fun b => m.O b ∧ b ≠ p⟩
theorem Mu.del_lx {p : Addr} (hk : ¬ kp p) : Lx G kp m H (m.del p) H :=
  ⟨⟨[], by simp [Mu.del], by simp⟩, fun a h => .inl h.1, fun a h k => ⟨h, fun z => hk (z ▸ k)⟩, fun a o h _ _ => h, fun _ _ h => h, fun _ h => h⟩
theorem Holds.del {p : Addr} (h : Holds G m H S) (hk : ¬ kp p) : Holds G (m.del p) H S :=
  ⟨h.len, h.nd, fun n ob a e1 e2 => by
    have l : Lx G kp m H (m.del p) H := Mu.del_lx hk
    exact (h.ob n ob a e1 e2).mono (fun _ e => e) fun d v r => l.rp r, fun a q => h.dis a q.1, fun a q => h.there a q.1⟩
theorem RpF.frz {i : Nat} {ds : List D} {a : Addr} (F : RpF G kp m H ρ σ) (h : ρ[i]? = some (some (.own ds))) (h2 : σ[i]? = some (some (.ref a))) : RpF G kp (m.del a) H (ρ.set i (some (.val (.lst ds)))) σ := by
  have hk := F.own i ds a h h2
  have l : Lx G kp m H (m.del a) H := Mu.del_lx hk
  obtain ⟨kO, ka, xs, e, r⟩ := F.rp.known h h2
  refine ⟨⟨fun j s q => ?_, fun j k es fs b q1 q2 q3 q4 => ?_, by simp [F.rp.len]⟩, fun b z => ⟨F.sub b z, fun q => hk (q ▸ z)⟩, fun j es b q1 q2 => ?_⟩
  · rcases set_get q with ⟨e1, hl, e2⟩ | ⟨e1, q⟩
    · subst e1 e2
      exact ⟨_, h2, a, xs, rfl, e, fun z => by
        rcases z with z | z
        · exact ka z
        · exact z.2 rfl, l.rpL r⟩
    · obtain ⟨v, q1, q2⟩ := F.rp.at_ j s q
      refine ⟨v, q1, ?_⟩
      cases s with
      | val d => exact l.rp q2
      | own es =>
        obtain ⟨b, e3, o1, o2, ys, o3, o4⟩ := q2
        subst e3
        exact ⟨b, rfl, ⟨o1, fun z => e1 (F.rp.inj j i es ds a q h (z ▸ q1) h2)⟩, o2, ys, o3, l.rpL o4⟩
  · rcases set_get q1 with ⟨_, _, z⟩ | ⟨e1, q1⟩
    · cases z
    rcases set_get q2 with ⟨_, _, z⟩ | ⟨e2, q2⟩
    · cases z
    exact F.rp.inj j k es fs b q1 q2 q3 q4
  · rcases set_get q1 with ⟨_, _, z⟩ | ⟨e1, q1⟩
    · cases z
    exact F.own j es b q1 q2
theorem AftS.back (l : Lx G kp m H m' H') (h : AftS G W kp m H Dn r) : AftS G W kp m' H' Dn r := AftS.later h l
theorem frz_of {i : Nat} {d : DS} (h : tS G W (dSeq (dFrz i) d) Dn σ H) : tS G W d Dn σ H := by
  obtain ⟨kp, m, ρ, S, hS, F, h⟩ := h
  unfold dSeq dFrz at h
  split at h
  · rename_i ρ' S' e
    split at e
    · rename_i ds hd
      cases e
      obtain ⟨v, q1, a, e, q2, q3, q4⟩ := F.rp.at_ i _ hd
      subst e
      have hk := F.own i ds a hd q1
      exact ⟨kp, m.del a, _, S, hS.del hk, F.frz hd q1, AftS.later h (Mu.del_lx hk)⟩
    · cases e
  · rename_i h2
    revert h
    split at h2
    · exact absurd rfl (h2 _ _)
    · exact fun h => h.elim
theorem jss_frz {i : Nat} {d : DS} {sts : List Stmt} (h : PSs X sts (tS G W d)) : PSs X sts (tS G W (dSeq (dFrz i) d)) := pss_imp h fun _ _ _ q => frz_of q

/-! ### it grows -/
theorem Lx.putK {L : Addr} {ys xs : List V} (hk : ¬ kp L) (hO : m.O L) (h : H L = some (.lst ys)) : Lx G kp m H m (upd H L (.lst xs)) := by
  have l : Lx G (fun a => a ≠ L) m H m (upd H L (.lst xs)) := Lx.put hO h
  exact ⟨l.as, l.O1, fun a q _ => q, fun a o e n k => l.kept a o e n fun z => fun q => hk (q ▸ k z), l.tups, l.there⟩
theorem RpF.upd {i : Nat} {ds ds' : List D} {a : Addr} {xs ys : List V} (F : RpF G kp m H ρ σ) (h : ρ[i]? = some (some (.own ds))) (h2 : σ[i]? = some (some (.ref a))) (e : H a = some (.lst ys)) (r : RpL G m H ds' xs) :
    RpF G kp m (upd H a (.lst xs)) (ρ.set i (some (.own ds'))) σ := by
  obtain ⟨kO, ka, _⟩ := F.rp.known h h2
  have l : Lx G (fun b => b ≠ a) m H m (L2.upd H a (.lst xs)) := Lx.put kO e
  refine ⟨⟨fun j s q => ?_, fun j k es fs b q1 q2 q3 q4 => ?_, by simp [F.rp.len]⟩, F.sub, fun j es b q1 q2 => ?_⟩
  · rcases set_get q with ⟨e1, hl, e2⟩ | ⟨e1, q⟩
    · subst e1 e2
      exact ⟨_, h2, a, rfl, kO, ka, xs, upd_same, l.rpL r⟩
    · obtain ⟨v, q1, q2⟩ := F.rp.at_ j s q
      refine ⟨v, q1, ?_⟩
      cases s with
      | val d => exact l.rp q2
      | own es =>
        obtain ⟨b, e3, o1, o2, zs, o3, o4⟩ := q2
        subst e3
        have ne : b ≠ a := fun z => e1 (F.rp.inj j i es ds a q h (z ▸ q1) h2)
        exact ⟨b, rfl, o1, o2, zs, by rw [upd_ne ne]; exact o3, l.rpL o4⟩
  · rcases set_get q1 with ⟨z1, _, z⟩ | ⟨e1, g1⟩
    · rcases set_get q2 with ⟨z2, _, z'⟩ | ⟨e2, g2⟩
      · exact z1.trans z2.symm
      · exact F.rp.inj j k ds fs b (by rw [z1]; exact h) g2 q3 q4
    · rcases set_get q2 with ⟨z2, _, z'⟩ | ⟨e2, g2⟩
      · exact F.rp.inj j k es ds b g1 (by rw [z2]; exact h) q3 q4
      · exact F.rp.inj j k es fs b g1 g2 q3 q4
  · rcases set_get q1 with ⟨z1, _, z⟩ | ⟨e1, g1⟩
    · exact F.own j ds b (by rw [z1]; exact h) q2
    · exact F.own j es b g1 q2
/-- a method of a list of one's own: what it holds by what it held and a value -/
def dOwn (i : Nat) (f : List D → D → Option (List D)) (d : DE) : DS := fun ρ S => match ρ[i]? with
  | some (some (.own ds)) => rS (d ρ S) ρ fun y S => match f ds y with
    | some ds' => some (.nx (ρ.set i (some (.own ds'))), S)
    | none => none
  | _ => none
def fApp (ds : List D) (y : D) : Option (List D) := if ds.length < sizeLine then some (ds ++ [y]) else none
theorem js_app {i : Nat} {x : Str} {d : DE} {apos cpos : Pos} (hK : X.K = G.K) (hN : X.N[i]? = some x) (hv : Vis X.env.scope x) (hd : (x == ("__debug__" : Str)) = false) (hcd : (x == ("__classdict__" : Str)) = false) (ha : PE X e (tE G W d)) (hs : starB e = false)
    (hbase : attributeBase (.Name x p) "append" X.env (eval (.Name x p) X.env) = eval (.Name x p) X.env)
    (hfew : ((backTo cpos (starEach [e] X.env)).all (fun x => !x.1) && (backToKw cpos (keywordEach [] X.env)).all (fun x => x.1.isSome)
      && decide (([e] : List Expr).length + ([] : List Keyword).length + (if ([] : List Keyword).isEmpty then 0 else 1) < 30)) = true)
    (hline : (apos.endLine == cpos.line) = true) (hsw : swapsWith (.Call (.Attribute (.Name x p) "append" apos) [e] [] cpos) none pos.line X.env = pure false) :
    PS X (.Expr (.Call (.Attribute (.Name x p) "append" apos) [e] [] cpos) pos) (tS G W (dOwn i fApp d)) := by
  refine ps_imp (ps_expr (pe_bm F.plainAttrs_list F.slot_list_append F.type_list_append mt_append (pe_var hN hv hd hcd) (pa_cons ha pa_nil (starEach_plain hs)) hbase hfew hline (starEach_plain hs) (by rfl)) hsw) fun D σ H ⟨kp, m, ρ, S, hS, F, h⟩ => ?_
  unfold dOwn at h
  split at h
  · rename_i ds hd
    obtain ⟨v, q1, a, e, q2, q3, q4⟩ := F.rp.at_ i _ hd
    subst e
    have hk := F.own i ds a hd q1
    obtain ⟨xs0, e0, r0⟩ := id q4
    refine ⟨.ref a, q1, .inl ⟨rfl, xs0, by rw [hK]; exact SqL.of e0⟩, m, ρ, S, hS, F.rp, (AftS.rS h F).imp fun y S1 m1 H1 l1 hS1 h1 v rv => ?_⟩
    unfold fApp at h1
    by_cases hz : ds.length < sizeLine
    · rw [if_pos hz] at h1
      have F1 := F.le l1
      obtain ⟨kO, ka, xs, e, rx⟩ := F1.rp.known hd q1
      exact ⟨a, xs, v, rfl, rfl, e, by rw [rx.length]; exact hz, h1 m1 _ σ (Lx.putK hk kO e) (hS1.put kO e) (F1.upd hd q1 e (rx.append ⟨v, [], rfl, rv, rfl⟩))⟩
    · rw [if_neg hz] at h1; exact h1.elim
  · exact h.elim

/-! ### a list of the store is written -/
theorem Lx.sto {L : Addr} {ys xs : List V} (hO : L ∈ m.as) (h : H L = some (.lst ys)) : Lx G kp m H m (upd H L (.lst xs)) :=
  ⟨⟨[], by simp, by simp⟩, fun a q => .inl q, fun a q _ => q, fun a o e n k => by
    by_cases z : a = L
    · exact absurd (z ▸ hO) n
    · rw [upd_ne z]; exact e, fun a xs t => tq_put h notT_lst t, fun a q => by
    by_cases z : a = L
    · subst z; rw [upd_same]; simp
    · rw [upd_ne z]; exact q⟩
theorem nodup_at {α : Type} {l : List α} (h : l.Nodup) {i j : Nat} {x : α} (h1 : l[i]? = some x) (h2 : l[j]? = some x) : i = j := by
  obtain ⟨a1, a2⟩ := List.getElem?_eq_some_iff.mp h1
  obtain ⟨b1, b2⟩ := List.getElem?_eq_some_iff.mp h2
  exact (List.getElem?_inj a1 h).mp (h1.trans h2.symm)
theorem Holds.sto {n : Nat} {L : Addr} {ds : List D} {ys xs : List V} (hS : Holds G m H S) (hn : m.as[n]? = some L) (h : H L = some (.lst ys)) (r : RpL G m H ds xs) : Holds G m (upd H L (.lst xs)) (S.set n (.lst ds)) := by
  have hO : L ∈ m.as := List.mem_of_getElem? hn
  have l : Lx G kAll m H m (L2.upd H L (.lst xs)) := Lx.sto hO h
  refine ⟨by simp [hS.len], hS.nd, fun k ob a e1 e2 => ?_, hS.dis, fun a q => l.there a (hS.there a q)⟩
  rw [List.getElem?_set] at e1
  split at e1
  · rename_i e
    subst e
    split at e1
    · cases e1
      rw [hn] at e2
      cases e2
      exact ⟨xs, upd_same, l.rpL r⟩
    · cases e1
  · rename_i ne
    have na : a ≠ L := fun z => ne (nodup_at hS.nd hn (z ▸ e2))
    exact (hS.ob k ob a e1 e2).mono (fun o e => by rw [upd_ne na]; exact e) fun d v r => l.rp r
theorem RpF.sto {L : Addr} {ys xs : List V} (F : RpF G kp m H ρ σ) (hO : L ∈ m.as) (h : H L = some (.lst ys)) : RpF G kp m (L2.upd H L (.lst xs)) ρ σ := by
  have l : Lx G kp m H m (L2.upd H L (.lst xs)) := Lx.sto hO h
  refine ⟨⟨fun j s q => ?_, F.rp.inj, F.rp.len⟩, F.sub, F.own⟩
  obtain ⟨v, q1, q2⟩ := F.rp.at_ j s q
  refine ⟨v, q1, ?_⟩
  cases s with
  | val d => exact l.rp q2
  | own es =>
    obtain ⟨b, e3, o1, o2, zs, o3, o4⟩ := q2
    have nb : b ≠ L := fun z => o2 (by rw [z]; exact hO)
    exact ⟨b, e3, o1, o2, zs, by rw [L2.upd_ne nb]; exact o3, l.rpL o4⟩
theorem js_sto {o i : Expr} {dv di do_ : DE} {tp : Pos} (hK : X.K = G.K) (hv : PE X e (tE G W dv)) (ho : PE X o (tE G W do_)) (hi : PE X i (tE G W di)) (hs : swapsWithSole [.Subscript o i tp] e pos.line X.env = pure false) (hw : swappedStores [.Subscript o i tp] e X.env = pure none)
    (h1 : (assignEach [.Subscript o i tp] X.env).map (·.2) = [assign (.Subscript o i tp) X.env])
    (ha : ∀ v, assign (.Subscript o i tp) X.env v = (do
      let ov ← holding [v] (eval o X.env)
      let iv ← holding [v, ov] (eval i X.env)
      standAt tp
      holding [v, ov, iv] (setItem ov iv v)
      release [v, ov, iv] [])) : PS X (.Assign [.Subscript o i tp] e pos) (tS G W (dSto dv do_ di)) := by
  refine ps_imp (ps_asg hv (pg_sub ho hi set_list ha) hs hw h1) fun D σ H ⟨kp, m, ρ, S, hS, F, h⟩ => ?_
  refine ⟨m, ρ, S, hS, F.rp, (AftS.rS h F).imp fun x S1 m1 H1 l1 hS1 h1 v rv => ?_⟩
  have F1 := F.le l1
  refine ⟨m1, ρ, S1, hS1, F1.rp, (AftS.rS h1 F1).imp fun y S2 m2 H2 l2 hS2 h2 u ru => ?_⟩
  have F2 := F1.le l2
  refine ⟨m2, ρ, S2, hS2, F2.rp, (AftS.rS h2 F2).imp fun z S3 m3 H3 l3 hS3 h3 t rt => ?_⟩
  have F3 := F2.le l3
  have rv3 := (l2.trans l3).rp rv
  have ru3 := l3.rp ru
  unfold stSet at h3
  split at h3
  · rename_i S' e
    split at e
    · rename_i n k
      split at e
      · rename_i ds hn
        obtain ⟨j, ej, rfl⟩ := Option.map_eq_some_iff.mp e
        obtain ⟨L, rfl, hL⟩ := ru3
        obtain ⟨xs, q1, q2⟩ := hS3.ob n _ L hn hL
        refine ⟨L, xs, k, j, rfl, rt, q1, by rw [q2.length]; exact ej, ?_⟩
        exact h3 m3 _ σ (Lx.sto (List.mem_of_getElem? hL) q1) (hS3.sto hL q1 (q2.set rv3)) (F3.sto (List.mem_of_getElem? hL) q1)
      · cases e
    · cases e
  · exact h3.elim

/-! ### loops -/
theorem js_for {iter : Expr} {body : List Stmt} {di : DI} {g : DG} {d : DS} {vs : List Nat} (hp : PassesOwn (model X.prog X.w) X.A X.env X.xe) (hc : X.calm = true) (hi : PI X tg iter (tI G W di)) (hg : PG X tg (tG G vs g)) (hb : PSs X body (tS G W d))
    (hs : ∀ x, foldedSetIterable iter X.env x = pure x) : PS X (.For tg iter body [] pos) (tS G W (dFor di g d)) := by
  refine ps_imp (ps_for hp hc hi hg hb hs) fun Dn σ H ⟨kp, m, ρ, S, hS, F, h⟩ => ?_
  refine ⟨kp, m, ρ, S, hS, F.rp, (AftS.rS h F).imp fun ds S1 m1 H1 l1 hS1 h1 J sv => ?_⟩
  obtain ⟨Gd, Y, wk, hGd, hY⟩ := sv
  refine for_it wk (fun i σ H => ∃ m2 ρ2 S2, Lx G kp m1 H1 m2 H ∧ Holds G m2 H S2 ∧ RpF G kp m2 H ρ2 σ ∧ AftS G W kp m2 H Dn (forRun g d (ds.drop i) ρ2 S2)) ?_ ?_ ?_ ?_
  · exact ⟨m1, ρ, S1, Lx.refl, hS1, F.le l1, h1⟩
  · rintro i σ H hi ⟨m2, ρ2, S2, l2, _⟩
    exact hGd _ H l2
  · rintro i x σ2 H2 H3 hi ⟨m2, ρ2, S2, l2, hS2, F2, h2⟩ y
    obtain ⟨s3, dd, hd, rd⟩ := hY _ H2 i x H3 l2 hi y
    rw [getElem_split hd] at h2
    have F3 : RpF G kp m2 H3 ρ2 σ2 := F2.le (Le.same s3)
    have hS3 : Holds G m2 H3 S2 := hS2.same s3
    have l3 : Lx G kp m1 H1 m2 H3 := l2.trans (Le.same s3).lx
    have h3 := AftS.later h2 (Le.same (G := G) s3).lx
    unfold forRun at h3
    cases hgd : g dd ρ2 with
    | none => rw [hgd] at h3; exact h3.elim
    | some ρ' =>
      rw [hgd] at h3
      refine ⟨m2, ρ2, S2, dd, hS3, F3.rp, rd _ l2, ρ', hgd, fun σ' bn => ?_⟩
      have F4 : RpF G kp m2 H3 ρ' σ' := ⟨bn.rp, F3.sub, fun i ds a e1 e2 => by
        obtain ⟨k1, k2⟩ := bn.own i ds e1
        exact F3.own i ds a k1 (by rw [← k2]; exact e2)⟩
      refine ⟨kp, m2, ρ', S2, hS3, F4, ?_⟩
      dsimp only at h3
      cases hr : d ρ' S2 with
      | none => rw [hr] at h3; exact h3
      | some o =>
        obtain ⟨o, S5⟩ := o
        rw [hr] at h3
        cases o with
        | nx ρ5 => exact fun m' H' σ5 l5 hS5 F5 => ⟨m', ρ5, S5, l3.trans l5, hS5, F5, AftS.later h3 l5⟩
        | ct ρ5 => exact fun m' H' σ5 l5 hS5 F5 => ⟨m', ρ5, S5, l3.trans l5, hS5, F5, AftS.later h3 l5⟩
        | br ρ5 => exact h3
        | rt v => exact h3
        | ex c ρ5 => exact h3
  · rintro σ H ⟨m2, ρ2, S2, l2, hS2, F2, h2⟩
    rw [show ds.drop ds.length = [] by simp] at h2
    exact h2 m2 H σ Lx.refl hS2 F2
theorem js_while {body : List Stmt} {t : DT} {d : DS} {n : Nat} (hp : PassesOwn (model X.prog X.w) X.A X.env X.xe) (hc : PT X c (tT G W t)) (hb : PSs X body (tS G W d)) : PS X (.While c body [] pos) (tS G W (whRun t d n)) := by
  refine ps_imp (ps_while hp hc hb) fun Dn σ H0 ⟨kp, m, ρ, S, hS, F, h⟩ => ?_
  refine ⟨fun k σ H => ∃ m2 ρ2 S2, Lx G kp m H0 m2 H ∧ Holds G m2 H S2 ∧ RpF G kp m2 H ρ2 σ ∧ AftS G W kp m2 H Dn (whRun t d k ρ2 S2), ⟨n, m, ρ, S, Lx.refl, hS, F, h⟩, ?_⟩
  rintro k σ2 H2 ⟨m2, ρ2, S2, l2, hS2, F2, h2⟩
  cases k with
  | zero => exact h2.elim
  | succ k =>
    refine ⟨m2, ρ2, S2, hS2, F2.rp, (AftS.rS h2 F2).imp fun c S3 m3 H3 l3 hS3 h3 => ?_⟩
    cases c with
    | false => exact iteF (h3 m3 H3 σ2 Lx.refl hS3 (F2.le l3))
    | true =>
      refine iteT ⟨fun σ H => ∃ m2 ρ2 S2, Lx G kp m H0 m2 H ∧ Holds G m2 H S2 ∧ RpF G kp m2 H ρ2 σ ∧ AftS G W kp m2 H Dn (whRun t d k ρ2 S2), fun σ' H' q => ⟨k, Nat.lt_succ_self k, q⟩, kp, m3, ρ2, S3, hS3, F2.le l3, ?_⟩
      have h3 : AftS G W kp m3 H3 Dn (match d ρ2 S3 with
        | some (.nx ρ2, S2) => whRun t d k ρ2 S2
        | some (.ct ρ2, S2) => whRun t d k ρ2 S2
        | some (.br ρ2, S2) => some (.nx ρ2, S2)
        | r => r) := h3
      have l23 := l2.trans l3.lx
      cases hr : d ρ2 S3 with
      | none => rw [hr] at h3; exact h3
      | some o =>
        obtain ⟨o, S5⟩ := o
        rw [hr] at h3
        cases o with
        | nx ρ5 => exact fun m' H' σ5 l5 hS5 F5 => ⟨m', ρ5, S5, l23.trans l5, hS5, F5, AftS.later h3 l5⟩
        | ct ρ5 => exact fun m' H' σ5 l5 hS5 F5 => ⟨m', ρ5, S5, l23.trans l5, hS5, F5, AftS.later h3 l5⟩
        | br ρ5 => exact h3
        | rt v => exact h3
        | ex c ρ5 => exact h3
end
end Py

/-! Part 12: calls, defs. -/
namespace Py
open PySem PySem.Spec PyProof.Rows L2
/-- a def's promise: what run does -/
def spF (G : Gc) (n : Nat) (run : List D → M D) : Sp := fun vs H Q E => ∃ m S ds, ds.length = n ∧ Holds G m H S ∧ RpL G m H ds vs ∧ Aft G m H E (run ds S) fun r _ m' H' => ∀ v, Rp G m' H' r v → Q v H'
def fnEnv (N : Nat) (ds : List D) : Env := ds.map (fun d => some (Sl.val d)) ++ List.replicate (N - ds.length) none
def endR : Res → R D
  | some (.nx _, S) => .ok .non S
  | some (.rt d, S) => .ok d S
  | some (.ex c _, S) => .exc c S
  | _ => .bad
def dFn (n N : Nat) (b : DS) : List D → M D := fun ds S => if ds.length = n then endR (b (fnEnv N ds) S) else .bad
def dCall (n : Nat) (run : List D → M D) (r : DA) : DE := fun ρ S => (r ρ S).bind fun xs S => if xs.length = n then run xs S else .bad
section
variable {G : Gc} {W : WX} {X : Cx} {e a b c tg : Expr} {m m' : Mu} {H H' : Hp} {S : Store} {σ : Sg} {pos p : Pos} {kp : Addr → Prop} {ρ : Env}
theorem RpL.start : ∀ {ds : List D} {vs : List V}, RpL G m H ds vs → ∀ (k : Nat) (i : Nat) (s : Sl), (ds.map (fun d => some (Sl.val d)) ++ List.replicate k none)[i]? = some (some s) → ∃ d v, s = .val d ∧ (vs.map some ++ List.replicate k none)[i]? = some (some v) ∧ Rp G m H d v
  | [], vs, h, k, i, s, e => by
    have e : (List.replicate k (none : Option Sl))[i]? = some (some s) := e
    rw [List.getElem?_replicate] at e
    split at e <;> cases e
  | d :: ds, vs, h, k, i, s, e => by
    obtain ⟨v, r, rfl, h1, h2⟩ := h
    cases i with
    | zero =>
      cases e
      exact ⟨d, v, rfl, rfl, h1⟩
    | succ i => exact RpL.start h2 k i s e
theorem fn_start {N : List Str} {ds : List D} {vs : List V} (hS : Holds G m H S) (r : RpL G m H ds vs) : RpF G m.O m H (fnEnv N.length ds) (L2.start N vs) := by
  have hl := r.length
  refine ⟨⟨fun i s e => ?_, fun i j es fs b e1 e2 => ?_, ?_⟩, fun a h => h, fun i es b e1 => ?_⟩
  · obtain ⟨d, v, rfl, q1, q2⟩ := r.start (N.length - ds.length) i s e
    refine ⟨v, ?_, q2⟩
    unfold L2.start
    rw [hl]
    exact q1
  · obtain ⟨d, v, z, _⟩ := r.start (N.length - ds.length) i _ e1
    cases z
  · unfold fnEnv L2.start
    simp [hl]
  · obtain ⟨d, v, z, _⟩ := r.start (N.length - ds.length) i _ e1
    cases z
/-- behind a def's body -/
theorem fn_end {r : Res} {E : XK} {Q : VK} (h : Aft G m H E (endR r) fun r _ m' H' => ∀ v, Rp G m' H' r v → Q v H') :
    AftS G (fun c x _ H' => E c x H') m.O m H { nx := fun _ H' => Q .non H', rt := Q } r := by
  have lw : ∀ {m' : Mu} {H' : Hp}, Lx G m.O m H m' H' → Le G m H ⟨m'.as, m.O⟩ H' := fun l => ⟨l.as, rfl, fun a o h n => l.kept a o h n id, l.tups, l.there⟩
  have rw' : ∀ {m' : Mu} {H' : Hp}, (∀ a, m.O a → m'.O a) → Lx G m.O m' H' ⟨m'.as, m.O⟩ H' := fun hO => ⟨⟨[], by simp, by simp⟩, fun a q => .inl (hO a q), fun a _ k => k, fun a o h _ _ => h, fun _ _ h => h, fun _ h => h⟩
  have hw : ∀ {m' : Mu} {H' : Hp} {S : Store}, (∀ a, m.O a → m'.O a) → Holds G m' H' S → Holds G ⟨m'.as, m.O⟩ H' S := fun {m' H' S} hO h => ⟨h.len, h.nd, fun n ob a e1 e2 => by
    have l := rw' (H' := H') hO
    exact (h.ob n ob a e1 e2).mono (fun _ e => e) fun d v r => l.rp r, fun a q => h.dis a (hO a q), fun a q => h.there a (hO a q)⟩
  cases r with
  | none => exact h
  | some x =>
    obtain ⟨o, S⟩ := x
    cases o with
    | nx ρ => exact fun m' H' σ' l hS F => h _ H' (lw l) (hw F.sub hS) .non rfl
    | br ρ => exact h.elim
    | ct ρ => exact h.elim
    | rt d => exact fun m' H' v l hO hS rv => h _ H' (lw l) (hw hO hS) v ((rw' hO).rp rv)
    | ex c ρ => exact fun m' H' σ' l hS F ca e => h _ H' (lw l) (hw F.sub hS) ca e
variable {P : Program} {w : World} {mg : Str → Option Value} {base : Heap}
/-- THE RULE for a def -/
theorem fn_ok {x qual : Str} {params : Arguments} {body : List Stmt} {scope : Scope} {dvs : List V} {kws : List (Str × V)} {f : Addr} {fd : FuncData} {N ps : List Str} {k n : Nat} {d : DS} (F : FunD G.K x qual params body scope dvs kws f fd) (Sc : FnScope N ps scope) (hn : ps.length = n)
    (hb : ∀ (cdv : Value) (A : Around) (outer : List PySem.Env) (s : Shared) (H : Hp) (E : XK), Room k (A.deeper (envOfC qual scope s.heap.objs.size f cdv)) →
      PSs (cxOf (L2.CX P w) P w G.K mg base N qual scope f cdv A outer s H E) body (tS G (fun c x _ H' => E c x H') d)) :
    FnOk P w G.K mg base (L2.CX P w) (k + 1) f fd ps (spF G n (dFn n N.length d)) := by
  refine F.ok Sc (fun vs H Q E ⟨m, S, ds, hl, hS, r, h⟩ => by rw [r.length, hl, hn]) fun cdv A outer s H vs Q E hr ⟨m, S, ds, hl, hS, r, h⟩ => ?_
  refine ⟨tS G (fun c x _ H' => E c x H') d, hb cdv A outer s H E hr, m.O, m, fnEnv N.length ds, S, hS, fn_start hS r, ?_⟩
  unfold dFn at h
  rw [if_pos hl] at h
  exact fn_end h
theorem je_call {f : Addr} {fd : FuncData} {ps : List Str} {n k j : Nat} {run : List D → M D} {x : Str} {es : List Expr} {r : DA} (Fn : FnOk X.prog X.w X.K X.mg X.base (L2.CX X.prog X.w) j f fd ps (spF G n run)) (hr : Room k X.A) (hj : j ≤ k) (hg : Gl X x) (hm : X.mg x = some (.ref f)) (hk : PySem.W.keepIn X.K (.ref f) = true)
    (hb : Binds X.K fd ps []) (tk : Takes X W) (ha : PA X (e :: es) (tA G W r)) (hs : (e :: es).any starB = false) (hdb : (x == ("__debug__" : Str)) = false := by decide) : PE X (.Call (.Name x p) (e :: es) [] pos) (tE G W (dCall n run r)) := by
  rw [List.any_cons, Bool.or_eq_false_iff] at hs
  refine pe_imp (pe_callS Fn (hr.mono hj) hg hm hk hb (passAt tk) ha hdb (starEach_plain hs.1) (backTo_plain hs.2)) fun σ H Q ⟨m, ρ, S, hS, hE, h⟩ => ?_
  refine ⟨m, ρ, S, hS, hE, (Aft.bind h).imp fun xs S1 m1 H1 l1 hS1 h1 vs rvs => ?_⟩
  by_cases hl : xs.length = n
  · rw [if_pos hl] at h1
    exact ⟨m1, S1, xs, hl, hS1, rvs, h1⟩
  · rw [if_neg hl] at h1; exact h1.elim
theorem je_int {x : Str} {i : Int} {t : Tok} (hg : Gl X x) (hm : X.mg x = some (.int i t)) (hd : (x == ("__debug__" : Str)) = false) : PE X (.Name x pos) (tE G W (dCst (.int i))) := je_c (pe_glob (v := .int i) hg hm ⟨t, rfl⟩ hd) fun _ _ => rfl
theorem je_str {x z : Str} {t : Tok} (hg : Gl X x) (hm : X.mg x = some (.str z t)) (hd : (x == ("__debug__" : Str)) = false) : PE X (.Name x pos) (tE G W (dCst (.str z))) := je_c (pe_glob (v := .str z) hg hm ⟨t, rfl⟩ hd) fun _ _ => rfl
theorem je_ty {x : Str} {n : String} (hg : Gl X x) (hm : X.mg x = none) (hv : bootBuiltins x = some (.type n)) (hn : x ≠ "__name__") (hd : (x == ("__debug__" : Str)) = false) : PE X (.Name x pos) (tE G W (dCst (.ty n))) := je_c (pe_bltn (v := .ty n) hg hm hv rfl hn hd) fun _ _ => rfl
end
end Py

/-! Part 13: a text's defs, by tables of facts. -/
namespace Py
open PySem PySem.Spec PyProof.Rows L2
/-- what the head's facts tell -/
def keyDv : L2.Key → He.Dv
  | .inl i => .int i
  | .inr x => .str x
structure Zf (G : Gc) (mg : Str → Option Value) (fa : List He.Fa) (fn : List He.DefD) (tl : List (Str × List L2.Key) := []) : Prop where
  says : He.SaysD fa fn G.K
  tups : ∀ q ∈ tl, He.tupB G.K q.1 (q.2.map keyDv) = true
  lits : G.lits = tl.map Prod.snd
  inn : ∃ h : Heap, G.K.In h ∧ h.Ns mainGlobals mg
section
variable {G : Gc} {W : WX} {X : Cx} {e a b c tg : Expr} {m m' : Mu} {H H' : Hp} {S : Store} {σ : Sg} {pos p : Pos} {kp : Addr → Prop} {ρ : Env} {mg : Str → Option Value} {fa : List He.Fa} {fn : List He.DefD} {tl : List (Str × List L2.Key)} {P : Program} {w : World} {base : Heap}
theorem Zf.glo (Z : Zf G mg fa fn tl) (i : Nat) {x : Str} (h : fa[i]? = some (.glo x)) : mg x = some (.ref (He.ga G.K x)) := let ⟨_, h1, h2⟩ := Z.inn; He.glo_ok h1 h2 (Z.says.fact i h)
theorem Zf.free (Z : Zf G mg fa fn tl) (i : Nat) {x : Str} (h : fa[i]? = some (.free x)) : mg x = none := let ⟨_, h1, h2⟩ := Z.inn; He.free_ok h1 h2 (Z.says.fact i h)
theorem Zf.int (Z : Zf G mg fa fn tl) (i : Nat) {x : Str} {z : Int} (h : fa[i]? = some (.int x z)) : ∃ t, mg x = some (.int z t) := let ⟨_, h1, h2⟩ := Z.inn; He.int_ok h1 h2 (Z.says.fact i h)
theorem Zf.str (Z : Zf G mg fa fn tl) (i : Nat) {x z : Str} (h : fa[i]? = some (.str x z)) : ∃ t, mg x = some (.str z t) := let ⟨_, h1, h2⟩ := Z.inn; He.str_ok h1 h2 (Z.says.fact i h)
def Callee (P : Program) (w : World) (G : Gc) (mg : Str → Option Value) (base : Heap) (x : Str) (k n : Nat) (ps : List Str) (run : List D → M D) : Prop :=
  ∃ f fd, mg x = some (.ref f) ∧ PySem.W.keepIn G.K (.ref f) = true ∧ Binds G.K fd ps [] ∧ FnOk P w G.K mg base (L2.CX P w) k f fd ps (spF G n run) ∧
    (∀ (s : Shared) (us : List Value), us.length = ps.length → BindsTo s fd ⟨us, []⟩ (ps.zip us)) ∧ ∃ oc od osl, G.K.lookup f = some ⟨oc, od, .func fd, osl⟩
def dfD (x : Str) (st : Stmt) : He.DefD := ⟨(x, none), x, x, defArgs st, defBody st, defScope st, [], []⟩
theorem callee_of (Z : Zf G mg fa fn tl) (i j : Nat) {x : Str} {st : Stmt} {N ps : List Str} {k n : Nat} {d : DS} (hi : fn[i]? = some (dfD x st)) (hj : fa[j]? = some (.glo x)) (Sc : FnScope N ps (defScope st)) (hn : ps.length = n)
    (hbd : ∀ (kV doc pm : Value) (an : Option Addr) (cdv ct : Value) (us : List Value), us.length = ps.length → bindArgs (PySem.W.fnOf x x (defArgs st) (defBody st) (defScope st) .none kV doc pm an cdv ct) ⟨us, []⟩ = pure (ps.zip us))
    (hb : ∀ (f : Addr) (cdv : Value) (A : Around) (outer : List PySem.Env) (s : Shared) (H : Hp) (E : XK), Room k (A.deeper (envOfC x (defScope st) s.heap.objs.size f cdv)) →
      PSs (cxOf (L2.CX P w) P w G.K mg base N x (defScope st) f cdv A outer s H E) (defBody st) (tS G (fun c x _ H' => E c x H') d)) : Callee P w G mg base x (k + 1) n ps (dFn n N.length d) := by
  obtain ⟨fd, F⟩ := Z.says.def_ i hi
  have F : FunD G.K x x (defArgs st) (defBody st) (defScope st) [] [] (He.ga G.K x) fd := F
  obtain ⟨oc, od, dV, kV, doc, pm, an, cdv, ct, osl, e, lk, _⟩ := F.ex
  exact ⟨_, fd, Z.glo j hj, F.kp, F.bindsN hbd, fn_ok F Sc hn (hb _), F.bindsA hbd, oc, od, osl, lk⟩
theorem je_cal {ps : List Str} {n k j : Nat} {run : List D → M D} {x : Str} {es : List Expr} {r : DA} (Fn : Callee X.prog X.w G X.mg X.base x j n ps run) (hK : X.K = G.K) (hr : Room k X.A) (hj : j ≤ k) (hg : Gl X x)
    (tk : Takes X W) (ha : PA X (e :: es) (tA G W r)) (hs : (e :: es).any starB = false) (hdb : (x == ("__debug__" : Str)) = false := by decide) : PE X (.Call (.Name x p) (e :: es) [] pos) (tE G W (dCall n run r)) := by
  obtain ⟨f, fd, h1, h2, h3, h4, _⟩ := Fn
  rw [← hK] at h2 h3 h4
  exact je_call h4 hr hj hg h1 h2 h3 tk ha hs hdb
theorem je_gint {x : Str} {i : Int} (hg : Gl X x) (hm : ∃ t, X.mg x = some (.int i t)) (hd : (x == ("__debug__" : Str)) = false := by decide) : PE X (.Name x pos) (tE G W (dCst (.int i))) := let ⟨_, h⟩ := hm; je_int hg h hd
theorem je_gstr {x z : Str} (hg : Gl X x) (hm : ∃ t, X.mg x = some (.str z t)) (hd : (x == ("__debug__" : Str)) = false := by decide) : PE X (.Name x pos) (tE G W (dCst (.str z))) := let ⟨_, h⟩ := hm; je_str hg h hd
theorem cst_int {i : Int} {j : Nat} : PE X (.Constant (.int i) j pos) (tE G W (dCst (.int i))) := je_c pe_int fun _ _ => rfl
theorem cst_bl {i : Bool} {j : Nat} : PE X (.Constant (.bool i) j pos) (tE G W (dCst (.bl i))) := je_c pe_bl fun _ _ => rfl
theorem cst_str {i : Str} {j : Nat} : PE X (.Constant (.str i) j pos) (tE G W (dCst (.str i))) := je_c pe_str fun _ _ => rfl
theorem cst_non {j : Nat} : PE X (.Constant .none j pos) (tE G W (dCst .non)) := je_c pe_non fun _ _ => rfl
def dYes : DT := fun _ S => .ok true S
theorem jts_nil : PTs X [] (tT G W dYes) := ⟨fun pins s σ H Q I ⟨m, ρ, S, hS, hE, h⟩ => pts_nil.run pins s σ H Q I (h.ok hS)⟩
theorem jts_one {t : DT} (h : PT X c (tT G W t)) : PTs X [c] (tT G W t) := pts_one h
theorem jw1_and {t : DT} (h : PT X a (tT G W t)) : PW X (.BoolOp .And [a] pos) (tT G W t) := pw_and1 h
theorem jw1_or {t : DT} (h : PT X a (tT G W t)) : PW X (.BoolOp .Or [a] pos) (tT G W t) := pw_or1 h
theorem lc_of {di : DI} {g : DG} {t : DT} {de : DE} {vs : List Nat} {Q : VK} (h : tL G W (dLc di g t de vs) σ H Q) : tLc (tIw G W di) (tG G vs g) (tT G WN t) (tE G WN de) vs σ H Q :=
  let ⟨_, _, _, hS, hE, h⟩ := h; lcT vs hS hE h
theorem huR {k : Nat} {A : Around} (hr : Room k A) : A.units + 200 < cLine := by have := hr.un; omega
theorem js_setV {i : Nat} {d : DE} {st : Stmt} (h : PS X st (tAsg (tE G W d) (gName i))) : PS X st (tS G W (dSet i (qV d))) := js_set (asg_imp h fun _ _ _ q => tE_of q)
theorem js_setO {i : Nat} {d : DA} {st : Stmt} (h : PS X st (tAsg (tL G W d) (gName i))) : PS X st (tS G W (dSet i (qO d))) := js_set (asg_imp h fun _ _ _ q => tL_of q)
theorem js_lcV {i : Nat} {di : DI} {g : DG} {t : DT} {de : DE} {vs : List Nat} {st : Stmt} (h : PS X st (tAsg (tLc (tIw G W di) (tG G vs g) (tT G WN t) (tE G WN de) vs) (gName i))) : PS X st (tS G W (dSet i (qV (dLst (dLc di g t de vs))))) :=
  js_set (asg_imp h fun _ _ _ q => lc_of (tL_frz (tE_of q)))
theorem js_lcO {i : Nat} {di : DI} {g : DG} {t : DT} {de : DE} {vs : List Nat} {st : Stmt} (h : PS X st (tAsg (tLc (tIw G W di) (tG G vs g) (tT G WN t) (tE G WN de) vs) (gName i))) : PS X st (tS G W (dSet i (qO (dLc di g t de vs)))) :=
  js_set (asg_imp h fun _ _ _ q => lc_of (tL_of q))
theorem qV_of {d : DE} (h : PE X e (tE G W d)) : PE X e (tQ G W (qV d)) := pe_imp h fun _ _ _ q => tE_of q
theorem qO_of {d : DA} (h : PE X e (tL G W d)) : PE X e (tQ G W (qO d)) := pe_imp h fun _ _ _ q => tL_of q
end
end Py

/-! Part 14: pairs of values bound to names one after the other. -/
namespace Py
open PySem PySem.Spec PyProof.Rows L2
section
variable {G : Gc} {W : WX} {X : Cx} {e a b c tg : Expr} {m m' : Mu} {H H' : Hp} {S : Store} {σ : Sg} {pos p : Pos} {kp : Addr → Prop} {ρ : Env} {st : Stmt} {Dn : Ends}
def dDisp (r : DA) : DA := fun ρ S => (r ρ S).bind fun xs S => if xs.length ≤ sizeLine then .ok xs S else .bad
theorem jl_disp {es : List Expr} {r : DA} (ha : PA X es (tA G W r)) : PE X (.List es pos) (tL G W (dDisp r)) := jl_lst (k := 0) ha
/-- a new tuple of what was just made -/
theorem RpF.laid {q : Addr} {o : HO} (F : RpF G kp m H ρ σ) (hp : H q = none) : RpF G kp m (L2.upd H q o) ρ σ := F.le (Le.same (Same.new hp))
theorem js_tup2 {i j : Nat} {q q' : DQ} (hK : X.K = G.K) (h : PS X st (tAsg (tTup (tCons (tQ G W q) (tCons (tQ G W q') tNil))) (gTup X.K 2 (gCons (gName i) (gCons (gName j) gNil))))) : PS X st (tS G W (dPar2 i j q q')) := ps_imp h fun D σ H ⟨kp, m, ρ, S, hS, F, h⟩ =>
  ⟨m, ρ, S, hS, F.rp, AftS.rQ h F fun s S1 m1 H1 v l hS1 r fr h1 => by
    have F1 : RpF G kp m1 H1 ρ σ := ⟨F.rp.lx l, fun a h => l.O2 a (F.sub a h) trivial, F.own⟩
    refine ⟨m1, ρ, S1, hS1, F1.rp, AftS.rQ h1 F1 fun s' S2 m2 H2 v' l2 hS2 r' fr' h2 => ⟨by show 2 ≤ sizeLine; decide, fun T hT => ?_⟩⟩
    have F2 : RpF G kp m2 H2 (ρ.set i (some s)) (σ.set i (some v)) := F.take hS (l.trans l2) (l2.rps r) fr i
    have F4 : RpF G kp m2 H2 ((ρ.set i (some s)).set j (some s')) ((σ.set i (some v)).set j (some v')) := by
      refine F2.setS r' j fun ds a e1 e2 => ⟨fun z => hS1.there a (F1.sub a z) (fr' ds a e1 e2), fun k es _ k1 k2 => ?_⟩
      have F3 : RpF G kp m1 H1 (ρ.set i (some s)) (σ.set i (some v)) := F.take hS l r fr i
      obtain ⟨_, _, xs, z, _⟩ := F3.rp.known k1 k2
      rw [fr' ds a e1 e2] at z; cases z
    exact ⟨T, [v, v'], rfl, SqT.of upd_same, rfl, v, [v'], rfl, v', [], rfl, rfl, h2 m2 _ _ (Le.same (Same.new hT)).lx (hS2.laid hT) (F4.laid hT)⟩⟩
theorem js_tup3 {i j n : Nat} {q q' q'' : DQ} (hK : X.K = G.K) (h : PS X st (tAsg (tTup (tCons (tQ G W q) (tCons (tQ G W q') (tCons (tQ G W q'') tNil)))) (gTup X.K 3 (gCons (gName i) (gCons (gName j) (gCons (gName n) gNil)))))) : PS X st (tS G W (dPar3 i j n q q' q'')) := ps_imp h fun D σ H ⟨kp, m, ρ, S, hS, F, h⟩ =>
  ⟨m, ρ, S, hS, F.rp, AftS.rQ h F fun s S1 m1 H1 v l hS1 r fr h1 => by
    have F1 : RpF G kp m1 H1 ρ σ := ⟨F.rp.lx l, fun a h => l.O2 a (F.sub a h) trivial, F.own⟩
    refine ⟨m1, ρ, S1, hS1, F1.rp, AftS.rQ h1 F1 fun s' S2 m2 H2 v' l2 hS2 r' fr' h2 => ?_⟩
    have F2 : RpF G kp m2 H2 ρ σ := ⟨F1.rp.lx l2, fun a h => l2.O2 a (F1.sub a h) trivial, F1.own⟩
    refine ⟨m2, ρ, S2, hS2, F2.rp, AftS.rQ h2 F2 fun s'' S3 m3 H3 v'' l3 hS3 r'' fr'' h3 => ⟨by show 3 ≤ sizeLine; decide, fun T hT => ?_⟩⟩
    have A1 : RpF G kp m1 H1 (ρ.set i (some s)) (σ.set i (some v)) := F.take hS l r fr i
    have A2 : RpF G kp m2 H2 ((ρ.set i (some s)).set j (some s')) ((σ.set i (some v)).set j (some v')) := A1.take hS1 l2 r' fr' j
    have A3 := A2.take hS2 l3 r'' fr'' n
    exact ⟨T, [v, v', v''], rfl, SqT.of upd_same, rfl, v, [v', v''], rfl, v', [v''], rfl, v'', [], rfl, rfl, h3 m3 _ _ (Le.same (Same.new hT)).lx (hS3.laid hT) (A3.laid hT)⟩⟩
end
end Py

/-! Part 15: the law's end. -/
namespace Py
open PySem PySem.Spec PyProof.Rows L2
/-- no list among the text's own objects -/
def noL (K : PySem.W.Frag) : Bool := K.all fun x => match x.2.cls with
  | .type c => c != "list"
  | _ => true
theorem mem_lk {a : Addr} {o : Obj} : ∀ {K : PySem.W.Frag}, K.lookup a = some o → (a, o) ∈ K
  | [], e => nomatch (show (none : Option Obj) = some o from e)
  | (b, u) :: r, e => by
    have e2 : (match a == b with | true => some u | false => List.lookup a r) = some o := e
    cases q : (a == b) with
    | true =>
      rw [q] at e2
      rw [beq_iff_eq.mp q, Option.some.inj e2]
      exact List.mem_cons_self
    | false =>
      rw [q] at e2
      exact List.mem_cons_of_mem _ (mem_lk e2)
theorem noL_ok {K : PySem.W.Frag} {a : Addr} {o : Obj} (h : noL K = true) (e : K.lookup a = some o) (c : o.cls = .type "list") : False := by
  have hm : (a, o) ∈ K := mem_lk e
  have := List.all_eq_true.mp h _ hm
  rw [c] at this
  exact absurd this (by decide)
def tlB (tl : List (Str × List L2.Key)) (K : PySem.W.Frag) : Bool := tl.all fun q => He.tupB K q.1 (q.2.map keyDv)
def obN (n : Nat) (fa : List He.Fa) (fn : List He.DefD) (g : Addr → Option Obj) (tl : List (Str × List L2.Key) := []) : Bool × He.AlD := (noL (He.frG g (He.asD g n)) && tlB tl (He.frG g (He.asD g n)), He.obsD fa fn (He.frG g (He.asD g n)))
def hookN (n : Nat) (fa : List He.Fa) (fn : List He.DefD) (tl : List (Str × List L2.Key) := []) : PySem.W.Hook where
  α := Bool × He.AlD
  obs := fun s => obN n fa fn s.heap.get? tl
  val := fun _ => (true, He.valD fn)
  says := fun _ h => ∃ K : PySem.W.Frag, K.In h ∧ He.SaysD fa fn K ∧ (noL K && tlB tl K) = true
  of := fun _ _ e => ⟨_, He.frG_in, congrArg Prod.snd e, congrArg Prod.fst e⟩
  keeps := fun _ _ _ ⟨K, hK, c⟩ k => ⟨K, PySem.W.Frag.In.keeps hK k, c⟩
theorem obN_eq {n : Nat} {fa : List He.Fa} {fn : List He.DefD} {tl : List (Str × List L2.Key)} {g : Addr → Option Obj} {s : Shared} (h : ∀ a, g a = s.heap.get? a) : obN n fa fn g tl = (hookN n fa fn tl).obs s := by
  have e : g = s.heap.get? := funext h
  rw [e] <;> rfl
/-- a law: as walk_ofE, the bits told, no list in the text -/
theorem walk_N {l : PySem.W.OpenLaw} {n k : Nat} {q : Program} {loose : List Str} {XP : (Str → Option Value) → Heap → Prop} {YP : World → Heap → Prop} {d : DefRec} {CX : Program → World → CXT} {x : Str}
    (hn : l.most = some n) (hn2 : n ≤ sizeLine) (hdf : d.params.defaults = []) (hr : Room k callerA)
    (F : ∀ (w : World) (mg : Str → Option Value) (fa : Addr) (h : Heap), YP w h → h.Ns mainGlobals mg → mg d.name = some (.ref fa) →
      ∃ (K : PySem.W.Frag) (fd : FuncData) (sp : Sp), K.In h ∧ (∀ (s : Shared) (u : Value), BindsTo s fd ⟨[u], []⟩ [(x, u)]) ∧
        (∀ (H : Hp) (a : Addr) (ns : List Int), ns.length ≤ n → (∀ z ∈ ns, Builtin.Int.intBits z ≤ 1048576) → Only H → SqL K H a (ns.map V.int) → sp [.ref a] H (fun v _ => v = .bl true) fun _ _ _ => False) ∧
        ∀ base : Heap, K.In base → base.Ns mainGlobals mg → FnOk l.prog w K mg base (CX l.prog w) k fa fd [x] sp)
    (hCX : ∀ (w : World) (H : Hp) (s : Shared) (e : Value) (s' : Shared), CX l.prog w [] H s (fun _ _ _ => False) e s' → False) :
    PySem.W.WalkO q loose XP YP l.row.toRowW d [] (fun f vs => PySem.call f vs) := by
  refine Att.attach_callB hn hdf fun w s₀ s₁ mg mb fa o pm cd doc a vs ns G Y ho hd hcd hmg hobj hints hlen hbits hg => ?_
  obtain ⟨K, fd, sp, KX, hb, hsp, hF⟩ := F w mg fa _ Y G.T.g hmg
  exact law_call KX G.T.g G.T.b G.T.builtins G.T.nolimit hg hobj hints (Nat.le_trans hlen hn2) hr hF hb (fun H hO hS => hsp H a ns hlen hbits hO hS) fun H e s' => hCX w H s₁ e s'
/-- the law's def on the script gives True -/
theorem sp_law {G : Gc} {run : List D → M D} {H : Hp} {a : Addr} {ns : List Int} (nl : noL G.K = true) (hO : Only H) (hS : SqL G.K H a (ns.map V.int)) (h : ∃ S', run [.ref 0] [.frz (ns.map D.int)] = .ok (.bl true) S') :
    spF G 1 run [.ref a] H (fun v _ => v = .bl true) fun _ _ _ => False := by
  obtain ⟨o, hf⟩ : ∃ o, H a = some (.frz o (.lst (ns.map V.int))) := by
    rcases hS with (q | ⟨o, q⟩) | ⟨o, its, n, q1, q2, _⟩
    · rcases hO a with z | ⟨o, xs, z⟩
      · rw [q] at z; cases z
      · rw [q] at z; cases z
    · exact ⟨o, q⟩
    · exact (noL_ok nl q1 q2).elim
  obtain ⟨S', hr⟩ := h
  refine ⟨⟨[a], fun _ => False⟩, [.frz (ns.map D.int)], [.ref 0], rfl, ⟨rfl, by simp, fun n ob b e1 e2 => ?_, fun _ z => z.elim, fun _ z => z.elim⟩, ⟨.ref a, [], rfl, ⟨a, rfl, rfl⟩, rfl⟩, ?_⟩
  · cases n with
    | zero =>
      cases e1
      cases e2
      exact ⟨o, ns.map V.int, hf, RpL.ofInts ns⟩
    | succ n => cases e1
  · rw [hr]
    exact fun m' H' l hS v rv => rv
theorem cx_none {P : Program} {w : World} {outer : List PySem.Env} {H : Hp} {s : Shared} {e : Value} {s' : Shared} (h : L2.CX P w outer H s (fun _ _ _ => False) e s') : False := by
  obtain ⟨_, _, _, _, _, _, _, _, _, _, _, _, z⟩ := h
  exact z
/-- the end, from the law's def as one of the text's -/
theorem end_of {P : Program} {w : World} {mg : Str → Option Value} {fa : Addr} {h : Heap} {fas : List He.Fa} {fn : List He.DefD} {tl : List (Str × List L2.Key)} {k : Nat} {run : List D → M D} {n : Nat}
    (ok : ∀ (G : Gc) (base : Heap), Zf G mg fas fn tl → Callee P w G mg base "law" k 1 ["script"] run)
    (Y : ∃ K : PySem.W.Frag, K.In h ∧ He.SaysD fas fn K ∧ (noL K && tlB tl K) = true) (G : h.Ns mainGlobals mg) (hmg : mg "law" = some (.ref fa))
    (hl : ∀ ns : List Int, ns.length ≤ n → (∀ z ∈ ns, Builtin.Int.intBits z ≤ 1048576) → ∃ S', run [.ref 0] [.frz (ns.map D.int)] = .ok (.bl true) S') :
    ∃ (K : PySem.W.Frag) (fd : FuncData) (sp : Sp), K.In h ∧ (∀ (s : Shared) (u : Value), BindsTo s fd ⟨[u], []⟩ [("script", u)]) ∧
        (∀ (H : Hp) (a : Addr) (ns : List Int), ns.length ≤ n → (∀ z ∈ ns, Builtin.Int.intBits z ≤ 1048576) → Only H → SqL K H a (ns.map V.int) → sp [.ref a] H (fun v _ => v = .bl true) fun _ _ _ => False) ∧
        ∀ base : Heap, K.In base → base.Ns mainGlobals mg → FnOk P w K mg base (L2.CX P w) k fa fd ["script"] sp := by
  obtain ⟨K, KX, c, nl⟩ := Y
  rw [Bool.and_eq_true] at nl
  obtain ⟨nl, tb⟩ := nl
  have Z : Zf ⟨K, fun _ => none, tl.map Prod.snd⟩ mg fas fn tl := ⟨c, fun q hq => List.all_eq_true.mp tb q hq, rfl, h, KX, G⟩
  obtain ⟨f, fd, h1, h2, h3, _, h5, oc, od, osl, h6⟩ := ok ⟨K, fun _ => none, tl.map Prod.snd⟩ h Z
  rw [hmg] at h1
  cases h1
  refine ⟨K, fd, spF ⟨K, fun _ => none, tl.map Prod.snd⟩ 1 run, KX, fun s u => h5 s [u] rfl, fun H a ns hlen hb hO hS => sp_law (G := ⟨K, fun _ => none, tl.map Prod.snd⟩) nl hO hS (hl ns hlen hb), fun base _ _ => ?_⟩
  obtain ⟨f', fd', k1, k2, k3, k4, k5, oc', od', osl', k6⟩ := ok ⟨K, fun _ => none, tl.map Prod.snd⟩ base Z
  rw [hmg] at k1
  cases k1
  have e : some (⟨oc, od, .func fd, osl⟩ : Obj) = some ⟨oc', od', .func fd', osl'⟩ := h6.symm.trans k6
  cases e
  exact k4
end Py

set_option maxHeartbeats 4000000
/-! Part 16: an empty dict, slices with a step, a list that is a sum, == of tuples of anything and (). -/
namespace Py
open PySem PySem.Spec PyProof.Rows L2
section
variable {G : Gc} {X : Cx} {W : WX} {m : Mu} {H : Hp} {S : Store} {e a b : Expr} {pos : Pos}
/-- {} -/
theorem je_emp : PE X (.Dict [] [] pos) (tE G W (dCst .emp)) :=
  pe_imp pe_dnewK fun σ H Q ⟨m, ρ, S, hS, hE, h⟩ => fun p hp => h m _ (Le.same (Same.new hp)) (hS.same (Same.new hp)) (.ref p) ⟨p, rfl, upd_same, hS.fresh hp⟩
/-- xs + ys, a list of its own -/
def dCatL (a b : DE) : DA := fun ρ S => (a ρ S).bind fun x S => (b ρ S).bind fun y S => match x, y with
  | .lst ds, .lst es => if ds.length + es.length ≤ sizeLine then .ok (ds ++ es) S else .bad
  | _, _ => .bad
theorem jl_cat {da db : DE} (ha : PE X a (tR G W da)) (hb : PE X b (tR G W db)) : PE X (.BinOp a .Add b pos) (tL G W (dCatL da db)) :=
  pe_imp (pe_op op_cat ha hb) fun σ H Q ⟨m, ρ, S, hS, hE, h⟩ => ⟨m, ρ, S, hS, hE, (AftL.of h).imp fun x S1 m1 H1 l1 hS1 h1 v rv => ⟨m1, ρ, S1, hS1, hE.le l1, (AftL.of h1).imp fun y S2 m2 H2 l2 hS2 h2 u ru => by
    cases x with
    | lst ds =>
      cases y with
      | lst es =>
        have h2 : AftL G m2 H2 (fun c x H' => W c x σ H') (if ds.length + es.length ≤ sizeLine then R.ok (ds ++ es) S2 else R.bad) Q := h2
        by_cases hz : ds.length + es.length ≤ sizeLine
        · rw [if_pos hz] at h2
          have rv := l2.rt rv
          obtain ⟨p, xs, rfl, q1, _, q2⟩ := rv
          obtain ⟨p', ys, rfl, q3, _, q4⟩ := ru
          exact ⟨p, p', xs, ys, rfl, rfl, q1, q3, by rw [q2.length, q4.length]; exact hz, fun l hl => AftL.new h2 hS2 (q2.append q4) hl⟩
        · rw [if_neg hz] at h2; exact h2.elim
      | _ => exact h2.elim
    | _ => exact h2.elim⟩⟩
/-! ### slices with a step -/
theorem Vals.pick {xs : List V} {us : List Value} (r : Vals xs us) : ∀ l : List Nat, Vals (l.filterMap (xs[·]?)) (l.filterMap (us[·]?))
  | [] => .nil
  | i :: l => by
    cases e : xs[i]? with
    | none =>
      have e2 := r.none_of e
      rw [List.filterMap_cons_none e, List.filterMap_cons_none e2]
      exact Vals.pick r l
    | some x =>
      obtain ⟨u, e2, q⟩ := r.get e
      rw [List.filterMap_cons_some e, List.filterMap_cons_some e2]
      exact .cons q (Vals.pick r l)
theorem RpL.pick {ds : List D} {xs : List V} (r : RpL G m H ds xs) : ∀ l : List Nat, RpL G m H (l.filterMap (ds[·]?)) (l.filterMap (xs[·]?))
  | [] => rfl
  | i :: l => by
    cases e : ds[i]? with
    | none =>
      have e2 : xs[i]? = none := by
        rw [List.getElem?_eq_none_iff] at e ⊢
        rw [r.length]; exact e
      rw [List.filterMap_cons_none e, List.filterMap_cons_none e2]
      exact RpL.pick r l
    | some x =>
      obtain ⟨u, e2, q⟩ := r.get e
      rw [List.filterMap_cons_some e, List.filterMap_cons_some e2]
      exact ⟨u, _, rfl, q, RpL.pick r l⟩
theorem RpL.rev : ∀ {ds : List D} {xs : List V}, RpL G m H ds xs → RpL G m H ds.reverse xs.reverse
  | [], _, h => by
    have h : _ = [] := h
    rw [h]; rfl
  | d :: ds, _, ⟨v, r, e, h1, h⟩ => by
    subst e
    rw [List.reverse_cons, List.reverse_cons]
    exact (RpL.rev h).append ⟨v, [], rfl, h1, rfl⟩
/-- the places of [::k] -/
def stepIx (n : Nat) (k : Int) : List Nat := sliceRange (sliceBounds none none (some k) n).1 (sliceBounds none none (some k) n).2.1 (sliceBounds none none (some k) n).2.2
def stepD (ds : List D) (k : Int) : List D := (stepIx ds.length k).filterMap (ds[·]?)
/-- xs[::k], a list | t[::-1] -/
def dStepL (k : Int) (a : DE) : DE := fun ρ S => (a ρ S).bind fun x S => match x with
  | .lst ds => .ok (.lst (stepD ds k)) S
  | _ => .bad
def dRevT (a : DE) : DE := fun ρ S => (a ρ S).bind fun x S => match x with
  | .tup ds => .ok (.tup ds.reverse) S
  | _ => .bad
theorem pe_stepL {te : TE} {i : Nat} {k : Nat} {p1 p3 : Pos} (hi : i ≠ 0) (he : PE X e te) : PE X (.Subscript e (.Slice none none (some (.Constant (.int (i : Nat)) k p1)) p3) pos)
    (fun σ H Q => te σ H fun x H1 => ∃ a xs, x = .ref a ∧ SqL X.K H1 a xs ∧ ∀ p, H1 p = none → Q (.ref p) (upd H1 p (.lst ((stepIx xs.length (i : Nat)).filterMap (xs[·]?))))) := by
  refine ⟨fun pins s σ H Q I h => ?_⟩
  refine Subscript_ (thn (he.run pins s σ H _ I h) fun v s1 ⟨x, H1, I1, r1, q1⟩ => ?_)
  obtain ⟨a, xs, ex, hx, q⟩ := q1
  subst ex
  cases r1
  have hst : PO X (some (.Constant (.int (i : Nat)) k p1)) (tPart (tC (.int (i : Nat)))) := po_some pe_int
  refine wpAny_Slice (thn (po_none.run pins s1 σ H1 (fun o H2 => o = none ∧ H2 = H1) I1 ⟨rfl, rfl⟩) fun vl s2 ⟨l, H2, I2, pl, el, e2⟩ => ?_)
  subst el e2
  refine thn (po_none.run pins s2 σ H2 (fun o H3 => o = none ∧ H3 = H2) I2 ⟨rfl, rfl⟩) fun vu s3 ⟨u, H3, I3, pu, eu, e3⟩ => ?_
  subst eu e3
  refine thn (hst.run pins s3 σ H3 (fun o H4 => o = some ((i : Nat) : Int) ∧ H4 = H3) I3 ⟨_, rfl, rfl, rfl⟩) fun vs s4 ⟨o, H4, I4, ps, eo, e4⟩ => ?_
  subst eo e4
  have I5 : Inv X pins σ H4 { s4 with heap := s4.heap.push { cls := .type "slice", data := .fields #[vl, vu, vs] } } := I4.kept (t' := s4.toks) fun b ob q => Heap.get?_push_of_some _ q
  obtain ⟨its, r, ht, hz⟩ := I5.list hx
  have hlen := r.length
  show wpAny (model X.prog X.w) X.A (subscriptTail e (.Slice none none (some (.Constant (.int (i : Nat)) k p1)) p3) (.ref a) (.ref s4.heap.objs.size)) (EP X pins σ Q) X.xe { s4 with heap := s4.heap.push { cls := .type "slice", data := .fields #[vl, vu, vs] } }
  refine tail_any (ops := [.ref a, .ref s4.heap.objs.size]) ht.isList.typeIs (PySem.slot_list_getitem.lookup) ?_ (by with_unfolding_all rfl)
  refine wpAny_getItem_list_slice ht.isList (Heap.IsSliceOf.new _ vl vu vs) pl pu ps (by simp; omega) ?_ (by rw [List.size_toArray]; omega)
  have ep : slicePick its.toArray none none (some ((i : Nat) : Int)) = ((stepIx xs.length (i : Nat)).filterMap (its[·]?)).toArray := by
    unfold slicePick stepIx
    rw [List.size_toArray, hlen]
    simp
  rw [ep]
  refine ⟨.ref _, _, I5.laid (t' := s4.toks) (o := .lst ((stepIx xs.length (i : Nat)).filterMap (xs[·]?))) (fun b ob q => Heap.get?_push_of_some _ q) (Nat.le_refl _) ?_, rfl, q _ (I5.hok.fresh (Nat.le_refl _))⟩
  refine ⟨?_, _, 0, Vals.pick r _, Heap.get?_push_size _ rfl⟩
  have h1 := slicePick_size_le its.toArray none none (some ((i : Nat) : Int))
  rw [ep, List.size_toArray, List.size_toArray] at h1
  rw [(Vals.pick r _).length]
  omega
theorem je_stepL {d : DE} {i : Nat} {k : Nat} {p1 p3 : Pos} (hK : X.K = G.K) (hi : i ≠ 0) (h : PE X e (tR G W d)) : PE X (.Subscript e (.Slice none none (some (.Constant (.int (i : Nat)) k p1)) p3) pos) (tE G W (dStepL (i : Nat) d)) :=
  pe_imp (pe_stepL hi h) fun σ H Q ⟨m, ρ, S, hS, hE, h⟩ => ⟨m, ρ, S, hS, hE, (Aft.bind h).imp fun x S1 m1 H1 l1 hS1 h1 v rv => by
    cases x with
    | lst ds =>
      obtain ⟨p, xs, rfl, q1, _, q2⟩ := rv
      have h1 : rRes G m1 H1 S1 (.lst (stepD ds (i : Nat))) Q := h1
      refine ⟨p, xs, rfl, by rw [hK]; exact SqL.of q1, fun l hl => h1.lst hS1 hl ?_⟩
      unfold stepD
      rw [← q2.length]
      exact q2.pick _
    | _ => exact h1.elim⟩
theorem sliceApplied_rev {s : Shared} {A : Around} {prog : Program} {w : World} {E : Value → Shared → Prop} {sl : Addr} {vl vu vs : Value} {n : Nat} {Q : Int × Int × Nat → Shared → Prop} (hs : s.heap.IsSliceOf sl vl vu vs) (pl : IsPart vl none) (pu : IsPart vu none) (ps : IsPart vs (some (-1)))
    (h : Q ((n : Int) - 1, -1, n) s) : wpAny (model prog w) A (Builtin.Slice.sliceApplied (.ref sl) (pure (n : Int))) Q E s := by
  obtain ⟨os, hos, hcs, hds⟩ := id hs
  unfold Builtin.Slice.sliceApplied Builtin.Slice.sliceFields
  refine wpAny_bind (wpAny_bind (wpAny_field hos hds (x := vl) rfl (wpAny_bind (wpAny_field hos hds (x := vu) rfl (wpAny_bind (wpAny_field hos hds (x := vs) rfl (wpAny_pure ?_)))))))
  refine wpAny_bind (HT.slicePart_ ps ?_)
  show wpAny _ _ (if ((-1 : Int) == 0) = true then _ else _) _ _ s
  rw [if_neg (by decide)]
  refine wpAny_bind (HT.slicePart_ pl (wpAny_bind (HT.slicePart_ pu (wpAny_bind (wpAny_pure ?_)))))
  show wpAny _ _ (match Builtin.Slice.sliceAdjust none none (-1) (n : Int) with | (lo, hi) => pure (lo, (-1 : Int), Builtin.Slice.slicePlaces lo hi (-1))) _ _ s
  have e1 : Builtin.Slice.sliceAdjust none none (-1) (n : Int) = ((n : Int) - 1, -1) := rfl
  rw [e1]
  show wpAny _ _ (pure ((n : Int) - 1, (-1 : Int), Builtin.Slice.slicePlaces ((n : Int) - 1) (-1) (-1))) _ _ s
  have e2 : Builtin.Slice.slicePlaces ((n : Int) - 1) (-1) (-1) = n := by
    unfold Builtin.Slice.slicePlaces
    rw [if_neg (by decide)]
    by_cases hn : n = 0
    · subst hn; rfl
    · rw [if_pos (by omega)]
      have : ((n : Int) - 1 - -1 - 1) / (- -1) + 1 = n := by
        rw [show (- -1 : Int) = 1 by decide, Int.ediv_one]; omega
      rw [this]; simp
  rw [e2]
  exact wpAny_pure h
theorem fm_congr {α β : Type} {f g : α → Option β} : ∀ l : List α, (∀ x ∈ l, f x = g x) → l.filterMap f = l.filterMap g
  | [], _ => rfl
  | x :: l, h => by
    have h1 := h x List.mem_cons_self
    have h2 := fm_congr l fun y hy => h y (List.mem_cons_of_mem _ hy)
    cases e : f x with
    | none => rw [List.filterMap_cons_none e, List.filterMap_cons_none (h1 ▸ e), h2]
    | some y => rw [List.filterMap_cons_some e, List.filterMap_cons_some (h1 ▸ e), h2]
theorem pick_rev (xs : Array Value) : ((List.range xs.size).filterMap fun (m : Nat) => xs[(((xs.size : Int) - 1) + (m : Int) * (-1)).toNat]?).toArray = xs.toList.reverse.toArray := by
  have e : ∀ m ∈ List.range xs.size, xs[(((xs.size : Int) - 1) + (m : Int) * (-1)).toNat]? = xs.toList.reverse[m]? := fun m hm => by
    have hm := List.mem_range.mp hm
    have : (((xs.size : Int) - 1) + (m : Int) * (-1)).toNat = xs.size - 1 - m := by omega
    rw [this, List.getElem?_reverse (by simpa using hm)]
    simp
  have e2 : (List.range xs.size).filterMap (fun (m : Nat) => xs[(((xs.size : Int) - 1) + (m : Int) * (-1)).toNat]?) = (List.range xs.size).filterMap fun m => xs.toList.reverse[m]? := by
    exact fm_congr _ e
  rw [e2]
  have := PySem.W.krv_all xs.toList.reverse.toArray
  simp only [List.size_toArray, List.length_reverse, Array.length_toList, List.getElem?_toArray] at this
  rw [this]
theorem getItem_tuple_rev {s : Shared} {A : Around} {prog : Program} {w : World} {E : Value → Shared → Prop} {t sl : Addr} {items : Array Value} {vl vu vs : Value} {Q : Value → Shared → Prop} (ht : IsTup s.heap t items) (hs : s.heap.IsSliceOf sl vl vu vs) (pl : IsPart vl none) (pu : IsPart vu none) (ps : IsPart vs (some (-1)))
    (h : Q (.ref s.heap.objs.size) { s with heap := s.heap.push { cls := .type "tuple", data := .seq items.toList.reverse.toArray } })
    (hsz : items.size ≤ sizeLine) : wpAny (model prog w) A (getItem (.ref t) (.ref sl)) Q E s := by
  have htake : sizeOk (.seq items.toList.reverse.toArray) := by
    show items.toList.reverse.toArray.size ≤ sizeLine
    simpa using hsz
  obtain ⟨os, hos, hcs, hds⟩ := id hs
  have hTs : s.TypeIs (.ref sl) "slice" := ⟨os, hos, hcs⟩
  unfold getItem
  try with_reducible refine wpAny_holding ?_
  first | refine wpAny_bind (wpAny_pure ?_) | skip
  refine wpAny_bind (wpAny_sequenceKey ht.typeIs (by decide) ?_)
  refine wpAny_bind (wpAny_callSpecial?_slot (name := Str.ofString "__getitem__") ht.typeIs PyProof.Rows.slot_tuple_getitem
    (wpAny_call_entry PyProof.Rows.slot_tuple_getitem ht.typeIs entry_tuple_getitem ?_ (args_tuple_getitem _ _)))
  show wpAny _ _ (Builtin.Tuple.tupleItemsOf (.ref t) >>= _) _ _ s
  refine wpAny_bind (PyProof.Rows.tupleItemsOf_ ht ?_)
  refine wpAny_bind (wpAny_typeOf hTs ?_)
  rw [if_pos (by decide)]
  refine wpAny_bind (sliceApplied_rev hs pl pu ps ?_)
  have hno : ¬ ((((items.size : Int) - 1) == 0 && (-1 : Int) == 1 && items.size == items.size) = true) := by
    intro q
    rw [Bool.and_eq_true, Bool.and_eq_true] at q
    exact absurd q.1.2 (by decide)
  show wpAny _ _ (if (((items.size : Int) - 1) == 0 && (-1 : Int) == 1 && items.size == items.size) = true then _ else _) _ _ s
  rw [if_neg hno, pick_rev]
  first
    | exact wpAny_bind (m := Builtin.Tuple.tupleExact _) (wpAny_newObj_type (wpAny_pure ⟨_, rfl, wpAny_pure h⟩) htake)
    | exact wpAny_bind (m := Builtin.Tuple.tupleExact _) (wpAny_newObj_type (wpAny_bind (wpAny_pure (wpAny_pure ⟨_, rfl, wpAny_pure h⟩))) htake)
    | exact wpAny_bind (wpAny_bind (m := Builtin.Tuple.tupleExact _) (wpAny_newObj_type (wpAny_pure (wpAny_pure ⟨_, rfl, wpAny_pure h⟩)) htake))
    | exact wpAny_bind (wpAny_bind (m := Builtin.Tuple.tupleExact _) (wpAny_newObj_type (wpAny_pure ⟨_, rfl, wpAny_pure h⟩) htake))
theorem pe_revT {te : TE} {k : Nat} {p1 p2 p3 : Pos} (he : PE X e te) : PE X (.Subscript e (.Slice none none (some (.UnaryOp .USub (.Constant (.int 1) k p1) p2)) p3) pos)
    (fun σ H Q => te σ H fun x H1 => ∃ a xs, x = .ref a ∧ SqT X.K H1 a xs ∧ ∀ p, H1 p = none → Q (.ref p) (upd H1 p (.tup xs.reverse))) := by
  refine ⟨fun pins s σ H Q I h => ?_⟩
  refine Subscript_ (thn (he.run pins s σ H _ I h) fun v s1 ⟨x, H1, I1, r1, q1⟩ => ?_)
  obtain ⟨a, xs, ex, hx, q⟩ := q1
  subst ex
  cases r1
  have hst : PO X (some (.UnaryOp .USub (.Constant (.int 1) k p1) p2)) (tPart (tUn (rU fun i => .int (-i)) (tC (.int 1)))) := po_some (pe_un un_neg pe_int)
  refine wpAny_Slice (thn (po_none.run pins s1 σ H1 (fun o H2 => o = none ∧ H2 = H1) I1 ⟨rfl, rfl⟩) fun vl s2 ⟨l, H2, I2, pl, el, e2⟩ => ?_)
  subst el e2
  refine thn (po_none.run pins s2 σ H2 (fun o H3 => o = none ∧ H3 = H2) I2 ⟨rfl, rfl⟩) fun vu s3 ⟨u, H3, I3, pu, eu, e3⟩ => ?_
  subst eu e3
  refine thn (hst.run pins s3 σ H3 (fun o H4 => o = some (-1) ∧ H4 = H3) I3 ⟨1, rfl, -1, rfl, rfl, rfl⟩) fun vs s4 ⟨o, H4, I4, ps, eo, e4⟩ => ?_
  subst eo e4
  have I5 : Inv X pins σ H4 { s4 with heap := s4.heap.push { cls := .type "slice", data := .fields #[vl, vu, vs] } } := I4.kept (t' := s4.toks) fun b ob q => Heap.get?_push_of_some _ q
  obtain ⟨its, r, ht, hz⟩ := I5.tuple hx
  have hlen := r.length
  show wpAny (model X.prog X.w) X.A (subscriptTail e (.Slice none none (some (.UnaryOp .USub (.Constant (.int 1) k p1) p2)) p3) (.ref a) (.ref s4.heap.objs.size)) (EP X pins σ Q) X.xe { s4 with heap := s4.heap.push { cls := .type "slice", data := .fields #[vl, vu, vs] } }
  refine tail_any (ops := [.ref a, .ref s4.heap.objs.size]) ht.typeIs (PyProof.Rows.slot_tuple_getitem.lookup) ?_ (by with_unfolding_all rfl)
  refine getItem_tuple_rev ht (Heap.IsSliceOf.new _ vl vu vs) pl pu ps ?_ (by rw [List.size_toArray]; omega)
  refine ⟨.ref _, _, I5.laid (t' := s4.toks) (o := .tup xs.reverse) (fun b ob q => Heap.get?_push_of_some _ q) (Nat.le_refl _) ?_, rfl, q _ (I5.hok.fresh (Nat.le_refl _))⟩
  exact ⟨by rw [List.length_reverse]; exact hz, _, r.reverse, IsTup.new _ _⟩
theorem je_revT {d : DE} {k : Nat} {p1 p2 p3 : Pos} (hK : X.K = G.K) (h : PE X e (tR G W d)) : PE X (.Subscript e (.Slice none none (some (.UnaryOp .USub (.Constant (.int 1) k p1) p2)) p3) pos) (tE G W (dRevT d)) :=
  pe_imp (pe_revT h) fun σ H Q ⟨m, ρ, S, hS, hE, h⟩ => ⟨m, ρ, S, hS, hE, (Aft.bind h).imp fun x S1 m1 H1 l1 hS1 h1 v rv => by
    cases x with
    | tup ds =>
      obtain ⟨p, xs, rfl, q1, q2⟩ := rv
      have h1 : rRes G m1 H1 S1 (.tup ds.reverse) Q := h1
      exact ⟨p, xs, rfl, by rw [hK]; exact q1.sq, fun l hl => h1.tup hS1 hl q2.rev⟩
    | _ => exact h1.elim⟩
/-! ### == () -/
def pEqT (S : Store) (d e : D) : Option D := match d, e with
  | .tup ds, .tup [] => some (.bl ds.isEmpty)
  | d, e => pEq S d e
theorem o_eqT0 (hK : X.K = G.K) (hu : X.A.units + 200 < cLine) : OpR X (compareOp .Eq) (fun x y H Q => ∃ (a b : Addr) (xs : List V), x = .ref a ∧ y = .ref b ∧ SqT G.K H a xs ∧ SqT G.K H b [] ∧ Q (.bl xs.isEmpty) H) := by
  intro pins s σ H x y v u Q I rx ry h
  obtain ⟨a, b, xs, rfl, rfl, h1, h2, q⟩ := h
  cases rx
  cases ry
  rw [← hK] at h1 h2
  obtain ⟨its, r, ht, hz⟩ := I.tuple h1
  obtain ⟨its2, r2, ht2, hz2⟩ := I.tuple h2
  have e2 : its2 = [] := r2.zero
  subst e2
  refine PySem.W.eq_tuplesT (n := 0) (e := fun _ => true) (vs := its.toArray) (vs' := #[]) ht ht2 (fun j h1 h2 => by simp at h2) (by omega) ⟨.bl xs.isEmpty, H, I, ?_, q⟩
  have : ((List.range (min its.toArray.size (#[] : Array Value).size)).all (fun _ => true) && its.toArray.size == (#[] : Array Value).size) = xs.isEmpty := by
    have := r.length
    cases xs with
    | nil => simp at this; simp [this.symm]
    | cons x xs =>
      cases its with
      | nil => simp at this
      | cons y ys => simp
  rw [this]; rfl
theorem o_eqT (hK : X.K = G.K) (hu : X.A.units + 200 < cLine) : OpR X (compareOp .Eq) (rO G pEqT) := by
  refine opr_imp (OpR.or (o_eq hK hu) (o_eqT0 hK hu)) fun x y H Q ⟨m, S, d, e, r, hS, hx, hy, hf, k⟩ => ?_
  unfold pEqT at hf
  split at hf
  · cases hf
    rename_i ds
    obtain ⟨a, xs, rfl, q1, q2⟩ := hx
    obtain ⟨b, ys, rfl, q3, q4⟩ := hy
    have e : ys = [] := q4
    subst e
    refine .inr ⟨a, b, xs, rfl, rfl, q1.sq, q3.sq, ?_⟩
    have : xs.isEmpty = ds.isEmpty := by
      have := q2.length
      cases xs <;> cases ds <;> simp at this <;> rfl
    rw [this]
    exact k.here hS (v := .bl _) rfl
  · exact .inl ⟨m, S, _, _, r, hS, hx, hy, hf, k⟩
/-! ### is True, is not True -/
def pIsB (_ : Store) : D → D → Option D
  | .bl a, .bl b => some (.bl (decide (a = b)))
  | _, _ => none
def pIsNotB (_ : Store) : D → D → Option D
  | .bl a, .bl b => some (.bl (!decide (a = b)))
  | _, _ => none
theorem o_isB : OpR X (compareOp .Is) (rO G pIsB) := by
  refine opr_imp op_isBl fun x y H Q ⟨m, S, d, e, r, hS, hx, hy, hf, k⟩ => ?_
  cases d <;> cases e <;> simp only [pIsB] at hf <;> first | cases hf; done | skip
  obtain rfl := Option.some.inj hf
  have hx : x = V.bl _ := hx
  have hy : y = V.bl _ := hy
  exact ⟨_, _, hx, hy, k.here hS (v := .bl _) rfl⟩
theorem o_isNotB : OpR X (compareOp .IsNot) (rO G pIsNotB) := by
  refine opr_imp op_notBl fun x y H Q ⟨m, S, d, e, r, hS, hx, hy, hf, k⟩ => ?_
  cases d <;> cases e <;> simp only [pIsNotB] at hf <;> first | cases hf; done | skip
  obtain rfl := Option.some.inj hf
  have hx : x = V.bl _ := hx
  have hy : y = V.bl _ := hy
  exact ⟨_, _, hx, hy, k.here hS (v := .bl _) rfl⟩
end
end Py

/-! Part 17: sorted(..) of data, empty tuples among them too. -/
namespace PySem.W
open PySem PySem.Calls PyProof.Rows PySem.SeqAt
section
variable {prog : Program} {w : World} {A : Around} {E : Value → Shared → Prop} {s : Shared}
theorem call_tuple_ltX {Q : Value → Shared → Prop} {l b : Addr} {items items2 : Array Value} {e r : Nat → Bool} (hl : s.heap.IsTuple l items) (hb : s.heap.IsTuple b items2)
    (he : ∀ j (h1 : j < items.size) (h2 : j < items2.size), EqAt A.in1 s items[j] items2[j] (e j)) (hr : ∀ j (h1 : j < items.size) (h2 : j < items2.size), e j = false → RcLt A.in1 s items[j] items2[j] (r j))
    (h : Q (.bool (firstLt e r (decide (items.size < items2.size)) (List.range (min items.size items2.size)))) s) : wpAny (model prog w) A (call (.builtin "tuple.__lt__") [.ref l, .ref b]) Q E s := by
  obtain ⟨⟨cls, dd, data, sl⟩, ho, hc, n, hd⟩ := id hl
  obtain ⟨⟨cls2, dd2, data2, sl2⟩, ho2, hc2, n2, hd2⟩ := id hb
  simp only at hc hd hc2 hd2
  subst hc hd hc2 hd2
  exact call_meets F.slot_tuple_lt ⟨_, ho, rfl⟩ F.entry_tuple_lt (F.args_tuple_lt_2 _ _) (tuple_ltAt l b items items2 n n2 dd dd2 sl sl2 e r) ⟨ho, ho2, he, hr, h⟩
theorem oneLt_tuplesX {f : Bool} {xs ys : List PyData} {a b : Value} {as bs : List Addr} {Q : Bool → Shared → Prop} (ra : Reads s.heap a (.tuple xs) as) (rb : Reads s.heap b (.tuple ys) bs) (h : alike (.tuple xs) (.tuple ys) = true)
    (hu : A.units + min (PyData.tuple xs).depth (PyData.tuple ys).depth < cLine) (hq : Q (dataLt (.tuple xs) (.tuple ys)) s) : wpAny (model prog w) A (oneLt' f a b) Q E s := by
  cases f with
  | false => exact oneLt_alike (fun z => by cases z) ra rb h (fun z => by cases z) hu hq
  | true =>
    have hal : alikeAll xs ys = true := by simpa [alike] using h
    cases ra with
    | @tuple l o vs n _ as₁ h1 h2 h3 h4 =>
      cases rb with
      | @tuple l' o' vs' n' _ bs₁ k1 k2 k3 k4 =>
        have n1 : vs.size = xs.length := by simpa using SeqAt.ReadsAll.length _ _ _ h4
        have n2 : vs'.size = ys.length := by simpa using SeqAt.ReadsAll.length _ _ _ k4
        rw [dataLt_tuple, ← firstLt_toks xs ys hal, ← n1, ← n2] at hq
        rw [oneLt'_eq]
        simp only [if_true]
        refine wpAny_bind (wpAny_cRoomFor (SeqAt.room_here hu) ?_)
        refine wpAny_bind (wpAny_callSpecialIfBound?_slot (T := "tuple") ⟨_, h1, h2⟩ F.slot_tuple_lt (call_tuple_ltX (e := pairEq xs ys) (r := fun j => dataLt (xs.getD j .none) (ys.getD j .none)) ⟨_, h1, h2, _, h3⟩ ⟨_, k1, k2, _, k3⟩ (fun j j1 j2 => ?_) (fun j j1 j2 hj => ?_) ?_))
        · have := eqAt_alikeAll xs ys A.in1 s vs.toList vs'.toList _ _ h4 k4 hal (SeqAt.room_in hu) j (by simpa using j1) (by simpa using j2)
          simpa using this
        · have := rcLt_alikeAll xs ys A.in1 s vs.toList vs'.toList _ _ h4 k4 hal (SeqAt.room_in hu) j (by simpa using j1) (by simpa using j2) hj
          simpa using this
        · exact wpAny_truthy_bool hq
end
section
variable {M : Model} {A : Around} {s : Shared}
theorem firstsX : ∀ {vs : List Value} {ds : List PyData}, EachIs (fun v d => ∃ as, Reads s.heap v d as) vs ds → (∀ d ∈ ds, ∃ xs, d = .tuple xs) →
    ∃ fs : List (Option Value), fs.length = ds.length ∧ (∀ i : Nat, ∀ f, fs[i]? = some f → ∀ xs, ds[i]? = some (.tuple xs) → f.isSome = !xs.isEmpty) ∧ ∀ (E : Value → Shared → Prop) (Q : List (Option Value) → Shared → Prop), Q fs s → wpAny M A (vs.mapM firstOfTuple') Q E s
  | _, _, .nil, _ => ⟨[], rfl, fun i f h => by simp at h, fun E Q h => by rw [List.mapM_nil]; exact wpAny_pure h⟩
  | _, _, .cons (b := d) ⟨as, r⟩ t, ht => by
    obtain ⟨fs, h1, h2, h3⟩ := firstsX t fun d hd => ht d (List.mem_cons_of_mem _ hd)
    obtain ⟨ys, rfl⟩ := ht d List.mem_cons_self
    cases r with
    | @tuple a o xs n _ _ ho hc hd hr =>
      refine ⟨xs[0]? :: fs, by simp [h1], fun i f e zs e2 => ?_, fun E Q h => ?_⟩
      · cases i with
        | zero =>
          simp only [List.getElem?_cons_zero, Option.some.injEq, PyData.tuple.injEq] at e e2
          subst e e2
          have := SeqAt.ReadsAll.length _ _ _ hr
          cases ys with
          | nil =>
            have hz : xs.size = 0 := by simpa using this
            simp [hz]
          | cons y ys =>
            have hz : 0 < xs.size := by simp at this; omega
            simp [hz]
        | succ i =>
          simp only [List.getElem?_cons_succ] at e e2
          exact h2 i f e zs e2
      · rw [List.mapM_cons]
        refine wpAny_bind ?_
        rw [kas_first_eq]
        refine wpAny_bind (Looks.here (show Looks M s.heap (typeOf (.ref a)) o.cls from (Looks.ld ho).andThen .now) ?_)
        rw [hc, if_neg (by first | decide | simp)]
        refine wpAny_bind (listItems_at ho hd (wpAny_pure ?_))
        exact wpAny_bind (h3 E (fun bs s' => wpAny M A (pure (xs[0]? :: bs)) Q E s') (wpAny_pure h))
end
section
variable {prog : Program} {w : World} {A : Around} {s : Shared}
theorem SortsAt.dataT {vs : List Value} {ds : List PyData} (e : EachIs (fun v d => ∃ as, Reads s.heap v d as) vs ds) (hal : AllAlike ds) (hk : ∀ d ∈ ds, ∃ xs, d = .tuple xs) (hu : ∀ d, d ∈ ds → A.units + d.depth < cLine) : SortsAt prog w A s (dataKind s.heap ds) vs := by
  by_cases hne : ∀ d, d ∈ ds → ∃ x r, d = .tuple (x :: r)
  · exact SortsAt.data e hal (.inl hne) hu
  have room : ∀ {d d' : PyData}, d ∈ ds → A.units + min d.depth d'.depth < cLine := fun {d d'} hd => Nat.lt_of_le_of_lt (Nat.add_le_add_left (Nat.min_le_left _ _) _) (hu d hd)
  have keys : ∀ v, v ∈ vs → ∃ a, (dataKind s.heap ds).keyOf v = some a := fun v hv => by
    obtain ⟨d, hd, as, r⟩ := e.left v hv
    exact ⟨_, dataKind_some hal hd r⟩
  have lt : ∀ f : Bool, ∀ (E : Value → Shared → Prop) (x y : Value) (a b : List (Int ⊕ List Nat)) (Q : Bool → Shared → Prop), (dataKind s.heap ds).keyOf x = some a → (dataKind s.heap ds).keyOf y = some b → Q (PyProof.Rows.lexLt itemOrd a b) s → wpAny (model prog w) A (oneLt' f x y) Q E s := fun f E x y a b Q ha hb hq => by
    obtain ⟨d, as, hd, ra, rfl⟩ := dataKind_inv ha
    obtain ⟨d', as', hd', rb, rfl⟩ := dataKind_inv hb
    obtain ⟨xs, rfl⟩ := hk d hd
    obtain ⟨ys, rfl⟩ := hk d' hd'
    exact oneLt_tuplesX ra rb (hal _ hd _ hd') (room hd) hq
  obtain ⟨fs, h1, h2, h3⟩ := firstsX (M := model prog w) (A := A) e hk
  have hlen := e.length
  -- not all are some
  have hnall : (fs.toArray.all fun x => x.isSome) = false := by
    rw [Bool.eq_false_iff]
    intro z
    apply hne
    intro d hd
    obtain ⟨xs, rfl⟩ := hk d hd
    obtain ⟨i, hi⟩ := List.getElem?_of_mem hd
    have hil : i < fs.length := by rw [h1]; exact (List.getElem?_eq_some_iff.mp hi).1
    have hf := h2 i fs[i] (by simp [hil]) xs hi
    simp only [List.all_toArray, List.all_eq_true] at z
    rw [z _ (List.getElem_mem hil)] at hf
    cases xs with
    | nil => simp at hf
    | cons x r => exact ⟨x, r, rfl⟩
  refine ⟨keys, if (fs[0]?.bind id).isSome then general' else oneType', fun E x y a b Q ha hb hq => ?_, fun hl2 E Q hq => ?_⟩
  · split
    · exact lt false E x y a b Q ha hb hq
    · exact lt true E x y a b Q ha hb hq
  · rw [keyKind'_eq, List.mapM_toArray, map_eq_pure_bind]
    refine wpAny_bind (wpAny_bind (h3 E _ (wpAny_pure ?_)))
    rw [if_neg (by rw [hnall]; exact Bool.false_ne_true)]
    have e0 : (fs.toArray[0]?.bind id) = (fs[0]?.bind id) := by simp
    rw [e0]
    by_cases h0 : (fs[0]?.bind id).isSome = true
    · rw [if_pos h0]
      rw [if_pos h0] at hq
      exact wpAny_pure hq
    · rw [if_neg h0]
      rw [if_neg h0] at hq
      rw [oneTypeOnly'_eq, List.mapM_toArray, map_eq_pure_bind]
      refine wpAny_bind (wpAny_bind (wpAny_bind (kas_mapM (r := Value.type "tuple") _ (fun v hv Q' hq' => ?_) (wpAny_pure ?_))))
      · obtain ⟨d, hd, as, r⟩ := e.left v hv
        obtain ⟨xs, rfl⟩ := hk d hd
        exact (looks_reads (M := model prog w) r).here hq'
      · have hall2 : ((List.map (fun _ => Value.type "tuple") vs).toArray.all fun x => x == Value.type "tuple") = true := by
          simp only [List.all_toArray, List.all_map, List.all_eq_true]
          intro _ _
          exact beq_self_eq_true _
        have h00 : (List.map (fun _ => Value.type "tuple") vs).toArray[0]? = some (Value.type "tuple") := by
          cases vs with
          | nil => simp at hl2
          | cons v r => simp
        rw [h00]
        simp only [hall2, if_true]
        exact wpAny_pure (wpAny_pure hq)
end
end PySem.W

/-! Part 18: sorted, texts, extend. -/
namespace PySem.W
open PySem PySem.Calls PyProof.Rows
theorem sorted_dataX {prog : Program} {w : World} {A : Around} {E : Value → Shared → Prop} {s : Shared} {β : Type} {vs : List Value} {bs : List β} {enc : β → PyData} {R : Value → β → Prop} {l : Addr} {Q : Value → Shared → Prop} (hl : s.heap.IsList l vs.toArray) (e : EachIs R vs bs) (er : EachIs (fun v b => ∃ as, Reads s.heap v (enc b) as) vs bs) (hal : AllAlike (bs.map enc))
    (hk : Sortable (bs.map enc) ∨ ∀ d ∈ bs.map enc, ∃ xs, d = .tuple xs) (hL : bs.length ≤ sizeLine) (hu : ∀ b, b ∈ bs → A.units + 2 + (enc b).depth < cLine)
    (h : ∀ out, out.length = bs.length → EachIs R out (bs.mergeSort (dataLe false enc)) → Q (.ref (s.heap.objs.size + 1)) { s with heap := sortedAll s.heap vs (List.toArray out) }) :
    wpAny (model prog w) A (call (.builtin "sorted") [.ref l]) Q E s := by
  have er' : EachIs (fun v b => ∃ as, Reads (sortingHeap (copyHeap s.heap vs) (s.heap.objs.size + 1) vs) v (enc b) as) vs bs := er.mono fun _ _ ⟨as, r⟩ => ⟨as, PyProof.Rows.Reads.keeps (fun _ _ => sorting_copy_old) r⟩
  have em := each_map (R := fun v d => ∃ as, Reads (sortingHeap (copyHeap s.heap vs) (s.heap.objs.size + 1) vs) v d as) enc er'
  refine sorted_vals hl ?_ (by rw [e.length]; exact hL) (h _ (by rw [sortVals_length false rfl]; exact e.length) (sortVals_data false e er' hal))
  rcases hk with hk | hk
  · exact SortsAt.data (s := { s with heap := sortingHeap (copyHeap s.heap vs) (s.heap.objs.size + 1) vs }) em hal hk (bound_map hu)
  · exact SortsAt.dataT (s := { s with heap := sortingHeap (copyHeap s.heap vs) (s.heap.objs.size + 1) vs }) em hal hk (bound_map hu)
end PySem.W
namespace Py
open PySem PySem.Spec PyProof.Rows L2
def lstOf (S : Store) : D → Option (List D)
  | .lst ds => some ds
  | .ref n => match S[n]? with
    | some (.lst ds) => some ds
    | some (.frz ds) => some ds
    | _ => none
  | _ => none
def sortD (ds : List D) : List D := ds.mergeSort (PySem.W.dataLe false D.py)
def isTupP : D → Bool
  | .tup _ => true
  | _ => false
def sortOk (ds : List D) : Bool := ds.all shal && (ds.all fun a => ds.all fun b => PySem.W.alike a.py b.py) && (ds.all isTupP || ds.all fun d => !isTupP d && !isNonD d) && decide (ds.length ≤ 1000000)
def qSort (S : Store) : List D → Option (List D)
  | [d] => (lstOf S d).bind fun ds => if sortOk ds = true then some (sortD ds) else none
  | _ => none
section
variable {G : Gc} {W : WX} {X : Cx} {e a b c tg : Expr} {m m' : Mu} {H H' : Hp} {S : Store} {σ : Sg} {pos p : Pos}
theorem lst_ok {d : D} {ds : List D} {v : V} (hS : Holds G m H S) (h : lstOf S d = some ds) (r : Rt G m H d v) : ∃ p xs, v = .ref p ∧ SqL G.K H p xs ∧ RpL G m H ds xs := by
  cases d <;> simp only [lstOf] at h <;> first | cases h; done | skip
  · rename_i n
    obtain ⟨p, rfl, hp⟩ := r
    split at h
    · rename_i es he
      cases h
      obtain ⟨xs, q1, q2⟩ := hS.ob n _ p he hp
      exact ⟨p, xs, rfl, SqL.of q1, q2⟩
    · rename_i es he
      cases h
      obtain ⟨o, xs, q1, q2⟩ := hS.ob n _ p he hp
      exact ⟨p, xs, rfl, .inl (.inr ⟨o, q1⟩), q2⟩
    · cases h
  · cases h
    obtain ⟨p, xs, rfl, q1, _, q2⟩ := r
    exact ⟨p, xs, rfl, SqL.of q1, q2⟩
theorem each_rp : ∀ {ds : List D} {xs : List V} {us : List Value}, RpL G m H ds xs → Vals xs us → PySem.W.EachIs (fun (u : Value) (d : D) => ∃ x, RelV x u ∧ Rp G m H d x) us ds
  | [], _, _, h, r => by
    have h : _ = [] := h
    subst h; cases r; exact .nil
  | d :: ds, _, _, ⟨v, t, e, h1, h2⟩, r => by
    subst e
    cases r with
    | cons r1 r2 => exact .cons ⟨v, r1, h1⟩ (each_rp h2 r2)
theorem rp_each : ∀ {ds : List D} {us : List Value}, PySem.W.EachIs (fun (u : Value) (d : D) => ∃ x, RelV x u ∧ Rp G m H d x) us ds → ∃ xs, Vals xs us ∧ RpL G m H ds xs
  | _, _, .nil => ⟨[], .nil, rfl⟩
  | _, _, .cons ⟨x, r, h⟩ t => by
    obtain ⟨xs, r2, h2⟩ := rp_each t
    exact ⟨x :: xs, .cons r r2, x, xs, rfl, h, h2⟩
theorem each_reads {pins : List (Addr × Obj)} {s : Shared} (I : Inv X pins σ H s) (hK : X.K = G.K) : ∀ {ds : List D} {us : List Value}, (∀ d ∈ ds, d.okd = true) → PySem.W.EachIs (fun (u : Value) (d : D) => ∃ x, RelV x u ∧ Rp G m H d x) us ds → PySem.W.EachIs (fun v (b : D) => ∃ as, Reads s.heap v (D.py b) as) us ds
  | _, _, _, .nil => .nil
  | _, _, ho, .cons ⟨x, r, h⟩ t => .cons (Rp.reads I hK _ _ _ (ho _ List.mem_cons_self) h r) (each_reads I hK (fun d hd => ho d (List.mem_cons_of_mem _ hd)) t)
theorem tup_py {d : D} (h : isTupP d = true) : ∃ xs, d.py = .tuple xs := by
  cases d <;> simp [isTupP] at h
  exact ⟨_, by rw [D.py]⟩
theorem sortable_of {ds : List D} (h : sortOk ds = true) : (∀ d ∈ ds, d.okd = true ∧ d.py.depth ≤ 100) ∧ PySem.W.AllAlike (ds.map D.py) ∧ (PySem.W.Sortable (ds.map D.py) ∨ ∀ d ∈ ds.map D.py, ∃ xs, d = .tuple xs) ∧ ds.length ≤ 1000000 := by
  unfold sortOk at h
  simp only [Bool.and_eq_true, Bool.or_eq_true, List.all_eq_true, decide_eq_true_eq] at h
  obtain ⟨⟨⟨h1, h2⟩, h3⟩, h4⟩ := h
  refine ⟨fun d hd => shal_ok (h1 d hd), fun x hx y hy => ?_, ?_, h4⟩
  · obtain ⟨d, hd, rfl⟩ := List.mem_map.mp hx
    obtain ⟨e, he, rfl⟩ := List.mem_map.mp hy
    exact h2 d hd e he
  · rcases h3 with h3 | h3
    · exact .inr fun x hx => by
        obtain ⟨d, hd, rfl⟩ := List.mem_map.mp hx
        exact tup_py (h3 d hd)
    · refine .inl (.inr fun x hx => ?_)
      obtain ⟨d, hd, rfl⟩ := List.mem_map.mp hx
      have k := (shal_ok (h1 d hd)).1
      have k2 := h3 d hd
      cases d <;> simp_all [D.py, isNonD, D.okd, isTupP]
/-- sorted(xs), data -/
def rSD (G : Gc) : List V → Hp → VK → Prop := fun vs H Q => ∃ m S d ds v, Holds G m H S ∧ vs = [v] ∧ Rt G m H d v ∧ lstOf S d = some ds ∧ sortOk ds = true ∧ ∀ p xs, H p = none → RpL G m H (sortD ds) xs → Q (.ref p) (upd H p (.lst xs))
theorem cr_sortD (hK : X.K = G.K) (hu : X.A.units + 200 < cLine) : CallR X (.builtin "sorted") (rSD G) := by
  intro pins s σ H vs us Q I r h
  obtain ⟨m, S, d, ds, v, hS, rfl, rv, h1, h2, q⟩ := h
  obtain ⟨p, xs, rfl, q1, q2⟩ := lst_ok hS h1 rv
  obtain ⟨k1, k2, k3, k4⟩ := sortable_of h2
  rw [← hK] at q1
  obtain ⟨its, ri, hl, hz⟩ := I.list q1
  rw [Vals.ref1 r]
  have e := each_rp q2 ri
  have er := each_reads I hK (fun d hd => (k1 d hd).1) e
  refine PySem.W.sorted_dataX hl.isList e er k2 k3 (by rw [sizeLine_eq]; omega) (fun d hd => by have := (k1 d hd).2; omega) fun out ho eo => ?_
  obtain ⟨ys, r2, rp⟩ := rp_each eo
  obtain ⟨ep, he'⟩ := PyProof.Rows.sortedAll_at s.heap its out.toArray
  have hlen : ys.length ≤ sizeLine := by rw [r2.length, ho, sizeLine_eq]; omega
  exact ⟨.ref _, upd H (s.heap.objs.size + 1) (.lst ys), I.laid (t' := s.toks) (fun _ _ => PyProof.Rows.sortedAll_old) (Nat.le_succ _) ⟨hlen, out, ep, r2, he'⟩, rfl, q _ _ (I.hok.fresh (Nat.le_succ _)) rp⟩
theorem jl_sort {r : DA} (hK : X.K = G.K) (hu : X.A.units + 200 < cLine) (hg : Gl X "sorted") (hm : X.mg "sorted" = none) (ha : PA X [e] (tB G W r)) (hs : starB e = false) : PE X (.Call (.Name "sorted" p) [e] [] pos) (tL G W (dPrL qSort r)) :=
  pe_imp (pe_callB (cr_sortD hK hu) hg hm PyProof.Rows.boot_sorted ha (by decide) (by decide) (starEach_plain hs) (by rfl)) fun σ H Q ⟨m, ρ, S, hS, hE, h⟩ => ⟨m, ρ, S, hS, hE, (AftL.of h).imp fun xs S1 m1 H1 l1 hS1 h1 vs rvs => by
    obtain ⟨ds, e, h1⟩ := aftL_opt h1
    unfold qSort at e
    split at e
    · obtain ⟨es, e1, e2⟩ := Option.bind_eq_some_iff.mp e
      obtain ⟨hc, rfl⟩ := some_ifp e2
      obtain ⟨v, rfl, rv⟩ := rvs.one
      exact ⟨m1, S1, _, es, v, hS1, rfl, rv, e1, hc, fun p xs hp rp => AftL.new h1 hS1 rp hp⟩
    · cases e⟩
end
end Py

/-! Part 19: join, split, extend, dicts of tuples, keyword calls, named tuples, a def that is never entered. -/
namespace Py
open PySem PySem.Spec PyProof.Rows L2
def strsD : List D → Option (List Str)
  | [] => some []
  | .str z :: r => (strsD r).map (z :: ·)
  | _ => none
section
variable {G : Gc} {W : WX} {X : Cx} {e a b c tg o : Expr} {m m' : Mu} {H H' : Hp} {S : Store} {σ : Sg} {pos p : Pos} {kp : Addr → Prop} {ρ : Env}
theorem strsD_map : ∀ {ds : List D} {ns : List Str}, strsD ds = some ns → ds = ns.map D.str
  | [], ns, h => by cases h; rfl
  | d :: ds, ns, h => by
    cases d <;> simp only [strsD] at h <;> first | cases h; done | skip
    obtain ⟨r, e, e2⟩ := Option.map_eq_some_iff.mp h
    subst e2
    rw [strsD_map e]; rfl
theorem RpL.strs : ∀ {ns : List Str} {xs : List V}, RpL G m H (ns.map D.str) xs → xs = ns.map V.str
  | [], _, h => h
  | n :: ns, _, ⟨v, r, e, h1, h2⟩ => by
    subst e
    obtain rfl : v = V.str n := h1
    rw [RpL.strs h2]; rfl
theorem RpL.ofStrs : ∀ (ns : List Str), RpL G m H (ns.map D.str) (ns.map V.str)
  | [] => rfl
  | n :: ns => ⟨_, _, rfl, rfl, RpL.ofStrs ns⟩
/-- sep.join(xs) -/
def pJoin (S : Store) (a : Str) (y : D) : Option D := ((seqOf S y).bind strsD).bind fun ys => if (ys.map (·.length)).sum + ys.length * a.length ≤ 16777216 then some (.str (Txt.join a ys)) else none
def dJoin (d : DE) (x : DE) : DE := fun ρ S => (d ρ S).bind fun s S => match s with
  | .str a => (x ρ S).bind fun y S => optM (pJoin S a y) S
  | _ => .bad
theorem je_join {ds dx : DE} {apos : Pos} (hK : X.K = G.K) (ho : PE X o (tE G W ds)) (he : PE X e (tR G W dx)) (hs : starB e = false) (hbase : attributeBase o "join" X.env (eval o X.env) = eval o X.env) (hline : (apos.endLine == pos.line) = true) :
    PE X (.Call (.Attribute o "join" apos) [e] [] pos) (tE G W (dJoin ds dx)) :=
  pe_imp (pe_join ho he (starEach_plain hs) hbase hline) fun σ H Q ⟨m, ρ, S, hS, hE, h⟩ => ⟨m, ρ, S, hS, hE, (Aft.bind h).imp fun x S1 m1 H1 l1 hS1 h1 v rv => by
    cases x with
    | str a =>
      obtain rfl : v = V.str a := rv
      refine ⟨⟨a, rfl⟩, m1, ρ, S1, hS1, hE.le l1, (Aft.bind h1).imp fun y S2 m2 H2 l2 hS2 h2 u ru => ?_⟩
      obtain ⟨r, e, k⟩ := aft_opt h2
      unfold pJoin at e
      obtain ⟨ys, e1, e2⟩ := Option.bind_eq_some_iff.mp e
      obtain ⟨es, e3, e4⟩ := Option.bind_eq_some_iff.mp e1
      obtain ⟨hz, rfl⟩ := some_ifp e2
      obtain ⟨q, xs, rfl, q1, q2⟩ := seq_ok hS2 e3 ru
      rw [strsD_map e4] at q2
      obtain rfl := q2.strs
      exact ⟨a, q, ys, rfl, rfl, by rw [hK]; exact q1, hz, k m2 H2 Le.refl hS2 _ rfl⟩
    | _ => exact h1.elim⟩
/-- s.split(sep), a new list -/
def dSplit (d : DE) (x : DE) : DA := fun ρ S => (d ρ S).bind fun s S => match s with
  | .str a => (x ρ S).bind fun y S => (match y with
    | .str b => if (b.length == 0) = false ∧ a.length + 2 ≤ sizeLine then .ok ((Txt.split a b).map D.str) S else .bad
    | _ => .bad)
  | _ => .bad
theorem jl_split {ds dx : DE} {apos : Pos} (ho : PE X o (tE G W ds)) (he : PE X e (tE G W dx)) (hs : starB e = false) (hbase : attributeBase o "split" X.env (eval o X.env) = eval o X.env) (hline : (apos.endLine == pos.line) = true) :
    PE X (.Call (.Attribute o "split" apos) [e] [] pos) (tL G W (dSplit ds dx)) :=
  pe_imp (pe_split ho he (starEach_plain hs) hbase hline) fun σ H Q ⟨m, ρ, S, hS, hE, h⟩ => ⟨m, ρ, S, hS, hE, (AftL.of h).imp fun x S1 m1 H1 l1 hS1 h1 v rv => by
    cases x with
    | str a =>
      obtain rfl : v = V.str a := rv
      refine ⟨⟨a, rfl⟩, m1, ρ, S1, hS1, hE.le l1, (AftL.of h1).imp fun y S2 m2 H2 l2 hS2 h2 u ru => ?_⟩
      cases y with
      | str b =>
        have h2 : AftL G m2 H2 (fun c x H' => W c x σ H') (if (b.length == 0) = false ∧ a.length + 2 ≤ sizeLine then .ok ((Txt.split a b).map D.str) S2 else .bad) Q := h2
        by_cases hc : (b.length == 0) = false ∧ a.length + 2 ≤ sizeLine
        · rw [if_pos hc] at h2
          exact ⟨a, b, rfl, by rw [show u = V.str b from ru], hc.1, hc.2, fun q hq => AftL.new h2 hS2 (RpL.ofStrs _) hq⟩
        · rw [if_neg hc] at h2; exact h2.elim
      | _ => exact h2.elim
    | _ => exact h1.elim⟩
/-! ### xs.extend(ys), xs a list of one's own -/
def fExt (ds : List D) (y : D) : Option (List D) := match y with
  | .lst es => if ds.length + es.length ≤ sizeLine then some (ds ++ es) else none
  | _ => none
theorem js_ext {i : Nat} {x : Str} {d : DE} {apos cpos : Pos} (hK : X.K = G.K) (hN : X.N[i]? = some x) (hv : Vis X.env.scope x) (hd : (x == ("__debug__" : Str)) = false) (hcd : (x == ("__classdict__" : Str)) = false) (ha : PE X e (tE G W d)) (hs : starB e = false)
    (hbase : attributeBase (.Name x p) "extend" X.env (eval (.Name x p) X.env) = eval (.Name x p) X.env)
    (hfew : ((backTo cpos (starEach [e] X.env)).all (fun x => !x.1) && (backToKw cpos (keywordEach [] X.env)).all (fun x => x.1.isSome)
      && decide (([e] : List Expr).length + ([] : List Keyword).length + (if ([] : List Keyword).isEmpty then 0 else 1) < 30)) = true)
    (hline : (apos.endLine == cpos.line) = true) (hsw : swapsWith (.Call (.Attribute (.Name x p) "extend" apos) [e] [] cpos) none pos.line X.env = pure false) :
    PS X (.Expr (.Call (.Attribute (.Name x p) "extend" apos) [e] [] cpos) pos) (tS G W (dOwn i fExt d)) := by
  refine ps_imp (ps_expr (pe_bm F.plainAttrs_list F.slot_list_extend F.type_list_extend mt_extend (pe_var hN hv hd hcd) (pa_cons ha pa_nil (starEach_plain hs)) hbase hfew hline (starEach_plain hs) (by rfl)) hsw) fun D σ H ⟨kp, m, ρ, S, hS, F, h⟩ => ?_
  unfold dOwn at h
  split at h
  · rename_i ds hd
    obtain ⟨v, q1, a, e, q2, q3, q4⟩ := F.rp.at_ i _ hd
    subst e
    have hk := F.own i ds a hd q1
    obtain ⟨xs0, e0, r0⟩ := id q4
    refine ⟨.ref a, q1, .inl ⟨rfl, xs0, by rw [hK]; exact SqL.of e0⟩, m, ρ, S, hS, F.rp, (AftS.rS h F).imp fun y S1 m1 H1 l1 hS1 h1 v rv => ?_⟩
    cases y with
    | lst es =>
      obtain ⟨b, zs, rfl, g1, g2, g3⟩ := rv
      have h1 : AftS G W kp m1 H1 D (match (if ds.length + es.length ≤ sizeLine then some (ds ++ es) else none) with
        | some ds' => some (.nx (ρ.set i (some (.own ds'))), S1)
        | none => none) := h1
      by_cases hz : ds.length + es.length ≤ sizeLine
      · rw [if_pos hz] at h1
        have F1 := F.le l1
        obtain ⟨kO, ka, xs, e, rx⟩ := F1.rp.known hd q1
        exact ⟨a, b, xs, zs, rfl, rfl, e, g1, by rw [rx.length, g3.length]; exact hz, h1 m1 _ σ (Lx.putK hk kO e) (hS1.put kO e) (F1.upd hd q1 e (rx.append g3))⟩
      · rw [if_neg hz] at h1; exact h1.elim
    | _ => exact h1.elim
  · exact h.elim
/-! ### objects of the store -/
/-- a new object of the store -/
theorem Le.growO {p : Addr} {o : HO} (hp : H p = none) : Le G m H ⟨m.as ++ [p], m.O⟩ (upd H p o) := (Le.same (Same.new hp)).grow hp
theorem rp_growO {p : Addr} {o : HO} {d : D} {v : V} (hp : H p = none) (h : Rp G m H d v) : Rp G ⟨m.as ++ [p], m.O⟩ (upd H p o) d v := (Le.growO hp).rp h
theorem Holds.growO {p : Addr} {o : HO} {ob : Ob} (hS : Holds G m H S) (hp : H p = none) (r : RpO G ⟨m.as ++ [p], m.O⟩ (upd H p o) ob p) : Holds G ⟨m.as ++ [p], m.O⟩ (upd H p o) (S ++ [ob]) := by
  have pn : p ∉ m.as := fun z => hS.fresh hp (.inl z)
  have hl : m.as.length = S.length := hS.len
  refine ⟨by simp [hl], ?_, fun n ob' a e1 e2 => ?_, fun a q z => ?_, fun a q => (Le.same (G := G) (m := m) (Same.new hp)).there a (hS.there a q)⟩
  · show (m.as ++ [p]).Nodup
    rw [List.nodup_append]
    exact ⟨hS.nd, by simp, fun a ha b hb => by
      rw [List.mem_singleton.mp hb]
      exact fun z => pn (z ▸ ha)⟩
  · have e2 : (m.as ++ [p])[n]? = some a := e2
    by_cases hn : n < S.length
    · rw [List.getElem?_append_left hn] at e1
      rw [List.getElem?_append_left (by rw [hl]; exact hn)] at e2
      exact (hS.ob n ob' a e1 e2).mono (fun o' e => Same.new hp a o' e) fun d v r => rp_growO hp r
    · rw [List.getElem?_append_right (by omega)] at e1
      rw [List.getElem?_append_right (by rw [hl]; omega)] at e2
      have hn2 : n - S.length = 0 := by
        have := (List.getElem?_eq_some_iff.mp e1).1
        simp at this
        omega
      rw [hn2] at e1
      rw [hl, hn2] at e2
      cases e1
      cases e2
      exact r
  · have z : a ∈ m.as ++ [p] := z
    rcases List.mem_append.mp z with z | z
    · exact hS.dis a q z
    · rw [List.mem_singleton.mp z] at q
      exact hS.there p q hp
def dNewO (ob : Ob) : DE := fun _ S => .ok (.ref S.length) (S ++ [ob])
theorem ref_new {m : Mu} {p : Addr} (hl : m.as.length = S.length) : (m.as ++ [p])[S.length]? = some p := by
  rw [← hl]; simp
/-- {} whose keys are tuples | ints and texts -/
theorem je_dT : PE X (.Dict [] [] pos) (tE G W (dNewO (.dT []))) :=
  pe_imp pe_dnewT fun σ H Q ⟨m, ρ, S, hS, hE, h⟩ => fun p hp => h ⟨m.as ++ [p], m.O⟩ _ (Le.growO hp) (hS.growO (ob := .dT []) hp ⟨[], upd_same, rfl⟩) (.ref p) ⟨p, rfl, ref_new hS.len⟩
theorem je_dK : PE X (.Dict [] [] pos) (tE G W (dNewO (.dK []))) :=
  pe_imp pe_dnewK fun σ H Q ⟨m, ρ, S, hS, hE, h⟩ => fun p hp => h ⟨m.as ++ [p], m.O⟩ _ (Le.growO hp) (hS.growO (ob := .dK []) hp ⟨[], upd_same, rfl⟩) (.ref p) ⟨p, rfl, ref_new hS.len⟩
/-- an object of the store is written -/
theorem Lx.stoO {L : Addr} {u o : HO} (hO : L ∈ m.as) (h : H L = some u) (hn : NotT u) : Lx G kp m H m (upd H L o) :=
  ⟨⟨[], by simp, by simp⟩, fun a q => .inl q, fun a q _ => q, fun a o e n k => by
    by_cases z : a = L
    · exact absurd (z ▸ hO) n
    · rw [upd_ne z]; exact e, fun a xs t => tq_put h hn t, fun a q => by
    by_cases z : a = L
    · subst z; rw [upd_same]; simp
    · rw [upd_ne z]; exact q⟩
theorem Holds.stoO {n : Nat} {L : Addr} {u o : HO} {ob : Ob} (hS : Holds G m H S) (hn : m.as[n]? = some L) (h : H L = some u) (nt : NotT u) (r : RpO G m (upd H L o) ob L) : Holds G m (upd H L o) (S.set n ob) := by
  have hO : L ∈ m.as := List.mem_of_getElem? hn
  have l : Lx G kAll m H m (L2.upd H L o) := Lx.stoO hO h nt
  refine ⟨by simp [hS.len], hS.nd, fun k ob' a e1 e2 => ?_, hS.dis, fun a q => l.there a (hS.there a q)⟩
  rw [List.getElem?_set] at e1
  split at e1
  · rename_i e
    subst e
    split at e1
    · cases e1
      rw [hn] at e2
      cases e2
      exact r
    · cases e1
  · rename_i ne
    have na : a ≠ L := fun z => ne (nodup_at hS.nd hn (z ▸ e2))
    exact (hS.ob k ob' a e1 e2).mono (fun o' e => by rw [upd_ne na]; exact e) fun d v r => l.rp r
theorem RpF.stoO {L : Addr} {u o : HO} (F : RpF G kp m H ρ σ) (hO : L ∈ m.as) (h : H L = some u) (nt : NotT u) : RpF G kp m (L2.upd H L o) ρ σ := by
  have l : Lx G kp m H m (L2.upd H L o) := Lx.stoO hO h nt
  refine ⟨⟨fun j s q => ?_, F.rp.inj, F.rp.len⟩, F.sub, F.own⟩
  obtain ⟨v, q1, q2⟩ := F.rp.at_ j s q
  refine ⟨v, q1, ?_⟩
  cases s with
  | val d => exact l.rp q2
  | own es =>
    obtain ⟨b, e3, o1, o2, zs, o3, o4⟩ := q2
    have nb : b ≠ L := fun z => o2 (by rw [z]; exact hO)
    exact ⟨b, e3, o1, o2, zs, by rw [L2.upd_ne nb]; exact o3, l.rpL o4⟩
theorem nt_dK {κ : List (L2.Key × V)} : NotT (.dK κ) := ⟨(fun _ z => by cases z), (fun _ _ z => by cases z)⟩
theorem nt_dT {κ : List (List L2.Key × V)} : NotT (.dT κ) := ⟨(fun _ z => by cases z), (fun _ _ z => by cases z)⟩
theorem nt_ins {C dx : Addr} {fs : List (Str × V)} : NotT (.ins C dx fs) := ⟨(fun _ z => by cases z), (fun _ _ z => by cases z)⟩
/-! ### dicts -/
def keyK : D → Option L2.Key
  | .int i => some (.inl i)
  | .str z => some (.inr z)
  | _ => none
def keyL : List D → Option (List L2.Key)
  | [] => some []
  | d :: ds => (keyK d).bind fun k => (keyL ds).map (k :: ·)
def kD : L2.Key → D
  | .inl i => .int i
  | .inr z => .str z
theorem keyK_ok {d : D} {k : L2.Key} (h : keyK d = some k) : d = kD k := by
  cases d <;> simp only [keyK] at h <;> first | cases h; done | (cases h; rfl)
theorem keyL_ok : ∀ {ds : List D} {k : List L2.Key}, keyL ds = some k → ds = k.map kD
  | [], k, h => by cases h; rfl
  | d :: ds, k, h => by
    obtain ⟨a, e1, e2⟩ := Option.bind_eq_some_iff.mp h
    obtain ⟨r, e3, rfl⟩ := Option.map_eq_some_iff.mp e2
    rw [keyK_ok e1, keyL_ok e3]; rfl
theorem Rp.key {k : L2.Key} {v : V} (h : Rp G m H (kD k) v) : v = kV k := by
  cases k with
  | inl i => exact h
  | inr z => exact h
theorem RpL.keys : ∀ {ks : List L2.Key} {xs : List V}, RpL G m H (ks.map kD) xs → xs = ks.map kV
  | [], _, h => h
  | k :: ks, _, ⟨v, r, e, h1, h2⟩ => by
    subst e
    rw [Rp.key h1, RpL.keys h2]; rfl
theorem RpL.ofKeys : ∀ (ks : List L2.Key), RpL G m H (ks.map kD) (ks.map kV)
  | [] => rfl
  | k :: ks => ⟨kV k, ks.map kV, rfl, by cases k <;> exact rfl, RpL.ofKeys ks⟩
theorem kV_inj {a b : L2.Key} (h : kV a = kV b) : a = b := by
  cases a <;> cases b <;> simp [kV] at h <;> simp [h]
theorem kVs_inj : ∀ {a b : List L2.Key}, a.map kV = b.map kV → a = b
  | [], [], _ => rfl
  | [], _ :: _, h => by cases h
  | _ :: _, [], h => by cases h
  | x :: a, y :: b, h => by
    simp only [List.map_cons, List.cons.injEq] at h
    rw [kV_inj h.1, kVs_inj h.2]
/-- in its place, or at the end -/
def putD {κ : Type} [DecidableEq κ] (kvs : List (κ × D)) (k : κ) (v : D) : List (κ × D) :=
  if (kvs.any fun kv => decide (kv.1 = k)) = true then kvs.map (fun kv => if kv.1 = k then (kv.1, v) else kv) else kvs ++ [(k, v)]
def getD_ {κ : Type} [DecidableEq κ] (kvs : List (κ × D)) (k : κ) : Option D := (kvs.find? fun kv => decide (kv.1 = k)).map (·.2)
theorem RpKV.any {κ : Type} [DecidableEq κ] {k : κ} : ∀ {kvs : List (κ × D)} {xs : List (κ × V)}, RpKV G m H kvs xs → (xs.any fun kv => decide (kv.1 = k)) = kvs.any fun kv => decide (kv.1 = k)
  | [], _, h => by
    have h : _ = [] := h
    rw [h]; rfl
  | p :: r, _, ⟨v, s, e, h1, h2⟩ => by
    subst e
    rw [List.any_cons, List.any_cons, RpKV.any h2]
theorem RpKV.len {κ : Type} : ∀ {kvs : List (κ × D)} {xs : List (κ × V)}, RpKV G m H kvs xs → xs.length = kvs.length
  | [], _, h => by
    have h : _ = [] := h
    rw [h]; rfl
  | p :: r, _, ⟨v, s, e, h1, h2⟩ => by
    subst e
    rw [List.length_cons, List.length_cons, RpKV.len h2]
theorem RpKV.app {κ : Type} : ∀ {kvs ks : List (κ × D)} {xs ys : List (κ × V)}, RpKV G m H kvs xs → RpKV G m H ks ys → RpKV G m H (kvs ++ ks) (xs ++ ys)
  | [], _, _, _, h, k => by
    have h : _ = [] := h
    rw [h]; exact k
  | p :: r, ks, _, ys, ⟨v, s, e, h1, h2⟩, k => ⟨v, s ++ ys, by rw [e]; rfl, h1, RpKV.app h2 k⟩
theorem RpKV.over {κ : Type} [DecidableEq κ] {k : κ} {d : D} {v : V} (r : Rp G m H d v) : ∀ {kvs : List (κ × D)} {xs : List (κ × V)}, RpKV G m H kvs xs → RpKV G m H (kvs.map fun kv => if kv.1 = k then (kv.1, d) else kv) (xs.map fun kv => if kv.1 = k then (kv.1, v) else kv)
  | [], _, h => by
    have h : _ = [] := h
    rw [h]; exact rfl
  | p :: t, _, ⟨u, s, e, h1, h2⟩ => by
    subst e
    rw [List.map_cons, List.map_cons]
    by_cases q : p.1 = k
    · rw [if_pos q, if_pos (show (p.1, u).1 = k from q)]
      exact ⟨v, _, rfl, r, RpKV.over r h2⟩
    · rw [if_neg q, if_neg (show ¬ (p.1, u).1 = k from q)]
      exact ⟨u, _, rfl, h1, RpKV.over r h2⟩
theorem RpKV.put {κ : Type} [DecidableEq κ] {k : κ} {d : D} {v : V} {kvs : List (κ × D)} {xs : List (κ × V)} (h : RpKV G m H kvs xs) (r : Rp G m H d v) : RpKV G m H (putD kvs k d) (putK xs k v) := by
  unfold putD putK
  rw [h.any]
  split
  · exact h.over r
  · exact h.app ⟨v, [], rfl, r, rfl⟩
theorem RpKV.get {κ : Type} [DecidableEq κ] {k : κ} : ∀ {kvs : List (κ × D)} {xs : List (κ × V)}, RpKV G m H kvs xs → (getD_ kvs k = none ∧ valV xs k = none) ∨ ∃ d v, getD_ kvs k = some d ∧ valV xs k = some v ∧ Rp G m H d v
  | [], _, h => by
    have h : _ = [] := h
    rw [h]; exact .inl ⟨rfl, rfl⟩
  | p :: t, _, ⟨u, s, e, h1, h2⟩ => by
    subst e
    by_cases q : p.1 = k
    · exact .inr ⟨p.2, u, by simp [getD_, List.find?_cons, q], valV_pos (p := (p.1, u)) q, h1⟩
    · rcases RpKV.get (k := k) h2 with ⟨a1, a2⟩ | ⟨d, v, a1, a2, a3⟩
      · exact .inl ⟨by simpa [getD_, List.find?_cons, q] using a1, (valV_neg (p := (p.1, u)) q).trans a2⟩
      · exact .inr ⟨d, v, by simpa [getD_, List.find?_cons, q] using a1, (valV_neg (p := (p.1, u)) q).trans a2, a3⟩
end
end Py

/-! Part 20: dicts of tuples, keyword calls, named tuples, a def that is never entered, recursion. -/
namespace Py
open PySem PySem.Spec PyProof.Rows L2
section
variable {G : Gc} {W : WX} {X : Cx} {e a b c tg o i : Expr} {m m' : Mu} {H H' : Hp} {S : Store} {σ : Sg} {pos p : Pos} {kp : Addr → Prop} {ρ : Env}
/-! ### d[k] = v -/
def stPut (nl : List (List L2.Key)) (S : Store) (o k v : D) : Option Store := match o with
  | .ref n => match S[n]? with
    | some (.dT kvs) => match k with
      | .tup ds => (keyL ds).bind fun q => if kvs.length < 1000000 ∧ (nl.any fun k => decide (k = q)) = false then some (S.set n (.dT (putD kvs q v))) else none
      | _ => none
    | some (.dK kvs) => (keyK k).bind fun q => if kvs.length < 1000000 then some (S.set n (.dK (putD kvs q v))) else none
    | _ => none
  | _ => none
def dPut (nl : List (List L2.Key)) (dv do_ di : DE) : DS := fun ρ S => rS (dv ρ S) ρ fun v S => rS (do_ ρ S) ρ fun y S => rS (di ρ S) ρ fun z S => match stPut nl S y z v with
  | some S' => some (.nx ρ, S')
  | none => none
theorem js_dput {dv di do_ : DE} {tp : Pos} {nl : List (List L2.Key)} (hN : G.lits = nl) (hu : X.A.units + 200 < cLine) (hv : PE X e (tE G W dv)) (ho : PE X o (tE G W do_)) (hi : PE X i (tE G W di))
    (hs : swapsWith e (some (.Subscript o i tp)) pos.line X.env = pure false) : PS X (.Assign [.Subscript o i tp] e pos) (tS G W (dPut nl dv do_ di)) := by
  refine ps_imp (ps_dput (by omega) ho hi hv hs) fun D σ H ⟨kp, m, ρ, S, hS, F, h⟩ => ?_
  refine ⟨m, ρ, S, hS, F.rp, (AftS.rS h F).imp fun x S1 m1 H1 l1 hS1 h1 v rv => ?_⟩
  have F1 := F.le l1
  refine ⟨m1, ρ, S1, hS1, F1.rp, (AftS.rS h1 F1).imp fun y S2 m2 H2 l2 hS2 h2 u ru => ?_⟩
  have F2 := F1.le l2
  refine ⟨m2, ρ, S2, hS2, F2.rp, (AftS.rS h2 F2).imp fun z S3 m3 H3 l3 hS3 h3 t rt => ?_⟩
  have F3 := F2.le l3
  have rv3 := (l2.trans l3).rp rv
  have ru3 := l3.rp ru
  unfold stPut at h3
  split at h3
  · rename_i S' e
    split at e
    · rename_i n
      obtain ⟨L, rfl, hL⟩ := ru3
      split at e
      · rename_i kvs hn
        split at e
        · rename_i ds
          obtain ⟨q, e1, e2⟩ := Option.bind_eq_some_iff.mp e
          obtain ⟨⟨hz, hq⟩, rfl⟩ := some_ifp e2
          obtain ⟨b, ys, rfl, q1, q2⟩ := rt
          rw [keyL_ok e1] at q2
          obtain rfl := q2.keys
          have hb : H3 b = some (.tup (q.map kV)) := by
            rcases q1 with q1 | ⟨_, k, hk, hq2⟩
            · exact q1
            · rw [← hN, List.any_eq_false] at hq
              exact absurd (kVs_inj hq2).symm (by simpa using hq k hk)
          obtain ⟨xs, g1, g2⟩ := hS3.ob n _ L hn hL
          have hO : L ∈ m3.as := List.mem_of_getElem? hL
          refine ⟨L, _, rfl, DPut.t g1 hb (by rw [g2.len, sizeLine_eq]; omega), ?_⟩
          have l : Lx G kAll m3 H3 m3 (L2.upd H3 L (.dT (putK xs q v))) := Lx.stoO hO g1 nt_dT
          exact h3 m3 _ σ (Lx.stoO hO g1 nt_dT) (hS3.stoO hL g1 nt_dT ⟨_, upd_same, RpKV.imp (fun _ _ r => l.rp r) (g2.put rv3)⟩) (F3.stoO hO g1 nt_dT)
        · cases e
      · rename_i kvs hn
        obtain ⟨q, e1, e2⟩ := Option.bind_eq_some_iff.mp e
        obtain ⟨hz, rfl⟩ := some_ifp e2
        rw [keyK_ok e1] at rt
        obtain rfl := Rp.key rt
        obtain ⟨xs, g1, g2⟩ := hS3.ob n _ L hn hL
        have hO : L ∈ m3.as := List.mem_of_getElem? hL
        refine ⟨L, _, rfl, DPut.k g1 (by rw [g2.len, sizeLine_eq]; omega), ?_⟩
        have l : Lx G kAll m3 H3 m3 (L2.upd H3 L (.dK (putK xs q v))) := Lx.stoO hO g1 nt_dK
        exact h3 m3 _ σ (Lx.stoO hO g1 nt_dK) (hS3.stoO hL g1 nt_dK ⟨_, upd_same, RpKV.imp (fun _ _ r => l.rp r) (g2.put rv3)⟩) (F3.stoO hO g1 nt_dK)
      · cases e
    · cases e
  · exact h3.elim
theorem c_str : CallR X (.type "str") (rC G pStr) := callr_imp (CallR.or call_str_int SkE.call_str_str) fun vs H Q ⟨m, S, ds, r, hS, hr, hf, k⟩ => by
  unfold pStr at hf
  split at hf
  · obtain ⟨hz, rfl⟩ := some_ifp hf
    obtain ⟨v, rfl, rv⟩ := hr.one
    obtain rfl : v = V.int _ := rv
    exact .inl ⟨_, rfl, hz, k.here hS (v := .str _) rfl⟩
  · cases hf
    obtain ⟨v, rfl, rv⟩ := hr.one
    obtain rfl : v = V.str _ := rv
    exact .inr ⟨_, rfl, k.here hS (v := .str _) rfl⟩
  · cases hf
/-! ### list(d), d keyed by tuples -/
def qListD (S : Store) : List D → Option (List D)
  | [.ref n] => match S[n]? with
    | some (.dT kvs) => some (kvs.map fun kv => .tup (kv.1.map kD))
    | _ => none
  | _ => none
theorem rpl_isKeys : ∀ {kvs : List (List L2.Key × D)} {xs : List (List L2.Key × V)} {bs : List Addr}, RpKV G m H kvs xs → IsKeys H xs bs → RpL G m H (kvs.map fun kv => .tup (kv.1.map kD)) (bs.map V.ref)
  | [], _, _, h, k => by
    have h : _ = [] := h
    subst h; cases k; rfl
  | p :: t, _, _, ⟨v, s, e, h1, h2⟩, k => by
    subst e
    cases k with
    | cons k1 k2 => exact ⟨_, _, rfl, ⟨_, _, rfl, Tq.of k1, RpL.ofKeys _⟩, rpl_isKeys h2 k2⟩
theorem jl_listD {r : DA} {es : List Expr} (hc : X.calm = true) (hg : Gl X "list") (hm : X.mg "list" = none) (ha : PA X (e :: es) (tB G W r)) (hs : (e :: es).any starB = false) : PE X (.Call (.Name "list" p) (e :: es) [] pos) (tL G W (dPrL qListD r)) := by
  rw [List.any_cons, Bool.or_eq_false_iff] at hs
  exact pe_imp (pe_callTy (call_list_dT hc) hg hm PyProof.Rows.boot_list ha (by decide) (by decide) (starEach_plain hs.1) (backTo_plain hs.2)) fun σ H Q ⟨m, ρ, S, hS, hE, h⟩ => ⟨m, ρ, S, hS, hE, (AftL.of h).imp fun xs S1 m1 H1 l1 hS1 h1 vs rvs => by
    obtain ⟨ds, e, h1⟩ := aftL_opt h1
    unfold qListD at e
    split at e
    · obtain ⟨v, rfl, rv⟩ := rvs.one
      obtain ⟨a, rfl, ha⟩ := rv
      split at e
      · rename_i n kvs hn
        cases e
        obtain ⟨xs, g1, g2⟩ := hS1.ob _ _ a hn ha
        exact ⟨a, xs, rfl, .inl g1, fun l bs hl hk => AftL.new h1 hS1 (rpl_isKeys g2 hk) hl⟩
      · cases e
    · cases e⟩
/-! ### a call by keywords alone -/
theorem jk_nil : PK X [] (tA G W dNil) := ⟨fun pos pins s σ H Q I ⟨m, ρ, S, hS, hE, h⟩ => pk_nil.run pos pins s σ H Q I (h.ok hS [] rfl)⟩
theorem jk_cons {nm : Option Str} {kpos : Pos} {kws : List Keyword} {da : DE} {dr : DA} (ha : PE X e (tE G W da)) (hr : PK X kws (tA G W dr)) : PK X (⟨nm, e, kpos⟩ :: kws) (tA G W (dCons da dr)) :=
  ⟨fun pos pins s σ H Q I ⟨m, ρ, S, hS, hE, h⟩ => (pk_cons ha hr).run pos pins s σ H Q I
    ⟨m, ρ, S, hS, hE, (Aft.bind h).imp fun x S1 m1 H1 l1 hS1 h1 v rv => ⟨m1, ρ, S1, hS1, hE.le l1, (Aft.bind h1).imp fun xs S2 m2 H2 l2 hS2 h2 vs rvs => h2.ok hS2 (v :: vs) ⟨v, vs, rfl, l2.rp rv, rvs⟩⟩⟩⟩
variable {mg : Str → Option Value} {fa : List He.Fa} {fn : List He.DefD} {tl : List (Str × List L2.Key)} {P : Program} {w : World} {base : Heap}
def KwOk (G : Gc) (mg : Str → Option Value) (x : Str) (ps : List Str) : Prop := ∀ f fd, mg x = some (.ref f) → (∃ oc od osl, G.K.lookup f = some ⟨oc, od, .func fd, osl⟩) →
  ∀ (s : Shared) (us : List Value), us.length = ps.length → BindsTo s fd ⟨[], ps.zip us⟩ (ps.zip us)
theorem kw_of (Z : Zf G mg fa fn tl) (i j : Nat) {x : Str} {st : Stmt} {ps : List Str} (hi : fn[i]? = some (dfD x st)) (hj : fa[j]? = some (.glo x))
    (hbd : ∀ (kV doc pm : Value) (an : Option Addr) (cdv ct : Value) (us : List Value), us.length = ps.length → bindArgs (PySem.W.fnOf x x (defArgs st) (defBody st) (defScope st) .none kV doc pm an cdv ct) ⟨[], ps.zip us⟩ = pure (ps.zip us)) : KwOk G mg x ps := by
  intro f fd h1 ⟨oc, od, osl, h2⟩ s us hl
  obtain ⟨fd', F⟩ := Z.says.def_ i hi
  have F : FunD G.K x x (defArgs st) (defBody st) (defScope st) [] [] (He.ga G.K x) fd' := F
  obtain ⟨oc', od', dV, kV, doc, pm, an, cdv, ct, osl', e, lk, hcd, hD, hK⟩ := F.ex
  rw [Z.glo j hj] at h1
  cases h1
  have e3 := h2.symm.trans lk
  cases e3
  subst e
  rcases hD with ⟨_, rfl⟩ | ⟨e, _⟩
  · exact .of_eq (hbd kV doc pm an cdv ct us hl)
  · exact absurd rfl e
theorem je_calK {ps : List Str} {n k j : Nat} {run : List D → M D} {x : Str} {kws : List Keyword} {r : DA} (Fn : Callee X.prog X.w G X.mg X.base x j n ps run) (kw : KwOk G X.mg x ps) (hn : ps.length = n) (hK : X.K = G.K) (hr : Room k X.A) (hj : j ≤ k) (hg : Gl X x)
    (tk : Takes X W) (hkw : PK X kws (tA G W r)) (hall : (backToKw pos (keywordEach kws X.env)).all (·.1.isSome) = true) (hks : (backToKw pos (keywordEach kws X.env)).filterMap (·.1) = ps)
    (hpl : ((backTo pos (starEach [] X.env)).any (·.1) || (backToKw pos (keywordEach kws X.env)).any (·.1.isNone)) = false) (hdb : (x == ("__debug__" : Str)) = false := by decide) : PE X (.Call (.Name x p) [] kws pos) (tE G W (dCall n run r)) := by
  obtain ⟨f, fd, h1, h2, h3, h4, _, oc, od, osl, h6⟩ := Fn
  have kb := kw f fd h1 ⟨oc, od, osl, h6⟩
  rw [← hK] at h2 h3 h4
  refine ⟨fun pins s σ H Q I h => ?_⟩
  refine wpAny_Call_Name_kw (ld_glob I hg h1 ?_ hdb)
  obtain ⟨m, ρ, S, hS, hE, h⟩ := h
  refine PySem.W.callWith_KW0 (h₀ := X.base) I.ok.mod.kin h2 hall (thn (hkw.run pos pins s σ H (fun vs H' => spF G n run vs H' Q fun c x H' => W c x σ H') I ⟨m, ρ, S, hS, hE, (Aft.bind h).imp fun xs S1 m1 H1 l1 hS1 h1 vs rvs => ?_⟩) fun ws s2 ⟨zs, H2, I2, rz, q2⟩ => ⟨I2.kIn, ?_⟩) hpl
  · by_cases hl : xs.length = n
    · rw [if_pos hl] at h1
      exact ⟨m1, S1, xs, hl, hS1, rvs, h1⟩
    · rw [if_neg hl] at h1; exact h1.elim
  · rw [hks]
    have hl : ws.length = ps.length := by
      obtain ⟨m2, S2, ds, hl, hS2, r2, _⟩ := q2
      rw [← rz.length, r2.length, hl, hn]
    refine wpAny_call (codeAny_mono (h4.run X.A X.stack s2 H2 ⟨[], ps.zip ws⟩ ws zs Q _ (hr.mono hj) I2.env0 (kb s2 ws hl) rz q2) fun r s' hq => ?_)
    cases r with
    | error e => exact passAt tk σ pins H2 s2 e s' I2 hq
    | ok fl =>
      cases fl with
      | ret u => exact I2.after hq
      | next => exact False.elim hq
      | brk => exact False.elim hq
      | cont => exact False.elim hq
/-! ### tuples of the text that are named -/
theorem keyDv_v (K : PySem.W.Frag) : ∀ ks : List L2.Key, (ks.map keyDv).map (He.Dv.v K) = ks.map kV
  | [] => rfl
  | k :: ks => by
    rw [List.map_cons, List.map_cons, List.map_cons, keyDv_v K ks]
    cases k <;> rfl
theorem je_gtup {X : Cx} (Z : Zf G X.mg fa fn tl) (i j : Nat) {x : Str} {ks : List L2.Key} (hg : Gl X x) (hi : fa[i]? = some (.glo x)) (hj : tl[j]? = some (x, ks)) (hd : (x == ("__debug__" : Str)) = false := by decide) : PE X (.Name x pos) (tE G W (dCst (.tup (ks.map kD)))) :=
  je_c (pe_glob (v := .ref (He.ga G.K x)) hg (Z.glo i hi) rfl hd) fun m H => ⟨_, _, rfl, .inr ⟨by
    have := He.tupB_ok (Z.tups _ (List.mem_of_getElem? hj)) H
    rw [keyDv_v] at this
    exact this, ks, by
    rw [Z.lits]
    exact List.mem_map.mpr ⟨_, List.mem_of_getElem? hj, rfl⟩, rfl⟩, RpL.ofKeys ks⟩
/-! ### a def that is never entered; recursion -/
theorem callee_bad (Z : Zf G mg fa fn tl) (i j : Nat) {x : Str} {st : Stmt} {N ps : List Str} {k n : Nat} (hi : fn[i]? = some (dfD x st)) (hj : fa[j]? = some (.glo x)) (Sc : FnScope N ps (defScope st)) (hn : ps.length = n)
    (hbd : ∀ (kV doc pm : Value) (an : Option Addr) (cdv ct : Value) (us : List Value), us.length = ps.length → bindArgs (PySem.W.fnOf x x (defArgs st) (defBody st) (defScope st) .none kV doc pm an cdv ct) ⟨us, []⟩ = pure (ps.zip us)) : Callee P w G mg base x (k + 1) n ps (fun _ _ => .bad) := by
  obtain ⟨fd, F⟩ := Z.says.def_ i hi
  have F : FunD G.K x x (defArgs st) (defBody st) (defScope st) [] [] (He.ga G.K x) fd := F
  obtain ⟨oc, od, dV, kV, doc, pm, an, cdv, ct, osl, e, lk, _⟩ := F.ex
  refine ⟨_, fd, Z.glo j hj, F.kp, F.bindsN hbd, ?_, F.bindsA hbd, oc, od, osl, lk⟩
  exact F.ok Sc (fun vs H Q E ⟨m, S, ds, hl, hS, r, h⟩ => h.elim) fun cdv A outer s H vs Q E hr ⟨m, S, ds, hl, hS, r, h⟩ => h.elim
end
end Py

/-! The defs of the text, by what they do. Printed by gen.py. -/
namespace K75
open PySem PySem.Spec PyProof.Rows L2 Py
abbrev top (i : Nat) : Stmt := PySem.Challenge.pw_errandwide_k75_halls_as_texts.main.body.getD i (.Pass ⟨0, 0, 0, 0⟩)
def fa : List He.Fa := [.free "len",
  .glo "_law_draw",
  .free "range",
  .free "tuple",
  .glo "_law_path",
  .free "list",
  .free "sorted",
  .glo "_law_paths",
  .glo "_law_number",
  .glo "_law_diary",
  .free "int",
  .glo "_law_state",
  .glo "_law_end",
  .free "enumerate",
  .glo "_law_hall",
  .glo "_law_text",
  .free "str",
  .glo "state_line",
  .glo "path_text",
  .glo "end_text",
  .glo "house_lines",
  .glo "hall_text",
  .free "abs",
  .glo "_law_draws",
  .glo "_law_path_word",
  .glo "_law_end_word",
  .glo "_law_lines",
  .free "isinstance",
  .free "all",
  .free "bool",
  .glo "_law_same",
  .glo "need_line",
  .str "FIGURES" "0123456789",
  .glo "writes_number",
  .int "GREATEST" (1000000006),
  .glo "number_in",
  .glo "need_rising",
  .glo "path_of",
  .glo "writes_path",
  .glo "path_in",
  .str "LETTERS" "abcdefghijklmnopqrstuvwxyz",
  .glo "is_word",
  .glo "name_in",
  .glo "END_WORDS",
  .glo "end_in",
  .glo "state_in",
  .glo "NOTE_WORDS",
  .glo "note_in",
  .glo "HOUSE_PATHS",
  .glo "house_in",
  .glo "ASK_PATHS",
  .glo "ask_in",
  .glo "read_hall",
  .glo "law"]
def fn : List He.DefD := [dfD "_law_draw" (top 34),
  dfD "_law_path" (top 36),
  dfD "_law_paths" (top 37),
  dfD "_law_number" (top 35),
  dfD "_law_diary" (top 40),
  dfD "_law_state" (top 39),
  dfD "_law_end" (top 38),
  dfD "_law_hall" (top 41),
  dfD "_law_text" (top 45),
  dfD "state_line" (top 15),
  dfD "path_text" (top 13),
  dfD "end_text" (top 14),
  dfD "house_lines" (top 16),
  dfD "hall_text" (top 17),
  dfD "_law_draws" (top 33),
  dfD "_law_path_word" (top 42),
  dfD "_law_end_word" (top 43),
  dfD "_law_lines" (top 44),
  dfD "_law_same" (top 46),
  dfD "need_line" (top 25),
  dfD "writes_number" (top 18),
  dfD "number_in" (top 21),
  dfD "need_rising" (top 30),
  dfD "path_of" (top 20),
  dfD "writes_path" (top 19),
  dfD "path_in" (top 22),
  dfD "is_word" (top 6),
  dfD "name_in" (top 23),
  dfD "end_in" (top 24),
  dfD "state_in" (top 26),
  dfD "note_in" (top 27),
  dfD "house_in" (top 28),
  dfD "ask_in" (top 29),
  dfD "read_hall" (top 31),
  dfD "law" (top 47)]
def t_END_WORDS : List L2.Key := [.inr "good", .inr "bad", .inr "off"]
def t_NOTE_WORDS : List L2.Key := [.inr "tell", .inr "do", .inr "done", .inr "undo", .inr "undone"]
def t_HOUSE_PATHS : List L2.Key := [.inl 0, .inl 2, .inl 4]
def t_ASK_PATHS : List L2.Key := [.inl 2, .inl 4, .inl 6]
def nmt : List (Str × List L2.Key) := [("END_WORDS", t_END_WORDS), ("NOTE_WORDS", t_NOTE_WORDS), ("HOUSE_PATHS", t_HOUSE_PATHS), ("ASK_PATHS", t_ASK_PATHS)]
abbrev lits : List (List L2.Key) := nmt.map Prod.snd
section
variable {P : Program} {w : World} {G : Gc} {mg : Str → Option Value} {base : Heap}
def N__law_draw : List Str := ["draws", "at", "many"]
def b__law_draw : DS := dRet (dOp pMod (dOp pDiv (dOp pIdx (dVar 0) (dOp pMod (dVar 1) (dPr pLen (dCons (dVar 0) (dNil))))) (dCst (.int 7))) (dVar 2))
def f__law_draw : List D → M D := dFn 3 N__law_draw.length b__law_draw
theorem nd__law_draw : N__law_draw.Nodup := by decide +kernel
theorem sc__law_draw : FnScope N__law_draw ["draws", "at", "many"] (defScope (top 34)) := ⟨rfl, rfl, rfl, nd__law_draw, rfl, by decide +kernel, by decide +kernel⟩
theorem ok__law_draw (Z : Zf G mg fa fn nmt) : Callee P w G mg base "_law_draw" 1 3 ["draws", "at", "many"] f__law_draw := by
  refine callee_of (N := N__law_draw) (d := b__law_draw) Z 0 1 (st := top 34) (by rfl) (by rfl) sc__law_draw (by rfl) (fun _ _ _ _ _ _ us hl => match us, hl with | [_, _, _], _ => by rfl) fun f cdv A outer s H E hr => ?_
  exact (jss_one (js_ret (je_op (o_mod) (jr_of (je_op (o_div) (jr_of (je_ix (i_idx rfl) (jr_of (je_var rfl (.inl rfl) rfl rfl)) (jr_of (je_op (o_mod) (jr_of (je_var rfl (.inl rfl) rfl rfl)) (jr_of (je_callB (c_len rfl) rfl (Z.free 0 rfl) boot_len (jb_cons rfl (jr_of (je_var rfl (.inl rfl) rfl rfl)) jb_nil) rfl)))) rfl)) (jr_of cst_int))) (jr_of (je_var rfl (.inl rfl) rfl rfl)))))
def N__law_path : List Str := ["draws", "at", "counts", "k"]
def b__law_path : DS := dRet (dPr pTuple (dCons (dLst (dLc (dRg rg1 (dCons (dOp pIdx (dVar 2) (dCall 3 f__law_draw (dCons (dVar 0) (dCons (dVar 1) (dCons (dPr pLen (dCons (dVar 2) (dNil))) (dNil)))))) (dNil))) (gN 3) (dYes) (dCall 3 f__law_draw (dCons (dVar 0) (dCons (dOp pAdd (dOp pAdd (dVar 1) (dCst (.int 1))) (dVar 3)) (dCons (dCst (.int 10)) (dNil))))) [3])) (dNil)))
def f__law_path : List D → M D := dFn 3 N__law_path.length b__law_path
theorem nd__law_path : N__law_path.Nodup := by decide +kernel
theorem sc__law_path : FnScope N__law_path ["draws", "at", "counts"] (defScope (top 36)) := ⟨rfl, rfl, rfl, nd__law_path, rfl, by decide +kernel, by decide +kernel⟩
theorem ok__law_path (Z : Zf G mg fa fn nmt) : Callee P w G mg base "_law_path" 2 3 ["draws", "at", "counts"] f__law_path := by
  refine callee_of (N := N__law_path) (d := b__law_path) Z 1 4 (st := top 36) (by rfl) (by rfl) sc__law_path (by rfl) (fun _ _ _ _ _ _ us hl => match us, hl with | [_, _, _], _ => by rfl) fun f cdv A outer s H E hr => ?_
  exact (jss_one (js_ret (je_callT (c_tuple rfl) rfl (Z.free 3 rfl) PyProof.Rows.boot_tuple (jb_cons rfl (jr_of (je_lst (je_lc (own := [("k", 3)]) rfl nd__law_path (jiw_of (ji_rg1 rfl (Z.free 2 rfl) (ja_cons rfl (je_ix (i_idx rfl) (jr_of (je_var rfl (.inl rfl) rfl rfl)) (jr_of (je_cal (ok__law_draw Z) rfl hr (by decide) rfl (takes_of (E := E) rfl rfl rfl rfl) (ja_cons rfl (je_var rfl (.inr (.inl rfl)) rfl rfl) (ja_cons rfl (je_var rfl (.inr (.inl rfl)) rfl rfl) (ja_cons rfl (je_callB (c_len rfl) rfl (Z.free 0 rfl) boot_len (jb_cons rfl (jr_of (je_var rfl (.inl rfl) rfl rfl)) jb_nil) rfl) ja_nil))) rfl)) rfl) ja_nil) rfl)) (blkOk_by rfl) (fun _ _ _ _ _ => (jg_name nd__law_path rfl (.inl rfl) (.inr rfl) (by decide))) (fun _ _ _ _ _ => jts_nil) (fun _ _ _ _ _ => (je_cal (ok__law_draw Z) rfl hr (by decide) rfl takes0 (ja_cons rfl (je_var rfl (.inr (.inl rfl)) rfl rfl) (ja_cons rfl (je_op (o_add rfl) (jr_of (je_op (o_add rfl) (jr_of (je_var rfl (.inr (.inl rfl)) rfl rfl)) (jr_of cst_int))) (jr_of (je_var rfl (.inl rfl) rfl rfl))) (ja_cons rfl cst_int ja_nil))) rfl)) (fun _ => rfl)))) jb_nil) rfl)))
def N__law_paths : List Str := ["draws", "at", "counts", "many", "paths", "k"]
def b__law_paths : DS := dSeq (dSet 4 (qV (dNewO (.dT [])))) (dSeq (dFor (dRg rg1 (dCons (dVar 3) (dNil))) (gN 5) (dPut lits (dCst (.bl true)) (dVar 4) (dCall 3 f__law_path (dCons (dVar 0) (dCons (dOp pAdd (dVar 1) (dOp pMul (dCst (.int 7)) (dVar 5))) (dCons (dVar 2) (dNil))))))) (dRet (dLst (dPrL qSort (dCons (dLst (dPrL qListD (dCons (dVar 4) (dNil)))) (dNil))))))
def f__law_paths : List D → M D := dFn 4 N__law_paths.length b__law_paths
theorem nd__law_paths : N__law_paths.Nodup := by decide +kernel
theorem sc__law_paths : FnScope N__law_paths ["draws", "at", "counts", "many"] (defScope (top 37)) := ⟨rfl, rfl, rfl, nd__law_paths, rfl, by decide +kernel, by decide +kernel⟩
theorem ok__law_paths (Z : Zf G mg fa fn nmt) : Callee P w G mg base "_law_paths" 3 4 ["draws", "at", "counts", "many"] f__law_paths := by
  refine callee_of (N := N__law_paths) (d := b__law_paths) Z 2 7 (st := top 37) (by rfl) (by rfl) sc__law_paths (by rfl) (fun _ _ _ _ _ _ us hl => match us, hl with | [_, _, _, _], _ => by rfl) fun f cdv A outer s H E hr => ?_
  exact (jss_cons (js_setV (ps_set nd__law_paths rfl (.inl rfl) je_dT rfl)) (jss_cons (js_for (vs := [0, 1, 2, 3, 4, 5]) (passes_of rfl) rfl (ji_rg1 rfl (Z.free 2 rfl) (ja_cons rfl (je_var rfl (.inl rfl) rfl rfl) ja_nil) rfl) (jg_name nd__law_paths rfl (.inl rfl) (.inl rfl) (by decide)) (jss_one (js_dput (nl := lits) Z.lits (huR hr) cst_bl (je_var rfl (.inl rfl) rfl rfl) (je_cal (ok__law_path Z) rfl hr (by decide) rfl (takes_of (E := E) rfl rfl rfl rfl) (ja_cons rfl (je_var rfl (.inl rfl) rfl rfl) (ja_cons rfl (je_op (o_add rfl) (jr_of (je_var rfl (.inl rfl) rfl rfl)) (jr_of (je_op (o_mul rfl) (jr_of cst_int) (jr_of (je_var rfl (.inl rfl) rfl rfl))))) (ja_cons rfl (je_var rfl (.inl rfl) rfl rfl) ja_nil))) rfl) rfl)) (fun _ => rfl)) (jss_one (js_ret (je_lst (jl_sort rfl (huR hr) rfl (Z.free 6 rfl) (jb_cons rfl (jr_of (je_lst (jl_listD rfl rfl (Z.free 5 rfl) (jb_cons rfl (jr_of (je_var rfl (.inl rfl) rfl rfl)) jb_nil) rfl))) jb_nil) rfl))))))
def N__law_number : List Str := ["draws", "at", "many", "far", "way"]
def b__law_number : DS := dSeq (dSet 2 (qV (dPr pLen (dCons (dVar 0) (dNil))))) (dSeq (dSet 3 (qV (dOp pMul (dOp pIdx (dVar 0) (dOp pMod (dVar 1) (dVar 2))) (dOp pPow (dCst (.int 10)) (dCst (.int 6)))))) (dSeq (dSet 3 (qV (dOp pAdd (dVar 3) (dOp pIdx (dVar 0) (dOp pMod (dOp pAdd (dVar 1) (dCst (.int 1))) (dVar 2)))))) (dSeq (dSet 4 (qV (dOp pMod (dOp pDiv (dOp pIdx (dVar 0) (dOp pMod (dOp pAdd (dVar 1) (dCst (.int 2))) (dVar 2))) (dCst (.int 7))) (dCst (.int 3))))) (dRet (dOp pIdx (dLst (dDisp (dCons (dOp pMod (dVar 3) (dCst (.int 5))) (dCons (dOp pSub (dCst (.int 1000000006)) (dOp pMod (dVar 3) (dCst (.int 3)))) (dCons (dOp pMod (dVar 3) (dCst (.int 1000000007))) (dNil)))))) (dVar 4))))))
def f__law_number : List D → M D := dFn 2 N__law_number.length b__law_number
theorem nd__law_number : N__law_number.Nodup := by decide +kernel
theorem sc__law_number : FnScope N__law_number ["draws", "at"] (defScope (top 35)) := ⟨rfl, rfl, rfl, nd__law_number, rfl, by decide +kernel, by decide +kernel⟩
theorem ok__law_number (Z : Zf G mg fa fn nmt) : Callee P w G mg base "_law_number" 1 2 ["draws", "at"] f__law_number := by
  refine callee_of (N := N__law_number) (d := b__law_number) Z 3 8 (st := top 35) (by rfl) (by rfl) sc__law_number (by rfl) (fun _ _ _ _ _ _ us hl => match us, hl with | [_, _], _ => by rfl) fun f cdv A outer s H E hr => ?_
  exact (jss_cons (js_setV (ps_set nd__law_number rfl (.inl rfl) (je_callB (c_len rfl) rfl (Z.free 0 rfl) boot_len (jb_cons rfl (jr_of (je_var rfl (.inl rfl) rfl rfl)) jb_nil) rfl) rfl)) (jss_cons (js_setV (ps_set nd__law_number rfl (.inl rfl) (je_op (o_mul rfl) (jr_of (je_ix (i_idx rfl) (jr_of (je_var rfl (.inl rfl) rfl rfl)) (jr_of (je_op (o_mod) (jr_of (je_var rfl (.inl rfl) rfl rfl)) (jr_of (je_var rfl (.inl rfl) rfl rfl)))) rfl)) (jr_of (je_op (o_pow) (jr_of cst_int) (jr_of cst_int)))) rfl)) (jss_cons (js_setV (ps_set nd__law_number rfl (.inl rfl) (je_op (o_add rfl) (jr_of (je_var rfl (.inl rfl) rfl rfl)) (jr_of (je_ix (i_idx rfl) (jr_of (je_var rfl (.inl rfl) rfl rfl)) (jr_of (je_op (o_mod) (jr_of (je_op (o_add rfl) (jr_of (je_var rfl (.inl rfl) rfl rfl)) (jr_of cst_int))) (jr_of (je_var rfl (.inl rfl) rfl rfl)))) rfl))) rfl)) (jss_cons (js_setV (ps_set nd__law_number rfl (.inl rfl) (je_op (o_mod) (jr_of (je_op (o_div) (jr_of (je_ix (i_idx rfl) (jr_of (je_var rfl (.inl rfl) rfl rfl)) (jr_of (je_op (o_mod) (jr_of (je_op (o_add rfl) (jr_of (je_var rfl (.inl rfl) rfl rfl)) (jr_of cst_int))) (jr_of (je_var rfl (.inl rfl) rfl rfl)))) rfl)) (jr_of cst_int))) (jr_of cst_int)) rfl)) (jss_one (js_ret (je_ix (i_idx rfl) (jr_of (je_lst (jl_disp (ja_cons rfl (je_op (o_mod) (jr_of (je_var rfl (.inl rfl) rfl rfl)) (jr_of cst_int)) (ja_cons rfl (je_op (o_sub) (jr_of cst_int) (jr_of (je_op (o_mod) (jr_of (je_var rfl (.inl rfl) rfl rfl)) (jr_of cst_int)))) (ja_cons rfl (je_op (o_mod) (jr_of (je_var rfl (.inl rfl) rfl rfl)) (jr_of cst_int)) ja_nil)))))) (jr_of (je_var rfl (.inl rfl) rfl rfl)) rfl)))))))
def N__law_diary : List Str := ["draws", "at", "many", "wide", "words", "notes", "k", "word", "number"]
def b__law_diary : DS := dSeq (dSet 4 (qV (dLst (dDisp (dCons (dCst (.str "tell")) (dCons (dCst (.str "do")) (dCons (dCst (.str "done")) (dCons (dCst (.str "undo")) (dCons (dCst (.str "undone")) (dNil)))))))))) (dSeq (dSet 5 (qO (dDisp (dNil)))) (dSeq (dFor (dRg rg1 (dCons (dVar 2) (dNil))) (gN 6) (dSeq (dSet 7 (qV (dOp pIdx (dVar 4) (dCall 3 f__law_draw (dCons (dVar 0) (dCons (dOp pAdd (dVar 1) (dOp pMul (dCst (.int 9)) (dVar 6))) (dCons (dCst (.int 5)) (dNil)))))))) (dSeq (dSet 8 (qV (dCall 3 f__law_draw (dCons (dVar 0) (dCons (dOp pAdd (dOp pAdd (dVar 1) (dOp pMul (dCst (.int 9)) (dVar 6))) (dCst (.int 1))) (dCons (dCst (.int 24)) (dNil))))))) (dSeq (dIfS (dOr (dTest (dVar 3)) (dTest (dOp pEq (dVar 7) (dCst (.str "tell"))))) (dSet 8 (qV (dCall 2 f__law_number (dCons (dVar 0) (dCons (dOp pAdd (dOp pAdd (dVar 1) (dOp pMul (dCst (.int 9)) (dVar 6))) (dCst (.int 2))) (dNil)))))) (dNop)) (dOwn 5 fApp (dTup (dCons (dCall 2 f__law_number (dCons (dVar 0) (dCons (dOp pAdd (dOp pAdd (dVar 1) (dOp pMul (dCst (.int 9)) (dVar 6))) (dCst (.int 5))) (dNil)))) (dCons (dVar 7) (dCons (dVar 8) (dNil)))))))))) (dRet (dPr pTuple (dCons (dRd 5) (dNil))))))
def f__law_diary : List D → M D := dFn 4 N__law_diary.length b__law_diary
theorem nd__law_diary : N__law_diary.Nodup := by decide +kernel
theorem sc__law_diary : FnScope N__law_diary ["draws", "at", "many", "wide"] (defScope (top 40)) := ⟨rfl, rfl, rfl, nd__law_diary, rfl, by decide +kernel, by decide +kernel⟩
theorem ok__law_diary (Z : Zf G mg fa fn nmt) : Callee P w G mg base "_law_diary" 2 4 ["draws", "at", "many", "wide"] f__law_diary := by
  refine callee_of (N := N__law_diary) (d := b__law_diary) Z 4 9 (st := top 40) (by rfl) (by rfl) sc__law_diary (by rfl) (fun _ _ _ _ _ _ us hl => match us, hl with | [_, _, _, _], _ => by rfl) fun f cdv A outer s H E hr => ?_
  exact (jss_cons (js_setV (ps_set nd__law_diary rfl (.inl rfl) (je_lst (jl_disp (ja_cons rfl cst_str (ja_cons rfl cst_str (ja_cons rfl cst_str (ja_cons rfl cst_str (ja_cons rfl cst_str ja_nil))))))) rfl)) (jss_cons (js_setO (ps_set nd__law_diary rfl (.inl rfl) (jl_disp ja_nil) rfl)) (jss_cons (js_for (vs := [0, 1, 2, 3, 4, 5, 6, 7, 8]) (passes_of rfl) rfl (ji_rg1 rfl (Z.free 2 rfl) (ja_cons rfl (je_var rfl (.inl rfl) rfl rfl) ja_nil) rfl) (jg_name nd__law_diary rfl (.inl rfl) (.inl rfl) (by decide)) (jss_cons (js_setV (ps_set nd__law_diary rfl (.inl rfl) (je_ix (i_idx rfl) (jr_of (je_var rfl (.inl rfl) rfl rfl)) (jr_of (je_cal (ok__law_draw Z) rfl hr (by decide) rfl (takes_of (E := E) rfl rfl rfl rfl) (ja_cons rfl (je_var rfl (.inl rfl) rfl rfl) (ja_cons rfl (je_op (o_add rfl) (jr_of (je_var rfl (.inl rfl) rfl rfl)) (jr_of (je_op (o_mul rfl) (jr_of cst_int) (jr_of (je_var rfl (.inl rfl) rfl rfl))))) (ja_cons rfl cst_int ja_nil))) rfl)) rfl) rfl)) (jss_cons (js_setV (ps_set nd__law_diary rfl (.inl rfl) (je_cal (ok__law_draw Z) rfl hr (by decide) rfl (takes_of (E := E) rfl rfl rfl rfl) (ja_cons rfl (je_var rfl (.inl rfl) rfl rfl) (ja_cons rfl (je_op (o_add rfl) (jr_of (je_op (o_add rfl) (jr_of (je_var rfl (.inl rfl) rfl rfl)) (jr_of (je_op (o_mul rfl) (jr_of cst_int) (jr_of (je_var rfl (.inl rfl) rfl rfl)))))) (jr_of cst_int)) (ja_cons rfl cst_int ja_nil))) rfl) rfl)) (jss_cons (js_if (PW.pt (jw_or (jt_val (jr_of (je_var rfl (.inl rfl) rfl rfl)) rfl) (jw1_or (jt_cmp (o_eq rfl (huR hr)) (jr_of (je_var rfl (.inl rfl) rfl rfl)) (jr_of cst_str) rfl)))) (jss_one (js_setV (ps_set nd__law_diary rfl (.inl rfl) (je_cal (ok__law_number Z) rfl hr (by decide) rfl (takes_of (E := E) rfl rfl rfl rfl) (ja_cons rfl (je_var rfl (.inl rfl) rfl rfl) (ja_cons rfl (je_op (o_add rfl) (jr_of (je_op (o_add rfl) (jr_of (je_var rfl (.inl rfl) rfl rfl)) (jr_of (je_op (o_mul rfl) (jr_of cst_int) (jr_of (je_var rfl (.inl rfl) rfl rfl)))))) (jr_of cst_int)) ja_nil)) rfl) rfl))) jss_nil) (jss_one (js_app rfl rfl (.inl rfl) rfl rfl (je_tup (ja_cons rfl (je_cal (ok__law_number Z) rfl hr (by decide) rfl (takes_of (E := E) rfl rfl rfl rfl) (ja_cons rfl (je_var rfl (.inl rfl) rfl rfl) (ja_cons rfl (je_op (o_add rfl) (jr_of (je_op (o_add rfl) (jr_of (je_var rfl (.inl rfl) rfl rfl)) (jr_of (je_op (o_mul rfl) (jr_of cst_int) (jr_of (je_var rfl (.inl rfl) rfl rfl)))))) (jr_of cst_int)) ja_nil)) rfl) (ja_cons rfl (je_var rfl (.inl rfl) rfl rfl) (ja_cons rfl (je_var rfl (.inl rfl) rfl rfl) ja_nil)))) rfl rfl rfl rfl rfl))))) (fun _ => rfl)) (jss_one (js_ret (je_callT (c_tuple rfl) rfl (Z.free 3 rfl) PyProof.Rows.boot_tuple (jb_cons rfl (jr_rd rfl (.inl rfl) rfl rfl) jb_nil) rfl))))))
def N__law_state : List Str := ["draws", "at", "wide", "many", "slots", "called", "counts", "k"]
def b__law_state : DS := dSeq (dSet 3 (qV (dOp pIdx (dLst (dDisp (dCons (dCst (.int 0)) (dCons (dCst (.int 1)) (dCons (dCst (.int 3)) (dCons (dOp pAdd (dCst (.int 32)) (dOp pMul (dCst (.int 8)) (dPr pInt (dCons (dVar 2) (dNil))))) (dNil))))))) (dCall 3 f__law_draw (dCons (dVar 0) (dCons (dVar 1) (dCons (dCst (.int 4)) (dNil)))))))) (dSeq (dSet 4 (qV (dPr pTuple (dCons (dLst (dLc (dRg rg1 (dCons (dVar 3) (dNil))) (gN 7) (dYes) (dCall 2 f__law_number (dCons (dVar 0) (dCons (dOp pAdd (dOp pAdd (dVar 1) (dCst (.int 5))) (dVar 7)) (dNil)))) [7])) (dNil))))) (dSeq (dSet 5 (qV (dOp pEq (dCall 3 f__law_draw (dCons (dVar 0) (dCons (dOp pAdd (dVar 1) (dCst (.int 3))) (dCons (dCst (.int 2)) (dNil))))) (dCst (.int 1))))) (dSeq (dIfS (dTest (dVar 2)) (dSeq (dSet 6 (qV (dTup (dCons (dCall 2 f__law_number (dCons (dVar 0) (dCons (dOp pAdd (dVar 1) (dCst (.int 2))) (dNil)))) (dCons (dCall 2 f__law_number (dCons (dVar 0) (dCons (dOp pAdd (dVar 1) (dCst (.int 4))) (dNil)))) (dCons (dVar 5) (dNil))))))) (dRet (dOp pAdd (dTup (dCons (dCall 2 f__law_number (dCons (dVar 0) (dCons (dOp pAdd (dVar 1) (dCst (.int 1))) (dNil)))) (dCons (dVar 4) (dNil)))) (dVar 6)))) (dNop)) (dSeq (dSet 6 (qV (dTup (dCons (dCall 3 f__law_draw (dCons (dVar 0) (dCons (dOp pAdd (dVar 1) (dCst (.int 1))) (dCons (dCst (.int 6)) (dNil))))) (dCons (dCall 3 f__law_draw (dCons (dVar 0) (dCons (dOp pAdd (dVar 1) (dCst (.int 2))) (dCons (dCst (.int 17)) (dNil))))) (dCons (dVar 5) (dNil))))))) (dRet (dOp pAdd (dTup (dCons (dCall 3 f__law_draw (dCons (dVar 0) (dCons (dOp pAdd (dVar 1) (dCst (.int 4))) (dCons (dCst (.int 160)) (dNil))))) (dCons (dVar 4) (dNil)))) (dVar 6)))))))
def f__law_state : List D → M D := dFn 3 N__law_state.length b__law_state
theorem nd__law_state : N__law_state.Nodup := by decide +kernel
theorem sc__law_state : FnScope N__law_state ["draws", "at", "wide"] (defScope (top 39)) := ⟨rfl, rfl, rfl, nd__law_state, rfl, by decide +kernel, by decide +kernel⟩
theorem ok__law_state (Z : Zf G mg fa fn nmt) : Callee P w G mg base "_law_state" 2 3 ["draws", "at", "wide"] f__law_state := by
  refine callee_of (N := N__law_state) (d := b__law_state) Z 5 11 (st := top 39) (by rfl) (by rfl) sc__law_state (by rfl) (fun _ _ _ _ _ _ us hl => match us, hl with | [_, _, _], _ => by rfl) fun f cdv A outer s H E hr => ?_
  exact (jss_cons (js_setV (ps_set nd__law_state rfl (.inl rfl) (je_ix (i_idx rfl) (jr_of (je_lst (jl_disp (ja_cons rfl cst_int (ja_cons rfl cst_int (ja_cons rfl cst_int (ja_cons rfl (je_op (o_add rfl) (jr_of cst_int) (jr_of (je_op (o_mul rfl) (jr_of cst_int) (jr_of (je_callT (c_int) rfl (Z.free 10 rfl) PyProof.Rows.boot_int (jb_cons rfl (jr_of (je_var rfl (.inl rfl) rfl rfl)) jb_nil) rfl))))) ja_nil))))))) (jr_of (je_cal (ok__law_draw Z) rfl hr (by decide) rfl (takes_of (E := E) rfl rfl rfl rfl) (ja_cons rfl (je_var rfl (.inr (.inl rfl)) rfl rfl) (ja_cons rfl (je_var rfl (.inr (.inl rfl)) rfl rfl) (ja_cons rfl cst_int ja_nil))) rfl)) rfl) rfl)) (jss_cons (js_setV (ps_set nd__law_state rfl (.inl rfl) (je_callT (c_tuple rfl) rfl (Z.free 3 rfl) PyProof.Rows.boot_tuple (jb_cons rfl (jr_of (je_lst (je_lc (own := [("k", 7)]) rfl nd__law_state (jiw_of (ji_rg1 rfl (Z.free 2 rfl) (ja_cons rfl (je_var rfl (.inl rfl) rfl rfl) ja_nil) rfl)) (blkOk_by rfl) (fun _ _ _ _ _ => (jg_name nd__law_state rfl (.inl rfl) (.inr rfl) (by decide))) (fun _ _ _ _ _ => jts_nil) (fun _ _ _ _ _ => (je_cal (ok__law_number Z) rfl hr (by decide) rfl takes0 (ja_cons rfl (je_var rfl (.inr (.inl rfl)) rfl rfl) (ja_cons rfl (je_op (o_add rfl) (jr_of (je_op (o_add rfl) (jr_of (je_var rfl (.inr (.inl rfl)) rfl rfl)) (jr_of cst_int))) (jr_of (je_var rfl (.inl rfl) rfl rfl))) ja_nil)) rfl)) (fun _ => rfl)))) jb_nil) rfl) rfl)) (jss_cons (js_setV (ps_set nd__law_state rfl (.inl rfl) (je_cmp (o_eq rfl (huR hr)) (jr_of (je_cal (ok__law_draw Z) rfl hr (by decide) rfl (takes_of (E := E) rfl rfl rfl rfl) (ja_cons rfl (je_var rfl (.inr (.inl rfl)) rfl rfl) (ja_cons rfl (je_op (o_add rfl) (jr_of (je_var rfl (.inr (.inl rfl)) rfl rfl)) (jr_of cst_int)) (ja_cons rfl cst_int ja_nil))) rfl)) (jr_of cst_int) rfl) rfl)) (jss_cons (js_if (jt_val (jr_of (je_var rfl (.inl rfl) rfl rfl)) rfl) (jss_cons (js_setV (ps_set nd__law_state rfl (.inl rfl) (je_tup (ja_cons rfl (je_cal (ok__law_number Z) rfl hr (by decide) rfl (takes_of (E := E) rfl rfl rfl rfl) (ja_cons rfl (je_var rfl (.inr (.inl rfl)) rfl rfl) (ja_cons rfl (je_op (o_add rfl) (jr_of (je_var rfl (.inr (.inl rfl)) rfl rfl)) (jr_of cst_int)) ja_nil)) rfl) (ja_cons rfl (je_cal (ok__law_number Z) rfl hr (by decide) rfl (takes_of (E := E) rfl rfl rfl rfl) (ja_cons rfl (je_var rfl (.inr (.inl rfl)) rfl rfl) (ja_cons rfl (je_op (o_add rfl) (jr_of (je_var rfl (.inr (.inl rfl)) rfl rfl)) (jr_of cst_int)) ja_nil)) rfl) (ja_cons rfl (je_var rfl (.inl rfl) rfl rfl) ja_nil)))) rfl)) (jss_one (js_ret (je_op (o_add rfl) (jr_of (je_tup (ja_cons rfl (je_cal (ok__law_number Z) rfl hr (by decide) rfl (takes_of (E := E) rfl rfl rfl rfl) (ja_cons rfl (je_var rfl (.inr (.inl rfl)) rfl rfl) (ja_cons rfl (je_op (o_add rfl) (jr_of (je_var rfl (.inr (.inl rfl)) rfl rfl)) (jr_of cst_int)) ja_nil)) rfl) (ja_cons rfl (je_var rfl (.inl rfl) rfl rfl) ja_nil)))) (jr_of (je_var rfl (.inl rfl) rfl rfl)))))) jss_nil) (jss_cons (js_setV (ps_set nd__law_state rfl (.inl rfl) (je_tup (ja_cons rfl (je_cal (ok__law_draw Z) rfl hr (by decide) rfl (takes_of (E := E) rfl rfl rfl rfl) (ja_cons rfl (je_var rfl (.inr (.inl rfl)) rfl rfl) (ja_cons rfl (je_op (o_add rfl) (jr_of (je_var rfl (.inr (.inl rfl)) rfl rfl)) (jr_of cst_int)) (ja_cons rfl cst_int ja_nil))) rfl) (ja_cons rfl (je_cal (ok__law_draw Z) rfl hr (by decide) rfl (takes_of (E := E) rfl rfl rfl rfl) (ja_cons rfl (je_var rfl (.inr (.inl rfl)) rfl rfl) (ja_cons rfl (je_op (o_add rfl) (jr_of (je_var rfl (.inr (.inl rfl)) rfl rfl)) (jr_of cst_int)) (ja_cons rfl cst_int ja_nil))) rfl) (ja_cons rfl (je_var rfl (.inl rfl) rfl rfl) ja_nil)))) rfl)) (jss_one (js_ret (je_op (o_add rfl) (jr_of (je_tup (ja_cons rfl (je_cal (ok__law_draw Z) rfl hr (by decide) rfl (takes_of (E := E) rfl rfl rfl rfl) (ja_cons rfl (je_var rfl (.inr (.inl rfl)) rfl rfl) (ja_cons rfl (je_op (o_add rfl) (jr_of (je_var rfl (.inr (.inl rfl)) rfl rfl)) (jr_of cst_int)) (ja_cons rfl cst_int ja_nil))) rfl) (ja_cons rfl (je_var rfl (.inl rfl) rfl rfl) ja_nil)))) (jr_of (je_var rfl (.inl rfl) rfl rfl))))))))))
def N__law_end : List Str := ["draws", "at", "ended", "word"]
def b__law_end : DS := dSeq (dIfS (dNot (dTest (dVar 2))) (dRet (dTup (dNil))) (dNop)) (dSeq (dSet 3 (qV (dOp pIdx (dLst (dDisp (dCons (dCst (.str "good")) (dCons (dCst (.str "bad")) (dCons (dCst (.str "off")) (dNil)))))) (dCall 3 f__law_draw (dCons (dVar 0) (dCons (dVar 1) (dCons (dCst (.int 3)) (dNil)))))))) (dRet (dTup (dCons (dVar 3) (dCons (dOp pIdx (dLst (dDisp (dCons (dCall 2 f__law_number (dCons (dVar 0) (dCons (dOp pAdd (dVar 1) (dCst (.int 1))) (dNil)))) (dCons (dCst (.int 0)) (dNil))))) (dPr pInt (dCons (dOp pEq (dVar 3) (dCst (.str "off"))) (dNil)))) (dCons (dCall 2 f__law_number (dCons (dVar 0) (dCons (dOp pAdd (dVar 1) (dCst (.int 4))) (dNil)))) (dNil)))))))
def f__law_end : List D → M D := dFn 3 N__law_end.length b__law_end
theorem nd__law_end : N__law_end.Nodup := by decide +kernel
theorem sc__law_end : FnScope N__law_end ["draws", "at", "ended"] (defScope (top 38)) := ⟨rfl, rfl, rfl, nd__law_end, rfl, by decide +kernel, by decide +kernel⟩
theorem ok__law_end (Z : Zf G mg fa fn nmt) : Callee P w G mg base "_law_end" 2 3 ["draws", "at", "ended"] f__law_end := by
  refine callee_of (N := N__law_end) (d := b__law_end) Z 6 12 (st := top 38) (by rfl) (by rfl) sc__law_end (by rfl) (fun _ _ _ _ _ _ us hl => match us, hl with | [_, _, _], _ => by rfl) fun f cdv A outer s H E hr => ?_
  exact (jss_cons (js_if (jt_not (jt_val (jr_of (je_var rfl (.inl rfl) rfl rfl)) rfl)) (jss_one (js_ret (je_tup ja_nil))) jss_nil) (jss_cons (js_setV (ps_set nd__law_end rfl (.inl rfl) (je_ix (i_idx rfl) (jr_of (je_lst (jl_disp (ja_cons rfl cst_str (ja_cons rfl cst_str (ja_cons rfl cst_str ja_nil)))))) (jr_of (je_cal (ok__law_draw Z) rfl hr (by decide) rfl (takes_of (E := E) rfl rfl rfl rfl) (ja_cons rfl (je_var rfl (.inl rfl) rfl rfl) (ja_cons rfl (je_var rfl (.inl rfl) rfl rfl) (ja_cons rfl cst_int ja_nil))) rfl)) rfl) rfl)) (jss_one (js_ret (je_tup (ja_cons rfl (je_var rfl (.inl rfl) rfl rfl) (ja_cons rfl (je_ix (i_idx rfl) (jr_of (je_lst (jl_disp (ja_cons rfl (je_cal (ok__law_number Z) rfl hr (by decide) rfl (takes_of (E := E) rfl rfl rfl rfl) (ja_cons rfl (je_var rfl (.inl rfl) rfl rfl) (ja_cons rfl (je_op (o_add rfl) (jr_of (je_var rfl (.inl rfl) rfl rfl)) (jr_of cst_int)) ja_nil)) rfl) (ja_cons rfl cst_int ja_nil))))) (jr_of (je_callT (c_int) rfl (Z.free 10 rfl) PyProof.Rows.boot_int (jb_cons rfl (jr_of (je_cmp (o_eq rfl (huR hr)) (jr_of (je_var rfl (.inl rfl) rfl rfl)) (jr_of cst_str) rfl)) jb_nil) rfl)) rfl) (ja_cons rfl (je_cal (ok__law_number Z) rfl hr (by decide) rfl (takes_of (E := E) rfl rfl rfl rfl) (ja_cons rfl (je_var rfl (.inl rfl) rfl rfl) (ja_cons rfl (je_op (o_add rfl) (jr_of (je_var rfl (.inl rfl) rfl rfl)) (jr_of cst_int)) ja_nil)) rfl) ja_nil))))))))
def N__law_hall : List Str := ["draws", "most", "words", "wide", "houses", "k", "path", "at", "ended", "state", "diary", "head", "asks"]
def b__law_hall : DS := dSeq (dSet 2 (qV (dLst (dDisp (dCons (dCst (.str "a")) (dCons (dCst (.str "ab")) (dCons (dCst (.str "house")) (dCons (dCst (.str "state")) (dCons (dCst (.str "note")) (dCons (dCst (.str "ask")) (dCons (dCst (.str "hour")) (dCons (dCst (.str "zzzzzzzz")) (dNil))))))))))))) (dSeq (dSet 3 (qV (dOp pEq (dCall 3 f__law_draw (dCons (dVar 0) (dCons (dCst (.int 293)) (dCons (dCst (.int 8)) (dNil))))) (dCst (.int 0))))) (dSeq (dSet 4 (qO (dDisp (dNil)))) (dSeq (dFor (dRg en1 (dCons (dCall 4 f__law_paths (dCons (dVar 0) (dCons (dCst (.int 0)) (dCons (dLst (dDisp (dCons (dCst (.int 0)) (dCons (dCst (.int 2)) (dCons (dCst (.int 4)) (dNil)))))) (dCons (dCall 3 f__law_draw (dCons (dVar 0) (dCons (dCst (.int 290)) (dCons (dOp pAdd (dVar 1) (dCst (.int 1))) (dNil))))) (dNil)))))) (dNil))) (gT 2 (gsC (gN 5) (gsC (gN 6) (gs0)))) (dSeq (dSet 7 (qV (dOp pAdd (dCst (.int 40)) (dOp pMul (dCst (.int 40)) (dVar 5))))) (dSeq (dSet 8 (qV (dOp pEq (dCall 3 f__law_draw (dCons (dVar 0) (dCons (dVar 7) (dCons (dCst (.int 2)) (dNil))))) (dCst (.int 0))))) (dSeq (dSet 9 (qV (dTup (dNil)))) (dSeq (dIfS (dNot (dTest (dVar 8))) (dSet 9 (qV (dCall 3 f__law_state (dCons (dVar 0) (dCons (dOp pAdd (dVar 7) (dCst (.int 10))) (dCons (dVar 3) (dNil))))))) (dNop)) (dSeq (dSet 10 (qV (dCall 4 f__law_diary (dCons (dVar 0) (dCons (dOp pAdd (dVar 7) (dCst (.int 20))) (dCons (dCall 3 f__law_draw (dCons (dVar 0) (dCons (dOp pAdd (dVar 7) (dCst (.int 9))) (dCons (dCst (.int 4)) (dNil))))) (dCons (dVar 3) (dNil)))))))) (dSeq (dSet 11 (qV (dTup (dCons (dVar 6) (dCons (dOp pIdx (dVar 2) (dCall 3 f__law_draw (dCons (dVar 0) (dCons (dOp pAdd (dVar 7) (dCst (.int 1))) (dCons (dCst (.int 8)) (dNil)))))) (dCons (dCall 2 f__law_number (dCons (dVar 0) (dCons (dOp pAdd (dVar 7) (dCst (.int 2))) (dNil)))) (dCons (dCall 3 f__law_end (dCons (dVar 0) (dCons (dOp pAdd (dVar 7) (dCst (.int 5))) (dCons (dVar 8) (dNil))))) (dNil)))))))) (dOwn 4 fApp (dOp pAdd (dVar 11) (dTup (dCons (dVar 10) (dCons (dVar 9) (dNil))))))))))))) (dSeq (dSet 12 (qO (dDisp (dNil)))) (dSeq (dFor (dRg en1 (dCons (dCall 4 f__law_paths (dCons (dVar 0) (dCons (dCst (.int 300)) (dCons (dLst (dDisp (dCons (dCst (.int 2)) (dCons (dCst (.int 4)) (dCons (dCst (.int 6)) (dNil)))))) (dCons (dCall 3 f__law_draw (dCons (dVar 0) (dCons (dCst (.int 291)) (dCons (dOp pAdd (dVar 1) (dCst (.int 1))) (dNil))))) (dNil)))))) (dNil))) (gT 2 (gsC (gN 5) (gsC (gN 6) (gs0)))) (dSeq (dSet 7 (qV (dOp pAdd (dCst (.int 350)) (dOp pMul (dCst (.int 20)) (dVar 5))))) (dSeq (dSet 11 (qV (dTup (dCons (dVar 6) (dCons (dOp pIdx (dVar 2) (dCall 3 f__law_draw (dCons (dVar 0) (dCons (dVar 7) (dCons (dCst (.int 8)) (dNil)))))) (dCons (dCall 2 f__law_number (dCons (dVar 0) (dCons (dOp pAdd (dVar 7) (dCst (.int 1))) (dNil)))) (dCons (dCall 2 f__law_number (dCons (dVar 0) (dCons (dOp pAdd (dVar 7) (dCst (.int 4))) (dNil)))) (dNil)))))))) (dOwn 12 fApp (dOp pAdd (dVar 11) (dTup (dCons (dCall 3 f__law_end (dCons (dVar 0) (dCons (dOp pAdd (dVar 7) (dCst (.int 7))) (dCons (dOp pEq (dCall 3 f__law_draw (dCons (dVar 0) (dCons (dOp pAdd (dVar 7) (dCst (.int 15))) (dCons (dCst (.int 2)) (dNil))))) (dCst (.int 0))) (dNil))))) (dNil)))))))) (dRet (dTup (dCons (dCall 2 f__law_number (dCons (dVar 0) (dCons (dCst (.int 292)) (dNil)))) (dCons (dPr pTuple (dCons (dRd 4) (dNil))) (dCons (dPr pTuple (dCons (dRd 12) (dNil))) (dNil)))))))))))
def f__law_hall : List D → M D := dFn 2 N__law_hall.length b__law_hall
theorem nd__law_hall : N__law_hall.Nodup := by decide +kernel
theorem sc__law_hall : FnScope N__law_hall ["draws", "most"] (defScope (top 41)) := ⟨rfl, rfl, rfl, nd__law_hall, rfl, by decide +kernel, by decide +kernel⟩
theorem ok__law_hall (Z : Zf G mg fa fn nmt) : Callee P w G mg base "_law_hall" 4 2 ["draws", "most"] f__law_hall := by
  refine callee_of (N := N__law_hall) (d := b__law_hall) Z 7 14 (st := top 41) (by rfl) (by rfl) sc__law_hall (by rfl) (fun _ _ _ _ _ _ us hl => match us, hl with | [_, _], _ => by rfl) fun f cdv A outer s H E hr => ?_
  exact (jss_cons (js_setV (ps_set nd__law_hall rfl (.inl rfl) (je_lst (jl_disp (ja_cons rfl cst_str (ja_cons rfl cst_str (ja_cons rfl cst_str (ja_cons rfl cst_str (ja_cons rfl cst_str (ja_cons rfl cst_str (ja_cons rfl cst_str (ja_cons rfl cst_str ja_nil)))))))))) rfl)) (jss_cons (js_setV (ps_set nd__law_hall rfl (.inl rfl) (je_cmp (o_eq rfl (huR hr)) (jr_of (je_cal (ok__law_draw Z) rfl hr (by decide) rfl (takes_of (E := E) rfl rfl rfl rfl) (ja_cons rfl (je_var rfl (.inl rfl) rfl rfl) (ja_cons rfl cst_int (ja_cons rfl cst_int ja_nil))) rfl)) (jr_of cst_int) rfl) rfl)) (jss_cons (js_setO (ps_set nd__law_hall rfl (.inl rfl) (jl_disp ja_nil) rfl)) (jss_cons (js_for (vs := [0, 1, 2, 3, 4, 5, 6, 7, 8, 9, 10, 11, 12]) (passes_of rfl) rfl (ji_enum rfl rfl (Z.free 13 rfl) (ja_cons rfl (je_cal (ok__law_paths Z) rfl hr (by decide) rfl (takes_of (E := E) rfl rfl rfl rfl) (ja_cons rfl (je_var rfl (.inl rfl) rfl rfl) (ja_cons rfl cst_int (ja_cons rfl (je_lst (jl_disp (ja_cons rfl cst_int (ja_cons rfl cst_int (ja_cons rfl cst_int ja_nil))))) (ja_cons rfl (je_cal (ok__law_draw Z) rfl hr (by decide) rfl (takes_of (E := E) rfl rfl rfl rfl) (ja_cons rfl (je_var rfl (.inl rfl) rfl rfl) (ja_cons rfl cst_int (ja_cons rfl (je_op (o_add rfl) (jr_of (je_var rfl (.inl rfl) rfl rfl)) (jr_of cst_int)) ja_nil))) rfl) ja_nil)))) rfl) ja_nil) rfl) (jg_tup rfl rfl (jgs_cons (jg_name nd__law_hall rfl (.inl rfl) (.inl rfl) (by decide)) (jgs_cons (jg_name nd__law_hall rfl (.inl rfl) (.inl rfl) (by decide)) jgs_nil))) (jss_cons (js_setV (ps_set nd__law_hall rfl (.inl rfl) (je_op (o_add rfl) (jr_of cst_int) (jr_of (je_op (o_mul rfl) (jr_of cst_int) (jr_of (je_var rfl (.inl rfl) rfl rfl))))) rfl)) (jss_cons (js_setV (ps_set nd__law_hall rfl (.inl rfl) (je_cmp (o_eq rfl (huR hr)) (jr_of (je_cal (ok__law_draw Z) rfl hr (by decide) rfl (takes_of (E := E) rfl rfl rfl rfl) (ja_cons rfl (je_var rfl (.inl rfl) rfl rfl) (ja_cons rfl (je_var rfl (.inl rfl) rfl rfl) (ja_cons rfl cst_int ja_nil))) rfl)) (jr_of cst_int) rfl) rfl)) (jss_cons (js_setV (ps_set nd__law_hall rfl (.inl rfl) (je_tup ja_nil) rfl)) (jss_cons (js_if (jt_not (jt_val (jr_of (je_var rfl (.inl rfl) rfl rfl)) rfl)) (jss_one (js_setV (ps_set nd__law_hall rfl (.inl rfl) (je_cal (ok__law_state Z) rfl hr (by decide) rfl (takes_of (E := E) rfl rfl rfl rfl) (ja_cons rfl (je_var rfl (.inl rfl) rfl rfl) (ja_cons rfl (je_op (o_add rfl) (jr_of (je_var rfl (.inl rfl) rfl rfl)) (jr_of cst_int)) (ja_cons rfl (je_var rfl (.inl rfl) rfl rfl) ja_nil))) rfl) rfl))) jss_nil) (jss_cons (js_setV (ps_set nd__law_hall rfl (.inl rfl) (je_cal (ok__law_diary Z) rfl hr (by decide) rfl (takes_of (E := E) rfl rfl rfl rfl) (ja_cons rfl (je_var rfl (.inl rfl) rfl rfl) (ja_cons rfl (je_op (o_add rfl) (jr_of (je_var rfl (.inl rfl) rfl rfl)) (jr_of cst_int)) (ja_cons rfl (je_cal (ok__law_draw Z) rfl hr (by decide) rfl (takes_of (E := E) rfl rfl rfl rfl) (ja_cons rfl (je_var rfl (.inl rfl) rfl rfl) (ja_cons rfl (je_op (o_add rfl) (jr_of (je_var rfl (.inl rfl) rfl rfl)) (jr_of cst_int)) (ja_cons rfl cst_int ja_nil))) rfl) (ja_cons rfl (je_var rfl (.inl rfl) rfl rfl) ja_nil)))) rfl) rfl)) (jss_cons (js_setV (ps_set nd__law_hall rfl (.inl rfl) (je_tup (ja_cons rfl (je_var rfl (.inl rfl) rfl rfl) (ja_cons rfl (je_ix (i_idx rfl) (jr_of (je_var rfl (.inl rfl) rfl rfl)) (jr_of (je_cal (ok__law_draw Z) rfl hr (by decide) rfl (takes_of (E := E) rfl rfl rfl rfl) (ja_cons rfl (je_var rfl (.inl rfl) rfl rfl) (ja_cons rfl (je_op (o_add rfl) (jr_of (je_var rfl (.inl rfl) rfl rfl)) (jr_of cst_int)) (ja_cons rfl cst_int ja_nil))) rfl)) rfl) (ja_cons rfl (je_cal (ok__law_number Z) rfl hr (by decide) rfl (takes_of (E := E) rfl rfl rfl rfl) (ja_cons rfl (je_var rfl (.inl rfl) rfl rfl) (ja_cons rfl (je_op (o_add rfl) (jr_of (je_var rfl (.inl rfl) rfl rfl)) (jr_of cst_int)) ja_nil)) rfl) (ja_cons rfl (je_cal (ok__law_end Z) rfl hr (by decide) rfl (takes_of (E := E) rfl rfl rfl rfl) (ja_cons rfl (je_var rfl (.inl rfl) rfl rfl) (ja_cons rfl (je_op (o_add rfl) (jr_of (je_var rfl (.inl rfl) rfl rfl)) (jr_of cst_int)) (ja_cons rfl (je_var rfl (.inl rfl) rfl rfl) ja_nil))) rfl) ja_nil))))) rfl)) (jss_one (js_app rfl rfl (.inl rfl) rfl rfl (je_op (o_add rfl) (jr_of (je_var rfl (.inl rfl) rfl rfl)) (jr_of (je_tup (ja_cons rfl (je_var rfl (.inl rfl) rfl rfl) (ja_cons rfl (je_var rfl (.inl rfl) rfl rfl) ja_nil))))) rfl rfl rfl rfl rfl)))))))) (fun _ => rfl)) (jss_cons (js_setO (ps_set nd__law_hall rfl (.inl rfl) (jl_disp ja_nil) rfl)) (jss_cons (js_for (vs := [0, 1, 2, 3, 4, 5, 6, 7, 8, 9, 10, 11, 12]) (passes_of rfl) rfl (ji_enum rfl rfl (Z.free 13 rfl) (ja_cons rfl (je_cal (ok__law_paths Z) rfl hr (by decide) rfl (takes_of (E := E) rfl rfl rfl rfl) (ja_cons rfl (je_var rfl (.inl rfl) rfl rfl) (ja_cons rfl cst_int (ja_cons rfl (je_lst (jl_disp (ja_cons rfl cst_int (ja_cons rfl cst_int (ja_cons rfl cst_int ja_nil))))) (ja_cons rfl (je_cal (ok__law_draw Z) rfl hr (by decide) rfl (takes_of (E := E) rfl rfl rfl rfl) (ja_cons rfl (je_var rfl (.inl rfl) rfl rfl) (ja_cons rfl cst_int (ja_cons rfl (je_op (o_add rfl) (jr_of (je_var rfl (.inl rfl) rfl rfl)) (jr_of cst_int)) ja_nil))) rfl) ja_nil)))) rfl) ja_nil) rfl) (jg_tup rfl rfl (jgs_cons (jg_name nd__law_hall rfl (.inl rfl) (.inl rfl) (by decide)) (jgs_cons (jg_name nd__law_hall rfl (.inl rfl) (.inl rfl) (by decide)) jgs_nil))) (jss_cons (js_setV (ps_set nd__law_hall rfl (.inl rfl) (je_op (o_add rfl) (jr_of cst_int) (jr_of (je_op (o_mul rfl) (jr_of cst_int) (jr_of (je_var rfl (.inl rfl) rfl rfl))))) rfl)) (jss_cons (js_setV (ps_set nd__law_hall rfl (.inl rfl) (je_tup (ja_cons rfl (je_var rfl (.inl rfl) rfl rfl) (ja_cons rfl (je_ix (i_idx rfl) (jr_of (je_var rfl (.inl rfl) rfl rfl)) (jr_of (je_cal (ok__law_draw Z) rfl hr (by decide) rfl (takes_of (E := E) rfl rfl rfl rfl) (ja_cons rfl (je_var rfl (.inl rfl) rfl rfl) (ja_cons rfl (je_var rfl (.inl rfl) rfl rfl) (ja_cons rfl cst_int ja_nil))) rfl)) rfl) (ja_cons rfl (je_cal (ok__law_number Z) rfl hr (by decide) rfl (takes_of (E := E) rfl rfl rfl rfl) (ja_cons rfl (je_var rfl (.inl rfl) rfl rfl) (ja_cons rfl (je_op (o_add rfl) (jr_of (je_var rfl (.inl rfl) rfl rfl)) (jr_of cst_int)) ja_nil)) rfl) (ja_cons rfl (je_cal (ok__law_number Z) rfl hr (by decide) rfl (takes_of (E := E) rfl rfl rfl rfl) (ja_cons rfl (je_var rfl (.inl rfl) rfl rfl) (ja_cons rfl (je_op (o_add rfl) (jr_of (je_var rfl (.inl rfl) rfl rfl)) (jr_of cst_int)) ja_nil)) rfl) ja_nil))))) rfl)) (jss_one (js_app rfl rfl (.inl rfl) rfl rfl (je_op (o_add rfl) (jr_of (je_var rfl (.inl rfl) rfl rfl)) (jr_of (je_tup (ja_cons rfl (je_cal (ok__law_end Z) rfl hr (by decide) rfl (takes_of (E := E) rfl rfl rfl rfl) (ja_cons rfl (je_var rfl (.inl rfl) rfl rfl) (ja_cons rfl (je_op (o_add rfl) (jr_of (je_var rfl (.inl rfl) rfl rfl)) (jr_of cst_int)) (ja_cons rfl (je_cmp (o_eq rfl (huR hr)) (jr_of (je_cal (ok__law_draw Z) rfl hr (by decide) rfl (takes_of (E := E) rfl rfl rfl rfl) (ja_cons rfl (je_var rfl (.inl rfl) rfl rfl) (ja_cons rfl (je_op (o_add rfl) (jr_of (je_var rfl (.inl rfl) rfl rfl)) (jr_of cst_int)) (ja_cons rfl cst_int ja_nil))) rfl)) (jr_of cst_int) rfl) ja_nil))) rfl) ja_nil)))) rfl rfl rfl rfl rfl)))) (fun _ => rfl)) (jss_one (js_ret (je_tup (ja_cons rfl (je_cal (ok__law_number Z) rfl hr (by decide) rfl (takes_of (E := E) rfl rfl rfl rfl) (ja_cons rfl (je_var rfl (.inl rfl) rfl rfl) (ja_cons rfl cst_int ja_nil)) rfl) (ja_cons rfl (je_callT (c_tuple rfl) rfl (Z.free 3 rfl) PyProof.Rows.boot_tuple (jb_cons rfl (jr_rd rfl (.inl rfl) rfl rfl) jb_nil) rfl) (ja_cons rfl (je_callT (c_tuple rfl) rfl (Z.free 3 rfl) PyProof.Rows.boot_tuple (jb_cons rfl (jr_rd rfl (.inl rfl) rfl rfl) jb_nil) rfl) ja_nil))))))))))))
def N__law_text : List Str := ["lines", "words"]
def b__law_text : DS := dRet (dJoin (dCst (.str "\n")) (dLst (dLc (dItems (dVar 0)) (gN 1) (dYes) (dJoin (dCst (.str " ")) (dVar 1)) [1])))
def f__law_text : List D → M D := dFn 1 N__law_text.length b__law_text
theorem nd__law_text : N__law_text.Nodup := by decide +kernel
theorem sc__law_text : FnScope N__law_text ["lines"] (defScope (top 45)) := ⟨rfl, rfl, rfl, nd__law_text, rfl, by decide +kernel, by decide +kernel⟩
theorem ok__law_text (Z : Zf G mg fa fn nmt) : Callee P w G mg base "_law_text" 1 1 ["lines"] f__law_text := by
  refine callee_of (N := N__law_text) (d := b__law_text) Z 8 15 (st := top 45) (by rfl) (by rfl) sc__law_text (by rfl) (fun _ _ _ _ _ _ us hl => match us, hl with | [_], _ => by rfl) fun f cdv A outer s H E hr => ?_
  exact (jss_one (js_ret (je_join rfl cst_str (jr_of (je_lst (je_lc (own := [("words", 1)]) rfl nd__law_text (ji_valW rfl (jr_of (je_var rfl (.inl rfl) rfl rfl))) (blkOk_by rfl) (fun _ _ _ _ _ => (jg_name nd__law_text rfl (.inl rfl) (.inr rfl) (by decide))) (fun _ _ _ _ _ => jts_nil) (fun _ _ _ _ _ => (je_join rfl cst_str (jr_of (je_var rfl (.inl rfl) rfl rfl)) rfl rfl rfl)) (fun _ => rfl)))) rfl rfl rfl)))
def N_state_line : List Str := ["state", "room", "slots", "wants", "rounds", "called", "numbers", "number"]
def b_state_line : DS := dSeq (dBnd (dVar 0) (gT 5 (gsC (gN 1) (gsC (gN 2) (gsC (gN 3) (gsC (gN 4) (gsC (gN 5) (gs0)))))))) (dSeq (dSet 6 (qV (dOp pAdd (dLst (dDisp (dCons (dVar 1) (dCons (dVar 3) (dCons (dVar 4) (dCons (dPr pInt (dCons (dVar 5) (dNil))) (dNil))))))) (dLst (dPrL qList (dCons (dVar 2) (dNil))))))) (dRet (dJoin (dCst (.str " ")) (dOp pAdd (dLst (dDisp (dCons (dCst (.str "state")) (dNil)))) (dLst (dLc (dItems (dVar 6)) (gN 7) (dYes) (dPr pStr (dCons (dVar 7) (dNil))) [7]))))))
def f_state_line : List D → M D := dFn 1 N_state_line.length b_state_line
theorem nd_state_line : N_state_line.Nodup := by decide +kernel
theorem sc_state_line : FnScope N_state_line ["state"] (defScope (top 15)) := ⟨rfl, rfl, rfl, nd_state_line, rfl, by decide +kernel, by decide +kernel⟩
theorem ok_state_line (Z : Zf G mg fa fn nmt) : Callee P w G mg base "state_line" 1 1 ["state"] f_state_line := by
  refine callee_of (N := N_state_line) (d := b_state_line) Z 9 17 (st := top 15) (by rfl) (by rfl) sc_state_line (by rfl) (fun _ _ _ _ _ _ us hl => match us, hl with | [_], _ => by rfl) fun f cdv A outer s H E hr => ?_
  exact (jss_cons (js_bnd (vs := [0, 1, 2, 3, 4, 5, 6, 7]) (ps_asg (je_var rfl (.inl rfl) rfl rfl) (jg_tup rfl rfl (jgs_cons (jg_name nd_state_line rfl (.inl rfl) (.inl rfl) (by decide)) (jgs_cons (jg_name nd_state_line rfl (.inl rfl) (.inl rfl) (by decide)) (jgs_cons (jg_name nd_state_line rfl (.inl rfl) (.inl rfl) (by decide)) (jgs_cons (jg_name nd_state_line rfl (.inl rfl) (.inl rfl) (by decide)) (jgs_cons (jg_name nd_state_line rfl (.inl rfl) (.inl rfl) (by decide)) jgs_nil)))))))) (jss_cons (js_setV (ps_set nd_state_line rfl (.inl rfl) (je_op (o_add rfl) (jr_of (je_lst (jl_disp (ja_cons rfl (je_var rfl (.inl rfl) rfl rfl) (ja_cons rfl (je_var rfl (.inl rfl) rfl rfl) (ja_cons rfl (je_var rfl (.inl rfl) rfl rfl) (ja_cons rfl (je_callT (c_int) rfl (Z.free 10 rfl) PyProof.Rows.boot_int (jb_cons rfl (jr_of (je_var rfl (.inl rfl) rfl rfl)) jb_nil) rfl) ja_nil))))))) (jr_of (je_lst (jl_list rfl rfl (Z.free 5 rfl) (jb_cons rfl (jr_of (je_var rfl (.inl rfl) rfl rfl)) jb_nil) rfl)))) rfl)) (jss_one (js_ret (je_join rfl cst_str (jr_of (je_op (o_add rfl) (jr_of (je_lst (jl_disp (ja_cons rfl cst_str ja_nil)))) (jr_of (je_lst (je_lc (own := [("number", 7)]) rfl nd_state_line (ji_valW rfl (jr_of (je_var rfl (.inl rfl) rfl rfl))) (blkOk_by rfl) (fun _ _ _ _ _ => (jg_name nd_state_line rfl (.inl rfl) (.inr rfl) (by decide))) (fun _ _ _ _ _ => jts_nil) (fun _ _ _ _ _ => (je_callT (c_str) rfl (Z.free 16 rfl) PyProof.Rows.boot_str (jb_cons rfl (jr_of (je_var rfl (.inl rfl) rfl rfl)) jb_nil) rfl)) (fun _ => rfl)))))) rfl rfl rfl)))))
def N_path_text : List Str := ["path", "part"]
def b_path_text : DS := dSeq (dIfS (dTest (dOp pEq (dVar 0) (dTup (dNil)))) (dRet (dCst (.str "-"))) (dNop)) (dRet (dJoin (dCst (.str ".")) (dLst (dLc (dItems (dVar 0)) (gN 1) (dYes) (dPr pStr (dCons (dVar 1) (dNil))) [1]))))
def f_path_text : List D → M D := dFn 1 N_path_text.length b_path_text
theorem nd_path_text : N_path_text.Nodup := by decide +kernel
theorem sc_path_text : FnScope N_path_text ["path"] (defScope (top 13)) := ⟨rfl, rfl, rfl, nd_path_text, rfl, by decide +kernel, by decide +kernel⟩
theorem ok_path_text (Z : Zf G mg fa fn nmt) : Callee P w G mg base "path_text" 1 1 ["path"] f_path_text := by
  refine callee_of (N := N_path_text) (d := b_path_text) Z 10 18 (st := top 13) (by rfl) (by rfl) sc_path_text (by rfl) (fun _ _ _ _ _ _ us hl => match us, hl with | [_], _ => by rfl) fun f cdv A outer s H E hr => ?_
  exact (jss_cons (js_if (jt_cmp (o_eq rfl (huR hr)) (jr_of (je_var rfl (.inl rfl) rfl rfl)) (jr_of (je_tup ja_nil)) rfl) (jss_one (js_ret cst_str)) jss_nil) (jss_one (js_ret (je_join rfl cst_str (jr_of (je_lst (je_lc (own := [("part", 1)]) rfl nd_path_text (ji_valW rfl (jr_of (je_var rfl (.inl rfl) rfl rfl))) (blkOk_by rfl) (fun _ _ _ _ _ => (jg_name nd_path_text rfl (.inl rfl) (.inr rfl) (by decide))) (fun _ _ _ _ _ => jts_nil) (fun _ _ _ _ _ => (je_callT (c_str) rfl (Z.free 16 rfl) PyProof.Rows.boot_str (jb_cons rfl (jr_of (je_var rfl (.inl rfl) rfl rfl)) jb_nil) rfl)) (fun _ => rfl)))) rfl rfl rfl))))
def N_end_text : List Str := ["end"]
def b_end_text : DS := dSeq (dIfS (dTest (dOp pEq (dVar 0) (dTup (dNil)))) (dRet (dCst (.str "-"))) (dNop)) (dRet (dOp pAdd (dOp pAdd (dOp pAdd (dOp pAdd (dOp pIdx (dVar 0) (dCst (.int 0))) (dCst (.str ":"))) (dPr pStr (dCons (dOp pIdx (dVar 0) (dCst (.int 1))) (dNil)))) (dCst (.str ":"))) (dPr pStr (dCons (dOp pIdx (dVar 0) (dCst (.int 2))) (dNil)))))
def f_end_text : List D → M D := dFn 1 N_end_text.length b_end_text
theorem nd_end_text : N_end_text.Nodup := by decide +kernel
theorem sc_end_text : FnScope N_end_text ["end"] (defScope (top 14)) := ⟨rfl, rfl, rfl, nd_end_text, rfl, by decide +kernel, by decide +kernel⟩
theorem ok_end_text (Z : Zf G mg fa fn nmt) : Callee P w G mg base "end_text" 1 1 ["end"] f_end_text := by
  refine callee_of (N := N_end_text) (d := b_end_text) Z 11 19 (st := top 14) (by rfl) (by rfl) sc_end_text (by rfl) (fun _ _ _ _ _ _ us hl => match us, hl with | [_], _ => by rfl) fun f cdv A outer s H E hr => ?_
  exact (jss_cons (js_if (jt_cmp (o_eq rfl (huR hr)) (jr_of (je_var rfl (.inl rfl) rfl rfl)) (jr_of (je_tup ja_nil)) rfl) (jss_one (js_ret cst_str)) jss_nil) (jss_one (js_ret (je_op (o_add rfl) (jr_of (je_op (o_add rfl) (jr_of (je_op (o_add rfl) (jr_of (je_op (o_add rfl) (jr_of (je_ix (i_idx rfl) (jr_of (je_var rfl (.inl rfl) rfl rfl)) (jr_of cst_int) rfl)) (jr_of cst_str))) (jr_of (je_callT (c_str) rfl (Z.free 16 rfl) PyProof.Rows.boot_str (jb_cons rfl (jr_of (je_ix (i_idx rfl) (jr_of (je_var rfl (.inl rfl) rfl rfl)) (jr_of cst_int) rfl)) jb_nil) rfl)))) (jr_of cst_str))) (jr_of (je_callT (c_str) rfl (Z.free 16 rfl) PyProof.Rows.boot_str (jb_cons rfl (jr_of (je_ix (i_idx rfl) (jr_of (je_var rfl (.inl rfl) rfl rfl)) (jr_of cst_int) rfl)) jb_nil) rfl))))))
def N_house_lines : List Str := ["house", "path", "name", "begun", "end", "diary", "state", "lines", "hour", "word", "number"]
def b_house_lines : DS := dSeq (dBnd (dVar 0) (gT 6 (gsC (gN 1) (gsC (gN 2) (gsC (gN 3) (gsC (gN 4) (gsC (gN 5) (gsC (gN 6) (gs0))))))))) (dSeq (dSet 7 (qO (dDisp (dCons (dJoin (dCst (.str " ")) (dLst (dDisp (dCons (dCst (.str "house")) (dCons (dCall 1 f_path_text (dCons (dVar 1) (dNil))) (dCons (dVar 2) (dCons (dPr pStr (dCons (dVar 3) (dNil))) (dCons (dCall 1 f_end_text (dCons (dVar 4) (dNil))) (dNil))))))))) (dNil))))) (dSeq (dIfS (dTest (dOp pNe (dVar 6) (dTup (dNil)))) (dOwn 7 fApp (dCall 1 f_state_line (dCons (dVar 6) (dNil)))) (dNop)) (dSeq (dFor (dItems (dVar 5)) (gT 3 (gsC (gN 8) (gsC (gN 9) (gsC (gN 10) (gs0))))) (dOwn 7 fApp (dJoin (dCst (.str " ")) (dLst (dDisp (dCons (dCst (.str "note")) (dCons (dPr pStr (dCons (dVar 8) (dNil))) (dCons (dVar 9) (dCons (dPr pStr (dCons (dVar 10) (dNil))) (dNil)))))))))) (dSeq (dFrz 7) (dRet (dVar 7))))))
def f_house_lines : List D → M D := dFn 1 N_house_lines.length b_house_lines
theorem nd_house_lines : N_house_lines.Nodup := by decide +kernel
theorem sc_house_lines : FnScope N_house_lines ["house"] (defScope (top 16)) := ⟨rfl, rfl, rfl, nd_house_lines, rfl, by decide +kernel, by decide +kernel⟩
theorem ok_house_lines (Z : Zf G mg fa fn nmt) : Callee P w G mg base "house_lines" 2 1 ["house"] f_house_lines := by
  refine callee_of (N := N_house_lines) (d := b_house_lines) Z 12 20 (st := top 16) (by rfl) (by rfl) sc_house_lines (by rfl) (fun _ _ _ _ _ _ us hl => match us, hl with | [_], _ => by rfl) fun f cdv A outer s H E hr => ?_
  exact (jss_cons (js_bnd (vs := [0, 1, 2, 3, 4, 5, 6, 7, 8, 9, 10]) (ps_asg (je_var rfl (.inl rfl) rfl rfl) (jg_tup rfl rfl (jgs_cons (jg_name nd_house_lines rfl (.inl rfl) (.inl rfl) (by decide)) (jgs_cons (jg_name nd_house_lines rfl (.inl rfl) (.inl rfl) (by decide)) (jgs_cons (jg_name nd_house_lines rfl (.inl rfl) (.inl rfl) (by decide)) (jgs_cons (jg_name nd_house_lines rfl (.inl rfl) (.inl rfl) (by decide)) (jgs_cons (jg_name nd_house_lines rfl (.inl rfl) (.inl rfl) (by decide)) (jgs_cons (jg_name nd_house_lines rfl (.inl rfl) (.inl rfl) (by decide)) jgs_nil))))))))) (jss_cons (js_setO (ps_set nd_house_lines rfl (.inl rfl) (jl_disp (ja_cons rfl (je_join rfl cst_str (jr_of (je_lst (jl_disp (ja_cons rfl cst_str (ja_cons rfl (je_cal (ok_path_text Z) rfl hr (by decide) rfl (takes_of (E := E) rfl rfl rfl rfl) (ja_cons rfl (je_var rfl (.inl rfl) rfl rfl) ja_nil) rfl) (ja_cons rfl (je_var rfl (.inl rfl) rfl rfl) (ja_cons rfl (je_callT (c_str) rfl (Z.free 16 rfl) PyProof.Rows.boot_str (jb_cons rfl (jr_of (je_var rfl (.inl rfl) rfl rfl)) jb_nil) rfl) (ja_cons rfl (je_cal (ok_end_text Z) rfl hr (by decide) rfl (takes_of (E := E) rfl rfl rfl rfl) (ja_cons rfl (je_var rfl (.inl rfl) rfl rfl) ja_nil) rfl) ja_nil)))))))) rfl rfl rfl) ja_nil)) rfl)) (jss_cons (js_if (jt_cmp (o_ne rfl (huR hr)) (jr_of (je_var rfl (.inl rfl) rfl rfl)) (jr_of (je_tup ja_nil)) rfl) (jss_one (js_app rfl rfl (.inl rfl) rfl rfl (je_cal (ok_state_line Z) rfl hr (by decide) rfl (takes_of (E := E) rfl rfl rfl rfl) (ja_cons rfl (je_var rfl (.inl rfl) rfl rfl) ja_nil) rfl) rfl rfl rfl rfl rfl)) jss_nil) (jss_cons (js_for (vs := [0, 1, 2, 3, 4, 5, 6, 7, 8, 9, 10]) (passes_of rfl) rfl (ji_val rfl (je_var rfl (.inl rfl) rfl rfl)) (jg_tup rfl rfl (jgs_cons (jg_name nd_house_lines rfl (.inl rfl) (.inl rfl) (by decide)) (jgs_cons (jg_name nd_house_lines rfl (.inl rfl) (.inl rfl) (by decide)) (jgs_cons (jg_name nd_house_lines rfl (.inl rfl) (.inl rfl) (by decide)) jgs_nil)))) (jss_one (js_app rfl rfl (.inl rfl) rfl rfl (je_join rfl cst_str (jr_of (je_lst (jl_disp (ja_cons rfl cst_str (ja_cons rfl (je_callT (c_str) rfl (Z.free 16 rfl) PyProof.Rows.boot_str (jb_cons rfl (jr_of (je_var rfl (.inl rfl) rfl rfl)) jb_nil) rfl) (ja_cons rfl (je_var rfl (.inl rfl) rfl rfl) (ja_cons rfl (je_callT (c_str) rfl (Z.free 16 rfl) PyProof.Rows.boot_str (jb_cons rfl (jr_of (je_var rfl (.inl rfl) rfl rfl)) jb_nil) rfl) ja_nil))))))) rfl rfl rfl) rfl rfl rfl rfl rfl)) (fun _ => rfl)) (jss_frz (jss_one (js_ret (je_var rfl (.inl rfl) rfl rfl))))))))
def N_hall_text : List Str := ["hall", "hour", "houses", "asks", "lines", "house", "path", "who", "number", "sent", "end"]
def b_hall_text : DS := dSeq (dBnd (dVar 0) (gT 3 (gsC (gN 1) (gsC (gN 2) (gsC (gN 3) (gs0)))))) (dSeq (dSet 4 (qO (dDisp (dCons (dOp pAdd (dCst (.str "hour ")) (dPr pStr (dCons (dVar 1) (dNil)))) (dNil))))) (dSeq (dFor (dItems (dVar 2)) (gN 5) (dOwn 4 fExt (dCall 1 f_house_lines (dCons (dVar 5) (dNil))))) (dSeq (dFor (dItems (dVar 3)) (gT 5 (gsC (gN 6) (gsC (gN 7) (gsC (gN 8) (gsC (gN 9) (gsC (gN 10) (gs0))))))) (dOwn 4 fApp (dJoin (dCst (.str " ")) (dLst (dDisp (dCons (dCst (.str "ask")) (dCons (dCall 1 f_path_text (dCons (dVar 6) (dNil))) (dCons (dVar 7) (dCons (dPr pStr (dCons (dVar 8) (dNil))) (dCons (dPr pStr (dCons (dVar 9) (dNil))) (dCons (dCall 1 f_end_text (dCons (dVar 10) (dNil))) (dNil)))))))))))) (dRet (dJoin (dCst (.str "\n")) (dRd 4))))))
def f_hall_text : List D → M D := dFn 1 N_hall_text.length b_hall_text
theorem nd_hall_text : N_hall_text.Nodup := by decide +kernel
theorem sc_hall_text : FnScope N_hall_text ["hall"] (defScope (top 17)) := ⟨rfl, rfl, rfl, nd_hall_text, rfl, by decide +kernel, by decide +kernel⟩
theorem ok_hall_text (Z : Zf G mg fa fn nmt) : Callee P w G mg base "hall_text" 3 1 ["hall"] f_hall_text := by
  refine callee_of (N := N_hall_text) (d := b_hall_text) Z 13 21 (st := top 17) (by rfl) (by rfl) sc_hall_text (by rfl) (fun _ _ _ _ _ _ us hl => match us, hl with | [_], _ => by rfl) fun f cdv A outer s H E hr => ?_
  exact (jss_cons (js_bnd (vs := [0, 1, 2, 3, 4, 5, 6, 7, 8, 9, 10]) (ps_asg (je_var rfl (.inl rfl) rfl rfl) (jg_tup rfl rfl (jgs_cons (jg_name nd_hall_text rfl (.inl rfl) (.inl rfl) (by decide)) (jgs_cons (jg_name nd_hall_text rfl (.inl rfl) (.inl rfl) (by decide)) (jgs_cons (jg_name nd_hall_text rfl (.inl rfl) (.inl rfl) (by decide)) jgs_nil)))))) (jss_cons (js_setO (ps_set nd_hall_text rfl (.inl rfl) (jl_disp (ja_cons rfl (je_op (o_add rfl) (jr_of cst_str) (jr_of (je_callT (c_str) rfl (Z.free 16 rfl) PyProof.Rows.boot_str (jb_cons rfl (jr_of (je_var rfl (.inl rfl) rfl rfl)) jb_nil) rfl))) ja_nil)) rfl)) (jss_cons (js_for (vs := [0, 1, 2, 3, 4, 5, 6, 7, 8, 9, 10]) (passes_of rfl) rfl (ji_val rfl (je_var rfl (.inl rfl) rfl rfl)) (jg_name nd_hall_text rfl (.inl rfl) (.inl rfl) (by decide)) (jss_one (js_ext rfl rfl (.inl rfl) rfl rfl (je_cal (ok_house_lines Z) rfl hr (by decide) rfl (takes_of (E := E) rfl rfl rfl rfl) (ja_cons rfl (je_var rfl (.inl rfl) rfl rfl) ja_nil) rfl) rfl rfl rfl rfl rfl)) (fun _ => rfl)) (jss_cons (js_for (vs := [0, 1, 2, 3, 4, 5, 6, 7, 8, 9, 10]) (passes_of rfl) rfl (ji_val rfl (je_var rfl (.inl rfl) rfl rfl)) (jg_tup rfl rfl (jgs_cons (jg_name nd_hall_text rfl (.inl rfl) (.inl rfl) (by decide)) (jgs_cons (jg_name nd_hall_text rfl (.inl rfl) (.inl rfl) (by decide)) (jgs_cons (jg_name nd_hall_text rfl (.inl rfl) (.inl rfl) (by decide)) (jgs_cons (jg_name nd_hall_text rfl (.inl rfl) (.inl rfl) (by decide)) (jgs_cons (jg_name nd_hall_text rfl (.inl rfl) (.inl rfl) (by decide)) jgs_nil)))))) (jss_one (js_app rfl rfl (.inl rfl) rfl rfl (je_join rfl cst_str (jr_of (je_lst (jl_disp (ja_cons rfl cst_str (ja_cons rfl (je_cal (ok_path_text Z) rfl hr (by decide) rfl (takes_of (E := E) rfl rfl rfl rfl) (ja_cons rfl (je_var rfl (.inl rfl) rfl rfl) ja_nil) rfl) (ja_cons rfl (je_var rfl (.inl rfl) rfl rfl) (ja_cons rfl (je_callT (c_str) rfl (Z.free 16 rfl) PyProof.Rows.boot_str (jb_cons rfl (jr_of (je_var rfl (.inl rfl) rfl rfl)) jb_nil) rfl) (ja_cons rfl (je_callT (c_str) rfl (Z.free 16 rfl) PyProof.Rows.boot_str (jb_cons rfl (jr_of (je_var rfl (.inl rfl) rfl rfl)) jb_nil) rfl) (ja_cons rfl (je_cal (ok_end_text Z) rfl hr (by decide) rfl (takes_of (E := E) rfl rfl rfl rfl) (ja_cons rfl (je_var rfl (.inl rfl) rfl rfl) ja_nil) rfl) ja_nil))))))))) rfl rfl rfl) rfl rfl rfl rfl rfl)) (fun _ => rfl)) (jss_one (js_ret (je_join rfl cst_str (jr_rd rfl (.inl rfl) rfl rfl) rfl rfl rfl)))))))
theorem kw_hall_text (Z : Zf G mg fa fn nmt) : KwOk G mg "hall_text" ["hall"] := kw_of Z 13 21 (st := top 17) (by rfl) (by rfl) (fun _ _ _ _ _ _ us hl => match us, hl with | [_], _ => by rfl)
def N__law_draws : List Str := ["cell", "many", "found", "left", "k", "one"]
def b__law_draws : DS := dSeq (dSet 2 (qO (dDisp (dNil)))) (dSeq (dSet 3 (qV (dPr pAbs (dCons (dVar 0) (dNil))))) (dSeq (dIfS (dTest (dOp pGe (dVar 3) (dOp pPow (dCst (.int 10)) (dCst (.int 18))))) (whRun (dAnd (dTest (dOp pGt (dVar 3) (dCst (.int 0)))) (dTest (dOp pLt (dPr pLen (dCons (dRd 2) (dNil))) (dVar 1)))) (dSeq (dOwn 2 fApp (dOp pMod (dVar 3) (dOp pPow (dCst (.int 10)) (dCst (.int 6))))) (dSet 3 (qV (dOp pDiv (dVar 3) (dOp pPow (dCst (.int 10)) (dCst (.int 6))))))) 100000) (dNop)) (dSeq (dFor (dRg rg2 (dCons (dPr pLen (dCons (dRd 2) (dNil))) (dCons (dVar 1) (dNil)))) (gN 4) (dSeq (dSet 5 (qV (dOp pMod (dOp pAdd (dOp pAdd (dOp pAdd (dOp pMul (dOp pMod (dVar 0) (dCst (.int 1000000007))) (dCst (.int 48271))) (dOp pMul (dOp pMul (dCst (.int 977)) (dVar 4)) (dVar 4))) (dOp pMul (dCst (.int 131)) (dVar 4))) (dCst (.int 1))) (dCst (.int 2147483647))))) (dSeq (dSet 5 (qV (dOp pMod (dOp pMul (dVar 5) (dVar 5)) (dCst (.int 2147483647))))) (dOwn 2 fApp (dOp pMod (dOp pDiv (dOp pMod (dOp pMul (dOp pAdd (dVar 5) (dOp pMul (dCst (.int 40692)) (dOp pAdd (dVar 4) (dCst (.int 3))))) (dCst (.int 69621))) (dCst (.int 2147483629))) (dCst (.int 8))) (dOp pPow (dCst (.int 10)) (dCst (.int 6)))))))) (dSeq (dFrz 2) (dRet (dVar 2))))))
def f__law_draws : List D → M D := dFn 2 N__law_draws.length b__law_draws
theorem nd__law_draws : N__law_draws.Nodup := by decide +kernel
theorem sc__law_draws : FnScope N__law_draws ["cell", "many"] (defScope (top 33)) := ⟨rfl, rfl, rfl, nd__law_draws, rfl, by decide +kernel, by decide +kernel⟩
theorem ok__law_draws (Z : Zf G mg fa fn nmt) : Callee P w G mg base "_law_draws" 1 2 ["cell", "many"] f__law_draws := by
  refine callee_of (N := N__law_draws) (d := b__law_draws) Z 14 23 (st := top 33) (by rfl) (by rfl) sc__law_draws (by rfl) (fun _ _ _ _ _ _ us hl => match us, hl with | [_, _], _ => by rfl) fun f cdv A outer s H E hr => ?_
  exact (jss_cons (js_setO (ps_set nd__law_draws rfl (.inl rfl) (jl_disp ja_nil) rfl)) (jss_cons (js_setV (ps_set nd__law_draws rfl (.inl rfl) (je_callB (c_abs) rfl (Z.free 22 rfl) PyProof.Rows.boot_abs (jb_cons rfl (jr_of (je_var rfl (.inl rfl) rfl rfl)) jb_nil) rfl) rfl)) (jss_cons (js_if (jt_cmp (o_ge rfl (huR hr)) (jr_of (je_var rfl (.inl rfl) rfl rfl)) (jr_of (je_op (o_pow) (jr_of cst_int) (jr_of cst_int))) rfl) (jss_one (js_while (passes_of rfl) (PW.pt (jw_and (jt_cmp (o_gt rfl (huR hr)) (jr_of (je_var rfl (.inl rfl) rfl rfl)) (jr_of cst_int) rfl) (jw1_and (jt_cmp (o_lt rfl (huR hr)) (jr_of (je_callB (c_len rfl) rfl (Z.free 0 rfl) boot_len (jb_cons rfl (jr_rd rfl (.inl rfl) rfl rfl) jb_nil) rfl)) (jr_of (je_var rfl (.inl rfl) rfl rfl)) rfl)))) (jss_cons (js_app rfl rfl (.inl rfl) rfl rfl (je_op (o_mod) (jr_of (je_var rfl (.inl rfl) rfl rfl)) (jr_of (je_op (o_pow) (jr_of cst_int) (jr_of cst_int)))) rfl rfl rfl rfl rfl) (jss_one (js_setV (ps_set nd__law_draws rfl (.inl rfl) (je_op (o_div) (jr_of (je_var rfl (.inl rfl) rfl rfl)) (jr_of (je_op (o_pow) (jr_of cst_int) (jr_of cst_int)))) rfl)))))) jss_nil) (jss_cons (js_for (vs := [0, 1, 2, 3, 4, 5]) (passes_of rfl) rfl (ji_rg2 rfl (Z.free 2 rfl) (ja_cons rfl (je_callB (c_len rfl) rfl (Z.free 0 rfl) boot_len (jb_cons rfl (jr_rd rfl (.inl rfl) rfl rfl) jb_nil) rfl) (ja_cons rfl (je_var rfl (.inl rfl) rfl rfl) ja_nil)) rfl rfl) (jg_name nd__law_draws rfl (.inl rfl) (.inl rfl) (by decide)) (jss_cons (js_setV (ps_set nd__law_draws rfl (.inl rfl) (je_op (o_mod) (jr_of (je_op (o_add rfl) (jr_of (je_op (o_add rfl) (jr_of (je_op (o_add rfl) (jr_of (je_op (o_mul rfl) (jr_of (je_op (o_mod) (jr_of (je_var rfl (.inl rfl) rfl rfl)) (jr_of cst_int))) (jr_of cst_int))) (jr_of (je_op (o_mul rfl) (jr_of (je_op (o_mul rfl) (jr_of cst_int) (jr_of (je_var rfl (.inl rfl) rfl rfl)))) (jr_of (je_var rfl (.inl rfl) rfl rfl)))))) (jr_of (je_op (o_mul rfl) (jr_of cst_int) (jr_of (je_var rfl (.inl rfl) rfl rfl)))))) (jr_of cst_int))) (jr_of cst_int)) rfl)) (jss_cons (js_setV (ps_set nd__law_draws rfl (.inl rfl) (je_op (o_mod) (jr_of (je_op (o_mul rfl) (jr_of (je_var rfl (.inl rfl) rfl rfl)) (jr_of (je_var rfl (.inl rfl) rfl rfl)))) (jr_of cst_int)) rfl)) (jss_one (js_app rfl rfl (.inl rfl) rfl rfl (je_op (o_mod) (jr_of (je_op (o_div) (jr_of (je_op (o_mod) (jr_of (je_op (o_mul rfl) (jr_of (je_op (o_add rfl) (jr_of (je_var rfl (.inl rfl) rfl rfl)) (jr_of (je_op (o_mul rfl) (jr_of cst_int) (jr_of (je_op (o_add rfl) (jr_of (je_var rfl (.inl rfl) rfl rfl)) (jr_of cst_int))))))) (jr_of cst_int))) (jr_of cst_int))) (jr_of cst_int))) (jr_of (je_op (o_pow) (jr_of cst_int) (jr_of cst_int)))) rfl rfl rfl rfl rfl)))) (fun _ => rfl)) (jss_frz (jss_one (js_ret (je_var rfl (.inl rfl) rfl rfl))))))))
def N__law_path_word : List Str := ["path", "word", "part"]
def b__law_path_word : DS := dSeq (dIfS (dTest (dOp pEq (dPr pLen (dCons (dVar 0) (dNil))) (dCst (.int 0)))) (dRet (dCst (.str "-"))) (dNop)) (dSeq (dSet 1 (qV (dPr pStr (dCons (dOp pIdx (dVar 0) (dCst (.int 0))) (dNil))))) (dSeq (dFor (dItems (dSl (dVar 0) (dSo (dCst (.int 1))) (dNo))) (gN 2) (dSet 1 (qV (dOp pAdd (dOp pAdd (dVar 1) (dCst (.str "."))) (dPr pStr (dCons (dVar 2) (dNil))))))) (dRet (dVar 1))))
def f__law_path_word : List D → M D := dFn 1 N__law_path_word.length b__law_path_word
theorem nd__law_path_word : N__law_path_word.Nodup := by decide +kernel
theorem sc__law_path_word : FnScope N__law_path_word ["path"] (defScope (top 42)) := ⟨rfl, rfl, rfl, nd__law_path_word, rfl, by decide +kernel, by decide +kernel⟩
theorem ok__law_path_word (Z : Zf G mg fa fn nmt) : Callee P w G mg base "_law_path_word" 1 1 ["path"] f__law_path_word := by
  refine callee_of (N := N__law_path_word) (d := b__law_path_word) Z 15 24 (st := top 42) (by rfl) (by rfl) sc__law_path_word (by rfl) (fun _ _ _ _ _ _ us hl => match us, hl with | [_], _ => by rfl) fun f cdv A outer s H E hr => ?_
  exact (jss_cons (js_if (jt_cmp (o_eq rfl (huR hr)) (jr_of (je_callB (c_len rfl) rfl (Z.free 0 rfl) boot_len (jb_cons rfl (jr_of (je_var rfl (.inl rfl) rfl rfl)) jb_nil) rfl)) (jr_of cst_int) rfl) (jss_one (js_ret cst_str)) jss_nil) (jss_cons (js_setV (ps_set nd__law_path_word rfl (.inl rfl) (je_callT (c_str) rfl (Z.free 16 rfl) PyProof.Rows.boot_str (jb_cons rfl (jr_of (je_ix (i_idx rfl) (jr_of (je_var rfl (.inl rfl) rfl rfl)) (jr_of cst_int) rfl)) jb_nil) rfl) rfl)) (jss_cons (js_for (vs := [0, 1, 2]) (passes_of rfl) rfl (ji_val rfl (je_sl rfl (jr_of (je_var rfl (.inl rfl) rfl rfl)) (jo_some cst_int) jo_none)) (jg_name nd__law_path_word rfl (.inl rfl) (.inl rfl) (by decide)) (jss_one (js_setV (ps_set nd__law_path_word rfl (.inl rfl) (je_op (o_add rfl) (jr_of (je_op (o_add rfl) (jr_of (je_var rfl (.inl rfl) rfl rfl)) (jr_of cst_str))) (jr_of (je_callT (c_str) rfl (Z.free 16 rfl) PyProof.Rows.boot_str (jb_cons rfl (jr_of (je_var rfl (.inl rfl) rfl rfl)) jb_nil) rfl))) rfl))) (fun _ => rfl)) (jss_one (js_ret (je_var rfl (.inl rfl) rfl rfl))))))
def N__law_end_word : List Str := ["end"]
def b__law_end_word : DS := dSeq (dIfS (dTest (dOp pEq (dPr pLen (dCons (dVar 0) (dNil))) (dCst (.int 0)))) (dRet (dCst (.str "-"))) (dNop)) (dRet (dOp pAdd (dOp pAdd (dOp pAdd (dOp pAdd (dOp pIdx (dVar 0) (dCst (.int 0))) (dCst (.str ":"))) (dPr pStr (dCons (dOp pIdx (dVar 0) (dCst (.int 1))) (dNil)))) (dCst (.str ":"))) (dPr pStr (dCons (dOp pIdx (dVar 0) (dCst (.int 2))) (dNil)))))
def f__law_end_word : List D → M D := dFn 1 N__law_end_word.length b__law_end_word
theorem nd__law_end_word : N__law_end_word.Nodup := by decide +kernel
theorem sc__law_end_word : FnScope N__law_end_word ["end"] (defScope (top 43)) := ⟨rfl, rfl, rfl, nd__law_end_word, rfl, by decide +kernel, by decide +kernel⟩
theorem ok__law_end_word (Z : Zf G mg fa fn nmt) : Callee P w G mg base "_law_end_word" 1 1 ["end"] f__law_end_word := by
  refine callee_of (N := N__law_end_word) (d := b__law_end_word) Z 16 25 (st := top 43) (by rfl) (by rfl) sc__law_end_word (by rfl) (fun _ _ _ _ _ _ us hl => match us, hl with | [_], _ => by rfl) fun f cdv A outer s H E hr => ?_
  exact (jss_cons (js_if (jt_cmp (o_eq rfl (huR hr)) (jr_of (je_callB (c_len rfl) rfl (Z.free 0 rfl) boot_len (jb_cons rfl (jr_of (je_var rfl (.inl rfl) rfl rfl)) jb_nil) rfl)) (jr_of cst_int) rfl) (jss_one (js_ret cst_str)) jss_nil) (jss_one (js_ret (je_op (o_add rfl) (jr_of (je_op (o_add rfl) (jr_of (je_op (o_add rfl) (jr_of (je_op (o_add rfl) (jr_of (je_ix (i_idx rfl) (jr_of (je_var rfl (.inl rfl) rfl rfl)) (jr_of cst_int) rfl)) (jr_of cst_str))) (jr_of (je_callT (c_str) rfl (Z.free 16 rfl) PyProof.Rows.boot_str (jb_cons rfl (jr_of (je_ix (i_idx rfl) (jr_of (je_var rfl (.inl rfl) rfl rfl)) (jr_of cst_int) rfl)) jb_nil) rfl)))) (jr_of cst_str))) (jr_of (je_callT (c_str) rfl (Z.free 16 rfl) PyProof.Rows.boot_str (jb_cons rfl (jr_of (je_ix (i_idx rfl) (jr_of (je_var rfl (.inl rfl) rfl rfl)) (jr_of cst_int) rfl)) jb_nil) rfl))))))
def N__law_lines : List Str := ["its_hall", "lines", "path", "name", "begun_at", "end", "diary", "state", "line", "hour", "word", "number", "who", "sent"]
def b__law_lines : DS := dSeq (dSet 1 (qO (dDisp (dCons (dLst (dDisp (dCons (dCst (.str "hour")) (dCons (dPr pStr (dCons (dOp pIdx (dVar 0) (dCst (.int 0))) (dNil))) (dNil))))) (dNil))))) (dSeq (dFor (dItems (dOp pIdx (dVar 0) (dCst (.int 1)))) (gT 6 (gsC (gN 2) (gsC (gN 3) (gsC (gN 4) (gsC (gN 5) (gsC (gN 6) (gsC (gN 7) (gs0)))))))) (dSeq (dOwn 1 fApp (dLst (dDisp (dCons (dCst (.str "house")) (dCons (dCall 1 f__law_path_word (dCons (dVar 2) (dNil))) (dCons (dVar 3) (dCons (dPr pStr (dCons (dVar 4) (dNil))) (dCons (dCall 1 f__law_end_word (dCons (dVar 5) (dNil))) (dNil))))))))) (dSeq (dIfS (dTest (dOp pGt (dPr pLen (dCons (dVar 7) (dNil))) (dCst (.int 0)))) (dSeq (dSet 8 (qV (dLst (dDisp (dCons (dCst (.str "state")) (dCons (dPr pStr (dCons (dOp pIdx (dVar 7) (dCst (.int 0))) (dNil))) (dCons (dPr pStr (dCons (dOp pIdx (dVar 7) (dCst (.int 2))) (dNil))) (dCons (dPr pStr (dCons (dOp pIdx (dVar 7) (dCst (.int 3))) (dNil))) (dCons (dOp pIdx (dLst (dDisp (dCons (dCst (.str "0")) (dCons (dCst (.str "1")) (dNil))))) (dPr pInt (dCons (dOp pIdx (dVar 7) (dCst (.int 4))) (dNil)))) (dNil)))))))))) (dOwn 1 fApp (dOp pAdd (dVar 8) (dLst (dLc (dItems (dOp pIdx (dVar 7) (dCst (.int 1)))) (gN 11) (dYes) (dPr pStr (dCons (dVar 11) (dNil))) [11]))))) (dNop)) (dFor (dItems (dVar 6)) (gT 3 (gsC (gN 9) (gsC (gN 10) (gsC (gN 11) (gs0))))) (dOwn 1 fApp (dLst (dDisp (dCons (dCst (.str "note")) (dCons (dPr pStr (dCons (dVar 9) (dNil))) (dCons (dVar 10) (dCons (dPr pStr (dCons (dVar 11) (dNil))) (dNil)))))))))))) (dSeq (dFor (dItems (dOp pIdx (dVar 0) (dCst (.int 2)))) (gT 5 (gsC (gN 2) (gsC (gN 12) (gsC (gN 11) (gsC (gN 13) (gsC (gN 5) (gs0))))))) (dOwn 1 fApp (dLst (dDisp (dCons (dCst (.str "ask")) (dCons (dCall 1 f__law_path_word (dCons (dVar 2) (dNil))) (dCons (dVar 12) (dCons (dPr pStr (dCons (dVar 11) (dNil))) (dCons (dPr pStr (dCons (dVar 13) (dNil))) (dCons (dCall 1 f__law_end_word (dCons (dVar 5) (dNil))) (dNil))))))))))) (dSeq (dFrz 1) (dRet (dVar 1)))))
def f__law_lines : List D → M D := dFn 1 N__law_lines.length b__law_lines
theorem nd__law_lines : N__law_lines.Nodup := by decide +kernel
theorem sc__law_lines : FnScope N__law_lines ["its_hall"] (defScope (top 44)) := ⟨rfl, rfl, rfl, nd__law_lines, rfl, by decide +kernel, by decide +kernel⟩
theorem ok__law_lines (Z : Zf G mg fa fn nmt) : Callee P w G mg base "_law_lines" 2 1 ["its_hall"] f__law_lines := by
  refine callee_of (N := N__law_lines) (d := b__law_lines) Z 17 26 (st := top 44) (by rfl) (by rfl) sc__law_lines (by rfl) (fun _ _ _ _ _ _ us hl => match us, hl with | [_], _ => by rfl) fun f cdv A outer s H E hr => ?_
  exact (jss_cons (js_setO (ps_set nd__law_lines rfl (.inl rfl) (jl_disp (ja_cons rfl (je_lst (jl_disp (ja_cons rfl cst_str (ja_cons rfl (je_callT (c_str) rfl (Z.free 16 rfl) PyProof.Rows.boot_str (jb_cons rfl (jr_of (je_ix (i_idx rfl) (jr_of (je_var rfl (.inl rfl) rfl rfl)) (jr_of cst_int) rfl)) jb_nil) rfl) ja_nil)))) ja_nil)) rfl)) (jss_cons (js_for (vs := [0, 1, 2, 3, 4, 5, 6, 7, 8, 9, 10, 11, 12, 13]) (passes_of rfl) rfl (ji_val rfl (je_ix (i_idx rfl) (jr_of (je_var rfl (.inl rfl) rfl rfl)) (jr_of cst_int) rfl)) (jg_tup rfl rfl (jgs_cons (jg_name nd__law_lines rfl (.inl rfl) (.inl rfl) (by decide)) (jgs_cons (jg_name nd__law_lines rfl (.inl rfl) (.inl rfl) (by decide)) (jgs_cons (jg_name nd__law_lines rfl (.inl rfl) (.inl rfl) (by decide)) (jgs_cons (jg_name nd__law_lines rfl (.inl rfl) (.inl rfl) (by decide)) (jgs_cons (jg_name nd__law_lines rfl (.inl rfl) (.inl rfl) (by decide)) (jgs_cons (jg_name nd__law_lines rfl (.inl rfl) (.inl rfl) (by decide)) jgs_nil))))))) (jss_cons (js_app rfl rfl (.inl rfl) rfl rfl (je_lst (jl_disp (ja_cons rfl cst_str (ja_cons rfl (je_cal (ok__law_path_word Z) rfl hr (by decide) rfl (takes_of (E := E) rfl rfl rfl rfl) (ja_cons rfl (je_var rfl (.inl rfl) rfl rfl) ja_nil) rfl) (ja_cons rfl (je_var rfl (.inl rfl) rfl rfl) (ja_cons rfl (je_callT (c_str) rfl (Z.free 16 rfl) PyProof.Rows.boot_str (jb_cons rfl (jr_of (je_var rfl (.inl rfl) rfl rfl)) jb_nil) rfl) (ja_cons rfl (je_cal (ok__law_end_word Z) rfl hr (by decide) rfl (takes_of (E := E) rfl rfl rfl rfl) (ja_cons rfl (je_var rfl (.inl rfl) rfl rfl) ja_nil) rfl) ja_nil))))))) rfl rfl rfl rfl rfl) (jss_cons (js_if (jt_cmp (o_gt rfl (huR hr)) (jr_of (je_callB (c_len rfl) rfl (Z.free 0 rfl) boot_len (jb_cons rfl (jr_of (je_var rfl (.inl rfl) rfl rfl)) jb_nil) rfl)) (jr_of cst_int) rfl) (jss_cons (js_setV (ps_set nd__law_lines rfl (.inl rfl) (je_lst (jl_disp (ja_cons rfl cst_str (ja_cons rfl (je_callT (c_str) rfl (Z.free 16 rfl) PyProof.Rows.boot_str (jb_cons rfl (jr_of (je_ix (i_idx rfl) (jr_of (je_var rfl (.inl rfl) rfl rfl)) (jr_of cst_int) rfl)) jb_nil) rfl) (ja_cons rfl (je_callT (c_str) rfl (Z.free 16 rfl) PyProof.Rows.boot_str (jb_cons rfl (jr_of (je_ix (i_idx rfl) (jr_of (je_var rfl (.inl rfl) rfl rfl)) (jr_of cst_int) rfl)) jb_nil) rfl) (ja_cons rfl (je_callT (c_str) rfl (Z.free 16 rfl) PyProof.Rows.boot_str (jb_cons rfl (jr_of (je_ix (i_idx rfl) (jr_of (je_var rfl (.inl rfl) rfl rfl)) (jr_of cst_int) rfl)) jb_nil) rfl) (ja_cons rfl (je_ix (i_idx rfl) (jr_of (je_lst (jl_disp (ja_cons rfl cst_str (ja_cons rfl cst_str ja_nil))))) (jr_of (je_callT (c_int) rfl (Z.free 10 rfl) PyProof.Rows.boot_int (jb_cons rfl (jr_of (je_ix (i_idx rfl) (jr_of (je_var rfl (.inl rfl) rfl rfl)) (jr_of cst_int) rfl)) jb_nil) rfl)) rfl) ja_nil))))))) rfl)) (jss_one (js_app rfl rfl (.inl rfl) rfl rfl (je_op (o_add rfl) (jr_of (je_var rfl (.inl rfl) rfl rfl)) (jr_of (je_lst (je_lc (own := [("number", 11)]) rfl nd__law_lines (ji_valW rfl (jr_of (je_ix (i_idx rfl) (jr_of (je_var rfl (.inl rfl) rfl rfl)) (jr_of cst_int) rfl))) (blkOk_by rfl) (fun _ _ _ _ _ => (jg_name nd__law_lines rfl (.inl rfl) (.inr rfl) (by decide))) (fun _ _ _ _ _ => jts_nil) (fun _ _ _ _ _ => (je_callT (c_str) rfl (Z.free 16 rfl) PyProof.Rows.boot_str (jb_cons rfl (jr_of (je_var rfl (.inl rfl) rfl rfl)) jb_nil) rfl)) (fun _ => rfl))))) rfl rfl rfl rfl rfl))) jss_nil) (jss_one (js_for (vs := [0, 1, 2, 3, 4, 5, 6, 7, 8, 9, 10, 11, 12, 13]) (passes_of rfl) rfl (ji_val rfl (je_var rfl (.inl rfl) rfl rfl)) (jg_tup rfl rfl (jgs_cons (jg_name nd__law_lines rfl (.inl rfl) (.inl rfl) (by decide)) (jgs_cons (jg_name nd__law_lines rfl (.inl rfl) (.inl rfl) (by decide)) (jgs_cons (jg_name nd__law_lines rfl (.inl rfl) (.inl rfl) (by decide)) jgs_nil)))) (jss_one (js_app rfl rfl (.inl rfl) rfl rfl (je_lst (jl_disp (ja_cons rfl cst_str (ja_cons rfl (je_callT (c_str) rfl (Z.free 16 rfl) PyProof.Rows.boot_str (jb_cons rfl (jr_of (je_var rfl (.inl rfl) rfl rfl)) jb_nil) rfl) (ja_cons rfl (je_var rfl (.inl rfl) rfl rfl) (ja_cons rfl (je_callT (c_str) rfl (Z.free 16 rfl) PyProof.Rows.boot_str (jb_cons rfl (jr_of (je_var rfl (.inl rfl) rfl rfl)) jb_nil) rfl) ja_nil)))))) rfl rfl rfl rfl rfl)) (fun _ => rfl))))) (fun _ => rfl)) (jss_cons (js_for (vs := [0, 1, 2, 3, 4, 5, 6, 7, 8, 9, 10, 11, 12, 13]) (passes_of rfl) rfl (ji_val rfl (je_ix (i_idx rfl) (jr_of (je_var rfl (.inl rfl) rfl rfl)) (jr_of cst_int) rfl)) (jg_tup rfl rfl (jgs_cons (jg_name nd__law_lines rfl (.inl rfl) (.inl rfl) (by decide)) (jgs_cons (jg_name nd__law_lines rfl (.inl rfl) (.inl rfl) (by decide)) (jgs_cons (jg_name nd__law_lines rfl (.inl rfl) (.inl rfl) (by decide)) (jgs_cons (jg_name nd__law_lines rfl (.inl rfl) (.inl rfl) (by decide)) (jgs_cons (jg_name nd__law_lines rfl (.inl rfl) (.inl rfl) (by decide)) jgs_nil)))))) (jss_one (js_app rfl rfl (.inl rfl) rfl rfl (je_lst (jl_disp (ja_cons rfl cst_str (ja_cons rfl (je_cal (ok__law_path_word Z) rfl hr (by decide) rfl (takes_of (E := E) rfl rfl rfl rfl) (ja_cons rfl (je_var rfl (.inl rfl) rfl rfl) ja_nil) rfl) (ja_cons rfl (je_var rfl (.inl rfl) rfl rfl) (ja_cons rfl (je_callT (c_str) rfl (Z.free 16 rfl) PyProof.Rows.boot_str (jb_cons rfl (jr_of (je_var rfl (.inl rfl) rfl rfl)) jb_nil) rfl) (ja_cons rfl (je_callT (c_str) rfl (Z.free 16 rfl) PyProof.Rows.boot_str (jb_cons rfl (jr_of (je_var rfl (.inl rfl) rfl rfl)) jb_nil) rfl) (ja_cons rfl (je_cal (ok__law_end_word Z) rfl hr (by decide) rfl (takes_of (E := E) rfl rfl rfl rfl) (ja_cons rfl (je_var rfl (.inl rfl) rfl rfl) ja_nil) rfl) ja_nil)))))))) rfl rfl rfl rfl rfl)) (fun _ => rfl)) (jss_frz (jss_one (js_ret (je_var rfl (.inl rfl) rfl rfl)))))))
def N__law_same : List Str := ["found", "due", "k"]
abbrev K__law_same : Nat := 1
def b__law_same (rec : List D → M D) : DS := dSeq (dIfS (dTest (dPr pIsi (dCons (dVar 1) (dCons (dCst (.ty "tuple")) (dNil))))) (dSeq (dIfS (dOr (dNot (dTest (dPr pIsi (dCons (dVar 0) (dCons (dCst (.ty "tuple")) (dNil)))))) (dTest (dOp pNe (dPr pLen (dCons (dVar 0) (dNil))) (dPr pLen (dCons (dVar 1) (dNil)))))) (dRet (dCst (.bl false))) (dNop)) (dRet (dPr pAll (dCons (dLst (dLc (dRg rg1 (dCons (dPr pLen (dCons (dVar 1) (dNil))) (dNil))) (gN 2) (dYes) (dCall 2 rec (dCons (dOp pIdx (dVar 0) (dVar 2)) (dCons (dOp pIdx (dVar 1) (dVar 2)) (dNil)))) [2])) (dNil))))) (dNop)) (dSeq (dIfS (dTest (dPr pIsi (dCons (dVar 1) (dCons (dCst (.ty "bool")) (dNil))))) (dRet (dAndV (dPr pIsi (dCons (dVar 0) (dCons (dCst (.ty "bool")) (dNil)))) (dOp pEq (dVar 0) (dVar 1)))) (dNop)) (dSeq (dIfS (dTest (dPr pIsi (dCons (dVar 1) (dCons (dCst (.ty "str")) (dNil))))) (dRet (dAndV (dPr pIsi (dCons (dVar 0) (dCons (dCst (.ty "str")) (dNil)))) (dOp pEq (dVar 0) (dVar 1)))) (dNop)) (dRet (dAndV (dPr pIsi (dCons (dVar 0) (dCons (dCst (.ty "int")) (dNil)))) (dAndV (dNotV (dPr pIsi (dCons (dVar 0) (dCons (dCst (.ty "bool")) (dNil))))) (dOp pEq (dVar 0) (dVar 1)))))))
def r__law_same : Nat → List D → M D
  | 0 => fun _ _ => .bad
  | j + 1 => dFn 2 N__law_same.length (b__law_same (r__law_same j))
def f__law_same : List D → M D := r__law_same 8
theorem nd__law_same : N__law_same.Nodup := by decide +kernel
theorem sc__law_same : FnScope N__law_same ["found", "due"] (defScope (top 46)) := ⟨rfl, rfl, rfl, nd__law_same, rfl, by decide +kernel, by decide +kernel⟩
theorem okr__law_same (Z : Zf G mg fa fn nmt) : ∀ j : Nat, Callee P w G mg base "_law_same" (K__law_same + j) 2 ["found", "due"] (r__law_same j)
  | 0 => callee_bad (N := N__law_same) Z 18 30 (st := top 46) (by rfl) (by rfl) sc__law_same (by rfl) (fun _ _ _ _ _ _ us hl => match us, hl with | [_, _], _ => by rfl)
  | j + 1 => by
    have ih := okr__law_same Z j
    refine callee_of (k := K__law_same + j) (N := N__law_same) (d := b__law_same (r__law_same j)) Z 18 30 (st := top 46) (by rfl) (by rfl) sc__law_same (by rfl) (fun _ _ _ _ _ _ us hl => match us, hl with | [_, _], _ => by rfl) fun f cdv A outer s H E hr => ?_
    exact (jss_cons (js_if (jt_val (jr_of (je_callB (c_isi rfl) rfl (Z.free 27 rfl) PyProof.Rows.boot_isinstance (jb_cons rfl (jr_of (je_var rfl (.inr (.inl rfl)) rfl rfl)) (jb_cons rfl (jr_of (je_ty rfl (Z.free 3 rfl) PyProof.Rows.boot_tuple (by decide) (by decide))) jb_nil)) rfl)) rfl) (jss_cons (js_if (PW.pt (jw_or (jt_not (jt_val (jr_of (je_callB (c_isi rfl) rfl (Z.free 27 rfl) PyProof.Rows.boot_isinstance (jb_cons rfl (jr_of (je_var rfl (.inr (.inl rfl)) rfl rfl)) (jb_cons rfl (jr_of (je_ty rfl (Z.free 3 rfl) PyProof.Rows.boot_tuple (by decide) (by decide))) jb_nil)) rfl)) rfl)) (jw1_or (jt_cmp (o_ne rfl (huR hr)) (jr_of (je_callB (c_len rfl) rfl (Z.free 0 rfl) boot_len (jb_cons rfl (jr_of (je_var rfl (.inr (.inl rfl)) rfl rfl)) jb_nil) rfl)) (jr_of (je_callB (c_len rfl) rfl (Z.free 0 rfl) boot_len (jb_cons rfl (jr_of (je_var rfl (.inr (.inl rfl)) rfl rfl)) jb_nil) rfl)) rfl)))) (jss_one (js_ret cst_bl)) jss_nil) (jss_one (js_ret (je_callB (c_all rfl rfl) rfl (Z.free 28 rfl) PyProof.Rows.boot_all (jb_cons rfl (jr_of (je_lst (je_lc (own := [("k", 2)]) rfl nd__law_same (jiw_of (ji_rg1 rfl (Z.free 2 rfl) (ja_cons rfl (je_callB (c_len rfl) rfl (Z.free 0 rfl) boot_len (jb_cons rfl (jr_of (je_var rfl (.inr (.inl rfl)) rfl rfl)) jb_nil) rfl) ja_nil) rfl)) (blkOk_by rfl) (fun _ _ _ _ _ => (jg_name nd__law_same rfl (.inl rfl) (.inr rfl) (by decide))) (fun _ _ _ _ _ => jts_nil) (fun _ _ _ _ _ => (je_cal ih rfl hr (Nat.le_refl _) rfl takes0 (ja_cons rfl (je_ix (i_idx rfl) (jr_of (je_var rfl (.inr (.inl rfl)) rfl rfl)) (jr_of (je_var rfl (.inl rfl) rfl rfl)) rfl) (ja_cons rfl (je_ix (i_idx rfl) (jr_of (je_var rfl (.inr (.inl rfl)) rfl rfl)) (jr_of (je_var rfl (.inl rfl) rfl rfl)) rfl) ja_nil)) rfl)) (fun _ => rfl)))) jb_nil) rfl)))) jss_nil) (jss_cons (js_if (jt_val (jr_of (je_callB (c_isi rfl) rfl (Z.free 27 rfl) PyProof.Rows.boot_isinstance (jb_cons rfl (jr_of (je_var rfl (.inr (.inl rfl)) rfl rfl)) (jb_cons rfl (jr_of (je_ty rfl (Z.free 29 rfl) PyProof.Rows.boot_bool (by decide) (by decide))) jb_nil)) rfl)) rfl) (jss_one (js_ret (je_and (je_callB (c_isi rfl) rfl (Z.free 27 rfl) PyProof.Rows.boot_isinstance (jb_cons rfl (jr_of (je_var rfl (.inr (.inl rfl)) rfl rfl)) (jb_cons rfl (jr_of (je_ty rfl (Z.free 29 rfl) PyProof.Rows.boot_bool (by decide) (by decide))) jb_nil)) rfl) (pe_one (je_cmp (o_eq rfl (huR hr)) (jr_of (je_var rfl (.inr (.inl rfl)) rfl rfl)) (jr_of (je_var rfl (.inr (.inl rfl)) rfl rfl)) rfl))))) jss_nil) (jss_cons (js_if (jt_val (jr_of (je_callB (c_isi rfl) rfl (Z.free 27 rfl) PyProof.Rows.boot_isinstance (jb_cons rfl (jr_of (je_var rfl (.inr (.inl rfl)) rfl rfl)) (jb_cons rfl (jr_of (je_ty rfl (Z.free 16 rfl) PyProof.Rows.boot_str (by decide) (by decide))) jb_nil)) rfl)) rfl) (jss_one (js_ret (je_and (je_callB (c_isi rfl) rfl (Z.free 27 rfl) PyProof.Rows.boot_isinstance (jb_cons rfl (jr_of (je_var rfl (.inr (.inl rfl)) rfl rfl)) (jb_cons rfl (jr_of (je_ty rfl (Z.free 16 rfl) PyProof.Rows.boot_str (by decide) (by decide))) jb_nil)) rfl) (pe_one (je_cmp (o_eq rfl (huR hr)) (jr_of (je_var rfl (.inr (.inl rfl)) rfl rfl)) (jr_of (je_var rfl (.inr (.inl rfl)) rfl rfl)) rfl))))) jss_nil) (jss_one (js_ret (je_and (je_callB (c_isi rfl) rfl (Z.free 27 rfl) PyProof.Rows.boot_isinstance (jb_cons rfl (jr_of (je_var rfl (.inr (.inl rfl)) rfl rfl)) (jb_cons rfl (jr_of (je_ty rfl (Z.free 10 rfl) PyProof.Rows.boot_int (by decide) (by decide))) jb_nil)) rfl) (je_and (je_not (je_callB (c_isi rfl) rfl (Z.free 27 rfl) PyProof.Rows.boot_isinstance (jb_cons rfl (jr_of (je_var rfl (.inr (.inl rfl)) rfl rfl)) (jb_cons rfl (jr_of (je_ty rfl (Z.free 29 rfl) PyProof.Rows.boot_bool (by decide) (by decide))) jb_nil)) rfl)) (pe_one (je_cmp (o_eq rfl (huR hr)) (jr_of (je_var rfl (.inr (.inl rfl)) rfl rfl)) (jr_of (je_var rfl (.inr (.inl rfl)) rfl rfl)) rfl)))))))))
theorem ok__law_same (Z : Zf G mg fa fn nmt) : Callee P w G mg base "_law_same" 9 2 ["found", "due"] f__law_same := okr__law_same Z 8
def N_need_line : List Str := ["words", "first", "many"]
def b_need_line : DS := dIfS (dOr (dTest (dOp pNe (dOp pIdx (dVar 0) (dCst (.int 0))) (dVar 1))) (dTest (dOp pNe (dPr pLen (dCons (dVar 0) (dNil))) (dVar 2)))) (dBad) (dNop)
def f_need_line : List D → M D := dFn 3 N_need_line.length b_need_line
theorem nd_need_line : N_need_line.Nodup := by decide +kernel
theorem sc_need_line : FnScope N_need_line ["words", "first", "many"] (defScope (top 25)) := ⟨rfl, rfl, rfl, nd_need_line, rfl, by decide +kernel, by decide +kernel⟩
theorem ok_need_line (Z : Zf G mg fa fn nmt) : Callee P w G mg base "need_line" 1 3 ["words", "first", "many"] f_need_line := by
  refine callee_of (N := N_need_line) (d := b_need_line) Z 19 31 (st := top 25) (by rfl) (by rfl) sc_need_line (by rfl) (fun _ _ _ _ _ _ us hl => match us, hl with | [_, _, _], _ => by rfl) fun f cdv A outer s H E hr => ?_
  exact (jss_one (js_if (PW.pt (jw_or (jt_cmp (o_ne rfl (huR hr)) (jr_of (je_ix (i_idx rfl) (jr_of (je_var rfl (.inl rfl) rfl rfl)) (jr_of cst_int) rfl)) (jr_of (je_var rfl (.inl rfl) rfl rfl)) rfl) (jw1_or (jt_cmp (o_ne rfl (huR hr)) (jr_of (je_callB (c_len rfl) rfl (Z.free 0 rfl) boot_len (jb_cons rfl (jr_of (je_var rfl (.inl rfl) rfl rfl)) jb_nil) rfl)) (jr_of (je_var rfl (.inl rfl) rfl rfl)) rfl)))) (jss_one js_bad) jss_nil))
def N_writes_number : List Str := ["word", "most", "sign"]
def b_writes_number : DS := dSeq (dIfS (dOr (dNot (dTest (dChain pLe pLe (dCst (.int 1)) (dPr pLen (dCons (dVar 0) (dNil))) (dCst (.int 10))))) (dAnd (dTest (dOp pEq (dOp pIdx (dVar 0) (dCst (.int 0))) (dCst (.str "0")))) (dTest (dOp pNe (dVar 0) (dCst (.str "0")))))) (dRet (dCst (.bl false))) (dNop)) (dRet (dAndV (dPr pAll (dCons (dLst (dLc (dItems (dVar 0)) (gN 2) (dYes) (dOp pIn (dVar 2) (dCst (.str "0123456789"))) [2])) (dNil))) (dOp pLe (dPr pInt (dCons (dVar 0) (dNil))) (dVar 1))))
def f_writes_number : List D → M D := dFn 2 N_writes_number.length b_writes_number
theorem nd_writes_number : N_writes_number.Nodup := by decide +kernel
theorem sc_writes_number : FnScope N_writes_number ["word", "most"] (defScope (top 18)) := ⟨rfl, rfl, rfl, nd_writes_number, rfl, by decide +kernel, by decide +kernel⟩
theorem ok_writes_number (Z : Zf G mg fa fn nmt) : Callee P w G mg base "writes_number" 1 2 ["word", "most"] f_writes_number := by
  refine callee_of (N := N_writes_number) (d := b_writes_number) Z 20 33 (st := top 18) (by rfl) (by rfl) sc_writes_number (by rfl) (fun _ _ _ _ _ _ us hl => match us, hl with | [_, _], _ => by rfl) fun f cdv A outer s H E hr => ?_
  exact (jss_cons (js_if (PW.pt (jw_or (jt_not (jt_chain (o_le rfl (huR hr)) (o_le rfl (huR hr)) (jr_of cst_int) (jr_of (je_callB (c_len rfl) rfl (Z.free 0 rfl) boot_len (jb_cons rfl (jr_of (je_var rfl (.inl rfl) rfl rfl)) jb_nil) rfl)) (jr_of cst_int) rfl)) (jw1_or (PW.pt (jw_and (jt_cmp (o_eq rfl (huR hr)) (jr_of (je_ix (i_idx rfl) (jr_of (je_var rfl (.inl rfl) rfl rfl)) (jr_of cst_int) rfl)) (jr_of cst_str) rfl) (jw1_and (jt_cmp (o_ne rfl (huR hr)) (jr_of (je_var rfl (.inl rfl) rfl rfl)) (jr_of cst_str) rfl))))))) (jss_one (js_ret cst_bl)) jss_nil) (jss_one (js_ret (je_and (je_callB (c_all rfl rfl) rfl (Z.free 28 rfl) PyProof.Rows.boot_all (jb_cons rfl (jr_of (je_lst (je_lc (own := [("sign", 2)]) rfl nd_writes_number (ji_valW rfl (jr_of (je_var rfl (.inl rfl) rfl rfl))) (blkOk_by rfl) (fun _ _ _ _ _ => (jg_name nd_writes_number rfl (.inl rfl) (.inr rfl) (by decide))) (fun _ _ _ _ _ => jts_nil) (fun _ _ _ _ _ => (je_cmp (o_in rfl (huR hr)) (jr_of (je_var rfl (.inl rfl) rfl rfl)) (jr_of (je_gstr rfl (Z.str 32 rfl))) rfl)) (fun _ => rfl)))) jb_nil) rfl) (pe_one (je_cmp (o_le rfl (huR hr)) (jr_of (je_callT (c_int) rfl (Z.free 10 rfl) PyProof.Rows.boot_int (jb_cons rfl (jr_of (je_var rfl (.inl rfl) rfl rfl)) jb_nil) rfl)) (jr_of (je_var rfl (.inl rfl) rfl rfl)) rfl))))))
def N_number_in : List Str := ["word"]
def b_number_in : DS := dSeq (dIfS (dNot (dTest (dCall 2 f_writes_number (dCons (dVar 0) (dCons (dCst (.int (1000000006))) (dNil)))))) (dBad) (dNop)) (dRet (dPr pInt (dCons (dVar 0) (dNil))))
def f_number_in : List D → M D := dFn 1 N_number_in.length b_number_in
theorem nd_number_in : N_number_in.Nodup := by decide +kernel
theorem sc_number_in : FnScope N_number_in ["word"] (defScope (top 21)) := ⟨rfl, rfl, rfl, nd_number_in, rfl, by decide +kernel, by decide +kernel⟩
theorem ok_number_in (Z : Zf G mg fa fn nmt) : Callee P w G mg base "number_in" 2 1 ["word"] f_number_in := by
  refine callee_of (N := N_number_in) (d := b_number_in) Z 21 35 (st := top 21) (by rfl) (by rfl) sc_number_in (by rfl) (fun _ _ _ _ _ _ us hl => match us, hl with | [_], _ => by rfl) fun f cdv A outer s H E hr => ?_
  exact (jss_cons (js_if (jt_not (jt_val (jr_of (je_cal (ok_writes_number Z) rfl hr (by decide) rfl (takes_of (E := E) rfl rfl rfl rfl) (ja_cons rfl (je_var rfl (.inl rfl) rfl rfl) (ja_cons rfl (je_gint rfl (Z.int 34 rfl)) ja_nil)) rfl)) rfl)) (jss_one js_bad) jss_nil) (jss_one (js_ret (je_callT (c_int) rfl (Z.free 10 rfl) PyProof.Rows.boot_int (jb_cons rfl (jr_of (je_var rfl (.inl rfl) rfl rfl)) jb_nil) rfl))))
def N_need_rising : List Str := ["rows", "k"]
def b_need_rising : DS := dFor (dRg rg2 (dCons (dCst (.int 1)) (dCons (dPr pLen (dCons (dVar 0) (dNil))) (dNil)))) (gN 1) (dIfS (dNot (dTest (dOp pLt (dOp pIdx (dOp pIdx (dVar 0) (dOp pSub (dVar 1) (dCst (.int 1)))) (dCst (.int 0))) (dOp pIdx (dOp pIdx (dVar 0) (dVar 1)) (dCst (.int 0)))))) (dBad) (dNop))
def f_need_rising : List D → M D := dFn 1 N_need_rising.length b_need_rising
theorem nd_need_rising : N_need_rising.Nodup := by decide +kernel
theorem sc_need_rising : FnScope N_need_rising ["rows"] (defScope (top 30)) := ⟨rfl, rfl, rfl, nd_need_rising, rfl, by decide +kernel, by decide +kernel⟩
theorem ok_need_rising (Z : Zf G mg fa fn nmt) : Callee P w G mg base "need_rising" 1 1 ["rows"] f_need_rising := by
  refine callee_of (N := N_need_rising) (d := b_need_rising) Z 22 36 (st := top 30) (by rfl) (by rfl) sc_need_rising (by rfl) (fun _ _ _ _ _ _ us hl => match us, hl with | [_], _ => by rfl) fun f cdv A outer s H E hr => ?_
  exact (jss_one (js_for (vs := [0, 1]) (passes_of rfl) rfl (ji_rg2 rfl (Z.free 2 rfl) (ja_cons rfl cst_int (ja_cons rfl (je_callB (c_len rfl) rfl (Z.free 0 rfl) boot_len (jb_cons rfl (jr_of (je_var rfl (.inl rfl) rfl rfl)) jb_nil) rfl) ja_nil)) rfl rfl) (jg_name nd_need_rising rfl (.inl rfl) (.inl rfl) (by decide)) (jss_one (js_if (jt_not (jt_cmp (o_lt rfl (huR hr)) (jr_of (je_ix (i_idx rfl) (jr_of (je_ix (i_idx rfl) (jr_of (je_var rfl (.inl rfl) rfl rfl)) (jr_of (je_op (o_sub) (jr_of (je_var rfl (.inl rfl) rfl rfl)) (jr_of cst_int))) rfl)) (jr_of cst_int) rfl)) (jr_of (je_ix (i_idx rfl) (jr_of (je_ix (i_idx rfl) (jr_of (je_var rfl (.inl rfl) rfl rfl)) (jr_of (je_var rfl (.inl rfl) rfl rfl)) rfl)) (jr_of cst_int) rfl)) rfl)) (jss_one js_bad) jss_nil)) (fun _ => rfl)))
def N_path_of : List Str := ["word", "part"]
def b_path_of : DS := dSeq (dIfS (dTest (dOp pEq (dVar 0) (dCst (.str "-")))) (dRet (dTup (dNil))) (dNop)) (dRet (dPr pTuple (dCons (dLst (dLc (dItems (dLst (dSplit (dVar 0) (dCst (.str "."))))) (gN 1) (dYes) (dPr pInt (dCons (dVar 1) (dNil))) [1])) (dNil))))
def f_path_of : List D → M D := dFn 1 N_path_of.length b_path_of
theorem nd_path_of : N_path_of.Nodup := by decide +kernel
theorem sc_path_of : FnScope N_path_of ["word"] (defScope (top 20)) := ⟨rfl, rfl, rfl, nd_path_of, rfl, by decide +kernel, by decide +kernel⟩
theorem ok_path_of (Z : Zf G mg fa fn nmt) : Callee P w G mg base "path_of" 1 1 ["word"] f_path_of := by
  refine callee_of (N := N_path_of) (d := b_path_of) Z 23 37 (st := top 20) (by rfl) (by rfl) sc_path_of (by rfl) (fun _ _ _ _ _ _ us hl => match us, hl with | [_], _ => by rfl) fun f cdv A outer s H E hr => ?_
  exact (jss_cons (js_if (jt_cmp (o_eq rfl (huR hr)) (jr_of (je_var rfl (.inl rfl) rfl rfl)) (jr_of cst_str) rfl) (jss_one (js_ret (je_tup ja_nil))) jss_nil) (jss_one (js_ret (je_callT (c_tuple rfl) rfl (Z.free 3 rfl) PyProof.Rows.boot_tuple (jb_cons rfl (jr_of (je_lst (je_lc (own := [("part", 1)]) rfl nd_path_of (ji_valW rfl (jr_of (je_lst (jl_split (je_var rfl (.inl rfl) rfl rfl) cst_str rfl rfl rfl)))) (blkOk_by rfl) (fun _ _ _ _ _ => (jg_name nd_path_of rfl (.inl rfl) (.inr rfl) (by decide))) (fun _ _ _ _ _ => jts_nil) (fun _ _ _ _ _ => (je_callT (c_int) rfl (Z.free 10 rfl) PyProof.Rows.boot_int (jb_cons rfl (jr_of (je_var rfl (.inl rfl) rfl rfl)) jb_nil) rfl)) (fun _ => rfl)))) jb_nil) rfl))))
def N_writes_path : List Str := ["word", "part"]
def b_writes_path : DS := dRet (dOrV (dOp pEq (dVar 0) (dCst (.str "-"))) (dPr pAll (dCons (dLst (dLc (dItems (dLst (dSplit (dVar 0) (dCst (.str "."))))) (gN 1) (dYes) (dCall 2 f_writes_number (dCons (dVar 1) (dCons (dCst (.int 9)) (dNil)))) [1])) (dNil))))
def f_writes_path : List D → M D := dFn 1 N_writes_path.length b_writes_path
theorem nd_writes_path : N_writes_path.Nodup := by decide +kernel
theorem sc_writes_path : FnScope N_writes_path ["word"] (defScope (top 19)) := ⟨rfl, rfl, rfl, nd_writes_path, rfl, by decide +kernel, by decide +kernel⟩
theorem ok_writes_path (Z : Zf G mg fa fn nmt) : Callee P w G mg base "writes_path" 2 1 ["word"] f_writes_path := by
  refine callee_of (N := N_writes_path) (d := b_writes_path) Z 24 38 (st := top 19) (by rfl) (by rfl) sc_writes_path (by rfl) (fun _ _ _ _ _ _ us hl => match us, hl with | [_], _ => by rfl) fun f cdv A outer s H E hr => ?_
  exact (jss_one (js_ret (je_or (je_cmp (o_eq rfl (huR hr)) (jr_of (je_var rfl (.inl rfl) rfl rfl)) (jr_of cst_str) rfl) (pe_one (je_callB (c_all rfl rfl) rfl (Z.free 28 rfl) PyProof.Rows.boot_all (jb_cons rfl (jr_of (je_lst (je_lc (own := [("part", 1)]) rfl nd_writes_path (ji_valW rfl (jr_of (je_lst (jl_split (je_var rfl (.inl rfl) rfl rfl) cst_str rfl rfl rfl)))) (blkOk_by rfl) (fun _ _ _ _ _ => (jg_name nd_writes_path rfl (.inl rfl) (.inr rfl) (by decide))) (fun _ _ _ _ _ => jts_nil) (fun _ _ _ _ _ => (je_cal (ok_writes_number Z) rfl hr (by decide) rfl takes0 (ja_cons rfl (je_var rfl (.inl rfl) rfl rfl) (ja_cons rfl cst_int ja_nil)) rfl)) (fun _ => rfl)))) jb_nil) rfl)))))
def N_path_in : List Str := ["word", "counts"]
def b_path_in : DS := dSeq (dIfS (dOr (dNot (dTest (dCall 1 f_writes_path (dCons (dVar 0) (dNil))))) (dTest (dOp pNotIn (dPr pLen (dCons (dCall 1 f_path_of (dCons (dVar 0) (dNil))) (dNil))) (dVar 1)))) (dBad) (dNop)) (dRet (dCall 1 f_path_of (dCons (dVar 0) (dNil))))
def f_path_in : List D → M D := dFn 2 N_path_in.length b_path_in
theorem nd_path_in : N_path_in.Nodup := by decide +kernel
theorem sc_path_in : FnScope N_path_in ["word", "counts"] (defScope (top 22)) := ⟨rfl, rfl, rfl, nd_path_in, rfl, by decide +kernel, by decide +kernel⟩
theorem ok_path_in (Z : Zf G mg fa fn nmt) : Callee P w G mg base "path_in" 3 2 ["word", "counts"] f_path_in := by
  refine callee_of (N := N_path_in) (d := b_path_in) Z 25 39 (st := top 22) (by rfl) (by rfl) sc_path_in (by rfl) (fun _ _ _ _ _ _ us hl => match us, hl with | [_, _], _ => by rfl) fun f cdv A outer s H E hr => ?_
  exact (jss_cons (js_if (PW.pt (jw_or (jt_not (jt_val (jr_of (je_cal (ok_writes_path Z) rfl hr (by decide) rfl (takes_of (E := E) rfl rfl rfl rfl) (ja_cons rfl (je_var rfl (.inl rfl) rfl rfl) ja_nil) rfl)) rfl)) (jw1_or (jt_cmp (o_notIn rfl (huR hr)) (jr_of (je_callB (c_len rfl) rfl (Z.free 0 rfl) boot_len (jb_cons rfl (jr_of (je_cal (ok_path_of Z) rfl hr (by decide) rfl (takes_of (E := E) rfl rfl rfl rfl) (ja_cons rfl (je_var rfl (.inl rfl) rfl rfl) ja_nil) rfl)) jb_nil) rfl)) (jr_of (je_var rfl (.inl rfl) rfl rfl)) rfl)))) (jss_one js_bad) jss_nil) (jss_one (js_ret (je_cal (ok_path_of Z) rfl hr (by decide) rfl (takes_of (E := E) rfl rfl rfl rfl) (ja_cons rfl (je_var rfl (.inl rfl) rfl rfl) ja_nil) rfl))))
def N_is_word : List Str := ["value", "sign"]
def b_is_word : DS := dSeq (dIfS (dOr (dNot (dTest (dPr pIsi (dCons (dVar 0) (dCons (dCst (.ty "str")) (dNil)))))) (dNot (dTest (dChain pLe pLe (dCst (.int 1)) (dPr pLen (dCons (dVar 0) (dNil))) (dCst (.int 8)))))) (dRet (dCst (.bl false))) (dNop)) (dRet (dPr pAll (dCons (dLst (dLc (dItems (dVar 0)) (gN 1) (dYes) (dOp pIn (dVar 1) (dCst (.str "abcdefghijklmnopqrstuvwxyz"))) [1])) (dNil))))
def f_is_word : List D → M D := dFn 1 N_is_word.length b_is_word
theorem nd_is_word : N_is_word.Nodup := by decide +kernel
theorem sc_is_word : FnScope N_is_word ["value"] (defScope (top 6)) := ⟨rfl, rfl, rfl, nd_is_word, rfl, by decide +kernel, by decide +kernel⟩
theorem ok_is_word (Z : Zf G mg fa fn nmt) : Callee P w G mg base "is_word" 1 1 ["value"] f_is_word := by
  refine callee_of (N := N_is_word) (d := b_is_word) Z 26 41 (st := top 6) (by rfl) (by rfl) sc_is_word (by rfl) (fun _ _ _ _ _ _ us hl => match us, hl with | [_], _ => by rfl) fun f cdv A outer s H E hr => ?_
  exact (jss_cons (js_if (PW.pt (jw_or (jt_not (jt_val (jr_of (je_callB (c_isi rfl) rfl (Z.free 27 rfl) PyProof.Rows.boot_isinstance (jb_cons rfl (jr_of (je_var rfl (.inl rfl) rfl rfl)) (jb_cons rfl (jr_of (je_ty rfl (Z.free 16 rfl) PyProof.Rows.boot_str (by decide) (by decide))) jb_nil)) rfl)) rfl)) (jw1_or (jt_not (jt_chain (o_le rfl (huR hr)) (o_le rfl (huR hr)) (jr_of cst_int) (jr_of (je_callB (c_len rfl) rfl (Z.free 0 rfl) boot_len (jb_cons rfl (jr_of (je_var rfl (.inl rfl) rfl rfl)) jb_nil) rfl)) (jr_of cst_int) rfl))))) (jss_one (js_ret cst_bl)) jss_nil) (jss_one (js_ret (je_callB (c_all rfl rfl) rfl (Z.free 28 rfl) PyProof.Rows.boot_all (jb_cons rfl (jr_of (je_lst (je_lc (own := [("sign", 1)]) rfl nd_is_word (ji_valW rfl (jr_of (je_var rfl (.inl rfl) rfl rfl))) (blkOk_by rfl) (fun _ _ _ _ _ => (jg_name nd_is_word rfl (.inl rfl) (.inr rfl) (by decide))) (fun _ _ _ _ _ => jts_nil) (fun _ _ _ _ _ => (je_cmp (o_in rfl (huR hr)) (jr_of (je_var rfl (.inl rfl) rfl rfl)) (jr_of (je_gstr rfl (Z.str 40 rfl))) rfl)) (fun _ => rfl)))) jb_nil) rfl))))
def N_name_in : List Str := ["word"]
def b_name_in : DS := dSeq (dIfS (dNot (dTest (dCall 1 f_is_word (dCons (dVar 0) (dNil))))) (dBad) (dNop)) (dRet (dVar 0))
def f_name_in : List D → M D := dFn 1 N_name_in.length b_name_in
theorem nd_name_in : N_name_in.Nodup := by decide +kernel
theorem sc_name_in : FnScope N_name_in ["word"] (defScope (top 23)) := ⟨rfl, rfl, rfl, nd_name_in, rfl, by decide +kernel, by decide +kernel⟩
theorem ok_name_in (Z : Zf G mg fa fn nmt) : Callee P w G mg base "name_in" 2 1 ["word"] f_name_in := by
  refine callee_of (N := N_name_in) (d := b_name_in) Z 27 42 (st := top 23) (by rfl) (by rfl) sc_name_in (by rfl) (fun _ _ _ _ _ _ us hl => match us, hl with | [_], _ => by rfl) fun f cdv A outer s H E hr => ?_
  exact (jss_cons (js_if (jt_not (jt_val (jr_of (je_cal (ok_is_word Z) rfl hr (by decide) rfl (takes_of (E := E) rfl rfl rfl rfl) (ja_cons rfl (je_var rfl (.inl rfl) rfl rfl) ja_nil) rfl)) rfl)) (jss_one js_bad) jss_nil) (jss_one (js_ret (je_var rfl (.inl rfl) rfl rfl))))
def N_end_in : List Str := ["word", "parts"]
def b_end_in : DS := dSeq (dIfS (dTest (dOp pEq (dVar 0) (dCst (.str "-")))) (dRet (dTup (dNil))) (dNop)) (dSeq (dSet 1 (qV (dLst (dSplit (dVar 0) (dCst (.str ":")))))) (dSeq (dIfS (dOr (dTest (dOp pNe (dPr pLen (dCons (dVar 1) (dNil))) (dCst (.int 3)))) (dTest (dOp pNotIn (dOp pIdx (dVar 1) (dCst (.int 0))) (dCst (.tup (t_END_WORDS.map kD)))))) (dBad) (dNop)) (dRet (dTup (dCons (dOp pIdx (dVar 1) (dCst (.int 0))) (dCons (dCall 1 f_number_in (dCons (dOp pIdx (dVar 1) (dCst (.int 1))) (dNil))) (dCons (dCall 1 f_number_in (dCons (dOp pIdx (dVar 1) (dCst (.int 2))) (dNil))) (dNil))))))))
def f_end_in : List D → M D := dFn 1 N_end_in.length b_end_in
theorem nd_end_in : N_end_in.Nodup := by decide +kernel
theorem sc_end_in : FnScope N_end_in ["word"] (defScope (top 24)) := ⟨rfl, rfl, rfl, nd_end_in, rfl, by decide +kernel, by decide +kernel⟩
theorem ok_end_in (Z : Zf G mg fa fn nmt) : Callee P w G mg base "end_in" 3 1 ["word"] f_end_in := by
  refine callee_of (N := N_end_in) (d := b_end_in) Z 28 44 (st := top 24) (by rfl) (by rfl) sc_end_in (by rfl) (fun _ _ _ _ _ _ us hl => match us, hl with | [_], _ => by rfl) fun f cdv A outer s H E hr => ?_
  exact (jss_cons (js_if (jt_cmp (o_eq rfl (huR hr)) (jr_of (je_var rfl (.inl rfl) rfl rfl)) (jr_of cst_str) rfl) (jss_one (js_ret (je_tup ja_nil))) jss_nil) (jss_cons (js_setV (ps_set nd_end_in rfl (.inl rfl) (je_lst (jl_split (je_var rfl (.inl rfl) rfl rfl) cst_str rfl rfl rfl)) rfl)) (jss_cons (js_if (PW.pt (jw_or (jt_cmp (o_ne rfl (huR hr)) (jr_of (je_callB (c_len rfl) rfl (Z.free 0 rfl) boot_len (jb_cons rfl (jr_of (je_var rfl (.inl rfl) rfl rfl)) jb_nil) rfl)) (jr_of cst_int) rfl) (jw1_or (jt_cmp (o_notIn rfl (huR hr)) (jr_of (je_ix (i_idx rfl) (jr_of (je_var rfl (.inl rfl) rfl rfl)) (jr_of cst_int) rfl)) (jr_of (je_gtup Z 43 0 rfl rfl rfl)) rfl)))) (jss_one js_bad) jss_nil) (jss_one (js_ret (je_tup (ja_cons rfl (je_ix (i_idx rfl) (jr_of (je_var rfl (.inl rfl) rfl rfl)) (jr_of cst_int) rfl) (ja_cons rfl (je_cal (ok_number_in Z) rfl hr (by decide) rfl (takes_of (E := E) rfl rfl rfl rfl) (ja_cons rfl (je_ix (i_idx rfl) (jr_of (je_var rfl (.inl rfl) rfl rfl)) (jr_of cst_int) rfl) ja_nil) rfl) (ja_cons rfl (je_cal (ok_number_in Z) rfl hr (by decide) rfl (takes_of (E := E) rfl rfl rfl rfl) (ja_cons rfl (je_ix (i_idx rfl) (jr_of (je_var rfl (.inl rfl) rfl rfl)) (jr_of cst_int) rfl) ja_nil) rfl) ja_nil)))))))))
def N_state_in : List Str := ["words", "slots", "word"]
def b_state_in : DS := dSeq (dIfS (dOr (dTest (dOp pNe (dOp pIdx (dVar 0) (dCst (.int 0))) (dCst (.str "state")))) (dOr (dTest (dOp pLt (dPr pLen (dCons (dVar 0) (dNil))) (dCst (.int 5)))) (dTest (dOp pNotIn (dOp pIdx (dVar 0) (dCst (.int 4))) (dTup (dCons (dCst (.str "0")) (dCons (dCst (.str "1")) (dNil)))))))) (dBad) (dNop)) (dSeq (dSet 1 (qV (dPr pTuple (dCons (dLst (dLc (dItems (dSl (dVar 0) (dSo (dCst (.int 5))) (dNo))) (gN 2) (dYes) (dCall 1 f_number_in (dCons (dVar 2) (dNil))) [2])) (dNil))))) (dRet (dTup (dCons (dCall 1 f_number_in (dCons (dOp pIdx (dVar 0) (dCst (.int 1))) (dNil))) (dCons (dVar 1) (dCons (dCall 1 f_number_in (dCons (dOp pIdx (dVar 0) (dCst (.int 2))) (dNil))) (dCons (dCall 1 f_number_in (dCons (dOp pIdx (dVar 0) (dCst (.int 3))) (dNil))) (dCons (dOp pEq (dOp pIdx (dVar 0) (dCst (.int 4))) (dCst (.str "1"))) (dNil)))))))))
def f_state_in : List D → M D := dFn 1 N_state_in.length b_state_in
theorem nd_state_in : N_state_in.Nodup := by decide +kernel
theorem sc_state_in : FnScope N_state_in ["words"] (defScope (top 26)) := ⟨rfl, rfl, rfl, nd_state_in, rfl, by decide +kernel, by decide +kernel⟩
theorem ok_state_in (Z : Zf G mg fa fn nmt) : Callee P w G mg base "state_in" 3 1 ["words"] f_state_in := by
  refine callee_of (N := N_state_in) (d := b_state_in) Z 29 45 (st := top 26) (by rfl) (by rfl) sc_state_in (by rfl) (fun _ _ _ _ _ _ us hl => match us, hl with | [_], _ => by rfl) fun f cdv A outer s H E hr => ?_
  exact (jss_cons (js_if (PW.pt (jw_or (jt_cmp (o_ne rfl (huR hr)) (jr_of (je_ix (i_idx rfl) (jr_of (je_var rfl (.inl rfl) rfl rfl)) (jr_of cst_int) rfl)) (jr_of cst_str) rfl) (jw_or (jt_cmp (o_lt rfl (huR hr)) (jr_of (je_callB (c_len rfl) rfl (Z.free 0 rfl) boot_len (jb_cons rfl (jr_of (je_var rfl (.inl rfl) rfl rfl)) jb_nil) rfl)) (jr_of cst_int) rfl) (jw1_or (jt_cmp (o_notIn rfl (huR hr)) (jr_of (je_ix (i_idx rfl) (jr_of (je_var rfl (.inl rfl) rfl rfl)) (jr_of cst_int) rfl)) (jr_of (je_tup (ja_cons rfl cst_str (ja_cons rfl cst_str ja_nil)))) rfl))))) (jss_one js_bad) jss_nil) (jss_cons (js_setV (ps_set nd_state_in rfl (.inl rfl) (je_callT (c_tuple rfl) rfl (Z.free 3 rfl) PyProof.Rows.boot_tuple (jb_cons rfl (jr_of (je_lst (je_lc (own := [("word", 2)]) rfl nd_state_in (ji_valW rfl (jr_of (je_sl rfl (jr_of (je_var rfl (.inl rfl) rfl rfl)) (jo_some cst_int) jo_none))) (blkOk_by rfl) (fun _ _ _ _ _ => (jg_name nd_state_in rfl (.inl rfl) (.inr rfl) (by decide))) (fun _ _ _ _ _ => jts_nil) (fun _ _ _ _ _ => (je_cal (ok_number_in Z) rfl hr (by decide) rfl takes0 (ja_cons rfl (je_var rfl (.inl rfl) rfl rfl) ja_nil) rfl)) (fun _ => rfl)))) jb_nil) rfl) rfl)) (jss_one (js_ret (je_tup (ja_cons rfl (je_cal (ok_number_in Z) rfl hr (by decide) rfl (takes_of (E := E) rfl rfl rfl rfl) (ja_cons rfl (je_ix (i_idx rfl) (jr_of (je_var rfl (.inl rfl) rfl rfl)) (jr_of cst_int) rfl) ja_nil) rfl) (ja_cons rfl (je_var rfl (.inl rfl) rfl rfl) (ja_cons rfl (je_cal (ok_number_in Z) rfl hr (by decide) rfl (takes_of (E := E) rfl rfl rfl rfl) (ja_cons rfl (je_ix (i_idx rfl) (jr_of (je_var rfl (.inl rfl) rfl rfl)) (jr_of cst_int) rfl) ja_nil) rfl) (ja_cons rfl (je_cal (ok_number_in Z) rfl hr (by decide) rfl (takes_of (E := E) rfl rfl rfl rfl) (ja_cons rfl (je_ix (i_idx rfl) (jr_of (je_var rfl (.inl rfl) rfl rfl)) (jr_of cst_int) rfl) ja_nil) rfl) (ja_cons rfl (je_cmp (o_eq rfl (huR hr)) (jr_of (je_ix (i_idx rfl) (jr_of (je_var rfl (.inl rfl) rfl rfl)) (jr_of cst_int) rfl)) (jr_of cst_str) rfl) ja_nil))))))))))
def N_note_in : List Str := ["words"]
def b_note_in : DS := dSeq (dDrop (dCall 3 f_need_line (dCons (dVar 0) (dCons (dCst (.str "note")) (dCons (dCst (.int 4)) (dNil)))))) (dSeq (dIfS (dTest (dOp pNotIn (dOp pIdx (dVar 0) (dCst (.int 2))) (dCst (.tup (t_NOTE_WORDS.map kD))))) (dBad) (dNop)) (dRet (dTup (dCons (dCall 1 f_number_in (dCons (dOp pIdx (dVar 0) (dCst (.int 1))) (dNil))) (dCons (dOp pIdx (dVar 0) (dCst (.int 2))) (dCons (dCall 1 f_number_in (dCons (dOp pIdx (dVar 0) (dCst (.int 3))) (dNil))) (dNil)))))))
def f_note_in : List D → M D := dFn 1 N_note_in.length b_note_in
theorem nd_note_in : N_note_in.Nodup := by decide +kernel
theorem sc_note_in : FnScope N_note_in ["words"] (defScope (top 27)) := ⟨rfl, rfl, rfl, nd_note_in, rfl, by decide +kernel, by decide +kernel⟩
theorem ok_note_in (Z : Zf G mg fa fn nmt) : Callee P w G mg base "note_in" 3 1 ["words"] f_note_in := by
  refine callee_of (N := N_note_in) (d := b_note_in) Z 30 47 (st := top 27) (by rfl) (by rfl) sc_note_in (by rfl) (fun _ _ _ _ _ _ us hl => match us, hl with | [_], _ => by rfl) fun f cdv A outer s H E hr => ?_
  exact (jss_cons (js_drop (je_cal (ok_need_line Z) rfl hr (by decide) rfl (takes_of (E := E) rfl rfl rfl rfl) (ja_cons rfl (je_var rfl (.inl rfl) rfl rfl) (ja_cons rfl cst_str (ja_cons rfl cst_int ja_nil))) rfl) rfl) (jss_cons (js_if (jt_cmp (o_notIn rfl (huR hr)) (jr_of (je_ix (i_idx rfl) (jr_of (je_var rfl (.inl rfl) rfl rfl)) (jr_of cst_int) rfl)) (jr_of (je_gtup Z 46 1 rfl rfl rfl)) rfl) (jss_one js_bad) jss_nil) (jss_one (js_ret (je_tup (ja_cons rfl (je_cal (ok_number_in Z) rfl hr (by decide) rfl (takes_of (E := E) rfl rfl rfl rfl) (ja_cons rfl (je_ix (i_idx rfl) (jr_of (je_var rfl (.inl rfl) rfl rfl)) (jr_of cst_int) rfl) ja_nil) rfl) (ja_cons rfl (je_ix (i_idx rfl) (jr_of (je_var rfl (.inl rfl) rfl rfl)) (jr_of cst_int) rfl) (ja_cons rfl (je_cal (ok_number_in Z) rfl hr (by decide) rfl (takes_of (E := E) rfl rfl rfl rfl) (ja_cons rfl (je_ix (i_idx rfl) (jr_of (je_var rfl (.inl rfl) rfl rfl)) (jr_of cst_int) rfl) ja_nil) rfl) ja_nil))))))))
def N_house_in : List Str := ["lines", "at", "words", "head", "state", "diary"]
def b_house_in : DS := dSeq (dSet 2 (qV (dOp pIdx (dVar 0) (dVar 1)))) (dSeq (dDrop (dCall 3 f_need_line (dCons (dVar 2) (dCons (dCst (.str "house")) (dCons (dCst (.int 5)) (dNil)))))) (dSeq (dSet 3 (qV (dTup (dCons (dCall 2 f_path_in (dCons (dOp pIdx (dVar 2) (dCst (.int 1))) (dCons (dCst (.tup (t_HOUSE_PATHS.map kD))) (dNil)))) (dCons (dCall 1 f_name_in (dCons (dOp pIdx (dVar 2) (dCst (.int 2))) (dNil))) (dCons (dCall 1 f_number_in (dCons (dOp pIdx (dVar 2) (dCst (.int 3))) (dNil))) (dCons (dCall 1 f_end_in (dCons (dOp pIdx (dVar 2) (dCst (.int 4))) (dNil))) (dNil)))))))) (dSeq (dSet 1 (qV (dOp pAdd (dVar 1) (dCst (.int 1))))) (dSeq (dSet 4 (qV (dTup (dNil)))) (dSeq (dIfS (dTest (dOp pEq (dOp pIdx (dVar 3) (dCst (.int 3))) (dTup (dNil)))) (dSeq (dIfS (dTest (dOp pEq (dVar 1) (dPr pLen (dCons (dVar 0) (dNil))))) (dBad) (dNop)) (dSeq (dSet 4 (qV (dCall 1 f_state_in (dCons (dOp pIdx (dVar 0) (dVar 1)) (dNil))))) (dSet 1 (qV (dOp pAdd (dVar 1) (dCst (.int 1))))))) (dNop)) (dSeq (dSet 5 (qO (dDisp (dNil)))) (dSeq (whRun (dAnd (dTest (dOp pLt (dVar 1) (dPr pLen (dCons (dVar 0) (dNil))))) (dTest (dOp pEq (dOp pIdx (dOp pIdx (dVar 0) (dVar 1)) (dCst (.int 0))) (dCst (.str "note"))))) (dSeq (dOwn 5 fApp (dCall 1 f_note_in (dCons (dOp pIdx (dVar 0) (dVar 1)) (dNil)))) (dSet 1 (qV (dOp pAdd (dVar 1) (dCst (.int 1)))))) 100000) (dRet (dTup (dCons (dOp pAdd (dVar 3) (dTup (dCons (dPr pTuple (dCons (dRd 5) (dNil))) (dCons (dVar 4) (dNil))))) (dCons (dVar 1) (dNil))))))))))))
def f_house_in : List D → M D := dFn 2 N_house_in.length b_house_in
theorem nd_house_in : N_house_in.Nodup := by decide +kernel
theorem sc_house_in : FnScope N_house_in ["lines", "at"] (defScope (top 28)) := ⟨rfl, rfl, rfl, nd_house_in, rfl, by decide +kernel, by decide +kernel⟩
theorem ok_house_in (Z : Zf G mg fa fn nmt) : Callee P w G mg base "house_in" 4 2 ["lines", "at"] f_house_in := by
  refine callee_of (N := N_house_in) (d := b_house_in) Z 31 49 (st := top 28) (by rfl) (by rfl) sc_house_in (by rfl) (fun _ _ _ _ _ _ us hl => match us, hl with | [_, _], _ => by rfl) fun f cdv A outer s H E hr => ?_
  exact (jss_cons (js_setV (ps_set nd_house_in rfl (.inl rfl) (je_ix (i_idx rfl) (jr_of (je_var rfl (.inl rfl) rfl rfl)) (jr_of (je_var rfl (.inl rfl) rfl rfl)) rfl) rfl)) (jss_cons (js_drop (je_cal (ok_need_line Z) rfl hr (by decide) rfl (takes_of (E := E) rfl rfl rfl rfl) (ja_cons rfl (je_var rfl (.inl rfl) rfl rfl) (ja_cons rfl cst_str (ja_cons rfl cst_int ja_nil))) rfl) rfl) (jss_cons (js_setV (ps_set nd_house_in rfl (.inl rfl) (je_tup (ja_cons rfl (je_cal (ok_path_in Z) rfl hr (by decide) rfl (takes_of (E := E) rfl rfl rfl rfl) (ja_cons rfl (je_ix (i_idx rfl) (jr_of (je_var rfl (.inl rfl) rfl rfl)) (jr_of cst_int) rfl) (ja_cons rfl (je_gtup Z 48 2 rfl rfl rfl) ja_nil)) rfl) (ja_cons rfl (je_cal (ok_name_in Z) rfl hr (by decide) rfl (takes_of (E := E) rfl rfl rfl rfl) (ja_cons rfl (je_ix (i_idx rfl) (jr_of (je_var rfl (.inl rfl) rfl rfl)) (jr_of cst_int) rfl) ja_nil) rfl) (ja_cons rfl (je_cal (ok_number_in Z) rfl hr (by decide) rfl (takes_of (E := E) rfl rfl rfl rfl) (ja_cons rfl (je_ix (i_idx rfl) (jr_of (je_var rfl (.inl rfl) rfl rfl)) (jr_of cst_int) rfl) ja_nil) rfl) (ja_cons rfl (je_cal (ok_end_in Z) rfl hr (by decide) rfl (takes_of (E := E) rfl rfl rfl rfl) (ja_cons rfl (je_ix (i_idx rfl) (jr_of (je_var rfl (.inl rfl) rfl rfl)) (jr_of cst_int) rfl) ja_nil) rfl) ja_nil))))) rfl)) (jss_cons (js_setV (ps_set nd_house_in rfl (.inl rfl) (je_op (o_add rfl) (jr_of (je_var rfl (.inl rfl) rfl rfl)) (jr_of cst_int)) rfl)) (jss_cons (js_setV (ps_set nd_house_in rfl (.inl rfl) (je_tup ja_nil) rfl)) (jss_cons (js_if (jt_cmp (o_eq rfl (huR hr)) (jr_of (je_ix (i_idx rfl) (jr_of (je_var rfl (.inl rfl) rfl rfl)) (jr_of cst_int) rfl)) (jr_of (je_tup ja_nil)) rfl) (jss_cons (js_if (jt_cmp (o_eq rfl (huR hr)) (jr_of (je_var rfl (.inl rfl) rfl rfl)) (jr_of (je_callB (c_len rfl) rfl (Z.free 0 rfl) boot_len (jb_cons rfl (jr_of (je_var rfl (.inl rfl) rfl rfl)) jb_nil) rfl)) rfl) (jss_one js_bad) jss_nil) (jss_cons (js_setV (ps_set nd_house_in rfl (.inl rfl) (je_cal (ok_state_in Z) rfl hr (by decide) rfl (takes_of (E := E) rfl rfl rfl rfl) (ja_cons rfl (je_ix (i_idx rfl) (jr_of (je_var rfl (.inl rfl) rfl rfl)) (jr_of (je_var rfl (.inl rfl) rfl rfl)) rfl) ja_nil) rfl) rfl)) (jss_one (js_setV (ps_set nd_house_in rfl (.inl rfl) (je_op (o_add rfl) (jr_of (je_var rfl (.inl rfl) rfl rfl)) (jr_of cst_int)) rfl))))) jss_nil) (jss_cons (js_setO (ps_set nd_house_in rfl (.inl rfl) (jl_disp ja_nil) rfl)) (jss_cons (js_while (passes_of rfl) (PW.pt (jw_and (jt_cmp (o_lt rfl (huR hr)) (jr_of (je_var rfl (.inl rfl) rfl rfl)) (jr_of (je_callB (c_len rfl) rfl (Z.free 0 rfl) boot_len (jb_cons rfl (jr_of (je_var rfl (.inl rfl) rfl rfl)) jb_nil) rfl)) rfl) (jw1_and (jt_cmp (o_eq rfl (huR hr)) (jr_of (je_ix (i_idx rfl) (jr_of (je_ix (i_idx rfl) (jr_of (je_var rfl (.inl rfl) rfl rfl)) (jr_of (je_var rfl (.inl rfl) rfl rfl)) rfl)) (jr_of cst_int) rfl)) (jr_of cst_str) rfl)))) (jss_cons (js_app rfl rfl (.inl rfl) rfl rfl (je_cal (ok_note_in Z) rfl hr (by decide) rfl (takes_of (E := E) rfl rfl rfl rfl) (ja_cons rfl (je_ix (i_idx rfl) (jr_of (je_var rfl (.inl rfl) rfl rfl)) (jr_of (je_var rfl (.inl rfl) rfl rfl)) rfl) ja_nil) rfl) rfl rfl rfl rfl rfl) (jss_one (js_setV (ps_set nd_house_in rfl (.inl rfl) (je_op (o_add rfl) (jr_of (je_var rfl (.inl rfl) rfl rfl)) (jr_of cst_int)) rfl))))) (jss_one (js_ret (je_tup (ja_cons rfl (je_op (o_add rfl) (jr_of (je_var rfl (.inl rfl) rfl rfl)) (jr_of (je_tup (ja_cons rfl (je_callT (c_tuple rfl) rfl (Z.free 3 rfl) PyProof.Rows.boot_tuple (jb_cons rfl (jr_rd rfl (.inl rfl) rfl rfl) jb_nil) rfl) (ja_cons rfl (je_var rfl (.inl rfl) rfl rfl) ja_nil))))) (ja_cons rfl (je_var rfl (.inl rfl) rfl rfl) ja_nil)))))))))))))
def N_ask_in : List Str := ["words", "head"]
def b_ask_in : DS := dSeq (dDrop (dCall 3 f_need_line (dCons (dVar 0) (dCons (dCst (.str "ask")) (dCons (dCst (.int 6)) (dNil)))))) (dSeq (dSet 1 (qV (dTup (dCons (dCall 2 f_path_in (dCons (dOp pIdx (dVar 0) (dCst (.int 1))) (dCons (dCst (.tup (t_ASK_PATHS.map kD))) (dNil)))) (dCons (dCall 1 f_name_in (dCons (dOp pIdx (dVar 0) (dCst (.int 2))) (dNil))) (dCons (dCall 1 f_number_in (dCons (dOp pIdx (dVar 0) (dCst (.int 3))) (dNil))) (dCons (dCall 1 f_number_in (dCons (dOp pIdx (dVar 0) (dCst (.int 4))) (dNil))) (dNil)))))))) (dRet (dOp pAdd (dVar 1) (dTup (dCons (dCall 1 f_end_in (dCons (dOp pIdx (dVar 0) (dCst (.int 5))) (dNil))) (dNil))))))
def f_ask_in : List D → M D := dFn 1 N_ask_in.length b_ask_in
theorem nd_ask_in : N_ask_in.Nodup := by decide +kernel
theorem sc_ask_in : FnScope N_ask_in ["words"] (defScope (top 29)) := ⟨rfl, rfl, rfl, nd_ask_in, rfl, by decide +kernel, by decide +kernel⟩
theorem ok_ask_in (Z : Zf G mg fa fn nmt) : Callee P w G mg base "ask_in" 4 1 ["words"] f_ask_in := by
  refine callee_of (N := N_ask_in) (d := b_ask_in) Z 32 51 (st := top 29) (by rfl) (by rfl) sc_ask_in (by rfl) (fun _ _ _ _ _ _ us hl => match us, hl with | [_], _ => by rfl) fun f cdv A outer s H E hr => ?_
  exact (jss_cons (js_drop (je_cal (ok_need_line Z) rfl hr (by decide) rfl (takes_of (E := E) rfl rfl rfl rfl) (ja_cons rfl (je_var rfl (.inl rfl) rfl rfl) (ja_cons rfl cst_str (ja_cons rfl cst_int ja_nil))) rfl) rfl) (jss_cons (js_setV (ps_set nd_ask_in rfl (.inl rfl) (je_tup (ja_cons rfl (je_cal (ok_path_in Z) rfl hr (by decide) rfl (takes_of (E := E) rfl rfl rfl rfl) (ja_cons rfl (je_ix (i_idx rfl) (jr_of (je_var rfl (.inl rfl) rfl rfl)) (jr_of cst_int) rfl) (ja_cons rfl (je_gtup Z 50 3 rfl rfl rfl) ja_nil)) rfl) (ja_cons rfl (je_cal (ok_name_in Z) rfl hr (by decide) rfl (takes_of (E := E) rfl rfl rfl rfl) (ja_cons rfl (je_ix (i_idx rfl) (jr_of (je_var rfl (.inl rfl) rfl rfl)) (jr_of cst_int) rfl) ja_nil) rfl) (ja_cons rfl (je_cal (ok_number_in Z) rfl hr (by decide) rfl (takes_of (E := E) rfl rfl rfl rfl) (ja_cons rfl (je_ix (i_idx rfl) (jr_of (je_var rfl (.inl rfl) rfl rfl)) (jr_of cst_int) rfl) ja_nil) rfl) (ja_cons rfl (je_cal (ok_number_in Z) rfl hr (by decide) rfl (takes_of (E := E) rfl rfl rfl rfl) (ja_cons rfl (je_ix (i_idx rfl) (jr_of (je_var rfl (.inl rfl) rfl rfl)) (jr_of cst_int) rfl) ja_nil) rfl) ja_nil))))) rfl)) (jss_one (js_ret (je_op (o_add rfl) (jr_of (je_var rfl (.inl rfl) rfl rfl)) (jr_of (je_tup (ja_cons rfl (je_cal (ok_end_in Z) rfl hr (by decide) rfl (takes_of (E := E) rfl rfl rfl rfl) (ja_cons rfl (je_ix (i_idx rfl) (jr_of (je_var rfl (.inl rfl) rfl rfl)) (jr_of cst_int) rfl) ja_nil) rfl) ja_nil))))))))
def N_read_hall : List Str := ["text", "lines", "hour", "houses", "at", "house", "asks", "line", "words"]
def b_read_hall : DS := dSeq (dIfS (dNot (dTest (dPr pIsi (dCons (dVar 0) (dCons (dCst (.ty "str")) (dNil)))))) (dBad) (dNop)) (dSeq (dSet 1 (qV (dLst (dLc (dItems (dLst (dSplit (dVar 0) (dCst (.str "\n"))))) (gN 7) (dYes) (dLst (dSplit (dVar 7) (dCst (.str " ")))) [7])))) (dSeq (dDrop (dCall 3 f_need_line (dCons (dOp pIdx (dVar 1) (dCst (.int 0))) (dCons (dCst (.str "hour")) (dCons (dCst (.int 2)) (dNil)))))) (dSeq (dSet 2 (qV (dCall 1 f_number_in (dCons (dOp pIdx (dOp pIdx (dVar 1) (dCst (.int 0))) (dCst (.int 1))) (dNil))))) (dSeq (dSet 3 (qO (dDisp (dNil)))) (dSeq (dSet 4 (qV (dCst (.int 1)))) (dSeq (whRun (dAnd (dTest (dOp pLt (dVar 4) (dPr pLen (dCons (dVar 1) (dNil))))) (dTest (dOp pEq (dOp pIdx (dOp pIdx (dVar 1) (dVar 4)) (dCst (.int 0))) (dCst (.str "house"))))) (dSeq (dBnd (dCall 2 f_house_in (dCons (dVar 1) (dCons (dVar 4) (dNil)))) (gT 2 (gsC (gN 5) (gsC (gN 4) (gs0))))) (dOwn 3 fApp (dVar 5))) 100000) (dSeq (dSet 6 (qV (dLst (dLc (dItems (dSl (dVar 1) (dSo (dVar 4)) (dNo))) (gN 8) (dYes) (dCall 1 f_ask_in (dCons (dVar 8) (dNil))) [8])))) (dSeq (dFrz 3) (dSeq (dDrop (dCall 1 f_need_rising (dCons (dVar 3) (dNil)))) (dSeq (dDrop (dCall 1 f_need_rising (dCons (dVar 6) (dNil)))) (dRet (dTup (dCons (dVar 2) (dCons (dPr pTuple (dCons (dVar 3) (dNil))) (dCons (dPr pTuple (dCons (dVar 6) (dNil))) (dNil))))))))))))))))
def f_read_hall : List D → M D := dFn 1 N_read_hall.length b_read_hall
theorem nd_read_hall : N_read_hall.Nodup := by decide +kernel
theorem sc_read_hall : FnScope N_read_hall ["text"] (defScope (top 31)) := ⟨rfl, rfl, rfl, nd_read_hall, rfl, by decide +kernel, by decide +kernel⟩
theorem ok_read_hall (Z : Zf G mg fa fn nmt) : Callee P w G mg base "read_hall" 5 1 ["text"] f_read_hall := by
  refine callee_of (N := N_read_hall) (d := b_read_hall) Z 33 52 (st := top 31) (by rfl) (by rfl) sc_read_hall (by rfl) (fun _ _ _ _ _ _ us hl => match us, hl with | [_], _ => by rfl) fun f cdv A outer s H E hr => ?_
  exact (jss_cons (js_if (jt_not (jt_val (jr_of (je_callB (c_isi rfl) rfl (Z.free 27 rfl) PyProof.Rows.boot_isinstance (jb_cons rfl (jr_of (je_var rfl (.inl rfl) rfl rfl)) (jb_cons rfl (jr_of (je_ty rfl (Z.free 16 rfl) PyProof.Rows.boot_str (by decide) (by decide))) jb_nil)) rfl)) rfl)) (jss_one js_bad) jss_nil) (jss_cons (js_lcV (ps_setLc (own := [("line", 7)]) rfl nd_read_hall rfl rfl (sw_true rfl rfl rfl rfl) (ji_valW rfl (jr_of (je_lst (jl_split (je_var rfl (.inl rfl) rfl rfl) cst_str rfl rfl rfl)))) (blkOk_by rfl) (fun _ _ _ _ _ => (jg_name nd_read_hall rfl (.inl rfl) (.inr rfl) (by decide))) (fun _ _ _ _ _ => jts_nil) (fun _ _ _ _ _ => (je_lst (jl_split (je_var rfl (.inl rfl) rfl rfl) cst_str rfl rfl rfl))) (fun _ => rfl))) (jss_cons (js_drop (je_cal (ok_need_line Z) rfl hr (by decide) rfl (takes_of (E := E) rfl rfl rfl rfl) (ja_cons rfl (je_ix (i_idx rfl) (jr_of (je_var rfl (.inl rfl) rfl rfl)) (jr_of cst_int) rfl) (ja_cons rfl cst_str (ja_cons rfl cst_int ja_nil))) rfl) rfl) (jss_cons (js_setV (ps_set nd_read_hall rfl (.inl rfl) (je_cal (ok_number_in Z) rfl hr (by decide) rfl (takes_of (E := E) rfl rfl rfl rfl) (ja_cons rfl (je_ix (i_idx rfl) (jr_of (je_ix (i_idx rfl) (jr_of (je_var rfl (.inl rfl) rfl rfl)) (jr_of cst_int) rfl)) (jr_of cst_int) rfl) ja_nil) rfl) rfl)) (jss_cons (js_setO (ps_set nd_read_hall rfl (.inl rfl) (jl_disp ja_nil) rfl)) (jss_cons (js_setV (ps_set nd_read_hall rfl (.inl rfl) cst_int rfl)) (jss_cons (js_while (passes_of rfl) (PW.pt (jw_and (jt_cmp (o_lt rfl (huR hr)) (jr_of (je_var rfl (.inl rfl) rfl rfl)) (jr_of (je_callB (c_len rfl) rfl (Z.free 0 rfl) boot_len (jb_cons rfl (jr_of (je_var rfl (.inl rfl) rfl rfl)) jb_nil) rfl)) rfl) (jw1_and (jt_cmp (o_eq rfl (huR hr)) (jr_of (je_ix (i_idx rfl) (jr_of (je_ix (i_idx rfl) (jr_of (je_var rfl (.inl rfl) rfl rfl)) (jr_of (je_var rfl (.inl rfl) rfl rfl)) rfl)) (jr_of cst_int) rfl)) (jr_of cst_str) rfl)))) (jss_cons (js_bnd (vs := [0, 1, 2, 3, 4, 5, 6, 7, 8]) (ps_asg (je_cal (ok_house_in Z) rfl hr (by decide) rfl (takes_of (E := E) rfl rfl rfl rfl) (ja_cons rfl (je_var rfl (.inl rfl) rfl rfl) (ja_cons rfl (je_var rfl (.inl rfl) rfl rfl) ja_nil)) rfl) (jg_tup rfl rfl (jgs_cons (jg_name nd_read_hall rfl (.inl rfl) (.inl rfl) (by decide)) (jgs_cons (jg_name nd_read_hall rfl (.inl rfl) (.inl rfl) (by decide)) jgs_nil))))) (jss_one (js_app rfl rfl (.inl rfl) rfl rfl (je_var rfl (.inl rfl) rfl rfl) rfl rfl rfl rfl rfl)))) (jss_cons (js_lcV (ps_setLc (own := [("words", 8)]) rfl nd_read_hall rfl rfl (sw_true rfl rfl rfl rfl) (ji_valW rfl (jr_of (je_sl rfl (jr_of (je_var rfl (.inl rfl) rfl rfl)) (jo_some (je_var rfl (.inl rfl) rfl rfl)) jo_none))) (blkOk_by rfl) (fun _ _ _ _ _ => (jg_name nd_read_hall rfl (.inl rfl) (.inr rfl) (by decide))) (fun _ _ _ _ _ => jts_nil) (fun _ _ _ _ _ => (je_cal (ok_ask_in Z) rfl hr (by decide) rfl takes0 (ja_cons rfl (je_var rfl (.inl rfl) rfl rfl) ja_nil) rfl)) (fun _ => rfl))) (jss_frz (jss_cons (js_drop (je_cal (ok_need_rising Z) rfl hr (by decide) rfl (takes_of (E := E) rfl rfl rfl rfl) (ja_cons rfl (je_var rfl (.inl rfl) rfl rfl) ja_nil) rfl) rfl) (jss_cons (js_drop (je_cal (ok_need_rising Z) rfl hr (by decide) rfl (takes_of (E := E) rfl rfl rfl rfl) (ja_cons rfl (je_var rfl (.inl rfl) rfl rfl) ja_nil) rfl) rfl) (jss_one (js_ret (je_tup (ja_cons rfl (je_var rfl (.inl rfl) rfl rfl) (ja_cons rfl (je_callT (c_tuple rfl) rfl (Z.free 3 rfl) PyProof.Rows.boot_tuple (jb_cons rfl (jr_of (je_var rfl (.inl rfl) rfl rfl)) jb_nil) rfl) (ja_cons rfl (je_callT (c_tuple rfl) rfl (Z.free 3 rfl) PyProof.Rows.boot_tuple (jb_cons rfl (jr_of (je_var rfl (.inl rfl) rfl rfl)) jb_nil) rfl) ja_nil)))))))))))))))))
theorem kw_read_hall (Z : Zf G mg fa fn nmt) : KwOk G mg "read_hall" ["text"] := kw_of Z 33 52 (st := top 31) (by rfl) (by rfl) (fun _ _ _ _ _ _ us hl => match us, hl with | [_], _ => by rfl)
def N_law : List Str := ["script", "cell", "its_hall", "its_text", "found"]
def b_law : DS := dSeq (dFor (dItems (dOp pAdd (dLst (dDisp (dCons (dPr pLen (dCons (dVar 0) (dNil))) (dNil)))) (dSl (dVar 0) (dNo) (dSo (dCst (.int 12)))))) (gN 1) (dSeq (dSet 2 (qV (dCall 2 f__law_hall (dCons (dCall 2 f__law_draws (dCons (dVar 1) (dCons (dCst (.int 460)) (dNil)))) (dCons (dCst (.int 5)) (dNil)))))) (dSeq (dSet 3 (qV (dCall 1 f__law_text (dCons (dCall 1 f__law_lines (dCons (dVar 2) (dNil))) (dNil))))) (dSeq (dSet 4 (qV (dCall 1 f_hall_text (dCons (dVar 2) (dNil))))) (dSeq (dIfS (dOr (dNot (dTest (dPr pIsi (dCons (dVar 4) (dCons (dCst (.ty "str")) (dNil)))))) (dOr (dTest (dOp pNe (dVar 4) (dVar 3))) (dNot (dTest (dCall 2 f__law_same (dCons (dCall 1 f_read_hall (dCons (dVar 3) (dNil))) (dCons (dVar 2) (dNil)))))))) (dRet (dCst (.bl false))) (dNop)) (dIfS (dOr (dTest (dOp pNe (dCall 1 f_hall_text (dCons (dCall 1 f_read_hall (dCons (dVar 3) (dNil))) (dNil))) (dVar 3))) (dNot (dTest (dCall 2 f__law_same (dCons (dCall 1 f_read_hall (dCons (dVar 4) (dNil))) (dCons (dVar 2) (dNil))))))) (dRet (dCst (.bl false))) (dNop))))))) (dRet (dCst (.bl true)))
def f_law : List D → M D := dFn 1 N_law.length b_law
theorem nd_law : N_law.Nodup := by decide +kernel
theorem sc_law : FnScope N_law ["script"] (defScope (top 47)) := ⟨rfl, rfl, rfl, nd_law, rfl, by decide +kernel, by decide +kernel⟩
theorem ok_law (Z : Zf G mg fa fn nmt) : Callee P w G mg base "law" 10 1 ["script"] f_law := by
  refine callee_of (N := N_law) (d := b_law) Z 34 53 (st := top 47) (by rfl) (by rfl) sc_law (by rfl) (fun _ _ _ _ _ _ us hl => match us, hl with | [_], _ => by rfl) fun f cdv A outer s H E hr => ?_
  exact (jss_cons (js_for (vs := [0, 1, 2, 3, 4]) (passes_of rfl) rfl (ji_val rfl (je_op (o_add rfl) (jr_of (je_lst (jl_disp (ja_cons rfl (je_callB (c_len rfl) rfl (Z.free 0 rfl) boot_len (jb_cons rfl (jr_of (je_var rfl (.inl rfl) rfl rfl)) jb_nil) rfl) ja_nil)))) (jr_of (je_sl rfl (jr_of (je_var rfl (.inl rfl) rfl rfl)) jo_none (jo_some cst_int))))) (jg_name nd_law rfl (.inl rfl) (.inl rfl) (by decide)) (jss_cons (js_setV (ps_set nd_law rfl (.inl rfl) (je_cal (ok__law_hall Z) rfl hr (by decide) rfl (takes_of (E := E) rfl rfl rfl rfl) (ja_cons rfl (je_cal (ok__law_draws Z) rfl hr (by decide) rfl (takes_of (E := E) rfl rfl rfl rfl) (ja_cons rfl (je_var rfl (.inl rfl) rfl rfl) (ja_cons rfl cst_int ja_nil)) rfl) (ja_cons rfl cst_int ja_nil)) rfl) rfl)) (jss_cons (js_setV (ps_set nd_law rfl (.inl rfl) (je_cal (ok__law_text Z) rfl hr (by decide) rfl (takes_of (E := E) rfl rfl rfl rfl) (ja_cons rfl (je_cal (ok__law_lines Z) rfl hr (by decide) rfl (takes_of (E := E) rfl rfl rfl rfl) (ja_cons rfl (je_var rfl (.inl rfl) rfl rfl) ja_nil) rfl) ja_nil) rfl) rfl)) (jss_cons (js_setV (ps_set nd_law rfl (.inl rfl) (je_cal (ok_hall_text Z) rfl hr (by decide) rfl (takes_of (E := E) rfl rfl rfl rfl) (ja_cons rfl (je_var rfl (.inl rfl) rfl rfl) ja_nil) rfl) rfl)) (jss_cons (js_if (PW.pt (jw_or (jt_not (jt_val (jr_of (je_callB (c_isi rfl) rfl (Z.free 27 rfl) PyProof.Rows.boot_isinstance (jb_cons rfl (jr_of (je_var rfl (.inl rfl) rfl rfl)) (jb_cons rfl (jr_of (je_ty rfl (Z.free 16 rfl) PyProof.Rows.boot_str (by decide) (by decide))) jb_nil)) rfl)) rfl)) (jw_or (jt_cmp (o_ne rfl (huR hr)) (jr_of (je_var rfl (.inl rfl) rfl rfl)) (jr_of (je_var rfl (.inl rfl) rfl rfl)) rfl) (jw1_or (jt_not (jt_val (jr_of (je_cal (ok__law_same Z) rfl hr (by decide) rfl (takes_of (E := E) rfl rfl rfl rfl) (ja_cons rfl (je_cal (ok_read_hall Z) rfl hr (by decide) rfl (takes_of (E := E) rfl rfl rfl rfl) (ja_cons rfl (je_var rfl (.inl rfl) rfl rfl) ja_nil) rfl) (ja_cons rfl (je_var rfl (.inl rfl) rfl rfl) ja_nil)) rfl)) rfl)))))) (jss_one (js_ret cst_bl)) jss_nil) (jss_one (js_if (PW.pt (jw_or (jt_cmp (o_ne rfl (huR hr)) (jr_of (je_calK (ok_hall_text Z) (kw_hall_text Z) rfl rfl hr (by decide) rfl (takes_of (E := E) rfl rfl rfl rfl) (jk_cons (je_calK (ok_read_hall Z) (kw_read_hall Z) rfl rfl hr (by decide) rfl (takes_of (E := E) rfl rfl rfl rfl) (jk_cons (je_var rfl (.inl rfl) rfl rfl) jk_nil) rfl rfl rfl) jk_nil) rfl rfl rfl)) (jr_of (je_var rfl (.inl rfl) rfl rfl)) rfl) (jw1_or (jt_not (jt_val (jr_of (je_cal (ok__law_same Z) rfl hr (by decide) rfl (takes_of (E := E) rfl rfl rfl rfl) (ja_cons rfl (je_cal (ok_read_hall Z) rfl hr (by decide) rfl (takes_of (E := E) rfl rfl rfl rfl) (ja_cons rfl (je_var rfl (.inl rfl) rfl rfl) ja_nil) rfl) (ja_cons rfl (je_var rfl (.inl rfl) rfl rfl) ja_nil)) rfl)) rfl))))) (jss_one (js_ret cst_bl)) jss_nil)))))) (fun _ => rfl)) (jss_one (js_ret cst_bl)))
end
end K75

set_option maxHeartbeats 0
namespace K75
open PySem PySem.Spec PyProof.Rows L2 Py
abbrev R : PySem.W.OpenRow := PySem.W.OpenLaw.row PySem.Challenge.rw_errandwide_k75_halls_as_texts
abbrev hk : PySem.W.Hook := hookN 4 fa fn nmt
def ob (s : PySem.W.SharedT) : Bool × He.AlD := obN 4 fa fn (HandSHeadRun.getT s) nmt
theorem ob_eq (s : PySem.W.SharedT) : ob s = hk.obs s.abs := obN_eq (HandSHeadRun.getT_eq s)
def loose : List Str := (["ErrandError", "NoText", "LETTERS", "GREATEST", "is_word", "FIGURES", "HOUSE_PATHS", "ASK_PATHS", "END_WORDS", "NOTE_WORDS", "path_text", "end_text", "state_line", "house_lines", "hall_text", "writes_number", "writes_path", "path_of", "number_in", "path_in", "name_in", "end_in", "need_line", "state_in", "note_in", "house_in", "ask_in", "need_rising", "read_hall", "_law_draws"] : List Str) ++ (["_law_draw", "_law_number", "_law_path", "_law_paths", "_law_end", "_law_state", "_law_diary", "_law_hall", "_law_path_word", "_law_end_word", "_law_lines", "_law_text", "_law_same"] : List Str)
theorem run (w : World) : HandSHeadRun.RunEq R (PySem.W.view R.prog [47]) hk ob 4000 loose w := by
  intro os
  kernel_rfl
/-- what is left: the plain law -/
def Plain : Prop := ∀ ns : List Int, ns.length ≤ 63 → (∀ z ∈ ns, Builtin.Int.intBits z ≤ 1048576) → ∃ S', f_law [.ref 0] [.frz (ns.map D.int)] = .ok (.bl true) S'
end K75
section
open PySem PySem.W PySem.Calls PyProof.Rows
theorem K75.holds_of (hl : K75.Plain) : PySem.Challenge.rw_errandwide_k75_halls_as_texts.Holds := by
  w_on; o_law
  refine HandSHeadRun.head_any (r := OpenLaw.row PySem.Challenge.rw_errandwide_k75_halls_as_texts) (q := view (OpenLaw.row PySem.Challenge.rw_errandwide_k75_halls_as_texts).prog [47]) (H := K75.hk) (ob := K75.ob) (M := 4000) (loose := K75.loose) (d := HandSHeadRun.topDef (OpenLaw.row PySem.Challenge.rw_errandwide_k75_halls_as_texts).prog 47) (kwd := []) K75.ob_eq
    (by kernel_rfl) (fun s => by kernel_rfl) K75.run (by kernel_rfl) (by kernel_rfl) (by kernel_rfl) (by rfl) (by first | assumption | decide +kernel) (by decide +kernel) ⟨rfl, rfl, rfl, rfl, rfl, by decide +kernel⟩ ?hw ?hc
  case hw => w_witness2
  case hc =>
    refine Py.walk_N (l := PySem.Challenge.rw_errandwide_k75_halls_as_texts) (n := 63) (k := 10) (x := "script") (CX := L2.CX) rfl (by decide) (by kernel_rfl) ⟨rfl, by decide, by decide⟩ ?F (fun _ _ _ _ _ z => Py.cx_none z)
    intro w mg fa h Y G hmg0
    have hmg : mg ("law" : PySem.Str) = some (.ref fa) := by
      have e : (HandSHeadRun.topDef (OpenLaw.row PySem.Challenge.rw_errandwide_k75_halls_as_texts).prog 47).name = ("law" : PySem.Str) := by kernel_rfl
      rw [← e]
      exact hmg0
    exact Py.end_of (fun G base Z => K75.ok_law Z) Y G hmg hl
end

/-! Plain part 1: what code does, by equations. -/
namespace Py
open PySem PySem.Spec PyProof.Rows L2
def isRef : D → Bool
  | .ref _ => true
  | _ => false
@[simp] theorem isRef_tup {ds : List D} : isRef (.tup ds) = false := rfl
@[simp] theorem isRef_lst {ds : List D} : isRef (.lst ds) = false := rfl
def seqR (r : Res) (b : DS) : Res := match r with
  | some (.nx ρ', S') => b ρ' S'
  | r => r
section
variable {α β : Type} {S S' : Store} {ρ : Env}
@[simp] theorem seqR_nx {b : DS} : seqR (some (.nx ρ, S)) b = b ρ S := rfl
@[simp] theorem seqR_rt {b : DS} {d : D} : seqR (some (.rt d, S)) b = some (.rt d, S) := rfl
@[simp] theorem seqR_br {b : DS} : seqR (some (.br ρ, S)) b = some (.br ρ, S) := rfl
@[simp] theorem seqR_ct {b : DS} : seqR (some (.ct ρ, S)) b = some (.ct ρ, S) := rfl
@[simp] theorem seqR_none {b : DS} : seqR none b = none := rfl
@[simp] theorem ite_seqR {c : Prop} [Decidable c] {a b : Res} {k : DS} : seqR (if c then a else b) k = if c then seqR a k else seqR b k := by by_cases h : c <;> simp [h]
@[simp] theorem ite_bind {γ : Type} {c : Prop} [Decidable c] {a b : R α} {k : α → M γ} : (if c then a else b).bind k = if c then a.bind k else b.bind k := by by_cases h : c <;> simp [h]
@[simp] theorem ite_rS {c : Prop} [Decidable c] {a b : R α} {k : α → Store → Res} : rS (if c then a else b) ρ k = if c then rS a ρ k else rS b ρ k := by by_cases h : c <;> simp [h]
@[simp] theorem ite_endR {c : Prop} [Decidable c] {a b : Res} : endR (if c then a else b) = if c then endR a else endR b := by by_cases h : c <;> simp [h]
@[simp] theorem ite_noX {c : Prop} [Decidable c] {a b : R α} : noX (if c then a else b) = if c then noX a else noX b := by by_cases h : c <;> simp [h]
@[simp] theorem optM_some {b : β} : optM (some b) S = .ok b S := rfl
@[simp] theorem optM_none : (optM (none : Option β)) S = .bad := rfl
@[simp] theorem rS_ok {a : α} {k : α → Store → Res} : rS (.ok a S) ρ k = k a S := rfl
@[simp] theorem rS_bad {k : α → Store → Res} : rS (.bad) ρ k = none := rfl
@[simp] theorem noX_ok {a : α} : noX (.ok a S) = .ok a S := rfl
@[simp] theorem noX_bad : noX (.bad : R α) = .bad := rfl
@[simp] theorem dVar_ev {i : Nat} : dVar i ρ S = optM (slV ρ i) S := rfl
@[simp] theorem dRd_ev {i : Nat} : dRd i ρ S = optM (slR ρ i) S := rfl
@[simp] theorem dCst_ev {d : D} : dCst d ρ S = .ok d S := rfl
@[simp] theorem dOp_ev {f : Store → D → D → Option D} {a b : DE} : dOp f a b ρ S = (a ρ S).bind fun x S => (b ρ S).bind fun y S => optM (f S x y) S := rfl
@[simp] theorem dPr_ev {f : Store → List D → Option D} {a : DA} : dPr f a ρ S = (a ρ S).bind fun xs S => optM (f S xs) S := rfl
@[simp] theorem dPrL_ev {f : Store → List D → Option (List D)} {a : DA} : dPrL f a ρ S = (a ρ S).bind fun xs S => optM (f S xs) S := rfl
@[simp] theorem dNil_ev : dNil ρ S = .ok [] S := rfl
@[simp] theorem dCons_ev {a : DE} {r : DA} : dCons a r ρ S = (a ρ S).bind fun x S => (r ρ S).bind fun xs S => .ok (x :: xs) S := rfl
@[simp] theorem dTest_ev {a : DE} : dTest a ρ S = (a ρ S).bind fun x S => optM (asB x) S := rfl
@[simp] theorem dAnd_ev {a b : DT} : dAnd a b ρ S = (a ρ S).bind fun x S => if x then b ρ S else .ok false S := rfl
@[simp] theorem dOr_ev {a b : DT} : dOr a b ρ S = (a ρ S).bind fun x S => if x then .ok true S else b ρ S := rfl
@[simp] theorem dNot_ev {a : DT} : dNot a ρ S = (a ρ S).bind fun x S => .ok (!x) S := rfl
@[simp] theorem dAndV_ev {a b : DE} : dAndV a b ρ S = (a ρ S).bind fun x S => (optM (asB x) S).bind fun k S => if k = true then b ρ S else .ok (.bl false) S := by
  unfold dAndV
  congr 1; funext x S
  cases asB x with
  | none => rfl
  | some k => cases k <;> rfl
@[simp] theorem dOrV_ev {a b : DE} : dOrV a b ρ S = (a ρ S).bind fun x S => (optM (asB x) S).bind fun k S => if k = true then .ok (.bl true) S else b ρ S := by
  unfold dOrV
  congr 1; funext x S
  cases asB x with
  | none => rfl
  | some k => cases k <;> rfl
@[simp] theorem dNotV_ev {a : DE} : dNotV a ρ S = (a ρ S).bind fun x S => (optM (asB x) S).bind fun k S => .ok (.bl (!k)) S := by
  unfold dNotV
  congr 1; funext x S
  cases asB x <;> rfl
@[simp] theorem dIf_ev {t : DT} {a b : DE} : dIf t a b ρ S = (t ρ S).bind fun k S => if k then a ρ S else b ρ S := rfl
@[simp] theorem dNeg_ev {a : DE} : dNeg a ρ S = (a ρ S).bind fun x S => match x with | .int i => .ok (.int (-i)) S | _ => .bad := rfl
@[simp] theorem dChain_ev {f g : Store → D → D → Option D} {a b c : DE} : dChain f g a b c ρ S = (a ρ S).bind fun x S => (b ρ S).bind fun y S => (optM ((f S x y).bind asB) S).bind fun k S => if k = true then (c ρ S).bind fun z S => optM (g S y z) S else .ok (.bl false) S := by
  unfold dChain
  congr 1; funext x S; congr 1; funext y S
  cases (f S x y).bind asB with
  | none => rfl
  | some k => cases k <;> rfl
@[simp] theorem dTup_ev {r : DA} : dTup r ρ S = (r ρ S).bind fun xs S => if xs.length ≤ sizeLine then .ok (.tup xs) S else .bad := rfl
@[simp] theorem dLst_ev {r : DA} : dLst r ρ S = (r ρ S).bind fun xs S => .ok (.lst xs) S := rfl
@[simp] theorem dDisp_ev {r : DA} : dDisp r ρ S = (r ρ S).bind fun xs S => if xs.length ≤ sizeLine then .ok xs S else .bad := rfl
@[simp] theorem dNew_ev {r : DA} : dNew r ρ S = (r ρ S).bind fun xs S => .ok (.ref S.length) (S ++ [.lst xs]) := rfl
@[simp] theorem dNo_ev : dNo ρ S = .ok none S := rfl
@[simp] theorem dSo_ev {d : DE} : dSo d ρ S = (d ρ S).bind fun x S => match x with | .int i => .ok (some i) S | _ => .bad := rfl
@[simp] theorem dSl_ev {a : DE} {lo hi : DO} : dSl a lo hi ρ S = (a ρ S).bind fun x S => (lo ρ S).bind fun l S => (hi ρ S).bind fun u S => optM (pSl S x l u) S := rfl
@[simp] theorem dStar_ev {a : DE} {r : DA} : dStar a r ρ S = (a ρ S).bind fun x S => (optM (seqOf S x) S).bind fun ds S => if isRef x = true then .bad else (r ρ S).bind fun xs S => .ok (ds ++ xs) S := by
  unfold dStar
  congr 1; funext x S
  cases h : seqOf S x with
  | none => simp
  | some ds => cases x <;> simp [isRef]
@[simp] theorem dCall_ev {n : Nat} {run : List D → M D} {r : DA} : dCall n run r ρ S = (r ρ S).bind fun xs S => if xs.length = n then run xs S else .bad := rfl
@[simp] theorem dItems_ev {d : DE} : dItems d ρ S = (d ρ S).bind fun x S => optM (itms x) S := rfl
@[simp] theorem dRg_ev {f : List D → Option (List D)} {r : DA} : dRg f r ρ S = (r ρ S).bind fun xs S => optM (f xs) S := rfl
@[simp] theorem dLrg_ev {d : DE} : dLrg d ρ S = (d ρ S).bind fun x S => optM (lrg x) S := rfl
@[simp] theorem dSortSet_ev {d : DE} : dSortSet d ρ S = (d ρ S).bind fun x S => optM (qSortSet x) S := rfl
@[simp] theorem dLc_ev {di : DI} {g : DG} {t : DT} {e : DE} {vs : List Nat} : dLc di g t e vs ρ S = (di ρ S).bind fun ds S => noX (lcRun g t e (wipeE ρ vs) ds [] S) := rfl
@[simp] theorem dYes_ev : dYes ρ S = .ok true S := rfl
@[simp] theorem qV_ev {d : DE} : qV d ρ S = (d ρ S).bind fun x S => .ok (.val x) S := rfl
@[simp] theorem qO_ev {d : DA} : qO d ρ S = (d ρ S).bind fun x S => .ok (.own x) S := rfl
@[simp] theorem dSet_ev {i : Nat} {q : DQ} : dSet i q ρ S = rS (q ρ S) ρ fun s S => some (.nx (ρ.set i (some s)), S) := rfl
@[simp] theorem dBnd_ev {d : DE} {g : DG} : dBnd d g ρ S = rS (d ρ S) ρ fun x S => match g x ρ with | some ρ' => some (.nx ρ', S) | none => none := rfl
@[simp] theorem dRet_ev {d : DE} : dRet d ρ S = rS (d ρ S) ρ fun x S => some (.rt x, S) := rfl
@[simp] theorem dRetN_ev : dRetN ρ S = some (.rt .non, S) := rfl
@[simp] theorem dDrop_ev {d : DE} : dDrop d ρ S = rS (d ρ S) ρ fun _ S => some (.nx ρ, S) := rfl
@[simp] theorem dIfS_ev {t : DT} {a b : DS} : dIfS t a b ρ S = rS (t ρ S) ρ fun c S => if c = true then a ρ S else b ρ S := rfl
@[simp] theorem dNop_ev : dNop ρ S = some (.nx ρ, S) := rfl
@[simp] theorem dBrk_ev : dBrk ρ S = some (.br ρ, S) := rfl
@[simp] theorem dCnt_ev : dCnt ρ S = some (.ct ρ, S) := rfl
@[simp] theorem dBad_ev : dBad ρ S = none := rfl
@[simp] theorem dPar2_ev {i j : Nat} {q q' : DQ} : dPar2 i j q q' ρ S = rS (q ρ S) ρ fun s S => rS (q' ρ S) ρ fun s' S => some (.nx ((ρ.set i (some s)).set j (some s')), S) := rfl
@[simp] theorem dPar3_ev {i j l : Nat} {q q' q'' : DQ} : dPar3 i j l q q' q'' ρ S = rS (q ρ S) ρ fun s S => rS (q' ρ S) ρ fun s' S => rS (q'' ρ S) ρ fun s'' S => some (.nx (((ρ.set i (some s)).set j (some s')).set l (some s'')), S) := rfl
@[simp] theorem dSeq_ev {a b : DS} : dSeq a b ρ S = seqR (a ρ S) b := rfl
@[simp] theorem dFrz_ev {i : Nat} : dFrz i ρ S = match ρ[i]? with | some (some (.own ds)) => some (.nx (ρ.set i (some (.val (.lst ds)))), S) | _ => none := rfl
@[simp] theorem dOwn_ev {i : Nat} {f : List D → D → Option (List D)} {d : DE} : dOwn i f d ρ S = match ρ[i]? with | some (some (.own ds)) => rS (d ρ S) ρ fun y S => (match f ds y with | some ds' => some (.nx (ρ.set i (some (.own ds'))), S) | none => none) | _ => none := rfl
@[simp] theorem dSto_ev {v o i : DE} : dSto v o i ρ S = rS (v ρ S) ρ fun x S => rS (o ρ S) ρ fun y S => rS (i ρ S) ρ fun z S => match stSet S y z x with | some S' => some (.nx ρ, S') | none => none := rfl
@[simp] theorem dFor_ev {di : DI} {g : DG} {b : DS} : dFor di g b ρ S = rS (di ρ S) ρ fun ds S => forRun g b ds ρ S := rfl
@[simp] theorem dFn_ev {n N : Nat} {b : DS} {ds : List D} : dFn n N b ds S = if ds.length = n then endR (b (fnEnv N ds) S) else .bad := rfl
@[simp] theorem endR_rt {d : D} : endR (some (.rt d, S)) = .ok d S := rfl
@[simp] theorem endR_nx : endR (some (.nx ρ, S)) = .ok .non S := rfl
@[simp] theorem endR_none : endR none = .bad := rfl
@[simp] theorem slV_val {i : Nat} {d : D} (h : ρ[i]? = some (some (.val d))) : slV ρ i = some d := by unfold slV; rw [h]
@[simp] theorem slR_val {i : Nat} {d : D} (h : ρ[i]? = some (some (.val d))) : slR ρ i = some d := by unfold slR; rw [h]
@[simp] theorem slR_own {i : Nat} {d : List D} (h : ρ[i]? = some (some (.own d))) : slR ρ i = some (.lst d) := by unfold slR; rw [h]
@[simp] theorem asB_bl {b : Bool} : asB (.bl b) = some b := rfl
@[simp] theorem gN_ev {i : Nat} {d : D} : gN i d ρ = some (ρ.set i (some (.val d))) := rfl
@[simp] theorem gT_tup {n : Nat} {g : DGs} {ds : List D} : gT n g (.tup ds) ρ = if ds.length = n then g ds ρ else none := rfl
@[simp] theorem gs0_nil : gs0 [] ρ = some ρ := rfl
@[simp] theorem gsC_cons {g : DG} {gs : DGs} {d : D} {ds : List D} : gsC g gs (d :: ds) ρ = (g d ρ).bind fun ρ => gs ds ρ := rfl
end
theorem k_int_int : kitB "int" "int" = some true := by decide +kernel
theorem k_bool_int : kitB "bool" "int" = some true := by decide +kernel
theorem k_str_int : kitB "str" "int" = some false := by decide +kernel
theorem k_tuple_int : kitB "tuple" "int" = some false := by decide +kernel
theorem k_list_int : kitB "list" "int" = some false := by decide +kernel
theorem k_non_int : kitB "NoneType" "int" = some false := by decide +kernel
theorem k_dict_int : kitB "dict" "int" = some false := by decide +kernel
theorem k_int_bool : kitB "int" "bool" = some false := by decide +kernel
theorem k_bool_bool : kitB "bool" "bool" = some true := by decide +kernel
theorem k_str_bool : kitB "str" "bool" = some false := by decide +kernel
theorem k_tuple_bool : kitB "tuple" "bool" = some false := by decide +kernel
theorem k_list_bool : kitB "list" "bool" = some false := by decide +kernel
theorem k_non_bool : kitB "NoneType" "bool" = some false := by decide +kernel
theorem k_dict_bool : kitB "dict" "bool" = some false := by decide +kernel
theorem k_int_str : kitB "int" "str" = some false := by decide +kernel
theorem k_bool_str : kitB "bool" "str" = some false := by decide +kernel
theorem k_str_str : kitB "str" "str" = some true := by decide +kernel
theorem k_tuple_str : kitB "tuple" "str" = some false := by decide +kernel
theorem k_list_str : kitB "list" "str" = some false := by decide +kernel
theorem k_non_str : kitB "NoneType" "str" = some false := by decide +kernel
theorem k_dict_str : kitB "dict" "str" = some false := by decide +kernel
theorem k_int_tuple : kitB "int" "tuple" = some false := by decide +kernel
theorem k_bool_tuple : kitB "bool" "tuple" = some false := by decide +kernel
theorem k_str_tuple : kitB "str" "tuple" = some false := by decide +kernel
theorem k_tuple_tuple : kitB "tuple" "tuple" = some true := by decide +kernel
theorem k_list_tuple : kitB "list" "tuple" = some false := by decide +kernel
theorem k_non_tuple : kitB "NoneType" "tuple" = some false := by decide +kernel
theorem k_dict_tuple : kitB "dict" "tuple" = some false := by decide +kernel
/-! ### isinstance -/
def isIntB : D → Bool
  | .int _ => true
  | .bl _ => true
  | _ => false
def isBlB : D → Bool
  | .bl _ => true
  | _ => false
def isStrB : D → Bool
  | .str _ => true
  | _ => false
def isTupB : D → Bool
  | .tup _ => true
  | _ => false
/-- a value of a built-in type -/
def vis : D → Bool
  | .ty _ => false
  | .ref _ => false
  | .glo _ => false
  | _ => true
theorem isi_int {S : Store} {d : D} (h : vis d = true) : pIsi S [d, .ty "int"] = some (.bl (isIntB d)) := by
  cases d <;> first | cases h; done | (simp only [pIsi, tyD, Option.bind_some, k_int_int, k_bool_int, k_str_int, k_tuple_int, k_list_int, k_non_int, k_dict_int, Option.map_some]; rfl)
theorem isi_bool {S : Store} {d : D} (h : vis d = true) : pIsi S [d, .ty "bool"] = some (.bl (isBlB d)) := by
  cases d <;> first | cases h; done | (simp only [pIsi, tyD, Option.bind_some, k_int_bool, k_bool_bool, k_str_bool, k_tuple_bool, k_list_bool, k_non_bool, k_dict_bool, Option.map_some]; rfl)
theorem isi_str {S : Store} {d : D} (h : vis d = true) : pIsi S [d, .ty "str"] = some (.bl (isStrB d)) := by
  cases d <;> first | cases h; done | (simp only [pIsi, tyD, Option.bind_some, k_int_str, k_bool_str, k_str_str, k_tuple_str, k_list_str, k_non_str, k_dict_str, Option.map_some]; rfl)
theorem isi_tup {S : Store} {d : D} (h : vis d = true) : pIsi S [d, .ty "tuple"] = some (.bl (isTupB d)) := by
  cases d <;> first | cases h; done | (simp only [pIsi, tyD, Option.bind_some, k_int_tuple, k_bool_tuple, k_str_tuple, k_tuple_tuple, k_list_tuple, k_non_tuple, k_dict_tuple, Option.map_some]; rfl)
@[simp] theorem isi_int_int {S : Store} {i : Int} : pIsi S [.int i, .ty "int"] = some (.bl true) := isi_int rfl
@[simp] theorem isi_int_bool {S : Store} {i : Bool} : pIsi S [.bl i, .ty "int"] = some (.bl true) := isi_int rfl
@[simp] theorem isi_int_str {S : Store} {i : Str} : pIsi S [.str i, .ty "int"] = some (.bl false) := isi_int rfl
@[simp] theorem isi_int_tuple {S : Store} {i : List D} : pIsi S [.tup i, .ty "int"] = some (.bl false) := isi_int rfl
@[simp] theorem isi_int_list {S : Store} {i : List D} : pIsi S [.lst i, .ty "int"] = some (.bl false) := isi_int rfl
@[simp] theorem isi_int_NoneType {S : Store} : pIsi S [.non, .ty "int"] = some (.bl false) := isi_int rfl
@[simp] theorem isi_int_dict {S : Store} : pIsi S [.emp, .ty "int"] = some (.bl false) := isi_int rfl
@[simp] theorem isi_bool_int {S : Store} {i : Int} : pIsi S [.int i, .ty "bool"] = some (.bl false) := isi_bool rfl
@[simp] theorem isi_bool_bool {S : Store} {i : Bool} : pIsi S [.bl i, .ty "bool"] = some (.bl true) := isi_bool rfl
@[simp] theorem isi_bool_str {S : Store} {i : Str} : pIsi S [.str i, .ty "bool"] = some (.bl false) := isi_bool rfl
@[simp] theorem isi_bool_tuple {S : Store} {i : List D} : pIsi S [.tup i, .ty "bool"] = some (.bl false) := isi_bool rfl
@[simp] theorem isi_bool_list {S : Store} {i : List D} : pIsi S [.lst i, .ty "bool"] = some (.bl false) := isi_bool rfl
@[simp] theorem isi_bool_NoneType {S : Store} : pIsi S [.non, .ty "bool"] = some (.bl false) := isi_bool rfl
@[simp] theorem isi_bool_dict {S : Store} : pIsi S [.emp, .ty "bool"] = some (.bl false) := isi_bool rfl
@[simp] theorem isi_str_int {S : Store} {i : Int} : pIsi S [.int i, .ty "str"] = some (.bl false) := isi_str rfl
@[simp] theorem isi_str_bool {S : Store} {i : Bool} : pIsi S [.bl i, .ty "str"] = some (.bl false) := isi_str rfl
@[simp] theorem isi_str_str {S : Store} {i : Str} : pIsi S [.str i, .ty "str"] = some (.bl true) := isi_str rfl
@[simp] theorem isi_str_tuple {S : Store} {i : List D} : pIsi S [.tup i, .ty "str"] = some (.bl false) := isi_str rfl
@[simp] theorem isi_str_list {S : Store} {i : List D} : pIsi S [.lst i, .ty "str"] = some (.bl false) := isi_str rfl
@[simp] theorem isi_str_NoneType {S : Store} : pIsi S [.non, .ty "str"] = some (.bl false) := isi_str rfl
@[simp] theorem isi_str_dict {S : Store} : pIsi S [.emp, .ty "str"] = some (.bl false) := isi_str rfl
@[simp] theorem isi_tup_int {S : Store} {i : Int} : pIsi S [.int i, .ty "tuple"] = some (.bl false) := isi_tup rfl
@[simp] theorem isi_tup_bool {S : Store} {i : Bool} : pIsi S [.bl i, .ty "tuple"] = some (.bl false) := isi_tup rfl
@[simp] theorem isi_tup_str {S : Store} {i : Str} : pIsi S [.str i, .ty "tuple"] = some (.bl false) := isi_tup rfl
@[simp] theorem isi_tup_tuple {S : Store} {i : List D} : pIsi S [.tup i, .ty "tuple"] = some (.bl true) := isi_tup rfl
@[simp] theorem isi_tup_list {S : Store} {i : List D} : pIsi S [.lst i, .ty "tuple"] = some (.bl false) := isi_tup rfl
@[simp] theorem isi_tup_NoneType {S : Store} : pIsi S [.non, .ty "tuple"] = some (.bl false) := isi_tup rfl
@[simp] theorem isi_tup_dict {S : Store} : pIsi S [.emp, .ty "tuple"] = some (.bl false) := isi_tup rfl
/-! ### ints -/
section
variable {S : Store} {a b : Int}
@[simp] theorem shal_int : shal (.int a) = true := by simp [shal, D.okd, D.py, PyData.depth]
theorem lt_int' : PySem.W.dataLt (.int a) (.int b) = decide (a < b) := PySem.W.dataLt_int a b
theorem alike_int : PySem.W.alike (.int a) (.int b) = true := by simp [PySem.W.alike]
theorem cmpOk_int : cmpOk (.int a) (.int b) = true := by simp [cmpOk, D.py, alike_int, isNonD]
theorem nlt_dec : (!decide (a < b)) = decide (b ≤ a) := by by_cases h : a < b <;> simp [h] <;> omega
theorem beq_dec : (a == b) = decide (a = b) := by by_cases h : a = b <;> simp [h]
@[simp] theorem pLt_int : pLt S (.int a) (.int b) = some (.bl (decide (a < b))) := by simp [pLt, cmpOk_int, D.py, lt_int']
@[simp] theorem pGt_int : pGt S (.int a) (.int b) = some (.bl (decide (b < a))) := by simp [pGt, cmpOk_int, D.py, lt_int']
@[simp] theorem pLe_int : pLe S (.int a) (.int b) = some (.bl (decide (a ≤ b))) := by simp only [pLe, cmpOk_int, D.py, lt_int', nlt_dec, if_true]
@[simp] theorem pGe_int : pGe S (.int a) (.int b) = some (.bl (decide (b ≤ a))) := by simp only [pGe, cmpOk_int, D.py, lt_int', nlt_dec, if_true]
@[simp] theorem pEq_int : pEq S (.int a) (.int b) = some (.bl (decide (a = b))) := by simp [pEq, D.py, PyData.eqv, beq_dec]
@[simp] theorem pNe_int : pNe S (.int a) (.int b) = some (.bl (!decide (a = b))) := by simp [pNe, D.py, PyData.eqv, beq_dec]
end
end Py

/-! Plain part 2: primitives on tuples, lists, ints, by equations. -/
namespace Py
open PySem PySem.Spec PyProof.Rows L2
section
variable {S : Store} {ds es : List D} {d e : D} {n k : Nat} {α : Type} {xs : List α}
theorem sizeLine_val : sizeLine = 16777216 := by decide
/-! places -/
theorem atI_nat : atI xs (n : Int) = xs[n]? := by
  unfold atI ixN
  by_cases h : n < xs.length
  · rw [if_pos (by omega), if_pos (by omega)]
    simp
  · rw [if_pos (by omega), if_neg (by omega)]
    simp [List.getElem?_eq_none (Nat.le_of_not_lt h)]
theorem atI_neg1 : atI xs (-1) = xs.getLast? := by
  unfold atI ixN
  rw [if_neg (by omega)]
  cases xs with
  | nil => rfl
  | cons x r =>
    rw [if_pos (by simp; omega)]
    have e : ((-1 : Int) + ((x :: r).length : Nat)).toNat = r.length := by simp only [List.length_cons]; omega
    rw [e, List.getLast?_eq_getElem?]
    simp
@[simp] theorem atI_0 : atI xs 0 = xs[0]? := atI_nat (n := 0)
@[simp] theorem atI_1 : atI xs 1 = xs[1]? := atI_nat (n := 1)
@[simp] theorem atI_2 : atI xs 2 = xs[2]? := atI_nat (n := 2)
@[simp] theorem atI_3 : atI xs 3 = xs[3]? := atI_nat (n := 3)
@[simp] theorem pIdx_tup {i : Int} : pIdx S (.tup ds) (.int i) = atI ds i := rfl
@[simp] theorem pIdx_lst {i : Int} : pIdx S (.lst ds) (.int i) = atI ds i := rfl
@[simp] theorem pIdx_ref {m : Nat} {i : Int} : pIdx S (.ref m) (.int i) = (seqOf S (.ref m)).bind fun ds => atI ds i := rfl
@[simp] theorem seqOf_tup : seqOf S (.tup ds) = some ds := rfl
@[simp] theorem seqOf_lst : seqOf S (.lst ds) = some ds := rfl
@[simp] theorem pLen_tup : pLen S [.tup ds] = some (.int (ds.length : Nat)) := rfl
@[simp] theorem pLen_lst : pLen S [.lst ds] = some (.int (ds.length : Nat)) := rfl
@[simp] theorem pLen_ref {m : Nat} : pLen S [.ref m] = (seqOf S (.ref m)).map fun ds => .int (ds.length : Nat) := rfl
theorem seqOf_ref_lst {m : Nat} (h : S[m]? = some (.lst ds)) : seqOf S (.ref m) = some ds := by simp only [seqOf, h]
theorem seqOf_ref_frz {m : Nat} (h : S[m]? = some (.frz ds)) : seqOf S (.ref m) = some ds := by simp only [seqOf, h]
@[simp] theorem itms_tup : itms (.tup ds) = some ds := rfl
@[simp] theorem itms_lst : itms (.lst ds) = some ds := rfl
@[simp] theorem qList_tup : qList S [.tup ds] = some ds := rfl
@[simp] theorem qList_lst : qList S [.lst ds] = some ds := rfl
@[simp] theorem pTuple_lst : pTuple S [.lst ds] = some (.tup ds) := rfl
@[simp] theorem pTuple_tup : pTuple S [.tup ds] = some (.tup ds) := rfl
@[simp] theorem en1_tup : en1 [.tup ds] = some (enumD ds) := rfl
@[simp] theorem en1_lst : en1 [.lst ds] = some (enumD ds) := rfl
@[simp] theorem zp2_tup : zp2 [.tup ds, .tup es] = some ((ds.zip es).map fun x => .tup [x.1, x.2]) := rfl
theorem fApp_ok (h : ds.length < sizeLine) : fApp ds d = some (ds ++ [d]) := if_pos h
/-! ints -/
@[simp] theorem pAdd_int {a b : Int} : pAdd S (.int a) (.int b) = some (.int (a + b)) := rfl
@[simp] theorem pSub_int {a b : Int} : pSub S (.int a) (.int b) = some (.int (a - b)) := rfl
@[simp] theorem pInt_int {a : Int} : pInt S [.int a] = some (.int a) := rfl
@[simp] theorem pInt_bl {a : Bool} : pInt S [.bl a] = some (.int (if a then 1 else 0)) := rfl
@[simp] theorem pAbs_int {a : Int} : pAbs S [.int a] = some (.int (if a < 0 then -a else a)) := rfl
@[simp] theorem pMax_int {a b : Int} : pMax S [.int a, .int b] = some (.int (if b > a then b else a)) := rfl
@[simp] theorem pMin_int {a b : Int} : pMin S [.int a, .int b] = some (.int (if b < a then b else a)) := rfl
@[simp] theorem pIs_non : pIs S .non .non = some (.bl true) := rfl
@[simp] theorem pIs_int {a : Int} : pIs S (.int a) .non = some (.bl false) := rfl
@[simp] theorem pIs_tup : pIs S (.tup ds) .non = some (.bl false) := rfl
@[simp] theorem pIsNot_non : pIsNot S .non .non = some (.bl false) := rfl
@[simp] theorem pIsNot_int {a : Int} : pIsNot S (.int a) .non = some (.bl true) := rfl
@[simp] theorem pIsNot_tup : pIsNot S (.tup ds) .non = some (.bl true) := rfl
theorem pMod_int {a b : Int} (h : 0 < b) : pMod S (.int a) (.int b) = some (.int (a % b)) := if_pos h
theorem pDiv_int {a b : Int} (h : 0 < b) (h2 : b.natAbs.log2 < 9000) : pDiv S (.int a) (.int b) = some (.int (a / b)) := if_pos ⟨h, h2⟩
theorem pMul_int {a b : Int} (h : Builtin.Int.intBits a + Builtin.Int.intBits b ≤ 134217728) : pMul S (.int a) (.int b) = some (.int (a * b)) := if_pos h
theorem bits_nat {b : Nat} {a : Int} (h : a.natAbs < 2 ^ b) : Builtin.Int.intBits a ≤ b := by
  unfold Builtin.Int.intBits
  split
  · omega
  · rename_i h0
    have : a.natAbs.log2 < b := (Nat.log2_lt (by intro z; exact h0 (by simpa using z))).mpr h
    omega
/-- a product of what has few digits -/
theorem pMul_small {a b : Int} (h : a.natAbs < 2 ^ 60000000) (h2 : b.natAbs < 2 ^ 60000000) : pMul S (.int a) (.int b) = some (.int (a * b)) := pMul_int (by
  have h1 := bits_nat h
  have h3 := bits_nat h2
  omega)
theorem pMul_b {a b : Int} {i j : Nat} (h : a.natAbs < 2 ^ i) (h2 : b.natAbs < 2 ^ j) (l : i + j ≤ 134217728) : pMul S (.int a) (.int b) = some (.int (a * b)) := pMul_int (by
  have h1 := bits_nat h
  have h3 := bits_nat h2
  omega)
/-! tuples -/
theorem pAdd_tup (h : ds.length + es.length ≤ sizeLine) : pAdd S (.tup ds) (.tup es) = some (.tup (ds ++ es)) := if_pos h
theorem pAdd_lst (h : ds.length + es.length ≤ sizeLine) : pAdd S (.lst ds) (.lst es) = some (.lst (ds ++ es)) := if_pos h
theorem pMul_tup {a : Int} (h : ds ≠ [] ∧ 2 ≤ a.toNat ∧ a.toNat ≤ 1000 ∧ ds.length ≤ 1000) : pMul S (.tup ds) (.int a) = some (.tup (List.replicate a.toNat ds).flatten) := if_pos h
theorem pMul_lst {a : Int} (h : a.natAbs < 2 ^ 63 ∧ ds.length * a.toNat ≤ sizeLine) : pMul S (.lst ds) (.int a) = some (.lst (List.replicate a.toNat ds).flatten) := if_pos h
@[simp] theorem pSl_tup {lo hi : Option Int} : pSl S (.tup ds) lo hi = some (.tup (cutD ds lo hi)) := rfl
@[simp] theorem pSl_lst {lo hi : Option Int} : pSl S (.lst ds) lo hi = some (.lst (cutD ds lo hi)) := rfl
theorem cut_take : cutD ds none (some (n : Int)) = ds.take n := by
  unfold cutD
  rw [HT.sIx_none, HT.sIx_nat]
  simp [List.take_eq_take_iff]
theorem cut_drop : cutD ds (some (n : Int)) none = ds.drop n := by
  unfold cutD
  rw [HT.sIx_none, HT.sIx_nat]
  by_cases h : n ≤ ds.length
  · rw [Nat.min_eq_left h]
    rw [List.take_of_length_le (by simp)]
  · rw [Nat.min_eq_right (by omega)]
    simp [List.drop_eq_nil_of_le (Nat.le_of_not_le h)]
theorem cut_dropS : cutD ds (some ((n : Int) + 1)) none = ds.drop (n + 1) := by
  rw [show (n : Int) + 1 = ((n + 1 : Nat) : Int) by omega, cut_drop]
theorem cut_takeS : cutD ds none (some ((n : Int) + 1)) = ds.take (n + 1) := by
  rw [show (n : Int) + 1 = ((n + 1 : Nat) : Int) by omega, cut_take]
theorem cut_drop1 : cutD ds (some 1) none = ds.drop 1 := cut_drop (n := 1)
/-! data: what can be compared -/
def Sh (k : Nat) (d : D) : Prop := d.okd = true ∧ d.py.depth ≤ k
theorem Sh.mono {j : Nat} (h : Sh k d) (l : k ≤ j) : Sh j d := ⟨h.1, Nat.le_trans h.2 l⟩
theorem okdL_all : okdL ds = true ↔ ∀ d ∈ ds, d.okd = true := by
  induction ds with
  | nil => simp [okdL]
  | cons d r ih => simp [okdL, ih]
theorem depthAll_le : PyData.depthAll (pyL ds) ≤ k ↔ ∀ d ∈ ds, d.py.depth ≤ k := by
  induction ds with
  | nil => simp [pyL, PyData.depthAll]
  | cons d r ih => simp [pyL, PyData.depthAll, ih, Nat.max_le]
theorem Sh.tup (h : ∀ d ∈ ds, Sh k d) : Sh (k + 1) (.tup ds) := ⟨by rw [D.okd]; exact okdL_all.mpr fun d hd => (h d hd).1, by
  have := depthAll_le.mpr fun d hd => (h d hd).2
  simp only [D.py, PyData.depth]; omega⟩
theorem Sh.lst (h : ∀ d ∈ ds, Sh k d) : Sh (k + 1) (.lst ds) := ⟨by rw [D.okd]; exact okdL_all.mpr fun d hd => (h d hd).1, by
  have := depthAll_le.mpr fun d hd => (h d hd).2
  simp only [D.py, PyData.depth]; omega⟩
theorem Sh.int {i : Int} : Sh k (.int i) := ⟨rfl, by simp [D.py, PyData.depth]⟩
theorem Sh.bl {i : Bool} : Sh k (.bl i) := ⟨rfl, by simp [D.py, PyData.depth]⟩
theorem Sh.str {i : Str} : Sh k (.str i) := ⟨rfl, by simp [D.py, PyData.depth]⟩
theorem Sh.non : Sh k .non := ⟨rfl, by simp [D.py, PyData.depth]⟩
theorem Sh.shal (h : Sh k d) (l : k ≤ 100) : shal d = true := by
  unfold Py.shal
  rw [h.1, decide_eq_true (Nat.le_trans h.2 l)]; rfl
theorem pEq_of {b : Bool} (h1 : Sh k d) (h2 : Sh k e) (l : k ≤ 100) (h : PyData.eqv d.py e.py = b) : pEq S d e = some (.bl b) := by
  unfold pEq
  rw [h1.shal l, h2.shal l, h]; rfl
theorem pNe_of {b : Bool} (h1 : Sh k d) (h2 : Sh k e) (l : k ≤ 100) (h : PyData.eqv d.py e.py = b) : pNe S d e = some (.bl (!b)) := by
  unfold pNe
  rw [h1.shal l, h2.shal l, h]; rfl
@[simp] theorem pEq_bl {a b : Bool} : pEq S (.bl a) (.bl b) = some (.bl (decide (a = b))) := pEq_of (k := 0) Sh.bl Sh.bl (by omega) (by cases a <;> cases b <;> rfl)
@[simp] theorem pNe_bl {a b : Bool} : pNe S (.bl a) (.bl b) = some (.bl (!decide (a = b))) := pNe_of (k := 0) Sh.bl Sh.bl (by omega) (by cases a <;> cases b <;> rfl)
@[simp] theorem pEq_str {a b : Str} : pEq S (.str a) (.str b) = some (.bl (decide (a = b))) := pEq_of (k := 0) Sh.str Sh.str (by omega) (by by_cases h : a = b <;> simp [D.py, PyData.eqv, h])
@[simp] theorem pNe_str {a b : Str} : pNe S (.str a) (.str b) = some (.bl (!decide (a = b))) := pNe_of (k := 0) Sh.str Sh.str (by omega) (by by_cases h : a = b <;> simp [D.py, PyData.eqv, h])
theorem pIn_of {dd : List D} (h1 : Sh k d) (h2 : ∀ x ∈ dd, Sh k x) (l : k + 1 ≤ 100) : pIn S d (.tup dd) = some (.bl (dd.any fun y => PyData.eqv y.py d.py)) := by
  have e : (pyL dd).any (fun y => PyData.eqv y d.py) = dd.any fun y => PyData.eqv y.py d.py := by
    clear h2
    induction dd with
    | nil => rfl
    | cons x r ih => simp only [pyL, List.any_cons, ih]
  have e0 : signIn d (.tup dd) = none := by
    unfold signIn
    split <;> first | (rename_i h; cases h; done) | rfl
  unfold pIn
  rw [e0]
  dsimp only
  unfold pIn0
  simp only [itemsOf]
  rw [h1.shal (by omega), (Sh.tup h2).shal l, e]; rfl
theorem pNotIn_of {dd : List D} (h1 : Sh k d) (h2 : ∀ x ∈ dd, Sh k x) (l : k + 1 ≤ 100) : pNotIn S d (.tup dd) = some (.bl (!dd.any fun y => PyData.eqv y.py d.py)) := by
  have e : (pyL dd).any (fun y => PyData.eqv y d.py) = dd.any fun y => PyData.eqv y.py d.py := by
    clear h2
    induction dd with
    | nil => rfl
    | cons x r ih => simp only [pyL, List.any_cons, ih]
  have e0 : signIn d (.tup dd) = none := by
    unfold signIn
    split <;> first | (rename_i h; cases h; done) | rfl
  unfold pNotIn
  rw [e0]
  dsimp only
  unfold pNotIn0
  simp only [itemsOf]
  rw [h1.shal (by omega), (Sh.tup h2).shal l, e]; rfl
theorem blsD_of {β : Type} {p : β → Bool} : ∀ xs : List β, blsD (xs.map fun x => D.bl (p x)) = some (xs.map p)
  | [] => rfl
  | x :: xs => by rw [List.map_cons, blsD, blsD_of xs]; rfl
theorem pAll_map {β : Type} {p : β → Bool} {xs : List β} : pAll S [.lst (xs.map fun x => D.bl (p x))] = some (.bl (xs.all p)) := by
  show (blsD (xs.map fun x => D.bl (p x))).map (fun bs => D.bl (bs.all id)) = _
  rw [blsD_of]
  simp [List.all_map]
theorem intsD_of {β : Type} {p : β → Int} : ∀ xs : List β, intsD (xs.map fun x => D.int (p x)) = some (xs.map p)
  | [] => rfl
  | x :: xs => by rw [List.map_cons, intsD, intsD_of xs]; rfl
theorem pNe_lst0 : pNe S (.lst []) (.lst []) = some (.bl false) := by
  have h := Sh.lst (k := 0) (ds := []) (fun _ h => by cases h)
  unfold pNe
  rw [h.shal (by omega)]
  simp [D.py, pyL, PyData.eqv, PyData.eqvAll]
theorem pNe_lstN {dd : List D} (h : ∀ x ∈ dd, Sh k x) (l : k + 1 ≤ 100) : pNe S (.lst dd) (.lst []) = some (.bl (!decide (dd = []))) := by
  refine pNe_of (Sh.lst h) (Sh.lst (fun _ h => by cases h)) l ?_
  cases dd with
  | nil => simp [D.py, pyL, PyData.eqv, PyData.eqvAll]
  | cons x r => simp [D.py, pyL, PyData.eqv, PyData.eqvAll]
/-! == of encoded values -/
theorem eqvAll_map {β : Type} [DecidableEq β] {f : β → D} : ∀ {xs ys : List β}, (∀ x ∈ xs, ∀ y ∈ ys, PyData.eqv (f x).py (f y).py = decide (x = y)) → PyData.eqvAll (pyL (xs.map f)) (pyL (ys.map f)) = decide (xs = ys)
  | [], [], _ => by simp [pyL, PyData.eqvAll]
  | [], _ :: _, _ => by simp [pyL, PyData.eqvAll]
  | _ :: _, [], _ => by simp [pyL, PyData.eqvAll]
  | x :: xs, y :: ys, h => by
    rw [List.map_cons, List.map_cons, pyL, pyL, PyData.eqvAll, h x List.mem_cons_self y List.mem_cons_self, eqvAll_map (xs := xs) (ys := ys) fun a ha b hb => h a (List.mem_cons_of_mem _ ha) b (List.mem_cons_of_mem _ hb)]
    by_cases e1 : x = y <;> by_cases e2 : xs = ys <;> simp [e1, e2]
@[simp] theorem eqv_int {a b : Int} : PyData.eqv (.int a) (.int b) = decide (a = b) := by simp [PyData.eqv, beq_dec]
@[simp] theorem eqv_bl {a b : Bool} : PyData.eqv (.bool a) (.bool b) = decide (a = b) := by cases a <;> cases b <;> rfl
@[simp] theorem eqv_str {a b : Str} : PyData.eqv (.str a) (.str b) = decide (a = b) := by by_cases h : a = b <;> simp [PyData.eqv, h]
@[simp] theorem eqv_tup {xs ys : List PyData} : PyData.eqv (.tuple xs) (.tuple ys) = PyData.eqvAll xs ys := by simp [PyData.eqv]
@[simp] theorem eqv_lst {xs ys : List PyData} : PyData.eqv (.list xs) (.list ys) = PyData.eqvAll xs ys := by simp [PyData.eqv]
@[simp] theorem eqvAll_cons {x y : PyData} {xs ys : List PyData} : PyData.eqvAll (x :: xs) (y :: ys) = (PyData.eqv x y && PyData.eqvAll xs ys) := by simp [PyData.eqvAll]
@[simp] theorem eqvAll_nil : PyData.eqvAll [] [] = true := by simp [PyData.eqvAll]
@[simp] theorem eqvAll_nc {y : PyData} {ys : List PyData} : PyData.eqvAll [] (y :: ys) = false := by simp [PyData.eqvAll]
@[simp] theorem eqvAll_cn {y : PyData} {ys : List PyData} : PyData.eqvAll (y :: ys) [] = false := by simp [PyData.eqvAll]
end
theorem enumD_eq (ds : List D) : enumD ds = ds.zipIdx.map fun x => D.tup [.int (x.2 : Nat), x.1] := by
  unfold enumD
  apply List.ext_getElem?
  intro i
  simp only [List.getElem?_mapIdx, List.getElem?_map, List.getElem?_zipIdx]
  cases ds[i]? <;> simp
theorem zipIdx_set {α : Type} (xs : List α) (n : Nat) (y : α) : xs.zipIdx.map (fun x => if x.2 = n then y else x.1) = xs.set n y := by
  apply List.ext_getElem?
  intro i
  simp only [List.getElem?_map, List.getElem?_zipIdx, List.getElem?_set]
  by_cases h : n = i
  · subst h
    by_cases hl : n < xs.length
    · simp [hl]
    · simp [hl, List.getElem?_eq_none (Nat.le_of_not_lt hl)]
  · have h' : ¬ i = n := fun z => h z.symm
    cases e : xs[i]? <;> simp [h, h']
/-! ### comprehensions, loops -/
section
variable {S : Store} {g : DG} {t : DT} {e : DE} {ρ : Env}
/-- pure turns: what is kept, what is put -/
theorem lc_pure {p : D → Bool} {h : D → D} {ρ' : D → Env} : ∀ {ds acc : List D}, (∀ d ∈ ds, g d ρ = some (ρ' d) ∧ t (ρ' d) S = .ok (p d) S ∧ (p d = true → e (ρ' d) S = .ok (h d) S)) → acc.length + ds.length ≤ sizeLine →
    lcRun g t e ρ ds acc S = .ok (acc ++ (ds.filter p).map h) S
  | [], acc, _, _ => by simp [lcRun]
  | d :: ds, acc, H, l => by
    obtain ⟨h1, h2, h3⟩ := H d List.mem_cons_self
    have H' : ∀ d ∈ ds, g d ρ = some (ρ' d) ∧ t (ρ' d) S = .ok (p d) S ∧ (p d = true → e (ρ' d) S = .ok (h d) S) := fun x hx => H x (List.mem_cons_of_mem _ hx)
    simp only [List.length_cons] at l
    unfold lcRun
    rw [h1]
    dsimp only
    rw [h2, R.ok_bind]
    cases hp : p d with
    | true =>
      rw [if_pos rfl, h3 hp, R.ok_bind, if_pos (by omega), lc_pure H' (by simp; omega)]
      simp [hp]
    | false =>
      rw [if_neg (by simp), lc_pure H' (by omega)]
      simp [hp]
/-- the same over encoded values -/
theorem lc_typed {β : Type} {f : β → D} {p : β → Bool} {h : β → D} {ρ' : β → Py.Env} : ∀ {ds : List β} {acc : List D}, (∀ d ∈ ds, g (f d) ρ = some (ρ' d) ∧ t (ρ' d) S = .ok (p d) S ∧ (p d = true → e (ρ' d) S = .ok (h d) S)) → acc.length + ds.length ≤ sizeLine →
    lcRun g t e ρ (ds.map f) acc S = .ok (acc ++ (ds.filter p).map h) S
  | [], acc, _, _ => by simp [lcRun]
  | d :: ds, acc, H, l => by
    obtain ⟨h1, h2, h3⟩ := H d List.mem_cons_self
    have H' : ∀ d ∈ ds, g (f d) ρ = some (ρ' d) ∧ t (ρ' d) S = .ok (p d) S ∧ (p d = true → e (ρ' d) S = .ok (h d) S) := fun x hx => H x (List.mem_cons_of_mem _ hx)
    simp only [List.length_cons] at l
    rw [List.map_cons]
    unfold lcRun
    rw [h1]
    dsimp only
    rw [h2, R.ok_bind]
    cases hp : p d with
    | true =>
      rw [if_pos rfl, h3 hp, R.ok_bind, if_pos (by omega), lc_typed H' (by simp; omega)]
      simp [hp]
    | false =>
      rw [if_neg (by simp), lc_typed H' (by omega)]
      simp [hp]
theorem lc_typedM {β : Type} {f h : β → D} {ρ' : β → Py.Env} {ds : List β} {acc : List D} (H : ∀ d ∈ ds, g (f d) ρ = some (ρ' d) ∧ e (ρ' d) S = .ok (h d) S) (l : acc.length + ds.length ≤ sizeLine) :
    lcRun g dYes e ρ (ds.map f) acc S = .ok (acc ++ ds.map h) S := by
  have := lc_typed (g := g) (t := dYes) (e := e) (ρ := ρ) (S := S) (f := f) (p := fun _ => true) (h := h) (ρ' := ρ') (ds := ds) (acc := acc) (fun d hd => ⟨(H d hd).1, rfl, fun _ => (H d hd).2⟩) l
  have e1 : ds.filter (fun _ => true) = ds := List.filter_eq_self.mpr fun _ _ => rfl
  rw [e1] at this
  exact this
theorem lc_map {h : D → D} {ρ' : D → Env} {ds acc : List D} (H : ∀ d ∈ ds, g d ρ = some (ρ' d) ∧ e (ρ' d) S = .ok (h d) S) (l : acc.length + ds.length ≤ sizeLine) :
    lcRun g dYes e ρ ds acc S = .ok (acc ++ ds.map h) S := by
  have := lc_pure (g := g) (t := dYes) (e := e) (ρ := ρ) (S := S) (p := fun _ => true) (h := h) (ρ' := ρ') (ds := ds) (acc := acc) (fun d hd => ⟨(H d hd).1, rfl, fun _ => (H d hd).2⟩) l
  have e1 : ds.filter (fun _ => true) = ds := List.filter_eq_self.mpr fun _ _ => rfl
  rw [e1] at this
  exact this
end
end Py

/-! Texts: what joins, splits, numbers do. -/
namespace Py
open PySem PySem.Spec PyProof.Rows L2 TL
def num (n : Nat) : Str := Str.ofString (toString ((n : Nat) : Int))
theorem tl_numS (n : Nat) : tl (num n) = numL n := tl_num n
section
variable {S : Store} {ρ : Py.Env}
theorem pStr_nat {n : Nat} (h : n < 2 ^ 64) : pStr S [.int (n : Nat)] = some (.str (num n)) := by
  have : (n : Int).natAbs.log2 < 1920 := by
    rw [Int.natAbs_natCast]
    by_cases h0 : n = 0
    · subst h0; decide
    · exact Nat.lt_of_lt_of_le ((Nat.log2_lt h0).mpr h) (by omega)
  exact if_pos this
theorem num_len {n k : Nat} (hk : 0 < k) (h : n < 10 ^ k) : (num n).length ≤ k := by
  rw [len_tl, tl_numS]; exact numL_len hk h
theorem num_pos (n : Nat) : 1 ≤ (num n).length := by
  rw [len_tl, tl_numS]
  have := numL_ne n
  cases h : numL n with
  | nil => exact absurd h this
  | cons a b => simp
theorem pInt_num {n : Nat} (h : n < 10 ^ 10) : pInt S [.str (num n)] = some (.int (n : Nat)) := by
  have h1 := num_len (by omega) h
  have h2 : (numL n).length ≤ 4300 := by rw [← tl_numS, ← len_tl]; omega
  show (if (num n).length ≤ 640 then (intText? (num n)).map D.int else none) = _
  rw [if_pos (by omega)]
  unfold num
  rw [int_num h2]; rfl
theorem num_inj {m n : Nat} (h : num m = num n) : m = n := numL_inj (by rw [← tl_numS, ← tl_numS, h])
/-- the first sign of a number is 0 just of 0 -/
theorem num_head : ∀ n : Nat, ∃ c r, numL n = c :: r ∧ (c = 48 → n = 0) := by
  intro n
  induction n using Nat.strongRecOn with
  | ind n ih =>
    by_cases h : n < 10
    · exact ⟨48 + n, [], numL_lt h, fun e => by omega⟩
    · obtain ⟨c, r, e, k⟩ := ih (n / 10) (by omega)
      refine ⟨c, r ++ [48 + n % 10], by rw [numL_step (by omega), e]; rfl, fun z => ?_⟩
      have := k z
      omega
theorem strsD_of : ∀ ws : List Str, strsD (ws.map D.str) = some ws
  | [] => rfl
  | w :: ws => by rw [List.map_cons, strsD, strsD_of ws]; rfl
/-- signs in all -/
def sumL (ws : List Str) : Nat := (ws.map (·.length)).sum
theorem sumL_le {ws : List Str} {k : Nat} (h : ∀ w ∈ ws, w.length ≤ k) : sumL ws ≤ ws.length * k := by
  induction ws with
  | nil => simp [sumL]
  | cons w ws ih =>
    have h1 := h w List.mem_cons_self
    have h2 := ih fun x hx => h x (List.mem_cons_of_mem _ hx)
    simp only [sumL, List.map_cons, List.sum_cons, List.length_cons] at h2 ⊢
    rw [Nat.add_mul]; omega
theorem pJoin_of {a : Str} {ws : List Str} {k : Nat} (h : ∀ w ∈ ws, w.length ≤ k) (h2 : ws.length * (k + a.length) ≤ 16777216) : pJoin S a (.lst (ws.map D.str)) = some (.str (Txt.join a ws)) := by
  unfold pJoin
  rw [seqOf_lst, Option.bind_some, strsD_of, Option.bind_some]
  have := sumL_le h
  unfold sumL at this
  rw [Nat.mul_add] at h2
  rw [if_pos (by omega)]
theorem join_len {a : Str} : ∀ {ws : List Str} {k : Nat}, (∀ w ∈ ws, w.length ≤ k) → (Txt.join a ws).length ≤ ws.length * (k + a.length) := by
  intro ws k h
  rw [join_eq]
  induction ws with
  | nil => simp [Str.join, Str.empty, Str.length]
  | cons w ws ih =>
    have h1 := h w List.mem_cons_self
    have h2 := ih fun x hx => h x (List.mem_cons_of_mem _ hx)
    rw [len_tl] at h2 h1 ⊢
    cases ws with
    | nil => simp [Str.join]; simp at h1; omega
    | cons z r =>
      have e : tl (Str.join a (w :: z :: r)) = tl w ++ (tl a ++ tl (Str.join a (z :: r))) := by
        show tl (w ++ a ++ Str.join a (z :: r)) = _
        rw [tl_append, tl_append, List.append_assoc]
      rw [e]
      simp only [List.length_append, List.length_cons, len_tl] at h2 ⊢
      rw [Nat.add_mul (r.length + 1) 1, Nat.one_mul]
      omega
@[simp] theorem dJoin_ev {a : DE} {b : DE} : dJoin a b ρ S = (a ρ S).bind fun s S => match s with | .str a => (b ρ S).bind fun y S => optM (pJoin S a y) S | _ => .bad := rfl
@[simp] theorem dSplit_ev {a : DE} {b : DE} : dSplit a b ρ S = (a ρ S).bind fun s S => match s with | .str a => (b ρ S).bind fun y S => (match y with | .str b => if (b.length == 0) = false ∧ a.length + 2 ≤ sizeLine then .ok ((Txt.split a b).map D.str) S else .bad | _ => .bad) | _ => .bad := rfl
theorem pAdd_str {a b : Str} (h : a.length + b.length ≤ 16777216) : pAdd S (.str a) (.str b) = some (.str (a ++ b)) := if_pos (by rw [sizeLine_val]; exact h)
theorem app_len (a b : Str) : (a ++ b).length = a.length + b.length := by rw [len_tl, len_tl, len_tl, tl_append, List.length_append]
@[simp] theorem pLen_str {z : Str} (h : z.length ≤ sizeLine) : pLen S [.str z] = some (.int (z.length : Nat)) := if_pos h
theorem pIdx_str0 {z : Str} {c : Nat} {r : List Nat} (h : tl z = c :: r) (hz : z.length ≤ sizeLine) : pIdx S (.str z) (.int 0) = some (.str ⟨#[c]⟩) := by
  show (if z.length ≤ sizeLine then (atI z.cps.toList 0).map fun c => D.str ⟨#[c]⟩ else none) = _
  rw [if_pos hz, atI_0]
  have : z.cps.toList = c :: r := h
  rw [this]; rfl
@[simp] theorem itms_str {z : Str} : itms (.str z) = some ((tl z).map fun c => D.str ⟨#[c]⟩) := rfl
@[simp] theorem pIn_sign {c : Nat} {z : Str} : pIn S (.str ⟨#[c]⟩) (.str z) = some (.bl (decide (c ∈ tl z))) := rfl
theorem all_map_true {β : Type} {p : β → Bool} {xs : List β} (h : ∀ x ∈ xs, p x = true) : pAll S [.lst (xs.map fun x => D.bl (p x))] = some (.bl true) := by
  rw [pAll_map, List.all_eq_true.mpr h]
theorem join_one (a w : Str) : Txt.join a [w] = w := by rw [join_eq]; rfl
theorem join_cons (a w z : Str) (r : List Str) : Txt.join a (w :: z :: r) = w ++ a ++ Txt.join a (z :: r) := by rw [join_eq, join_eq]; rfl
theorem app_assoc (a b c : Str) : a ++ b ++ c = a ++ (b ++ c) := ext_tl (by simp only [tl_append, List.append_assoc])
theorem join_fold (a w : Str) (r : List Str) : r.foldl (fun u x => u ++ a ++ x) w = Txt.join a (w :: r) := by
  induction r generalizing w with
  | nil => rw [join_one]; rfl
  | cons z r ih =>
    rw [List.foldl_cons, ih]
    cases r with
    | nil => rw [join_one, join_cons, join_one]
    | cons y r => rw [join_cons, join_cons, join_cons, app_assoc, app_assoc, app_assoc, app_assoc, app_assoc]
end
end Py

/-! Halls, in plain Lean, as data, as lines, as texts. -/
namespace Hal
open Py PySem TL
abbrev Gt : Nat := 1000000006
structure En where
  w : Str
  a : Nat
  b : Nat
structure Si where
  room : Nat
  slots : List Nat
  wants : Nat
  rounds : Nat
  called : Bool
structure Nt where
  h : Nat
  w : Str
  n : Nat
structure Ho where
  path : List Nat
  name : Str
  begun : Nat
  fin : En ⊕ Si
  diary : List Nt
structure Ak where
  path : List Nat
  who : Str
  nr : Nat
  sent : Nat
  fin : Option En
structure Hl where
  hour : Nat
  hs : List Ho
  as : List Ak
def intD (n : Nat) : D := .int (n : Nat)
def pathD (p : List Nat) : D := .tup (p.map intD)
def En.d (e : En) : D := .tup [.str e.w, .int (e.a : Nat), .int (e.b : Nat)]
def endD : Option En → D
  | none => .tup []
  | some e => e.d
def Si.d (s : Si) : D := .tup [.int (s.room : Nat), pathD s.slots, .int (s.wants : Nat), .int (s.rounds : Nat), .bl s.called]
def Nt.d (x : Nt) : D := .tup [.int (x.h : Nat), .str x.w, .int (x.n : Nat)]
def finE : En ⊕ Si → Option En
  | .inl e => some e
  | .inr _ => none
def finS : En ⊕ Si → D
  | .inl _ => .tup []
  | .inr s => s.d
def Ho.d (x : Ho) : D := .tup [pathD x.path, .str x.name, .int (x.begun : Nat), endD (finE x.fin), .tup (x.diary.map Nt.d), finS x.fin]
def Ak.d (x : Ak) : D := .tup [pathD x.path, .str x.who, .int (x.nr : Nat), .int (x.sent : Nat), endD x.fin]
def Hl.d (x : Hl) : D := .tup [.int (x.hour : Nat), .tup (x.hs.map Ho.d), .tup (x.as.map Ak.d)]
def endWs : List Str := ["good", "bad", "off"]
def noteWs : List Str := ["tell", "do", "done", "undo", "undone"]
def names : List Str := ["a", "ab", "house", "state", "note", "ask", "hour", "zzzzzzzz"]
def En.ok (e : En) : Prop := e.w ∈ endWs ∧ e.a ≤ Gt ∧ e.b ≤ Gt
def Si.ok (s : Si) : Prop := s.room ≤ Gt ∧ s.slots.length ≤ 40 ∧ (∀ x ∈ s.slots, x ≤ Gt) ∧ s.wants ≤ Gt ∧ s.rounds ≤ Gt
def Nt.ok (x : Nt) : Prop := x.h ≤ Gt ∧ x.w ∈ noteWs ∧ x.n ≤ Gt
def pOk (ls : List Nat) (p : List Nat) : Prop := p.length ∈ ls ∧ ∀ x ∈ p, x < 10
def fOk : En ⊕ Si → Prop
  | .inl e => e.ok
  | .inr s => s.ok
def Ho.ok (x : Ho) : Prop := pOk [0, 2, 4] x.path ∧ x.name ∈ names ∧ x.begun ≤ Gt ∧ fOk x.fin ∧ x.diary.length ≤ 3 ∧ ∀ n ∈ x.diary, n.ok
def Ak.ok (x : Ak) : Prop := pOk [2, 4, 6] x.path ∧ x.who ∈ names ∧ x.nr ≤ Gt ∧ x.sent ≤ Gt ∧ ∀ e, x.fin = some e → e.ok
def plt (p q : List Nat) : Bool := PySem.W.dataLt (pathD p).py (pathD q).py
structure Hl.ok (x : Hl) : Prop where
  hour : x.hour ≤ Gt
  hs : x.hs.length ≤ 5
  as : x.as.length ≤ 5
  ho : ∀ h ∈ x.hs, h.ok
  ao : ∀ a ∈ x.as, a.ok
  hr : (x.hs.map Ho.path).Pairwise fun p q => plt p q = true
  ar : (x.as.map Ak.path).Pairwise fun p q => plt p q = true
/-! lines -/
def wd (p : List Nat) : Str := if p = [] then "-" else Txt.join "." (p.map num)
def endT : Option En → Str
  | none => "-"
  | some e => e.w ++ ":" ++ num e.a ++ ":" ++ num e.b
def Si.line (s : Si) : List Str := [("state" : Str), num s.room, num s.wants, num s.rounds, num (if s.called then 1 else 0)] ++ s.slots.map num
def Nt.line (x : Nt) : List Str := ["note", num x.h, x.w, num x.n]
def finL : En ⊕ Si → List (List Str)
  | .inl _ => []
  | .inr s => [s.line]
def Ho.lines (x : Ho) : List (List Str) := ["house", wd x.path, x.name, num x.begun, endT (finE x.fin)] :: (finL x.fin ++ x.diary.map Nt.line)
def Ak.line (x : Ak) : List Str := ["ask", wd x.path, x.who, num x.nr, num x.sent, endT x.fin]
def Hl.lines (x : Hl) : List (List Str) := ["hour", num x.hour] :: (x.hs.flatMap Ho.lines ++ x.as.map Ak.line)
def ln (l : List Str) : Str := Txt.join " " l
def Hl.text (x : Hl) : Str := Txt.join "\n" (x.lines.map ln)
/-! words that a line can hold -/
def Cl (w : Str) : Prop := (32 ∉ tl w ∧ 10 ∉ tl w) ∧ w.length ≤ 30
theorem gt10 {n : Nat} (h : n ≤ Gt) : n < 10 ^ 10 := by
  have : Gt < 10 ^ 10 := by decide
  omega
theorem num_cl {n : Nat} (h : n ≤ Gt) : Cl (num n) := ⟨⟨by rw [tl_numS]; exact numL_free (by omega), by rw [tl_numS]; exact numL_free (by omega)⟩, by
  have := num_len (k := 10) (by omega) (gt10 h)
  omega⟩
instance : DecidablePred Cl := fun w => inferInstanceAs (Decidable (_ ∧ _))
theorem joinL_mem {S : List Nat} {c : Nat} : ∀ {ps : List (List Nat)}, c ∈ joinL S ps → c ∈ S ∨ ∃ p ∈ ps, c ∈ p
  | [], h => by cases h
  | [p], h => .inr ⟨p, List.mem_singleton.mpr rfl, h⟩
  | p :: q :: r, h => by
    have h : c ∈ p ++ (S ++ joinL S (q :: r)) := h
    rcases List.mem_append.mp h with h | h
    · exact .inr ⟨p, List.mem_cons_self, h⟩
    rcases List.mem_append.mp h with h | h
    · exact .inl h
    · rcases joinL_mem h with h | ⟨u, hu, hc⟩
      · exact .inl h
      · exact .inr ⟨u, List.mem_cons_of_mem _ hu, hc⟩
theorem join_free {y : Str} {c : Nat} {ws : List Str} (h1 : c ∉ tl y) (h2 : ∀ w ∈ ws, c ∉ tl w) : c ∉ tl (Txt.join y ws) := by
  rw [join_eq, tl_join]
  intro h
  rcases joinL_mem h with h | ⟨p, hp, hc⟩
  · exact h1 h
  · obtain ⟨w, hw, rfl⟩ := List.mem_map.mp hp
    exact h2 w hw hc
theorem lt_small {n : Nat} (h : n < 10) : n ≤ Gt := by
  have : 10 ≤ Gt := by decide
  omega
theorem wd_cl {p : List Nat} (h : ∀ x ∈ p, x < 10) (hl : p.length ≤ 6) : Cl (wd p) := by
  unfold wd
  split
  · decide +kernel
  · refine ⟨⟨join_free (by decide +kernel) fun w hw => ?_, join_free (by decide +kernel) fun w hw => ?_⟩, ?_⟩
    · obtain ⟨x, hx, rfl⟩ := List.mem_map.mp hw
      exact (num_cl (lt_small (h x hx))).1.1
    · obtain ⟨x, hx, rfl⟩ := List.mem_map.mp hw
      exact (num_cl (lt_small (h x hx))).1.2
    · have := join_len (a := ".") (ws := p.map num) (k := 1) fun w hw => by
        obtain ⟨x, hx, rfl⟩ := List.mem_map.mp hw
        exact num_len (by omega) (by have := h x hx; omega)
      have e : ("." : Str).length = 1 := by decide +kernel
      rw [e, List.length_map] at this
      omega
theorem str_mem {P : Str → Prop} [DecidablePred P] {l : List Str} (h : l.all (fun w => decide (P w)) = true) {w : Str} (hw : w ∈ l) : P w := of_decide_eq_true (List.all_eq_true.mp h w hw)
theorem endWs_cl {w : Str} (h : w ∈ endWs) : Cl w ∧ w.length ≤ 4 ∧ 58 ∉ tl w ∧ w ≠ "-" := str_mem (P := fun w => Cl w ∧ w.length ≤ 4 ∧ 58 ∉ tl w ∧ w ≠ "-") (by decide +kernel) h
theorem noteWs_cl {w : Str} (h : w ∈ noteWs) : Cl w := str_mem (by decide +kernel) h
theorem names_cl {w : Str} (h : w ∈ names) : Cl w := str_mem (by decide +kernel) h
theorem num10 {n : Nat} (h : n ≤ Gt) : (num n).length ≤ 10 := num_len (by omega) (gt10 h)
theorem app_free {c : Nat} {a b : Str} (h1 : c ∉ tl a) (h2 : c ∉ tl b) : c ∉ tl (a ++ b) := by
  rw [tl_append, List.mem_append]
  exact fun h => h.elim h1 h2
theorem endT_cl {e : Option En} (h : ∀ x, e = some x → x.ok) : Cl (endT e) := by
  cases e with
  | none => exact (show Cl "-" by decide +kernel)
  | some e =>
    obtain ⟨h1, h2, h3⟩ := h e rfl
    have k1 := endWs_cl h1
    have k2 := num_cl h2
    have k3 := num_cl h3
    have c1 : 32 ∉ tl (":" : Str) := by decide +kernel
    have c2 : 10 ∉ tl (":" : Str) := by decide +kernel
    have c3 : (":" : Str).length = 1 := by decide +kernel
    refine ⟨⟨app_free (app_free (app_free (app_free k1.1.1.1 c1) k2.1.1) c1) k3.1.1, app_free (app_free (app_free (app_free k1.1.1.2 c2) k2.1.2) c2) k3.1.2⟩, ?_⟩
    have := num10 h2
    have := num10 h3
    simp only [endT, app_len, c3]
    have := k1.2.1
    omega
/-- a line that can be split again -/
def Lk (l : List Str) : Prop := (∃ w r, l = w :: r) ∧ l.length ≤ 45 ∧ ∀ w ∈ l, Cl w
theorem b01 {b : Bool} : (if b = true then 1 else 0) ≤ Gt := by cases b <;> decide
theorem si_lk {s : Si} (h : s.ok) : Lk s.line := by
  obtain ⟨h1, h2, h3, h4, h5⟩ := h
  refine ⟨⟨_, _, rfl⟩, by simp [Si.line]; omega, fun w hw => ?_⟩
  simp only [Si.line, List.mem_append, List.mem_cons, List.not_mem_nil, or_false, List.mem_map] at hw
  rcases hw with (rfl | rfl | rfl | rfl | rfl) | ⟨x, hx, rfl⟩
  · decide +kernel
  · exact num_cl h1
  · exact num_cl h4
  · exact num_cl h5
  · exact num_cl b01
  · exact num_cl (h3 x hx)
theorem nt_lk {x : Nt} (h : x.ok) : Lk x.line := by
  obtain ⟨h1, h2, h3⟩ := h
  refine ⟨⟨_, _, rfl⟩, by simp [Nt.line], fun w hw => ?_⟩
  simp only [Nt.line, List.mem_cons, List.not_mem_nil, or_false] at hw
  rcases hw with rfl | rfl | rfl | rfl
  · decide +kernel
  · exact num_cl h1
  · exact noteWs_cl h2
  · exact num_cl h3
theorem len_le {p : List Nat} {ls : List Nat} (h : pOk ls p) (hl : ∀ n ∈ ls, n ≤ 6) : p.length ≤ 6 := hl _ h.1
theorem fin_ok {f : En ⊕ Si} (h : fOk f) : ∀ e, finE f = some e → e.ok := by
  cases f with
  | inl e => exact fun x hx => by cases hx; exact h
  | inr s => exact fun x hx => by cases hx
theorem ho_lk {x : Ho} (h : x.ok) : ∀ l ∈ x.lines, Lk l := by
  obtain ⟨h1, h2, h3, h4, h5, h6⟩ := h
  intro l hl
  simp only [Ho.lines, List.mem_cons, List.mem_append, List.mem_map] at hl
  rcases hl with rfl | hl | ⟨n, hn, rfl⟩
  · refine ⟨⟨_, _, rfl⟩, by simp, fun w hw => ?_⟩
    simp only [List.mem_cons, List.not_mem_nil, or_false] at hw
    rcases hw with rfl | rfl | rfl | rfl | rfl
    · decide +kernel
    · exact wd_cl h1.2 (len_le h1 (by decide))
    · exact names_cl h2
    · exact num_cl h3
    · exact endT_cl (fin_ok h4)
  · cases hf : x.fin with
    | inl e => rw [hf] at hl; cases hl
    | inr s =>
      rw [hf] at hl h4
      rw [List.mem_singleton.mp hl]
      exact si_lk h4
  · exact nt_lk (h6 n hn)
theorem ak_lk {x : Ak} (h : x.ok) : Lk x.line := by
  obtain ⟨h1, h2, h3, h4, h5⟩ := h
  refine ⟨⟨_, _, rfl⟩, by simp [Ak.line], fun w hw => ?_⟩
  simp only [Ak.line, List.mem_cons, List.not_mem_nil, or_false] at hw
  rcases hw with rfl | rfl | rfl | rfl | rfl | rfl
  · decide +kernel
  · exact wd_cl h1.2 (len_le h1 (by decide))
  · exact names_cl h2
  · exact num_cl h3
  · exact num_cl h4
  · exact endT_cl h5
theorem hl_lk {x : Hl} (h : x.ok) : ∀ l ∈ x.lines, Lk l := by
  intro l hl
  simp only [Hl.lines, List.mem_cons, List.mem_append, List.mem_map, List.mem_flatMap] at hl
  rcases hl with rfl | ⟨a, ha, hl⟩ | ⟨a, ha, rfl⟩
  · refine ⟨⟨_, _, rfl⟩, by simp, fun w hw => ?_⟩
    simp only [List.mem_cons, List.not_mem_nil, or_false] at hw
    rcases hw with rfl | rfl
    · decide +kernel
    · exact num_cl h.hour
  · exact ho_lk (h.ho a ha) l hl
  · exact ak_lk (h.ao a ha)
theorem flat_len {α β : Type} {f : α → List β} {k : Nat} : ∀ {l : List α}, (∀ x ∈ l, (f x).length ≤ k) → (l.flatMap f).length ≤ l.length * k
  | [], _ => by simp
  | x :: l, h => by
    have h1 := h x List.mem_cons_self
    have h2 := flat_len fun y hy => h y (List.mem_cons_of_mem _ hy)
    rw [List.flatMap_cons, List.length_append, List.length_cons, Nat.add_mul]
    omega
theorem ho_few {x : Ho} (h : x.ok) : x.lines.length ≤ 5 := by
  obtain ⟨h1, h2, h3, h4, h5, h6⟩ := h
  have : (finL x.fin).length ≤ 1 := by cases x.fin <;> simp [finL]
  simp only [Ho.lines, List.length_cons, List.length_append, List.length_map]
  omega
theorem hl_few {x : Hl} (h : x.ok) : x.lines.length ≤ 40 := by
  have h1 := flat_len (f := Ho.lines) (k := 5) fun a ha => ho_few (h.ho a ha)
  have h2 := h.hs
  have h3 := h.as
  simp only [Hl.lines, List.length_cons, List.length_append, List.length_map]
  omega
theorem sp_len : (" " : Str).length = 1 := by decide +kernel
theorem nl_len : ("\n" : Str).length = 1 := by decide +kernel
theorem ln_len {l : List Str} (h : Lk l) : (ln l).length ≤ 1395 := by
  have := join_len (a := " ") (ws := l) (k := 30) fun w hw => (h.2.2 w hw).2
  rw [sp_len] at this
  have := h.2.1
  unfold ln
  omega
theorem ln_free {l : List Str} (h : Lk l) : 10 ∉ tl (ln l) := join_free (by decide +kernel) fun w hw => (h.2.2 w hw).1.2
theorem ln_split {l : List Str} (h : Lk l) : Txt.split (ln l) " " = l := by
  obtain ⟨⟨w, r, e⟩, _, h3⟩ := h
  exact split_join (s := 32) (S := []) (by decide +kernel) (by decide +kernel) (by rw [e]; simp) fun p hp => (h3 p hp).1.1
theorem text_len {x : Hl} (h : x.ok) : x.text.length ≤ 60000 := by
  have := join_len (a := "\n") (ws := x.lines.map ln) (k := 1395) fun w hw => by
    obtain ⟨l, hl, rfl⟩ := List.mem_map.mp hw
    exact ln_len (hl_lk h l hl)
  rw [nl_len, List.length_map] at this
  have := hl_few h
  unfold Hl.text
  omega
theorem text_split {x : Hl} (h : x.ok) : Txt.split x.text "\n" = x.lines.map ln := split_join (s := 10) (S := []) (by decide +kernel) (by decide +kernel) (by simp [Hl.lines]) fun p hp => by
  obtain ⟨l, hl, rfl⟩ := List.mem_map.mp hp
  exact ln_free (hl_lk h l hl)
end Hal

/-! The program's texts of halls. -/
namespace K75
open PySem Py Hal TL
theorem path_sh {p : List Nat} : Sh 1 (pathD p) := Sh.tup fun d hd => by
  obtain ⟨x, _, rfl⟩ := List.mem_map.mp hd
  exact Sh.int
theorem path_eqv (p q : List Nat) : PyData.eqv (pathD p).py (pathD q).py = decide (p = q) := by
  simp only [pathD, D.py, eqv_tup]
  exact eqvAll_map fun x _ y _ => by
    simp only [intD, D.py, eqv_int]
    by_cases h : x = y <;> simp [h] <;> omega
theorem pEq_path0 {S : Store} {p : List Nat} : pEq S (pathD p) (.tup []) = some (.bl (decide (p = []))) := pEq_of (k := 1) path_sh (path_sh (p := [])) (by omega) (path_eqv p [])
theorem lt64 {n : Nat} (h : n ≤ Gt) : n < 2 ^ 64 := by
  have : Gt < 2 ^ 64 := by decide
  omega
theorem lc_num {S : Store} {g : DG} {e : DE} {ρ : Py.Env} {ρ' : Nat → Py.Env} {xs : List Nat} (h : ∀ x ∈ xs, g (intD x) ρ = some (ρ' x) ∧ e (ρ' x) S = .ok (.str (num x)) S) (l : xs.length ≤ 1000) :
    lcRun g dYes e ρ (xs.map intD) [] S = .ok ((xs.map num).map D.str) S := by
  have := lc_typedM (g := g) (e := e) (ρ := ρ) (S := S) (f := intD) (h := fun x => D.str (num x)) (ρ' := ρ') (ds := xs) (acc := []) h (by rw [sizeLine_val]; simp; omega)
  rw [this, List.nil_append, List.map_map]; rfl
theorem e_path_text {p : List Nat} (S : Store) (h : ∀ x ∈ p, x < 10) (hl : p.length ≤ 6) : f_path_text [pathD p] S = .ok (.str (wd p)) S := by
  have lc := lc_num (S := S) (g := gN 1) (e := dPr pStr (dCons (dVar 1) dNil)) (ρ := [some (Sl.val (pathD p)), none]) (ρ' := fun x => [some (Sl.val (pathD p)), some (Sl.val (intD x))]) (xs := p) (fun x hx => ⟨by simp, by
    have := pStr_nat (S := S) (lt64 (lt_small (h x hx)))
    simp [intD, this]⟩) (by omega)
  have hi : itms (pathD p) = some (p.map intD) := rfl
  have hj := pJoin_of (S := S) (a := ".") (ws := p.map num) (k := 1) (fun w hw => by
    obtain ⟨x, hx, rfl⟩ := List.mem_map.mp hw
    exact num_len (by omega) (by have := h x hx; omega)) (by
    have e : ("." : Str).length = 1 := by decide +kernel
    rw [e, List.length_map]; omega)
  simp [f_path_text, b_path_text, fnEnv, N_path_text, pEq_path0]
  by_cases h0 : p = []
  · simp [h0, wd]
  · simp [h0, wd, hi, wipeE]
    simp [lc, hj, -List.map_map]
theorem endD_sh {e : Option En} : Sh 1 (endD e) := by
  cases e with
  | none => exact Sh.tup (by simp)
  | some e => exact Sh.tup (by simp; exact ⟨Sh.str, Sh.int, Sh.int⟩)
theorem pEq_end0 {S : Store} {e : Option En} : pEq S (endD e) (.tup []) = some (.bl e.isNone) := pEq_of (k := 1) endD_sh (endD_sh (e := none)) (by omega) (by
  cases e <;> simp [endD, En.d, D.py, pyL])
theorem co_len : (":" : Str).length = 1 := by decide +kernel
theorem endT_parts {e : En} (S : Store) (h : e.ok) : pAdd S (.str e.w) (.str ":") = some (.str (e.w ++ ":")) ∧ pAdd S (.str (e.w ++ ":")) (.str (num e.a)) = some (.str (e.w ++ ":" ++ num e.a)) ∧
    pAdd S (.str (e.w ++ ":" ++ num e.a)) (.str ":") = some (.str (e.w ++ ":" ++ num e.a ++ ":")) ∧ pAdd S (.str (e.w ++ ":" ++ num e.a ++ ":")) (.str (num e.b)) = some (.str (endT (some e))) := by
  obtain ⟨h1, h2, h3⟩ := h
  have k1 := (endWs_cl h1).2.1
  have k2 := num10 h2
  have k3 := num10 h3
  have c := co_len
  refine ⟨pAdd_str (by omega), pAdd_str (by rw [app_len]; omega), pAdd_str (by rw [app_len, app_len]; omega), pAdd_str (by rw [app_len, app_len, app_len]; omega)⟩
theorem e_end_text {e : Option En} (S : Store) (h : ∀ x, e = some x → x.ok) : f_end_text [endD e] S = .ok (.str (endT e)) S := by
  simp [f_end_text, b_end_text, fnEnv, N_end_text, pEq_end0]
  cases e with
  | none => simp [endT]
  | some e =>
    have he := h e rfl
    obtain ⟨p1, p2, p3, p4⟩ := endT_parts S he
    have s1 := pStr_nat (S := S) (lt64 he.2.1)
    have s2 := pStr_nat (S := S) (lt64 he.2.2)
    simp [endD, En.d, p1, s1, p2, p3, s2, p4]
theorem pInt_b {S : Store} {b : Bool} : pInt S [.bl b] = some (intD (if b then 1 else 0)) := by cases b <;> rfl
theorem e_state_line {s : Si} (S : Store) (h : s.ok) : f_state_line [s.d] S = .ok (.str (ln s.line)) S := by
  obtain ⟨h1, h2, h3, h4, h5⟩ := id h
  have hj := pJoin_of (S := S) (a := " ") (ws := s.line) (k := 30) (fun w hw => ((si_lk h).2.2 w hw).2) (by
    have := (si_lk h).2.1
    rw [sp_len]; omega)
  have lc := lc_num (S := S) (g := gN 7) (e := dPr pStr (dCons (dVar 7) dNil)) (ρ := [some (Sl.val s.d), some (Sl.val (intD s.room)), some (Sl.val (pathD s.slots)), some (Sl.val (intD s.wants)), some (Sl.val (intD s.rounds)), some (Sl.val (.bl s.called)), some (Sl.val (.lst ((s.room :: s.wants :: s.rounds :: (if s.called then 1 else 0) :: s.slots).map intD))), none])
    (ρ' := fun x => [some (Sl.val s.d), some (Sl.val (intD s.room)), some (Sl.val (pathD s.slots)), some (Sl.val (intD s.wants)), some (Sl.val (intD s.rounds)), some (Sl.val (.bl s.called)), some (Sl.val (.lst ((s.room :: s.wants :: s.rounds :: (if s.called then 1 else 0) :: s.slots).map intD))), some (Sl.val (intD x))]) (xs := s.room :: s.wants :: s.rounds :: (if s.called then 1 else 0) :: s.slots) (fun x hx => ⟨by simp, by
    have hx2 : x ≤ Gt := by
      simp only [List.mem_cons] at hx
      rcases hx with rfl | rfl | rfl | rfl | hx
      · exact h1
      · exact h4
      · exact h5
      · exact b01
      · exact h3 x hx
    have := pStr_nat (S := S) (lt64 hx2)
    simp [intD, this]⟩) (by simp; omega)
  have a1 : pAdd S (.lst [intD s.room, intD s.wants, intD s.rounds, intD (if s.called then 1 else 0)]) (.lst (s.slots.map intD)) = some (.lst ((s.room :: s.wants :: s.rounds :: (if s.called then 1 else 0) :: s.slots).map intD)) := by
    rw [pAdd_lst (by rw [sizeLine_val]; simp; omega)]; simp
  have a2 : pAdd S (.lst [.str "state"]) (.lst (((s.room :: s.wants :: s.rounds :: (if s.called then 1 else 0) :: s.slots).map num).map D.str)) = some (.lst (s.line.map D.str)) := by
    rw [pAdd_lst (by rw [sizeLine_val]; simp; omega)]; simp [Si.line]
  have hq : qList S [pathD s.slots] = some (s.slots.map intD) := rfl
  have hb : (gT 5 (gsC (gN 1) (gsC (gN 2) (gsC (gN 3) (gsC (gN 4) (gsC (gN 5) gs0)))))) s.d [some (Sl.val s.d), none, none, none, none, none, none, none] = some [some (Sl.val s.d), some (Sl.val (intD s.room)), some (Sl.val (pathD s.slots)), some (Sl.val (intD s.wants)), some (Sl.val (intD s.rounds)), some (Sl.val (.bl s.called)), none, none] := by
    simp [Si.d, intD]
  have h4' : (4 : Nat) ≤ sizeLine := by rw [sizeLine_val]; omega
  have h1' : (1 : Nat) ≤ sizeLine := by rw [sizeLine_val]; omega
  simp [f_state_line, b_state_line, fnEnv, N_state_line, hb, pInt_b, h4', h1', hq, a1, wipeE, -pInt_bl]
  rw [List.map_cons, List.map_cons, List.map_cons, List.map_cons] at lc
  simp [lc, a1, a2, hj, ln, -List.map_map, -List.map_append, -List.map_cons]
end K75

/-! The program's text of a hall. -/
namespace K75
open PySem Py Hal TL
theorem sz {n : Nat} (h : n ≤ 1000) : n ≤ sizeLine := by rw [sizeLine_val]; omega
theorem join_lk {l : List Str} (S : Store) (h : Lk l) : pJoin S " " (.lst (l.map D.str)) = some (.str (ln l)) := pJoin_of (k := 30) (fun w hw => (h.2.2 w hw).2) (by
  have := h.2.1
  rw [sp_len]; omega)
theorem finS_sh {f : En ⊕ Si} : Sh 2 (finS f) := by
  cases f with
  | inl e => exact Sh.tup (by simp)
  | inr s => exact Sh.tup (by simp; exact ⟨Sh.int, path_sh, Sh.int, Sh.int, Sh.bl⟩)
theorem pNe_fin0 {S : Store} {f : En ⊕ Si} : pNe S (finS f) (.tup []) = some (.bl (finE f).isNone) := by
  cases f with
  | inl e => exact pNe_of (k := 2) (b := true) finS_sh (Sh.tup (by simp)) (by omega) (by simp [finS, D.py, pyL])
  | inr s => exact pNe_of (k := 2) (b := false) (finS_sh (f := .inr s)) (Sh.tup (by simp)) (by omega) (by simp [finS, Si.d, D.py, pyL])
abbrev ntB : DS := dOwn 7 fApp (dJoin (dCst (.str " ")) (dLst (dDisp (dCons (dCst (.str "note")) (dCons (dPr pStr (dCons (dVar 8) (dNil))) (dCons (dVar 9) (dCons (dPr pStr (dCons (dVar 10) (dNil))) (dNil))))))))
abbrev ntG : DG := gT 3 (gsC (gN 8) (gsC (gN 9) (gsC (gN 10) (gs0))))
theorem notes_loop (S : Store) (s0 s1 s2 s3 s4 s5 s6 : Option Sl) : ∀ (ns : List Nt) (acc : List D) (x y z : Option Sl), (∀ n ∈ ns, n.ok) → acc.length + ns.length ≤ 1000 →
    ∃ x' y' z', forRun ntG ntB (ns.map Nt.d) [s0, s1, s2, s3, s4, s5, s6, some (.own acc), x, y, z] S = some (.nx [s0, s1, s2, s3, s4, s5, s6, some (.own (acc ++ ns.map fun n => .str (ln n.line))), x', y', z'], S)
  | [], acc, x, y, z, _, _ => ⟨x, y, z, by simp [forRun]⟩
  | n :: ns, acc, x, y, z, h, l => by
    have hn := h n List.mem_cons_self
    simp only [List.length_cons] at l
    obtain ⟨x', y', z', e⟩ := notes_loop S s0 s1 s2 s3 s4 s5 s6 ns (acc ++ [.str (ln n.line)]) (some (.val (intD n.h))) (some (.val (.str n.w))) (some (.val (intD n.n))) (fun m hm => h m (List.mem_cons_of_mem _ hm)) (by simp; omega)
    refine ⟨x', y', z', ?_⟩
    have a1 := pStr_nat (S := S) (lt64 hn.1)
    have a2 := pStr_nat (S := S) (lt64 hn.2.2)
    have a3 := join_lk S (nt_lk hn)
    have a4 : fApp acc (.str (ln n.line)) = some (acc ++ [.str (ln n.line)]) := fApp_ok (by rw [sizeLine_val]; omega)
    have e4 : (4 : Nat) ≤ sizeLine := sz (by omega)
    simp only [Nt.line, List.map_cons, List.map_nil] at a3
    rw [List.map_cons]
    unfold forRun
    simp only [List.append_assoc, List.cons_append, List.nil_append, intD] at e
    simp [Nt.d, a1, a2, e4, a3] 
    simp only [Nt.line] at a4 e ⊢
    simp [a4, e]
theorem e_house_lines {x : Ho} (S : Store) (h : x.ok) : f_house_lines [x.d] S = .ok (.lst (x.lines.map fun l => .str (ln l))) S := by
  obtain ⟨h1, h2, h3, h4, h5, h6⟩ := id h
  have hb : (gT 6 (gsC (gN 1) (gsC (gN 2) (gsC (gN 3) (gsC (gN 4) (gsC (gN 5) (gsC (gN 6) gs0))))))) x.d [some (Sl.val x.d), none, none, none, none, none, none, none, none, none, none] = some [some (Sl.val x.d), some (Sl.val (pathD x.path)), some (Sl.val (.str x.name)), some (Sl.val (intD x.begun)), some (Sl.val (endD (finE x.fin))), some (Sl.val (.tup (x.diary.map Nt.d))), some (Sl.val (finS x.fin)), none, none, none, none] := by
    simp [Ho.d, intD]
  have a0 : (["house", wd x.path, x.name, num x.begun, endT (finE x.fin)] : List Str) ∈ x.lines := List.mem_cons_self
  have a1 := join_lk S (ho_lk h _ a0)
  simp only [List.map_cons, List.map_nil] at a1
  have a2 := e_path_text S h1.2 (len_le h1 (by decide))
  have a3 : pStr S [intD x.begun] = _ := pStr_nat (lt64 h3)
  have a4 := e_end_text S (fin_ok h4)
  have e5 : (5 : Nat) ≤ sizeLine := sz (by omega)
  have e1 : (1 : Nat) ≤ sizeLine := sz (by omega)
  simp [f_house_lines, b_house_lines, fnEnv, N_house_lines, hb, a2, a3, a4, e5, a1, e1, pNe_fin0]
  cases hf : x.fin with
  | inl e =>
    obtain ⟨x', y', z', hl⟩ := notes_loop S (some (Sl.val x.d)) (some (Sl.val (pathD x.path))) (some (Sl.val (.str x.name))) (some (Sl.val (intD x.begun))) (some (Sl.val (endD (finE x.fin)))) (some (Sl.val (.tup (x.diary.map Nt.d)))) (some (Sl.val (finS x.fin))) x.diary [.str (ln ["house", wd x.path, x.name, num x.begun, endT (finE x.fin)])] none none none h6 (by simp; omega)
    rw [hf] at hl
    simp [finE, hl, Ho.lines, finL, hf, List.map_map]
    simp [finE] at hl
    simp [hl]
  | inr s =>
    rw [hf] at h4
    have a6 := e_state_line S h4
    obtain ⟨x', y', z', hl⟩ := notes_loop S (some (Sl.val x.d)) (some (Sl.val (pathD x.path))) (some (Sl.val (.str x.name))) (some (Sl.val (intD x.begun))) (some (Sl.val (endD (finE x.fin)))) (some (Sl.val (.tup (x.diary.map Nt.d)))) (some (Sl.val (finS x.fin))) x.diary [.str (ln ["house", wd x.path, x.name, num x.begun, endT (finE x.fin)]), .str (ln s.line)] none none none h6 (by simp; omega)
    rw [hf] at hl
    have a7 : ∀ (d e : D), fApp [d] e = some [d, e] := fun d e => fApp_ok (by rw [sizeLine_val]; simp)
    simp [finE, finS, a6, a7]
    simp [finE, finS] at hl
    simp [hl, Ho.lines, finL, hf, finE]
end K75

/-! The text of a hall: the program's, the law's. -/
namespace K75
open PySem Py Hal TL
abbrev strl (l : List Str) : D := .str (ln l)
theorem houses_loop (S : Store) (s0 s1 s2 s3 : Option Sl) (t0 t1 t2 t3 t4 : Option Sl) : ∀ (hs : List Ho) (acc : List D) (x : Option Sl), (∀ h ∈ hs, h.ok) → acc.length + hs.length * 5 ≤ 1000 →
    ∃ x', forRun (gN 5) (dOwn 4 fExt (dCall 1 f_house_lines (dCons (dVar 5) (dNil)))) (hs.map Ho.d) [s0, s1, s2, s3, some (.own acc), x, t0, t1, t2, t3, t4] S = some (.nx [s0, s1, s2, s3, some (.own (acc ++ (hs.flatMap Ho.lines).map strl)), x', t0, t1, t2, t3, t4], S)
  | [], acc, x, _, _ => ⟨x, by simp [forRun]⟩
  | h :: hs, acc, x, ok, l => by
    have hn := ok h List.mem_cons_self
    have hf := ho_few hn
    simp only [List.length_cons] at l
    obtain ⟨x', e⟩ := houses_loop S s0 s1 s2 s3 t0 t1 t2 t3 t4 hs (acc ++ h.lines.map strl) (some (.val h.d)) (fun m hm => ok m (List.mem_cons_of_mem _ hm)) (by simp; omega)
    refine ⟨x', ?_⟩
    have a1 := e_house_lines S hn
    have a4 : fExt acc (.lst (h.lines.map strl)) = some (acc ++ h.lines.map strl) := if_pos (by rw [sizeLine_val]; simp; omega)
    rw [List.map_cons]
    unfold forRun
    simp [a1, a4]
    simp only [List.append_assoc] at e
    rw [e]
abbrev akB : DS := dOwn 4 fApp (dJoin (dCst (.str " ")) (dLst (dDisp (dCons (dCst (.str "ask")) (dCons (dCall 1 f_path_text (dCons (dVar 6) (dNil))) (dCons (dVar 7) (dCons (dPr pStr (dCons (dVar 8) (dNil))) (dCons (dPr pStr (dCons (dVar 9) (dNil))) (dCons (dCall 1 f_end_text (dCons (dVar 10) (dNil))) (dNil))))))))))
abbrev akG : DG := gT 5 (gsC (gN 6) (gsC (gN 7) (gsC (gN 8) (gsC (gN 9) (gsC (gN 10) (gs0))))))
theorem asks_loop (S : Store) (s0 s1 s2 s3 s5 : Option Sl) : ∀ (as : List Ak) (acc : List D) (t0 t1 t2 t3 t4 : Option Sl), (∀ h ∈ as, h.ok) → acc.length + as.length ≤ 1000 →
    ∃ ρ', forRun akG akB (as.map Ak.d) [s0, s1, s2, s3, some (.own acc), s5, t0, t1, t2, t3, t4] S = some (.nx ([s0, s1, s2, s3, some (.own (acc ++ as.map fun a => strl a.line)), s5] ++ ρ'), S)
  | [], acc, t0, t1, t2, t3, t4, _, _ => ⟨[t0, t1, t2, t3, t4], by simp [forRun]⟩
  | a :: as, acc, t0, t1, t2, t3, t4, ok, l => by
    have hn := ok a List.mem_cons_self
    simp only [List.length_cons] at l
    obtain ⟨ρ', e⟩ := asks_loop S s0 s1 s2 s3 s5 as (acc ++ [strl a.line]) (some (.val (pathD a.path))) (some (.val (.str a.who))) (some (.val (intD a.nr))) (some (.val (intD a.sent))) (some (.val (endD a.fin))) (fun m hm => ok m (List.mem_cons_of_mem _ hm)) (by simp; omega)
    refine ⟨ρ', ?_⟩
    obtain ⟨h1, h2, h3, h4, h5⟩ := id hn
    have a1 := e_path_text S h1.2 (len_le h1 (by decide))
    have a2 : pStr S [intD a.nr] = _ := pStr_nat (lt64 h3)
    have a3 : pStr S [intD a.sent] = _ := pStr_nat (lt64 h4)
    have a4 := e_end_text S h5
    have a5 := join_lk S (ak_lk hn)
    have a6 : fApp acc (strl a.line) = some (acc ++ [strl a.line]) := fApp_ok (by rw [sizeLine_val]; omega)
    have e6 : (6 : Nat) ≤ sizeLine := sz (by omega)
    simp only [Ak.line, List.map_cons, List.map_nil] at a5
    have hg : akG a.d [s0, s1, s2, s3, some (.own acc), s5, t0, t1, t2, t3, t4] = some [s0, s1, s2, s3, some (.own acc), s5, some (.val (pathD a.path)), some (.val (.str a.who)), some (.val (intD a.nr)), some (.val (intD a.sent)), some (.val (endD a.fin))] := by
      simp [Ak.d, intD]
    rw [List.map_cons]
    unfold forRun
    rw [hg]
    simp [a1, a2, a3, a4, e6, a5]
    simp only [strl, Ak.line, List.append_assoc, List.cons_append, List.nil_append, List.map_cons] at a6 e ⊢
    simp [a6]
    exact e
theorem hour_line {n : Nat} : ("hour " : Str) ++ num n = ln ["hour", num n] := by
  unfold ln
  rw [join_cons, join_one]
  have : ("hour " : Str) = ("hour" : Str) ++ (" " : Str) := by decide +kernel
  rw [this]
theorem text_join {x : Hl} (S : Store) (h : x.ok) : pJoin S "\n" (.lst ((x.lines.map ln).map D.str)) = some (.str x.text) := pJoin_of (k := 1395) (fun w hw => by
  obtain ⟨l, hl, rfl⟩ := List.mem_map.mp hw
  exact ln_len (hl_lk h l hl)) (by
  have := hl_few h
  rw [nl_len, List.length_map]; omega)
theorem lines_str {x : Hl} : (x.lines.map ln).map D.str = strl ["hour", num x.hour] :: ((x.hs.flatMap Ho.lines).map strl ++ x.as.map fun a => strl a.line) := by
  simp only [Hl.lines, List.map_map, List.map_cons, List.map_append]
  rfl
theorem e_hall_text {x : Hl} (S : Store) (h : x.ok) : f_hall_text [x.d] S = .ok (.str x.text) S := by
  have hb : (gT 3 (gsC (gN 1) (gsC (gN 2) (gsC (gN 3) gs0)))) x.d [some (Sl.val x.d), none, none, none, none, none, none, none, none, none, none] = some [some (Sl.val x.d), some (Sl.val (intD x.hour)), some (Sl.val (.tup (x.hs.map Ho.d))), some (Sl.val (.tup (x.as.map Ak.d))), none, none, none, none, none, none, none] := by
    simp [Hl.d, intD]
  have a1 : pStr S [intD x.hour] = _ := pStr_nat (lt64 h.hour)
  have a2 : pAdd S (.str "hour ") (.str (num x.hour)) = some (strl ["hour", num x.hour]) := by
    rw [pAdd_str (by have := num10 h.hour; have e : ("hour " : Str).length = 5 := by decide +kernel
                     omega), hour_line]
  have e1 : (1 : Nat) ≤ sizeLine := sz (by omega)
  obtain ⟨x', l1⟩ := houses_loop S (some (Sl.val x.d)) (some (Sl.val (intD x.hour))) (some (Sl.val (.tup (x.hs.map Ho.d)))) (some (Sl.val (.tup (x.as.map Ak.d)))) none none none none none x.hs [strl ["hour", num x.hour]] none h.ho (by have := h.hs; simp; omega)
  obtain ⟨ρ', l2⟩ := asks_loop S (some (Sl.val x.d)) (some (Sl.val (intD x.hour))) (some (Sl.val (.tup (x.hs.map Ho.d)))) (some (Sl.val (.tup (x.as.map Ak.d)))) x' x.as ([strl ["hour", num x.hour]] ++ (x.hs.flatMap Ho.lines).map strl) none none none none none h.ao (by
    have := hl_few h
    simp only [Hl.lines, List.length_cons, List.length_append, List.length_map] at this
    simp only [List.length_cons, List.length_append, List.length_map, List.length_nil]
    omega)
  have a3 := text_join S h
  rw [lines_str] at a3
  simp [f_hall_text, b_hall_text, fnEnv, N_hall_text, hb, a1, a2, e1]
  rw [l1]
  simp only [seqR_nx, dSeq_ev, dFor_ev, dItems_ev, dVar_ev]
  simp
  simp only [List.cons_append, List.nil_append, List.append_assoc] at l2
  rw [l2]
  simp [a3]
end K75

/-! The law's text of a hall. -/
namespace K75
open PySem Py Hal TL
theorem pth_loop (S : Store) (s0 : Option Sl) : ∀ (ps : List Nat) (w : Str) (x : Option Sl), (∀ p ∈ ps, p < 10) → w.length + ps.length * 2 ≤ 1000 →
    ∃ x', forRun (gN 2) (dSet 1 (qV (dOp pAdd (dOp pAdd (dVar 1) (dCst (.str "."))) (dPr pStr (dCons (dVar 2) (dNil)))))) (ps.map intD) [s0, some (.val (.str w)), x] S = some (.nx [s0, some (.val (.str (ps.foldl (fun u p => u ++ "." ++ num p) w))), x'], S)
  | [], w, x, _, _ => ⟨x, by simp [forRun]⟩
  | p :: ps, w, x, ok, l => by
    have hp := ok p List.mem_cons_self
    simp only [List.length_cons] at l
    have e1 : ("." : Str).length = 1 := by decide +kernel
    have e2 : (num p).length ≤ 1 := num_len (by omega) (by omega)
    obtain ⟨x', e⟩ := pth_loop S s0 ps (w ++ "." ++ num p) (some (.val (intD p))) (fun m hm => ok m (List.mem_cons_of_mem _ hm)) (by rw [app_len, app_len, e1]; omega)
    refine ⟨x', ?_⟩
    have a1 : pAdd S (.str w) (.str ".") = some (.str (w ++ ".")) := pAdd_str (by omega)
    have a2 : pStr S [intD p] = some (.str (num p)) := pStr_nat (lt64 (lt_small hp))
    have a3 : pAdd S (.str (w ++ ".")) (.str (num p)) = some (.str (w ++ "." ++ num p)) := pAdd_str (by rw [app_len]; omega)
    rw [List.map_cons]
    unfold forRun
    simp [a1, a2, a3, e]
theorem l_path_word {p : List Nat} (S : Store) (h : ∀ x ∈ p, x < 10) (hl : p.length ≤ 6) : f__law_path_word [pathD p] S = .ok (.str (wd p)) S := by
  have h1 : pLen S [pathD p] = some (.int (p.length : Nat)) := by simp [pathD]
  simp [f__law_path_word, b__law_path_word, fnEnv, N__law_path_word, h1]
  cases p with
  | nil => simp [wd]
  | cons x r =>
    have hx := h x List.mem_cons_self
    have h2 : pIdx S (pathD (x :: r)) (.int 0) = some (intD x) := by simp [pathD]
    have h3 : pStr S [intD x] = some (.str (num x)) := pStr_nat (lt64 (lt_small hx))
    have h4 : pSl S (pathD (x :: r)) (some 1) none = some (.tup (r.map intD)) := by simp [pathD, cut_drop1]
    have e2 : (num x).length ≤ 1 := num_len (by omega) (by omega)
    obtain ⟨x', e⟩ := pth_loop S (some (.val (pathD (x :: r)))) r (num x) none (fun m hm => h m (List.mem_cons_of_mem _ hm)) (by simp at hl; omega)
    have h0 : ¬ ((r.length : Int) + 1 = 0) := by omega
    simp [h0, h2, h3, h4, e, wd]
    have := join_fold "." (num x) (r.map num)
    rw [List.foldl_map] at this
    exact this
theorem l_end_word {e : Option En} (S : Store) (h : ∀ x, e = some x → x.ok) : f__law_end_word [endD e] S = .ok (.str (endT e)) S := by
  simp [f__law_end_word, b__law_end_word, fnEnv, N__law_end_word]
  cases e with
  | none => simp [endT, endD]
  | some e =>
    have he := h e rfl
    obtain ⟨p1, p2, p3, p4⟩ := endT_parts S he
    have s1 := pStr_nat (S := S) (lt64 he.2.1)
    have s2 := pStr_nat (S := S) (lt64 he.2.2)
    simp [endD, En.d, p1, s1, p2, p3, s2, p4]
abbrev lstl (l : List Str) : D := .lst (l.map D.str)
abbrev lnB : DS := dOwn 1 fApp (dLst (dDisp (dCons (dCst (.str "note")) (dCons (dPr pStr (dCons (dVar 9) (dNil))) (dCons (dVar 10) (dCons (dPr pStr (dCons (dVar 11) (dNil))) (dNil)))))))
abbrev lnG : DG := gT 3 (gsC (gN 9) (gsC (gN 10) (gsC (gN 11) (gs0))))
theorem lnotes_loop (S : Store) (s0 s2 s3 s4 s5 s6 s7 s8 s12 s13 : Option Sl) : ∀ (ns : List Nt) (acc : List D) (x y z : Option Sl), (∀ n ∈ ns, n.ok) → acc.length + ns.length ≤ 1000 →
    ∃ x' y' z', forRun lnG lnB (ns.map Nt.d) [s0, some (.own acc), s2, s3, s4, s5, s6, s7, s8, x, y, z, s12, s13] S = some (.nx [s0, some (.own (acc ++ ns.map fun n => lstl n.line)), s2, s3, s4, s5, s6, s7, s8, x', y', z', s12, s13], S)
  | [], acc, x, y, z, _, _ => ⟨x, y, z, by simp [forRun]⟩
  | n :: ns, acc, x, y, z, h, l => by
    have hn := h n List.mem_cons_self
    simp only [List.length_cons] at l
    obtain ⟨x', y', z', e⟩ := lnotes_loop S s0 s2 s3 s4 s5 s6 s7 s8 s12 s13 ns (acc ++ [lstl n.line]) (some (.val (intD n.h))) (some (.val (.str n.w))) (some (.val (intD n.n))) (fun m hm => h m (List.mem_cons_of_mem _ hm)) (by simp; omega)
    refine ⟨x', y', z', ?_⟩
    have a1 : pStr S [intD n.h] = _ := pStr_nat (lt64 hn.1)
    have a2 : pStr S [intD n.n] = _ := pStr_nat (lt64 hn.2.2)
    have a4 : fApp acc (lstl n.line) = some (acc ++ [lstl n.line]) := fApp_ok (by rw [sizeLine_val]; omega)
    have e4 : (4 : Nat) ≤ sizeLine := sz (by omega)
    have hg : lnG n.d [s0, some (.own acc), s2, s3, s4, s5, s6, s7, s8, x, y, z, s12, s13] = some [s0, some (.own acc), s2, s3, s4, s5, s6, s7, s8, some (.val (intD n.h)), some (.val (.str n.w)), some (.val (intD n.n)), s12, s13] := by
      simp [Nt.d, intD]
    rw [List.map_cons]
    unfold forRun
    rw [hg]
    simp [a1, a2, e4]
    simp only [lstl, Nt.line, List.append_assoc, List.cons_append, List.nil_append, List.map_cons, List.map_nil] at a4 e ⊢
    simp [a4, e]
theorem len_fin {S : Store} {f : En ⊕ Si} : pLen S [finS f] = some (.int (if (finE f).isSome then 0 else 5)) := by cases f <;> simp [finS, finE, Si.d]
theorem n01 : ∀ b : Bool, num (if b then 1 else 0) = if b then "1" else "0" := by decide +kernel
abbrev lhG : DG := gT 6 (gsC (gN 2) (gsC (gN 3) (gsC (gN 4) (gsC (gN 5) (gsC (gN 6) (gsC (gN 7) (gs0)))))))
abbrev lsB : DS := dSeq (dSet 8 (qV (dLst (dDisp (dCons (dCst (.str "state")) (dCons (dPr pStr (dCons (dOp pIdx (dVar 7) (dCst (.int 0))) (dNil))) (dCons (dPr pStr (dCons (dOp pIdx (dVar 7) (dCst (.int 2))) (dNil))) (dCons (dPr pStr (dCons (dOp pIdx (dVar 7) (dCst (.int 3))) (dNil))) (dCons (dOp pIdx (dLst (dDisp (dCons (dCst (.str "0")) (dCons (dCst (.str "1")) (dNil))))) (dPr pInt (dCons (dOp pIdx (dVar 7) (dCst (.int 4))) (dNil)))) (dNil)))))))))) (dOwn 1 fApp (dOp pAdd (dVar 8) (dLst (dLc (dItems (dOp pIdx (dVar 7) (dCst (.int 1)))) (gN 11) (dYes) (dPr pStr (dCons (dVar 11) (dNil))) [11]))))
abbrev lhB : DS := dSeq (dOwn 1 fApp (dLst (dDisp (dCons (dCst (.str "house")) (dCons (dCall 1 f__law_path_word (dCons (dVar 2) (dNil))) (dCons (dVar 3) (dCons (dPr pStr (dCons (dVar 4) (dNil))) (dCons (dCall 1 f__law_end_word (dCons (dVar 5) (dNil))) (dNil))))))))) (dSeq (dIfS (dTest (dOp pGt (dPr pLen (dCons (dVar 7) (dNil))) (dCst (.int 0)))) lsB (dNop)) (dFor (dItems (dVar 6)) lnG lnB))
theorem lstate {s : Si} (S : Store) (h : s.ok) (acc : List D) (ha : acc.length ≤ 900) (s0 s2 s3 s4 s5 s6 s8 s9 s10 s11 s12 s13 : Option Sl) : ∃ s8', lsB [s0, some (.own acc), s2, s3, s4, s5, s6, some (.val s.d), s8, s9, s10, s11, s12, s13] S = some (.nx [s0, some (.own (acc ++ [lstl s.line])), s2, s3, s4, s5, s6, some (.val s.d), s8', s9, s10, s11, s12, s13], S) := by
  obtain ⟨h1, h2, h3, h4, h5⟩ := id h
  have i0 : pIdx S s.d (.int 0) = some (intD s.room) := rfl
  have i1 : pIdx S s.d (.int 1) = some (pathD s.slots) := rfl
  have i2 : pIdx S s.d (.int 2) = some (intD s.wants) := rfl
  have i3 : pIdx S s.d (.int 3) = some (intD s.rounds) := rfl
  have i4 : pIdx S s.d (.int 4) = some (.bl s.called) := rfl
  have p1 : pStr S [intD s.room] = _ := pStr_nat (lt64 h1)
  have p2 : pStr S [intD s.wants] = _ := pStr_nat (lt64 h4)
  have p3 : pStr S [intD s.rounds] = _ := pStr_nat (lt64 h5)
  have e4 : (5 : Nat) ≤ sizeLine := sz (by omega)
  have e2 : (2 : Nat) ≤ sizeLine := sz (by omega)
  have ib : pIdx S (.lst [.str "0", .str "1"]) (.int (if s.called = true then 1 else 0)) = some (.str (num (if s.called then 1 else 0))) := by
    rw [n01]
    cases s.called <;> rfl
  refine ⟨some (.val (.lst ([("state" : Str), num s.room, num s.wants, num s.rounds, num (if s.called then 1 else 0)].map D.str))), ?_⟩
  have lc := lc_num (S := S) (g := gN 11) (e := dPr pStr (dCons (dVar 11) dNil)) (ρ := [s0, some (.own acc), s2, s3, s4, s5, s6, some (.val s.d), some (.val (.lst ([("state" : Str), num s.room, num s.wants, num s.rounds, num (if s.called then 1 else 0)].map D.str))), s9, s10, none, s12, s13])
    (ρ' := fun x => [s0, some (.own acc), s2, s3, s4, s5, s6, some (.val s.d), some (.val (.lst ([("state" : Str), num s.room, num s.wants, num s.rounds, num (if s.called then 1 else 0)].map D.str))), s9, s10, some (.val (intD x)), s12, s13]) (xs := s.slots) (fun x hx => ⟨by simp, by
    have := pStr_nat (S := S) (lt64 (h3 x hx))
    simp [intD, this]⟩) (by omega)
  have hi : itms (pathD s.slots) = some (s.slots.map intD) := rfl
  have ap : pAdd S (.lst ([("state" : Str), num s.room, num s.wants, num s.rounds, num (if s.called then 1 else 0)].map D.str)) (.lst ((s.slots.map num).map D.str)) = some (lstl s.line) := by
    rw [pAdd_lst (by rw [sizeLine_val]; simp; omega)]; simp [Si.line, lstl]
  have a4 : fApp acc (lstl s.line) = some (acc ++ [lstl s.line]) := fApp_ok (by rw [sizeLine_val]; omega)
  simp only [List.map_cons, List.map_nil] at lc ap ⊢
  simp [i0, i1, i2, i3, i4, p1, p2, p3, e4, e2, ib, hi, wipeE]
  simp [lc, ap, a4, -List.map_map]
theorem lhouses_loop (S : Store) (s0 s12 s13 : Option Sl) : ∀ (hs : List Ho) (acc : List D) (t : Option Sl × Option Sl × Option Sl × Option Sl × Option Sl × Option Sl × Option Sl × Option Sl × Option Sl × Option Sl), (∀ h ∈ hs, h.ok) → acc.length + hs.length * 5 ≤ 800 →
    ∃ t2 t3 t4 t5 t6 t7 t8 t9 t10 t11, forRun lhG lhB (hs.map Ho.d) [s0, some (.own acc), t.1, t.2.1, t.2.2.1, t.2.2.2.1, t.2.2.2.2.1, t.2.2.2.2.2.1, t.2.2.2.2.2.2.1, t.2.2.2.2.2.2.2.1, t.2.2.2.2.2.2.2.2.1, t.2.2.2.2.2.2.2.2.2, s12, s13] S =
      some (.nx [s0, some (.own (acc ++ (hs.flatMap Ho.lines).map lstl)), t2, t3, t4, t5, t6, t7, t8, t9, t10, t11, s12, s13], S)
  | [], acc, t, _, _ => ⟨_, _, _, _, _, _, _, _, _, _, by simp [forRun]; exact ⟨rfl, rfl, rfl, rfl, rfl, rfl, rfl, rfl, rfl, rfl⟩⟩
  | x :: hs, acc, ⟨t2, t3, t4, t5, t6, t7, t8, t9, t10, t11⟩, ok, l => by
    have h := ok x List.mem_cons_self
    have hf := ho_few h
    simp only [List.length_cons] at l
    obtain ⟨h1, h2, h3, h4, h5, h6⟩ := id h
    have hb : lhG x.d [s0, some (.own acc), t2, t3, t4, t5, t6, t7, t8, t9, t10, t11, s12, s13] = some [s0, some (.own acc), some (Sl.val (pathD x.path)), some (Sl.val (.str x.name)), some (Sl.val (intD x.begun)), some (Sl.val (endD (finE x.fin))), some (Sl.val (.tup (x.diary.map Nt.d))), some (Sl.val (finS x.fin)), t8, t9, t10, t11, s12, s13] := by
      simp [Ho.d, intD]
    have a2 := l_path_word S h1.2 (len_le h1 (by decide))
    have a3 : pStr S [intD x.begun] = _ := pStr_nat (lt64 h3)
    have a4 := l_end_word S (fin_ok h4)
    have e5 : (5 : Nat) ≤ sizeLine := sz (by omega)
    have a5 : ∀ d : D, fApp acc d = some (acc ++ [d]) := fun d => fApp_ok (by rw [sizeLine_val]; omega)
    rw [List.map_cons]
    unfold forRun
    simp only [hb]
    cases hq : x.fin with
    | inl e =>
      obtain ⟨x', y', z', hl⟩ := lnotes_loop S s0 (some (Sl.val (pathD x.path))) (some (Sl.val (.str x.name))) (some (Sl.val (intD x.begun))) (some (Sl.val (endD (finE x.fin)))) (some (Sl.val (.tup (x.diary.map Nt.d)))) (some (Sl.val (finS x.fin))) t8 s12 s13 x.diary (acc ++ [lstl ["house", wd x.path, x.name, num x.begun, endT (finE x.fin)]]) t9 t10 t11 h6 (by simp; omega)
      obtain ⟨u2, u3, u4, u5, u6, u7, u8, u9, u10, u11, ih⟩ := lhouses_loop S s0 s12 s13 hs (acc ++ x.lines.map lstl) ⟨some (Sl.val (pathD x.path)), some (Sl.val (.str x.name)), some (Sl.val (intD x.begun)), some (Sl.val (endD (finE x.fin))), some (Sl.val (.tup (x.diary.map Nt.d))), some (Sl.val (finS x.fin)), t8, x', y', z'⟩ (fun m hm => ok m (List.mem_cons_of_mem _ hm)) (by simp; omega)
      refine ⟨u2, u3, u4, u5, u6, u7, u8, u9, u10, u11, ?_⟩
      have el : acc ++ [lstl ["house", wd x.path, x.name, num x.begun, endT (finE x.fin)]] ++ x.diary.map (fun n => lstl n.line) = acc ++ x.lines.map lstl := by
        simp [Ho.lines, hq, finL]
      rw [el] at hl
      rw [hq] at hl a4 ih
      simp only [finE, finS] at hl a4 ih
      simp [a2, a3, a4, e5, a5, finE, finS]
      simp only [lstl, List.map_cons, List.map_nil] at hl
      rw [hl]
      simp only []
      rw [ih]
      simp [List.append_assoc]
    | inr s =>
      rw [hq] at h4
      obtain ⟨s8', hst⟩ := lstate S h4 (acc ++ [lstl ["house", wd x.path, x.name, num x.begun, endT (finE x.fin)]]) (by simp; omega) s0 (some (Sl.val (pathD x.path))) (some (Sl.val (.str x.name))) (some (Sl.val (intD x.begun))) (some (Sl.val (endD (finE x.fin)))) (some (Sl.val (.tup (x.diary.map Nt.d)))) t8 t9 t10 t11 s12 s13
      obtain ⟨x', y', z', hl⟩ := lnotes_loop S s0 (some (Sl.val (pathD x.path))) (some (Sl.val (.str x.name))) (some (Sl.val (intD x.begun))) (some (Sl.val (endD (finE x.fin)))) (some (Sl.val (.tup (x.diary.map Nt.d)))) (some (Sl.val (finS x.fin))) s8' s12 s13 x.diary (acc ++ [lstl ["house", wd x.path, x.name, num x.begun, endT (finE x.fin)]] ++ [lstl s.line]) t9 t10 t11 h6 (by simp; omega)
      obtain ⟨u2, u3, u4, u5, u6, u7, u8, u9, u10, u11, ih⟩ := lhouses_loop S s0 s12 s13 hs (acc ++ x.lines.map lstl) ⟨some (Sl.val (pathD x.path)), some (Sl.val (.str x.name)), some (Sl.val (intD x.begun)), some (Sl.val (endD (finE x.fin))), some (Sl.val (.tup (x.diary.map Nt.d))), some (Sl.val (finS x.fin)), s8', x', y', z'⟩ (fun m hm => ok m (List.mem_cons_of_mem _ hm)) (by simp; omega)
      refine ⟨u2, u3, u4, u5, u6, u7, u8, u9, u10, u11, ?_⟩
      have el : acc ++ [lstl ["house", wd x.path, x.name, num x.begun, endT (finE x.fin)]] ++ [lstl s.line] ++ x.diary.map (fun n => lstl n.line) = acc ++ x.lines.map lstl := by
        simp [Ho.lines, hq, finL]
      rw [el] at hl
      rw [hq] at hl a4 ih hst
      simp only [finE, finS] at hl a4 ih hst
      have hl5 : pLen S [s.d] = some (.int 5) := rfl
      simp only [dSeq_ev, dOwn_ev, dLst_ev, dDisp_ev, dCons_ev, dCst_ev, dCall_ev, dVar_ev, dPr_ev, dNil_ev, finE, finS]
      simp [a2, a3, a4, e5, a5, hl5, -dOwn_ev, -dSeq_ev, -dSet_ev]
      simp only [lstl, List.map_cons, List.map_nil] at hl hst
      have ht : ∀ c : List D, dTest (dOp pGt (dPr pLen (dCons (dVar 7) dNil)) (dCst (.int 0))) [s0, some (Sl.own c), some (Sl.val (pathD x.path)), some (Sl.val (.str x.name)), some (Sl.val (intD x.begun)), some (Sl.val (endD none)), some (Sl.val (.tup (x.diary.map Nt.d))), some (Sl.val s.d), t8, t9, t10, t11, s12, s13] S = .ok true S := fun c => by
        simp [hl5]
      rw [dSeq_ev, dIfS_ev, ht, rS_ok, if_pos rfl, hst, seqR_nx, dFor_ev, dItems_ev, dVar_ev]
      simp only [slV, List.getElem?_cons_succ, List.getElem?_cons_zero, optM_some, R.ok_bind, itms_tup, rS_ok]
      rw [hl]
      simp only []
      rw [ih]
      simp [List.append_assoc]
end K75

/-! The law's lines and text. -/
namespace K75
open PySem Py Hal TL
abbrev laB : DS := dOwn 1 fApp (dLst (dDisp (dCons (dCst (.str "ask")) (dCons (dCall 1 f__law_path_word (dCons (dVar 2) (dNil))) (dCons (dVar 12) (dCons (dPr pStr (dCons (dVar 11) (dNil))) (dCons (dPr pStr (dCons (dVar 13) (dNil))) (dCons (dCall 1 f__law_end_word (dCons (dVar 5) (dNil))) (dNil)))))))))
abbrev laG : DG := gT 5 (gsC (gN 2) (gsC (gN 12) (gsC (gN 11) (gsC (gN 13) (gsC (gN 5) (gs0))))))
theorem lasks_loop (S : Store) (s0 s3 s4 s6 s7 s8 s9 s10 : Option Sl) : ∀ (as : List Ak) (acc : List D) (t2 t5 t11 t12 t13 : Option Sl), (∀ h ∈ as, h.ok) → acc.length + as.length ≤ 1000 →
    ∃ u2 u5 u11 u12 u13, forRun laG laB (as.map Ak.d) [s0, some (.own acc), t2, s3, s4, t5, s6, s7, s8, s9, s10, t11, t12, t13] S = some (.nx [s0, some (.own (acc ++ as.map fun a => lstl a.line)), u2, s3, s4, u5, s6, s7, s8, s9, s10, u11, u12, u13], S)
  | [], acc, t2, t5, t11, t12, t13, _, _ => ⟨t2, t5, t11, t12, t13, by simp [forRun]⟩
  | a :: as, acc, t2, t5, t11, t12, t13, ok, l => by
    have hn := ok a List.mem_cons_self
    simp only [List.length_cons] at l
    obtain ⟨u2, u5, u11, u12, u13, e⟩ := lasks_loop S s0 s3 s4 s6 s7 s8 s9 s10 as (acc ++ [lstl a.line]) (some (.val (pathD a.path))) (some (.val (endD a.fin))) (some (.val (intD a.nr))) (some (.val (.str a.who))) (some (.val (intD a.sent))) (fun m hm => ok m (List.mem_cons_of_mem _ hm)) (by simp; omega)
    refine ⟨u2, u5, u11, u12, u13, ?_⟩
    obtain ⟨h1, h2, h3, h4, h5⟩ := id hn
    have a1 := l_path_word S h1.2 (len_le h1 (by decide))
    have a2 : pStr S [intD a.nr] = _ := pStr_nat (lt64 h3)
    have a3 : pStr S [intD a.sent] = _ := pStr_nat (lt64 h4)
    have a4 := l_end_word S h5
    have a6 : fApp acc (lstl a.line) = some (acc ++ [lstl a.line]) := fApp_ok (by rw [sizeLine_val]; omega)
    have e6 : (6 : Nat) ≤ sizeLine := sz (by omega)
    have hg : laG a.d [s0, some (.own acc), t2, s3, s4, t5, s6, s7, s8, s9, s10, t11, t12, t13] = some [s0, some (.own acc), some (.val (pathD a.path)), s3, s4, some (.val (endD a.fin)), s6, s7, s8, s9, s10, some (.val (intD a.nr)), some (.val (.str a.who)), some (.val (intD a.sent))] := by
      simp [Ak.d, intD]
    rw [List.map_cons]
    unfold forRun
    rw [hg]
    simp [a1, a2, a3, a4, e6]
    simp only [lstl, Ak.line, List.append_assoc, List.cons_append, List.nil_append, List.map_cons, List.map_nil] at a6 e ⊢
    simp [a6]
    exact e
theorem l_lines {x : Hl} (S : Store) (h : x.ok) : f__law_lines [x.d] S = .ok (.lst (x.lines.map lstl)) S := by
  have i0 : pIdx S x.d (.int 0) = some (intD x.hour) := rfl
  have i1 : pIdx S x.d (.int 1) = some (.tup (x.hs.map Ho.d)) := rfl
  have i2 : pIdx S x.d (.int 2) = some (.tup (x.as.map Ak.d)) := rfl
  have a1 : pStr S [intD x.hour] = _ := pStr_nat (lt64 h.hour)
  have e1 : (1 : Nat) ≤ sizeLine := sz (by omega)
  have e2 : (2 : Nat) ≤ sizeLine := sz (by omega)
  obtain ⟨t2, t3, t4, t5, t6, t7, t8, t9, t10, t11, l1⟩ := lhouses_loop S (some (Sl.val x.d)) none none x.hs [lstl ["hour", num x.hour]] ⟨none, none, none, none, none, none, none, none, none, none⟩ h.ho (by have := h.hs; simp; omega)
  obtain ⟨u2, u5, u11, u12, u13, l2⟩ := lasks_loop S (some (Sl.val x.d)) t3 t4 t6 t7 t8 t9 t10 x.as ([lstl ["hour", num x.hour]] ++ (x.hs.flatMap Ho.lines).map lstl) t2 t5 t11 none none h.ao (by
    have := hl_few h
    simp only [Hl.lines, List.length_cons, List.length_append, List.length_map] at this
    simp only [List.length_cons, List.length_append, List.length_map, List.length_nil]
    omega)
  have hb : b__law_lines = dSeq (dSet 1 (qO (dDisp (dCons (dLst (dDisp (dCons (dCst (.str "hour")) (dCons (dPr pStr (dCons (dOp pIdx (dVar 0) (dCst (.int 0))) (dNil))) (dNil))))) (dNil))))) (dSeq (dFor (dItems (dOp pIdx (dVar 0) (dCst (.int 1)))) lhG lhB) (dSeq (dFor (dItems (dOp pIdx (dVar 0) (dCst (.int 2)))) laG laB) (dSeq (dFrz 1) (dRet (dVar 1))))) := rfl
  have hs1 : dSet 1 (qO (dDisp (dCons (dLst (dDisp (dCons (dCst (.str "hour")) (dCons (dPr pStr (dCons (dOp pIdx (dVar 0) (dCst (.int 0))) (dNil))) (dNil))))) (dNil)))) [some (Sl.val x.d), none, none, none, none, none, none, none, none, none, none, none, none, none] S = some (.nx [some (Sl.val x.d), some (.own [lstl ["hour", num x.hour]]), none, none, none, none, none, none, none, none, none, none, none, none], S) := by
    simp [i0, a1, e1, e2]
  unfold f__law_lines
  rw [dFn_ev, if_pos (show [x.d].length = 1 from rfl), hb, dSeq_ev]
  simp only [] at l1
  rw [show fnEnv N__law_lines.length [x.d] = [some (Sl.val x.d), none, none, none, none, none, none, none, none, none, none, none, none, none] from rfl, hs1, seqR_nx, dSeq_ev, dFor_ev]
  have d1 : ∀ s1 r, (dItems (dOp pIdx (dVar 0) (dCst (.int 1)))) (some (Sl.val x.d) :: s1 :: r) S = .ok (x.hs.map Ho.d) S := fun s1 r => by simp [i1]
  have d2 : ∀ s1 r, (dItems (dOp pIdx (dVar 0) (dCst (.int 2)))) (some (Sl.val x.d) :: s1 :: r) S = .ok (x.as.map Ak.d) S := fun s1 r => by simp [i2]
  rw [d1, rS_ok, l1, seqR_nx, dSeq_ev, dFor_ev, d2, rS_ok, l2, seqR_nx]
  have el : [lstl ["hour", num x.hour]] ++ (x.hs.flatMap Ho.lines).map lstl ++ x.as.map (fun a => lstl a.line) = x.lines.map lstl := by
    simp [Hl.lines]
  rw [el]
  simp
theorem l_text {x : Hl} (S : Store) (h : x.ok) : f__law_text [.lst (x.lines.map lstl)] S = .ok (.str x.text) S := by
  have lc : lcRun (gN 1) dYes (dJoin (dCst (.str " ")) (dVar 1)) [some (Sl.val (.lst (x.lines.map lstl))), none] (x.lines.map lstl) [] S = .ok ((x.lines.map ln).map D.str) S := by
    have := lc_typedM (g := gN 1) (e := dJoin (dCst (.str " ")) (dVar 1)) (S := S) (ρ := [some (Sl.val (.lst (x.lines.map lstl))), none]) (f := lstl) (h := fun l => .str (ln l)) (ρ' := fun l => [some (Sl.val (.lst (x.lines.map lstl))), some (Sl.val (lstl l))]) (ds := x.lines) (acc := []) (fun l hl => ⟨by simp, by
      have := join_lk S (hl_lk h l hl)
      simp [lstl, this]⟩) (by have := hl_few h; rw [sizeLine_val]; simp; omega)
    rw [this, List.nil_append, List.map_map]; rfl
  have a3 := text_join S h
  simp [f__law_text, b__law_text, fnEnv, N__law_text, wipeE]
  simp [lc, a3, -List.map_map]
end K75

/-! The program reads words. -/
namespace K75
open PySem Py Hal TL
theorem szl {z : Str} (h : z.length ≤ 100) : z.length ≤ sizeLine := by rw [sizeLine_val]; omega
theorem figs {c : Nat} (h : 48 ≤ c ∧ c ≤ 57) : c ∈ tl ("0123456789" : Str) := by
  have e : tl ("0123456789" : Str) = [48, 49, 50, 51, 52, 53, 54, 55, 56, 57] := by decide +kernel
  rw [e]
  simp only [List.mem_cons, List.not_mem_nil, or_false]
  omega
theorem num0 {n : Nat} : num n = "0" ↔ n = 0 := by
  have : ("0" : Str) = num 0 := by decide +kernel
  rw [this]
  exact ⟨num_inj, fun h => by rw [h]⟩
theorem p_writes {n m : Nat} (S : Store) (h : n ≤ m) (hm : n ≤ Gt) : f_writes_number [.str (num n), .int (m : Nat)] S = .ok (.bl true) S := by
  have h1 := num_pos n
  have h2 := num10 hm
  have hz := szl (z := num n) (by omega)
  obtain ⟨c, r, e, hc⟩ := num_head n
  rw [← tl_numS] at e
  have h3 := pIdx_str0 (S := S) e hz
  have hin : ∀ c ∈ tl (num n), pIn S (.str ⟨#[c]⟩) (.str "0123456789") = some (.bl true) := fun c hcm => by
    rw [tl_numS] at hcm
    rw [pIn_sign, decide_eq_true (figs (numL_digits n c hcm))]
  have lc : lcRun (gN 2) dYes (dOp pIn (dVar 2) (dCst (.str "0123456789"))) [some (Sl.val (.str (num n))), some (Sl.val (.int (m : Nat))), none] ((tl (num n)).map fun c => D.str ⟨#[c]⟩) [] S = .ok ([] ++ (tl (num n)).map fun _ => D.bl true) S :=
    lc_typedM (ρ' := fun c => [some (Sl.val (.str (num n))), some (Sl.val (.int (m : Nat))), some (Sl.val (.str ⟨#[c]⟩))]) (fun c hcm => ⟨by simp, by simp [hin c hcm, -pIn_sign]⟩) (by rw [sizeLine_val, ← len_tl]; simp; omega)
  simp only [List.nil_append] at lc
  have ha : pAll S [.lst ((tl (num n)).map fun _ => D.bl true)] = some (.bl true) := all_map_true (p := fun _ => true) fun c hcm => rfl
  have hi := pInt_num (S := S) (gt10 hm)
  have h1' : (1 : Int) ≤ ((num n).length : Nat) := by omega
  have h2' : ((num n).length : Int) ≤ 10 := by omega
  have h4 : ((n : Int) ≤ (m : Nat)) := by omega
  have h0 : pEq S (.str ⟨#[c]⟩) (.str "0") = some (.bl (decide (c = 48))) := by
    have : ("0" : Str) = ⟨#[48]⟩ := by decide +kernel
    rw [pEq_str, this]
    simp
  simp [f_writes_number, b_writes_number, fnEnv, N_writes_number, pLen_str hz, h1', h2', h3, wipeE, h0, -pEq_str]
  by_cases h48 : c = 48
  · have hn : num n = "0" := num0.mpr (hc h48)
    simp [h48, hn]
    rw [hn] at lc ha hi
    simp [lc, ha, hi, h4, -List.map_const]
  · simp [h48, lc, ha, hi, h4, -List.map_const]
theorem p_number {n : Nat} (S : Store) (h : n ≤ Gt) : f_number_in [.str (num n)] S = .ok (intD n) S := by
  have h1 := p_writes S (m := 1000000006) h h
  have h2 := pInt_num (S := S) (gt10 h)
  have e : ((1000000006 : Nat) : Int) = 1000000006 := rfl
  rw [e] at h1
  simp [f_number_in, b_number_in, fnEnv, N_number_in, h1, h2, intD]
theorem wd_ne {p : List Nat} (h : p ≠ []) : ∃ c r, tl (wd p) = c :: r ∧ 48 ≤ c := by
  cases p with
  | nil => exact absurd rfl h
  | cons x r =>
    obtain ⟨c, t, e, _⟩ := num_head x
    have hc : 48 ≤ c := (numL_digits x c (by rw [e]; exact List.mem_cons_self)).1
    have hw : wd (x :: r) = Txt.join "." (num x :: r.map num) := if_neg (by simp)
    rw [hw]
    cases r with
    | nil =>
      refine ⟨c, t, ?_, hc⟩
      rw [List.map_nil, join_one, tl_numS, e]
    | cons y s =>
      refine ⟨c, t ++ tl ("." : Str) ++ tl (Txt.join "." (num y :: s.map num)), ?_, hc⟩
      rw [List.map_cons, join_cons, tl_append, tl_append, tl_numS, e]
      simp
theorem wd_dash {p : List Nat} : wd p = "-" ↔ p = [] := by
  constructor
  · intro h
    by_cases h0 : p = []
    · exact h0
    · obtain ⟨c, r, e, hc⟩ := wd_ne h0
      rw [h] at e
      have : tl ("-" : Str) = [45] := by decide +kernel
      rw [this] at e
      cases e
      omega
  · intro h; rw [h]; rfl
theorem wd_split {p : List Nat} (h : p ≠ []) : Txt.split (wd p) "." = p.map num := by
  have hw : wd p = Txt.join "." (p.map num) := if_neg h
  rw [hw]
  exact split_join (s := 46) (S := []) (by decide +kernel) (by decide +kernel) (by simpa using h) fun w hw => by
    obtain ⟨x, hx, rfl⟩ := List.mem_map.mp hw
    rw [tl_numS]
    exact numL_free (by omega)
theorem sp1 : ¬ ("." : Str).length = 0 := by decide +kernel
theorem p_writes_path {p : List Nat} (S : Store) (h : ∀ x ∈ p, x < 10) (hl : p.length ≤ 6) : f_writes_path [.str (wd p)] S = .ok (.bl true) S := by
  have hz : (wd p).length + 2 ≤ sizeLine := by have := (wd_cl h hl).2; rw [sizeLine_val]; omega
  simp [f_writes_path, b_writes_path, fnEnv, N_writes_path, wd_dash]
  by_cases h0 : p = []
  · simp [h0]
  · have lc : lcRun (gN 1) dYes (dCall 2 f_writes_number (dCons (dVar 1) (dCons (dCst (.int 9)) (dNil)))) [some (Sl.val (.str (wd p))), none] ((p.map num).map D.str) [] S = .ok ([] ++ p.map fun _ => D.bl true) S := by
      rw [List.map_map]
      exact lc_typedM (f := D.str ∘ num) (ρ' := fun x => [some (Sl.val (.str (wd p))), some (Sl.val (.str (num x)))]) (fun x hx => ⟨by simp, by
        have := p_writes S (n := x) (m := 9) (by have := h x hx; omega) (lt_small (h x hx))
        have e9 : ((9 : Nat) : Int) = 9 := rfl
        rw [e9] at this
        simp [this]⟩) (by rw [sizeLine_val]; simp; omega)
    simp only [List.nil_append] at lc
    have ha : pAll S [.lst (p.map fun _ => D.bl true)] = some (.bl true) := all_map_true (p := fun _ => true) fun c hcm => rfl
    simp [h0, sp1, hz, wd_split h0, wipeE, -List.map_map]
    simp [lc, ha, -List.map_map]
theorem p_path_of {p : List Nat} (S : Store) (h : ∀ x ∈ p, x < 10) (hl : p.length ≤ 6) : f_path_of [.str (wd p)] S = .ok (pathD p) S := by
  have hz : (wd p).length + 2 ≤ sizeLine := by have := (wd_cl h hl).2; rw [sizeLine_val]; omega
  simp [f_path_of, b_path_of, fnEnv, N_path_of, wd_dash]
  by_cases h0 : p = []
  · simp [h0, pathD]
  · have lc : lcRun (gN 1) dYes (dPr pInt (dCons (dVar 1) dNil)) [some (Sl.val (.str (wd p))), none] ((p.map num).map D.str) [] S = .ok ([] ++ p.map intD) S := by
      rw [List.map_map]
      exact lc_typedM (f := D.str ∘ num) (ρ' := fun x => [some (Sl.val (.str (wd p))), some (Sl.val (.str (num x)))]) (fun x hx => ⟨by simp, by
        have := pInt_num (S := S) (gt10 (lt_small (h x hx)))
        simp [this, intD]⟩) (by rw [sizeLine_val]; simp; omega)
    simp only [List.nil_append] at lc
    simp [h0, sp1, hz, wd_split h0, wipeE, -List.map_map]
    simp [lc, pathD, -List.map_map]
theorem notIn_nat {S : Store} {n : Nat} {ls : List Nat} (h : n ∈ ls) : pNotIn S (.int (n : Nat)) (.tup (ls.map intD)) = some (.bl false) := by
  rw [pNotIn_of (k := 0) Sh.int (fun x hx => by
    obtain ⟨y, _, rfl⟩ := List.mem_map.mp hx
    exact Sh.int) (by omega)]
  have : ((ls.map intD).any fun y => PyData.eqv y.py (D.int (n : Nat)).py) = true := by
    rw [List.any_eq_true]
    exact ⟨intD n, List.mem_map.mpr ⟨n, h, rfl⟩, by simp [intD, D.py]⟩
  rw [this]; rfl
theorem p_path_in {p : List Nat} {ls : List Nat} (S : Store) (h : pOk ls p) (hl : p.length ≤ 6) : f_path_in [.str (wd p), .tup (ls.map intD)] S = .ok (pathD p) S := by
  have h1 := p_writes_path S h.2 hl
  have h2 := p_path_of S h.2 hl
  have h3 : pLen S [pathD p] = some (.int (p.length : Nat)) := by simp [pathD]
  simp [f_path_in, b_path_in, fnEnv, N_path_in, h1, h2, h3, notIn_nat h.1]
theorem p_is_word {w : Str} (S : Store) (h : w ∈ names) : f_is_word [.str w] S = .ok (.bl true) S := by
  simp only [names, List.mem_cons, List.not_mem_nil, or_false] at h
  rcases h with rfl | rfl | rfl | rfl | rfl | rfl | rfl | rfl <;> kernel_rfl
theorem p_name {w : Str} (S : Store) (h : w ∈ names) : f_name_in [.str w] S = .ok (.str w) S := by
  simp [f_name_in, b_name_in, fnEnv, N_name_in, p_is_word S h]
theorem notIn_str {S : Store} {w : Str} {ls : List Str} (h : w ∈ ls) : pNotIn S (.str w) (.tup (ls.map D.str)) = some (.bl false) := by
  rw [pNotIn_of (k := 0) Sh.str (fun x hx => by
    obtain ⟨y, _, rfl⟩ := List.mem_map.mp hx
    exact Sh.str) (by omega)]
  have : ((ls.map D.str).any fun y => PyData.eqv y.py (D.str w).py) = true := by
    rw [List.any_eq_true]
    exact ⟨.str w, List.mem_map.mpr ⟨w, h, rfl⟩, by simp [D.py]⟩
  rw [this]; rfl
theorem endT_split {e : En} (h : e.ok) : Txt.split (endT (some e)) ":" = [e.w, num e.a, num e.b] := by
  have : endT (some e) = Txt.join ":" [e.w, num e.a, num e.b] := by
    rw [join_cons, join_cons, join_one]
    simp only [endT, app_assoc]
  rw [this]
  exact split_join (s := 58) (S := []) (by decide +kernel) (by decide +kernel) (by simp) fun w hw => by
    simp only [List.mem_cons, List.not_mem_nil, or_false] at hw
    rcases hw with rfl | rfl | rfl
    · exact (endWs_cl h.1).2.2.1
    · rw [tl_numS]; exact numL_free (by omega)
    · rw [tl_numS]; exact numL_free (by omega)
theorem endT_ne {e : En} (h : e.ok) : endT (some e) ≠ "-" := by
  intro z
  have h1 : 58 ∈ tl (endT (some e)) := by
    have : tl (":" : Str) = [58] := by decide +kernel
    simp only [endT, tl_append, this]
    simp
  rw [z] at h1
  exact absurd h1 (by decide +kernel)
theorem p_end {e : Option En} (S : Store) (h : ∀ x, e = some x → x.ok) : f_end_in [.str (endT e)] S = .ok (endD e) S := by
  cases e with
  | none =>
    simp [f_end_in, b_end_in, fnEnv, N_end_in, endT, endD]
  | some e =>
    have he := h e rfl
    have hz : (endT (some e)).length + 2 ≤ sizeLine := by have := (endT_cl h).2; rw [sizeLine_val]; omega
    have hc : ¬ (":" : Str).length = 0 := by decide +kernel
    have n1 := p_number S he.2.1
    have n2 := p_number S he.2.2
    have hn : pNotIn S (.str e.w) (.tup (t_END_WORDS.map kD)) = some (.bl false) := notIn_str (ls := endWs) he.1
    have e3 : (3 : Nat) ≤ sizeLine := sz (by omega)
    simp [f_end_in, b_end_in, fnEnv, N_end_in, endT_ne he, hc, hz, endT_split he, n1, n2, hn, endD, En.d, intD, e3]
end K75

/-! The program reads lines. -/
namespace K75
open PySem Py Hal TL
theorem p_need {w : Str} {r : List Str} {k : Nat} (S : Store) (h : r.length + 1 = k) : f_need_line [lstl (w :: r), .str w, .int (k : Nat)] S = .ok .non S := by
  have h1 : pIdx S (lstl (w :: r)) (.int 0) = some (.str w) := by simp [pIdx_lst, pLen_lst, pSl_lst, lstl]
  have h2 : pLen S [lstl (w :: r)] = some (.int (k : Nat)) := by simp [pIdx_lst, pLen_lst, pSl_lst, lstl]; omega
  simp [f_need_line, b_need_line, fnEnv, N_need_line, h1, h2, -pIdx_lst, -pLen_lst, -pSl_lst]
theorem p_state {s : Si} (S : Store) (h : s.ok) : f_state_in [lstl s.line] S = .ok s.d S := by
  obtain ⟨h1, h2, h3, h4, h5⟩ := id h
  have i0 : pIdx S (lstl s.line) (.int 0) = some (.str "state") := by simp [pIdx_lst, pLen_lst, pSl_lst, lstl, Si.line]
  have i1 : pIdx S (lstl s.line) (.int 1) = some (.str (num s.room)) := by simp [pIdx_lst, pLen_lst, pSl_lst, lstl, Si.line]
  have i2 : pIdx S (lstl s.line) (.int 2) = some (.str (num s.wants)) := by simp [pIdx_lst, pLen_lst, pSl_lst, lstl, Si.line]
  have i3 : pIdx S (lstl s.line) (.int 3) = some (.str (num s.rounds)) := by simp [pIdx_lst, pLen_lst, pSl_lst, lstl, Si.line]
  have i4 : pIdx S (lstl s.line) (.int 4) = some (.str (num (if s.called then 1 else 0))) := by
    have := atI_nat (xs := s.line.map D.str) (n := 4)
    show L2.atI (s.line.map D.str) ((4 : Nat) : Int) = _
    rw [this]; simp [Si.line, -pIdx_lst, -pLen_lst, -pSl_lst]
  have hl : pLen S [lstl s.line] = some (.int ((5 + s.slots.length : Nat) : Int)) := by simp [pIdx_lst, pLen_lst, pSl_lst, lstl, Si.line]; omega
  have hs : pSl S (lstl s.line) (some 5) none = some (.lst ((s.slots.map num).map D.str)) := by
    have := cut_drop (ds := s.line.map D.str) (n := 5)
    show some (D.lst (cutD (s.line.map D.str) (some ((5 : Nat) : Int)) none)) = _
    rw [this]; simp [Si.line, -pIdx_lst, -pLen_lst, -pSl_lst]
  have n1 := p_number S h1
  have n2 := p_number S h4
  have n3 := p_number S h5
  have hn : pNotIn S (.str (num (if s.called then 1 else 0))) (.tup [.str "0", .str "1"]) = some (.bl false) := notIn_str (ls := ["0", "1"]) (by rw [n01]; cases s.called <;> decide)
  have he : pEq S (.str (num (if s.called then 1 else 0))) (.str "1") = some (.bl s.called) := by
    rw [pEq_str, n01]
    cases s.called <;> simp [-pIdx_lst, -pLen_lst, -pSl_lst] <;> decide
  have lc : lcRun (gN 2) dYes (dCall 1 f_number_in (dCons (dVar 2) dNil)) [some (Sl.val (lstl s.line)), none, none] ((s.slots.map num).map D.str) [] S = .ok ([] ++ s.slots.map intD) S := by
    rw [List.map_map]
    exact lc_typedM (f := D.str ∘ num) (ρ' := fun x => [some (Sl.val (lstl s.line)), none, some (Sl.val (.str (num x)))]) (fun x hx => ⟨by simp, by
      have := p_number S (h3 x hx)
      simp [this, -pIdx_lst, -pLen_lst, -pSl_lst]⟩) (by rw [sizeLine_val]; simp [-pIdx_lst, -pLen_lst, -pSl_lst]; omega)
  simp only [List.nil_append] at lc
  have e5 : (5 : Nat) ≤ sizeLine := sz (by omega)
  have e2 : (2 : Nat) ≤ sizeLine := sz (by omega)
  have g5 : ¬ (((5 + s.slots.length : Nat) : Int) < 5) := by omega
  simp [f_state_in, b_state_in, fnEnv, N_state_in, i0, i1, i2, i3, i4, hl, hs, hn, e2, wipeE, -List.map_map, -pEq_str, -pIdx_lst, -pLen_lst, -pSl_lst]
  simp only [Int.natCast_add, Int.cast_ofNat_Int] at g5
  simp [g5, lc, i1, i2, i3, i4, n1, n2, n3, he, e5, Si.d, pathD, intD, -List.map_map, -pEq_str, -pIdx_lst, -pLen_lst, -pSl_lst]
theorem p_note {x : Nt} (S : Store) (h : x.ok) : f_note_in [lstl x.line] S = .ok x.d S := by
  obtain ⟨h1, h2, h3⟩ := id h
  have hn := p_need (w := "note") (r := [num x.h, x.w, num x.n]) (k := 4) S rfl
  have i1 : pIdx S (lstl x.line) (.int 1) = some (.str (num x.h)) := by simp [pIdx_lst, pLen_lst, pSl_lst, lstl, Nt.line]
  have i2 : pIdx S (lstl x.line) (.int 2) = some (.str x.w) := by simp [pIdx_lst, pLen_lst, pSl_lst, lstl, Nt.line]
  have i3 : pIdx S (lstl x.line) (.int 3) = some (.str (num x.n)) := by simp [pIdx_lst, pLen_lst, pSl_lst, lstl, Nt.line]
  have n1 := p_number S h1
  have n2 := p_number S h3
  have hw : pNotIn S (.str x.w) (.tup (t_NOTE_WORDS.map kD)) = some (.bl false) := notIn_str (ls := noteWs) h2
  have e3 : (3 : Nat) ≤ sizeLine := sz (by omega)
  have hn : f_need_line [lstl x.line, .str "note", .int 4] S = .ok .non S := hn
  simp [f_note_in, b_note_in, fnEnv, N_note_in, hn, i1, i2, i3, n1, n2, hw, e3, Nt.d, intD, -pIdx_lst, -pLen_lst, -pSl_lst]
theorem p_ask {x : Ak} (S : Store) (h : x.ok) : f_ask_in [lstl x.line] S = .ok x.d S := by
  obtain ⟨h1, h2, h3, h4, h5⟩ := id h
  have hn : f_need_line [lstl x.line, .str "ask", .int 6] S = .ok .non S := p_need (w := "ask") (r := [wd x.path, x.who, num x.nr, num x.sent, endT x.fin]) (k := 6) S rfl
  have i1 : pIdx S (lstl x.line) (.int 1) = some (.str (wd x.path)) := by simp [pIdx_lst, pLen_lst, pSl_lst, lstl, Ak.line]
  have i2 : pIdx S (lstl x.line) (.int 2) = some (.str x.who) := by simp [pIdx_lst, pLen_lst, pSl_lst, lstl, Ak.line]
  have i3 : pIdx S (lstl x.line) (.int 3) = some (.str (num x.nr)) := by simp [pIdx_lst, pLen_lst, pSl_lst, lstl, Ak.line]
  have i4 : pIdx S (lstl x.line) (.int 4) = some (.str (num x.sent)) := by
    show L2.atI (x.line.map D.str) ((4 : Nat) : Int) = _
    rw [atI_nat]; simp [Ak.line, -pIdx_lst, -pLen_lst, -pSl_lst]
  have i5 : pIdx S (lstl x.line) (.int 5) = some (.str (endT x.fin)) := by
    show L2.atI (x.line.map D.str) ((5 : Nat) : Int) = _
    rw [atI_nat]; simp [Ak.line, -pIdx_lst, -pLen_lst, -pSl_lst]
  have a1 : f_path_in [.str (wd x.path), .tup (t_ASK_PATHS.map kD)] S = .ok (pathD x.path) S := p_path_in (ls := [2, 4, 6]) S h1 (len_le h1 (by decide))
  have a2 := p_name S h2
  have n1 := p_number S h3
  have n2 := p_number S h4
  have a5 := p_end S h5
  have e4 : (4 : Nat) ≤ sizeLine := sz (by omega)
  have e1 : (1 : Nat) ≤ sizeLine := sz (by omega)
  have ap : pAdd S (.tup [pathD x.path, .str x.who, intD x.nr, intD x.sent]) (.tup [endD x.fin]) = some x.d := by
    rw [pAdd_tup (by rw [sizeLine_val]; simp [-pIdx_lst, -pLen_lst, -pSl_lst])]; rfl
  simp [f_ask_in, b_ask_in, fnEnv, N_ask_in, hn, i1, i2, i3, i4, i5, a1, a2, n1, n2, a5, e4, e1, ap, -pIdx_lst, -pLen_lst, -pSl_lst]
/-! the lines from a place on -/
def linesD (L : List (List Str)) : D := .lst (L.map lstl)
theorem at_line {L : List (List Str)} {k : Nat} {l : List Str} {t : List (List Str)} (h : L.drop k = l :: t) : L[k]? = some l ∧ k < L.length ∧ L.drop (k + 1) = t := by
  have h1 : k < L.length := by
    rcases Nat.lt_or_ge k L.length with h1 | h1
    · exact h1
    · rw [List.drop_eq_nil_of_le h1] at h; cases h
  rw [List.drop_eq_getElem_cons h1] at h
  cases h
  exact ⟨List.getElem?_eq_getElem h1, h1, rfl⟩
theorem idx_line {L : List (List Str)} {k : Nat} {l : List Str} {S : Store} (h : L[k]? = some l) : pIdx S (linesD L) (.int (k : Nat)) = some (lstl l) := by
  show L2.atI (L.map lstl) (k : Int) = _
  rw [atI_nat, List.getElem?_map, h]; rfl
theorem len_lines {L : List (List Str)} {S : Store} : pLen S [linesD L] = some (.int (L.length : Nat)) := by simp [linesD, pLen_lst, -pIdx_lst, -pSl_lst]
/-- the lines that follow begin by another word -/
def Oth (w : Str) (t : List (List Str)) : Prop := ∀ l r, t = l :: r → ∃ u s, l = u :: s ∧ u ≠ w
abbrev tNt (w : Str) (iL iA : Nat) : DT := dAnd (dTest (dOp pLt (dVar iA) (dPr pLen (dCons (dVar iL) (dNil))))) (dTest (dOp pEq (dOp pIdx (dOp pIdx (dVar iL) (dVar iA)) (dCst (.int 0))) (dCst (.str w))))
theorem test_no {w : Str} {iL iA : Nat} {L : List (List Str)} {k : Nat} {t : List (List Str)} {ρ : Py.Env} {S : Store} (hL : ρ[iL]? = some (some (.val (linesD L)))) (hA : ρ[iA]? = some (some (.val (intD k)))) (h : L.drop k = t) (ho : Oth w t) : tNt w iL iA ρ S = .ok false S := by
  simp [slV_val hL, slV_val hA, len_lines, intD, -pIdx_lst, -pLen_lst, -pSl_lst]
  cases t with
  | nil =>
    have : ¬ k < L.length := by
      intro z
      rw [List.drop_eq_getElem_cons z] at h; cases h
    simp [this, -pIdx_lst, -pLen_lst, -pSl_lst]
  | cons l r =>
    obtain ⟨h1, h2, _⟩ := at_line h
    obtain ⟨u, s, rfl, hu⟩ := ho l r rfl
    have hi : pIdx S (lstl (u :: s)) (.int 0) = some (.str u) := by simp [pIdx_lst, pLen_lst, pSl_lst, lstl]
    simp [h2, idx_line h1, hi, hu, -pIdx_lst, -pLen_lst, -pSl_lst]
theorem test_yes {w : Str} {s : List Str} {iL iA : Nat} {L : List (List Str)} {k : Nat} {t : List (List Str)} {ρ : Py.Env} {S : Store} (hL : ρ[iL]? = some (some (.val (linesD L)))) (hA : ρ[iA]? = some (some (.val (intD k)))) (h : L.drop k = (w :: s) :: t) : tNt w iL iA ρ S = .ok true S := by
  simp [slV_val hL, slV_val hA, len_lines, intD, -pIdx_lst, -pLen_lst, -pSl_lst]
  obtain ⟨h1, h2, _⟩ := at_line h
  have hi : pIdx S (lstl (w :: s)) (.int 0) = some (.str w) := by simp [pIdx_lst, pLen_lst, pSl_lst, lstl]
  simp [h2, idx_line h1, hi, -pIdx_lst, -pLen_lst, -pSl_lst]
abbrev diB : DS := dSeq (dOwn 5 fApp (dCall 1 f_note_in (dCons (dOp pIdx (dVar 0) (dVar 1)) (dNil)))) (dSet 1 (qV (dOp pAdd (dVar 1) (dCst (.int 1)))))
theorem diary_loop (S : Store) (L : List (List Str)) (s2 s3 s4 : Option Sl) (rest : List (List Str)) (ho : Oth "note" rest) (j : Nat) : ∀ (ns : List Nt) (acc : List D) (k : Nat), (∀ n ∈ ns, n.ok) → acc.length + ns.length ≤ 1000 → L.drop k = ns.map Nt.line ++ rest →
    whRun (tNt "note" 0 1) diB (ns.length + 1 + j) [some (.val (linesD L)), some (.val (intD k)), s2, s3, s4, some (.own acc)] S = some (.nx [some (.val (linesD L)), some (.val (intD (k + ns.length))), s2, s3, s4, some (.own (acc ++ ns.map Nt.d))], S)
  | [], acc, k, _, _, h => by
    have e : ([] : List Nt).length + 1 + j = j + 1 := by simp [Nat.add_comm, -pIdx_lst, -pLen_lst, -pSl_lst]
    rw [e]
    unfold whRun
    rw [test_no (k := k) rfl rfl h ho]
    simp [-pIdx_lst, -pLen_lst, -pSl_lst]
  | n :: ns, acc, k, ok, l, h => by
    simp only [List.length_cons] at l
    have e : (n :: ns).length + 1 + j = (ns.length + 1 + j) + 1 := by simp [-pIdx_lst, -pLen_lst, -pSl_lst]; omega
    rw [e]
    unfold whRun
    have h' : L.drop k = (("note" : Str) :: [num n.h, n.w, num n.n]) :: (ns.map Nt.line ++ rest) := h
    rw [test_yes (k := k) rfl rfl h']
    obtain ⟨g1, g2, g3⟩ := at_line h'
    have a1 := p_note S (ok n List.mem_cons_self)
    have a2 : fApp acc n.d = some (acc ++ [n.d]) := fApp_ok (by rw [sizeLine_val]; omega)
    have g1 : pIdx S (linesD L) (intD k) = some (lstl n.line) := idx_line g1
    have a3 : pAdd S (intD k) (.int 1) = some (intD (k + 1)) := by simp [intD, -pIdx_lst, -pLen_lst, -pSl_lst]
    have ih := diary_loop S L s2 s3 s4 rest ho j ns (acc ++ [n.d]) (k + 1) (fun m hm => ok m (List.mem_cons_of_mem _ hm)) (by simp [-pIdx_lst, -pLen_lst, -pSl_lst]; omega) g3
    simp [g1, a1, a2, a3, -pIdx_lst, -pLen_lst, -pSl_lst]
    rw [show k + (ns.length + 1) = k + 1 + ns.length by omega]
    simp only [List.append_assoc, List.cons_append, List.nil_append] at ih
    exact ih
end K75

/-! The program reads houses and halls. -/
namespace K75
open PySem Py Hal TL
def hln (x : Ho) : List Str := ["house", wd x.path, x.name, num x.begun, endT (finE x.fin)]
def hdD (x : Ho) : D := .tup [pathD x.path, .str x.name, intD x.begun, endD (finE x.fin)]
abbrev hiA : DS := dSeq (dSet 2 (qV (dOp pIdx (dVar 0) (dVar 1)))) (dSeq (dDrop (dCall 3 f_need_line (dCons (dVar 2) (dCons (dCst (.str "house")) (dCons (dCst (.int 5)) (dNil)))))) (dSeq (dSet 3 (qV (dTup (dCons (dCall 2 f_path_in (dCons (dOp pIdx (dVar 2) (dCst (.int 1))) (dCons (dCst (.tup (t_HOUSE_PATHS.map kD))) (dNil)))) (dCons (dCall 1 f_name_in (dCons (dOp pIdx (dVar 2) (dCst (.int 2))) (dNil))) (dCons (dCall 1 f_number_in (dCons (dOp pIdx (dVar 2) (dCst (.int 3))) (dNil))) (dCons (dCall 1 f_end_in (dCons (dOp pIdx (dVar 2) (dCst (.int 4))) (dNil))) (dNil)))))))) (dSeq (dSet 1 (qV (dOp pAdd (dVar 1) (dCst (.int 1))))) (dSet 4 (qV (dTup (dNil)))))))
abbrev hiB : DS := dIfS (dTest (dOp pEq (dOp pIdx (dVar 3) (dCst (.int 3))) (dTup (dNil)))) (dSeq (dIfS (dTest (dOp pEq (dVar 1) (dPr pLen (dCons (dVar 0) (dNil))))) (dBad) (dNop)) (dSeq (dSet 4 (qV (dCall 1 f_state_in (dCons (dOp pIdx (dVar 0) (dVar 1)) (dNil))))) (dSet 1 (qV (dOp pAdd (dVar 1) (dCst (.int 1))))))) (dNop)
abbrev hiC : DS := dRet (dTup (dCons (dOp pAdd (dVar 3) (dTup (dCons (dPr pTuple (dCons (dRd 5) (dNil))) (dCons (dVar 4) (dNil))))) (dCons (dVar 1) (dNil))))
theorem dSeq_assoc {a b c : DS} : dSeq (dSeq a b) c = dSeq a (dSeq b c) := by
  funext ρ S
  simp only [dSeq_ev]
  cases a ρ S with
  | none => rfl
  | some q =>
    obtain ⟨o, S'⟩ := q
    cases o <;> rfl
theorem hi_head {x : Ho} (S : Store) (L : List (List Str)) (k : Nat) {t : List (List Str)} (h : x.ok) (hd : L.drop k = hln x :: t) :
    hiA [some (.val (linesD L)), some (.val (intD k)), none, none, none, none] S = some (.nx [some (.val (linesD L)), some (.val (intD (k + 1))), some (.val (lstl (hln x))), some (.val (hdD x)), some (.val (.tup [])), none], S) := by
  obtain ⟨h1, h2, h3, h4, h5, h6⟩ := id h
  obtain ⟨g1, g2, g3⟩ := at_line hd
  have g1 : pIdx S (linesD L) (intD k) = some (lstl (hln x)) := idx_line g1
  have hn : f_need_line [lstl (hln x), .str "house", .int 5] S = .ok .non S := p_need (w := "house") (r := [wd x.path, x.name, num x.begun, endT (finE x.fin)]) (k := 5) S rfl
  have i1 : pIdx S (lstl (hln x)) (.int 1) = some (.str (wd x.path)) := by simp [lstl, pIdx_lst, hln]
  have i2 : pIdx S (lstl (hln x)) (.int 2) = some (.str x.name) := by simp [lstl, pIdx_lst, hln]
  have i3 : pIdx S (lstl (hln x)) (.int 3) = some (.str (num x.begun)) := by simp [lstl, pIdx_lst, hln]
  have i4 : pIdx S (lstl (hln x)) (.int 4) = some (.str (endT (finE x.fin))) := by
    show L2.atI ((hln x).map D.str) ((4 : Nat) : Int) = _
    rw [atI_nat]; simp [hln, -pIdx_lst, -pLen_lst, -pSl_lst]
  have a1 : f_path_in [.str (wd x.path), .tup (t_HOUSE_PATHS.map kD)] S = .ok (pathD x.path) S := p_path_in (ls := [0, 2, 4]) S h1 (len_le h1 (by decide))
  have a2 := p_name S h2
  have n1 := p_number S h3
  have a5 := p_end S (fin_ok h4)
  have a3 : pAdd S (intD k) (.int 1) = some (intD (k + 1)) := by simp [intD, -pIdx_lst, -pLen_lst, -pSl_lst]
  have e4 : (4 : Nat) ≤ sizeLine := sz (by omega)
  simp [g1, hn, i1, i2, i3, i4, a1, a2, n1, a5, a3, e4, hdD, -pIdx_lst, -pLen_lst, -pSl_lst]
theorem p_house {x : Ho} (S : Store) (L : List (List Str)) (k : Nat) (rest : List (List Str)) (h : x.ok) (hd : L.drop k = x.lines ++ rest) (ho : Oth "note" rest) :
    f_house_in [linesD L, intD k] S = .ok (.tup [x.d, intD (k + x.lines.length)]) S := by
  obtain ⟨h1, h2, h3, h4, h5, h6⟩ := id h
  have hd' : L.drop k = hln x :: (finL x.fin ++ x.diary.map Nt.line ++ rest) := by rw [hd]; simp [Ho.lines, hln, -pIdx_lst, -pLen_lst, -pSl_lst]
  have hA := hi_head S L k h hd'
  obtain ⟨_, g2, g3⟩ := at_line hd'
  have hb : b_house_in = dSeq hiA (dSeq hiB (dSeq (dSet 5 (qO (dDisp (dNil)))) (dSeq (whRun (tNt "note" 0 1) diB 100000) hiC))) := by
    simp only [hiA, dSeq_assoc]
    rfl
  have hB : hiB [some (.val (linesD L)), some (.val (intD (k + 1))), some (.val (lstl (hln x))), some (.val (hdD x)), some (.val (.tup [])), none] S =
      some (.nx [some (.val (linesD L)), some (.val (intD (k + 1 + (finL x.fin).length))), some (.val (lstl (hln x))), some (.val (hdD x)), some (.val (finS x.fin)), none], S) ∧ L.drop (k + 1 + (finL x.fin).length) = x.diary.map Nt.line ++ rest := by
    have i3 : pIdx S (hdD x) (.int 3) = some (endD (finE x.fin)) := rfl
    have e0 : (0 : Nat) ≤ sizeLine := by omega
    cases hf : x.fin with
    | inl e =>
      rw [hf] at i3 g3
      refine ⟨?_, by simpa [finL] using g3⟩
      simp only [finE] at i3
      simp [i3, pEq_end0, finE, finL, finS, -pIdx_lst, -pLen_lst, -pSl_lst]
    | inr s =>
      rw [hf] at i3 g3 h4
      have g3' : L.drop (k + 1) = s.line :: (x.diary.map Nt.line ++ rest) := by simpa [finL] using g3
      obtain ⟨j1, j2, j3⟩ := at_line g3'
      refine ⟨?_, j3⟩
      have j1 : pIdx S (linesD L) (intD (k + 1)) = some (lstl s.line) := idx_line j1
      have q1 := p_state S h4
      have q2 : pEq S (intD (k + 1)) (.int (L.length : Nat)) = some (.bl false) := by
        simp only [intD, pEq_int]
        have : ¬ (((k + 1 : Nat) : Int) = (L.length : Nat)) := by omega
        simp [this, -pIdx_lst, -pLen_lst, -pSl_lst]; omega
      have q3 : pAdd S (intD (k + 1)) (.int 1) = some (intD (k + 1 + 1)) := by simp [intD, -pIdx_lst, -pLen_lst, -pSl_lst]
      simp only [finE] at i3
      simp only [lstl] at j1 q1 ⊢
      simp [i3, pEq_end0, finE, finL, finS, len_lines, q2, j1, q1, q3, -pIdx_lst, -pLen_lst, -pSl_lst]
  obtain ⟨hB, hD⟩ := hB
  have hl := diary_loop S L (some (.val (lstl (hln x)))) (some (.val (hdD x))) (some (.val (finS x.fin))) rest ho (100000 - x.diary.length - 1) x.diary [] (k + 1 + (finL x.fin).length) h6 (by simp [-pIdx_lst, -pLen_lst, -pSl_lst]; omega) hD
  rw [show x.diary.length + 1 + (100000 - x.diary.length - 1) = 100000 by omega] at hl
  have ap : pAdd S (hdD x) (.tup [.tup (x.diary.map Nt.d), finS x.fin]) = some x.d := by
    unfold hdD
    rw [pAdd_tup (by rw [sizeLine_val]; simp [-pIdx_lst, -pLen_lst, -pSl_lst])]; rfl
  have hlen : k + x.lines.length = k + 1 + (finL x.fin).length + x.diary.length := by simp [Ho.lines, -pIdx_lst, -pLen_lst, -pSl_lst]; omega
  unfold f_house_in
  rw [dFn_ev, if_pos (show [linesD L, intD k].length = 2 from rfl), hb]
  rw [dSeq_ev, show fnEnv N_house_in.length [linesD L, intD k] = [some (.val (linesD L)), some (.val (intD k)), none, none, none, none] from rfl, hA, seqR_nx, dSeq_ev, hB, seqR_nx, dSeq_ev]
  simp only [dSet_ev, qO_ev, dDisp_ev, dNil_ev, R.ok_bind, List.length_nil, Nat.zero_le, if_true, rS_ok, List.set_cons_succ, List.set_cons_zero, seqR_nx]
  rw [dSeq_ev, hl, seqR_nx]
  have e2 : (2 : Nat) ≤ sizeLine := sz (by omega)
  simp [ap, hlen, e2, -pIdx_lst, -pLen_lst, -pSl_lst]
end K75

/-! The program reads a hall. -/
namespace K75
open PySem Py Hal TL
theorem alike_ints : ∀ a b : List Nat, PySem.W.alikeAll (pyL (a.map intD)) (pyL (b.map intD)) = true
  | [], _ => by simp [pyL, PySem.W.alikeAll, -pIdx_lst, -pLen_lst, -pSl_lst]
  | _ :: _, [] => by simp [pyL, PySem.W.alikeAll, -pIdx_lst, -pLen_lst, -pSl_lst]
  | x :: a, y :: b => by
    simp only [List.map_cons, pyL, PySem.W.alikeAll, intD, D.py, PySem.W.alike, Bool.true_and]
    exact alike_ints a b
theorem pLt_path {S : Store} {p q : List Nat} : pLt S (pathD p) (pathD q) = some (.bl (plt p q)) := by
  have h1 := path_sh (p := p).shal (by omega)
  have h2 := path_sh (p := q).shal (by omega)
  have hc : cmpOk (pathD p) (pathD q) = true := by
    unfold cmpOk
    rw [h1, h2]
    have : PySem.W.alike (pathD p).py (pathD q).py = true := by
      simp only [pathD, D.py, PySem.W.alike]
      exact alike_ints p q
    rw [this]; rfl
  unfold pLt
  rw [if_pos hc]; rfl
abbrev nrB : DS := dIfS (dNot (dTest (dOp pLt (dOp pIdx (dOp pIdx (dVar 0) (dOp pSub (dVar 1) (dCst (.int 1)))) (dCst (.int 0))) (dOp pIdx (dOp pIdx (dVar 0) (dVar 1)) (dCst (.int 0)))))) (dBad) (dNop)
theorem rise_loop {α : Type} (S : Store) (xs : List α) (f : α → D) (g : α → List Nat) (h0 : ∀ x, pIdx S (f x) (.int 0) = some (pathD (g x))) (hr : (xs.map g).Pairwise fun p q => plt p q = true) : ∀ (ks : List Nat) (x : Option Sl), (∀ k ∈ ks, k + 1 < xs.length) →
    ∃ x', forRun (gN 1) nrB (ks.map fun k => D.int (1 + (k : Nat))) [some (.val (.lst (xs.map f))), x] S = some (.nx [some (.val (.lst (xs.map f))), x'], S)
  | [], x, _ => ⟨x, by simp [forRun, -pIdx_lst, -pLen_lst, -pSl_lst]⟩
  | k :: ks, x, h => by
    have hk := h k List.mem_cons_self
    obtain ⟨x', ih⟩ := rise_loop S xs f g h0 hr ks (some (.val (.int (1 + (k : Nat))))) fun j hj => h j (List.mem_cons_of_mem _ hj)
    refine ⟨x', ?_⟩
    have g1 : pIdx S (.lst (xs.map f)) (.int (k : Nat)) = some (f xs[k]) := by
      rw [pIdx_lst, atI_nat, List.getElem?_map, List.getElem?_eq_getElem (by omega)]; rfl
    have g2 : pIdx S (.lst (xs.map f)) (.int (1 + (k : Nat))) = some (f xs[k + 1]) := by
      rw [show (1 : Int) + (k : Nat) = ((k + 1 : Nat) : Int) by omega, pIdx_lst, atI_nat, List.getElem?_map, List.getElem?_eq_getElem (by omega)]; rfl
    have g3 : plt (g xs[k]) (g xs[k + 1]) = true := by
      have := List.pairwise_iff_getElem.mp hr k (k + 1) (by simp [-pIdx_lst, -pLen_lst, -pSl_lst]; omega) (by simp [-pIdx_lst, -pLen_lst, -pSl_lst]; omega) (by omega)
      simpa using this
    have e1 : (1 : Int) + (k : Nat) - 1 = (k : Nat) := by omega
    rw [List.map_cons]
    unfold forRun
    simp [g1, g2, h0, pLt_path, g3, e1, -pIdx_lst, -pLen_lst, -pSl_lst]
    exact ih
theorem p_rising {α : Type} (S : Store) (xs : List α) (f : α → D) (g : α → List Nat) (h0 : ∀ x, pIdx S (f x) (.int 0) = some (pathD (g x))) (hr : (xs.map g).Pairwise fun p q => plt p q = true) (hz : xs.length ≤ 1000) : f_need_rising [.lst (xs.map f)] S = .ok .non S := by
  have hg : rg2 [.int 1, .int (xs.length : Nat)] = some ((List.range (xs.length - 1)).map fun k => D.int (1 + (k : Nat))) := by
    show (if (1 : Int).natAbs < 2 ^ 62 ∧ ((xs.length : Nat) : Int).natAbs < 2 ^ 62 then some (rgD 1 (((xs.length : Nat) : Int) - 1).toNat) else none) = _
    rw [if_pos ⟨by decide, by omega⟩]
    unfold rgD
    rw [show ((xs.length : Int) - 1).toNat = xs.length - 1 by omega]
  obtain ⟨x', hl⟩ := rise_loop S xs f g h0 hr (List.range (xs.length - 1)) none fun k hk => by
    have := List.mem_range.mp hk
    omega
  simp [f_need_rising, b_need_rising, fnEnv, N_need_rising, pLen_lst, hg, -pIdx_lst, -pSl_lst]
  rw [hl]; rfl
abbrev rhB : DS := dSeq (dBnd (dCall 2 f_house_in (dCons (dVar 1) (dCons (dVar 4) (dNil)))) (gT 2 (gsC (gN 5) (gsC (gN 4) (gs0))))) (dOwn 3 fApp (dVar 5))
theorem oth_ask {w : Str} (hw : w ≠ "ask") : ∀ as : List Ak, Oth w (as.map Ak.line)
  | [] => fun l r e => by cases e
  | a :: as => fun l r e => by
    cases e
    exact ⟨"ask", _, rfl, fun z => hw z.symm⟩
theorem oth_hs {w : Str} (hw : w ≠ "ask") (hw2 : w ≠ "house") : ∀ (hs : List Ho) (as : List Ak), Oth w (hs.flatMap Ho.lines ++ as.map Ak.line)
  | [], as => oth_ask hw as
  | h :: hs, as => fun l r e => by
    rw [List.flatMap_cons, Ho.lines] at e
    cases e
    exact ⟨"house", _, rfl, fun z => hw2 z.symm⟩
theorem read_loop (S : Store) (L : List (List Str)) (s0 s2 s6 s7 s8 : Option Sl) (as : List Ak) (j : Nat) : ∀ (hs : List Ho) (acc : List D) (k : Nat) (x : Option Sl), (∀ n ∈ hs, n.ok) → acc.length + hs.length ≤ 1000 → L.drop k = hs.flatMap Ho.lines ++ as.map Ak.line →
    ∃ k' x', whRun (tNt "house" 1 4) rhB (hs.length + 1 + j) [s0, some (.val (linesD L)), s2, some (.own acc), some (.val (intD k)), x, s6, s7, s8] S = some (.nx [s0, some (.val (linesD L)), s2, some (.own (acc ++ hs.map Ho.d)), some (.val (intD k')), x', s6, s7, s8], S) ∧ L.drop k' = as.map Ak.line
  | [], acc, k, x, _, _, h => by
    refine ⟨k, x, ?_, h⟩
    have e : ([] : List Ho).length + 1 + j = j + 1 := by simp [Nat.add_comm, -pIdx_lst, -pLen_lst, -pSl_lst]
    rw [e]
    unfold whRun
    rw [test_no (k := k) rfl rfl h (oth_ask (by decide +kernel) as)]
    simp [-pIdx_lst, -pLen_lst, -pSl_lst]
  | y :: hs, acc, k, x, ok, l, h => by
    simp only [List.length_cons] at l
    have hy := ok y List.mem_cons_self
    have h2 : L.drop k = y.lines ++ (hs.flatMap Ho.lines ++ as.map Ak.line) := by rw [h, List.flatMap_cons, List.append_assoc]
    have h3 : L.drop (k + y.lines.length) = hs.flatMap Ho.lines ++ as.map Ak.line := by
      rw [← List.drop_drop, h2, List.drop_left]
    obtain ⟨k', x', ih, hd⟩ := read_loop S L s0 s2 s6 s7 s8 as j hs (acc ++ [y.d]) (k + y.lines.length) (some (.val y.d)) (fun m hm => ok m (List.mem_cons_of_mem _ hm)) (by simp [-pIdx_lst, -pLen_lst, -pSl_lst]; omega) h3
    refine ⟨k', x', ?_, hd⟩
    have e : (y :: hs).length + 1 + j = (hs.length + 1 + j) + 1 := by simp [-pIdx_lst, -pLen_lst, -pSl_lst]; omega
    rw [e]
    unfold whRun
    have h' : L.drop k = (("house" : Str) :: [wd y.path, y.name, num y.begun, endT (finE y.fin)]) :: (finL y.fin ++ y.diary.map Nt.line ++ (hs.flatMap Ho.lines ++ as.map Ak.line)) := by
      rw [h2]; simp [Ho.lines, -pIdx_lst, -pLen_lst, -pSl_lst]
    rw [test_yes (k := k) rfl rfl h']
    have a1 := p_house S L k _ hy h2 (oth_hs (by decide +kernel) (by decide +kernel) hs as)
    have a2 : fApp acc y.d = some (acc ++ [y.d]) := fApp_ok (by rw [sizeLine_val]; omega)
    simp [a1, a2, -pIdx_lst, -pLen_lst, -pSl_lst]
    simp only [List.append_assoc, List.cons_append, List.nil_append] at ih
    exact ih
end K75

/-! The program reads a hall: the end. -/
namespace K75
open PySem Py Hal TL
abbrev rA : DS := dSeq (dIfS (dNot (dTest (dPr pIsi (dCons (dVar 0) (dCons (dCst (.ty "str")) (dNil)))))) (dBad) (dNop)) (dSeq (dSet 1 (qV (dLst (dLc (dItems (dLst (dSplit (dVar 0) (dCst (.str "\n"))))) (gN 7) (dYes) (dLst (dSplit (dVar 7) (dCst (.str " ")))) [7])))) (dSeq (dDrop (dCall 3 f_need_line (dCons (dOp pIdx (dVar 1) (dCst (.int 0))) (dCons (dCst (.str "hour")) (dCons (dCst (.int 2)) (dNil)))))) (dSeq (dSet 2 (qV (dCall 1 f_number_in (dCons (dOp pIdx (dOp pIdx (dVar 1) (dCst (.int 0))) (dCst (.int 1))) (dNil))))) (dSeq (dSet 3 (qO (dDisp (dNil)))) (dSet 4 (qV (dCst (.int 1))))))))
abbrev rC : DS := dSet 6 (qV (dLst (dLc (dItems (dSl (dVar 1) (dSo (dVar 4)) (dNo))) (gN 8) (dYes) (dCall 1 f_ask_in (dCons (dVar 8) (dNil))) [8])))
abbrev rD : DS := dSeq (dFrz 3) (dSeq (dDrop (dCall 1 f_need_rising (dCons (dVar 3) (dNil)))) (dSeq (dDrop (dCall 1 f_need_rising (dCons (dVar 6) (dNil)))) (dRet (dTup (dCons (dVar 2) (dCons (dPr pTuple (dCons (dVar 3) (dNil))) (dCons (dPr pTuple (dCons (dVar 6) (dNil))) (dNil))))))))
theorem r_head {x : Hl} (S : Store) (h : x.ok) : rA [some (.val (.str x.text)), none, none, none, none, none, none, none, none] S = some (.nx [some (.val (.str x.text)), some (.val (linesD x.lines)), some (.val (intD x.hour)), some (.own []), some (.val (intD 1)), none, none, none, none], S) := by
  have hz : x.text.length + 2 ≤ sizeLine := by have := text_len h; rw [sizeLine_val]; omega
  have c1 : ¬ ("\n" : Str).length = 0 := by decide +kernel
  have c2 : ¬ (" " : Str).length = 0 := by decide +kernel
  have lc : lcRun (gN 7) dYes (dLst (dSplit (dVar 7) (dCst (.str " ")))) [some (.val (.str x.text)), none, none, none, none, none, none, none, none] ((x.lines.map ln).map D.str) [] S = .ok ([] ++ x.lines.map lstl) S := by
    rw [List.map_map]
    exact lc_typedM (f := D.str ∘ ln) (h := lstl) (ρ' := fun l => [some (.val (.str x.text)), none, none, none, none, none, none, some (.val (.str (ln l))), none]) (fun l hl => ⟨by simp, by
      have hk := hl_lk h l hl
      have hz2 : (ln l).length + 2 ≤ sizeLine := by have := ln_len hk; rw [sizeLine_val]; omega
      simp [c2, hz2, ln_split hk, -pIdx_lst, -pLen_lst, -pSl_lst]⟩) (by have := hl_few h; rw [sizeLine_val]; simp [-pIdx_lst, -pLen_lst, -pSl_lst]; omega)
  simp only [List.nil_append] at lc
  have hd : x.lines.drop 0 = [("hour" : Str), num x.hour] :: (x.hs.flatMap Ho.lines ++ x.as.map Ak.line) := rfl
  obtain ⟨g1, g2, g3⟩ := at_line hd
  have g1 : pIdx S (linesD x.lines) (.int 0) = some (lstl ["hour", num x.hour]) := idx_line (k := 0) g1
  have hn : f_need_line [lstl ["hour", num x.hour], .str "hour", .int 2] S = .ok .non S := p_need (w := "hour") (r := [num x.hour]) (k := 2) S rfl
  have i1 : pIdx S (lstl ["hour", num x.hour]) (.int 1) = some (.str (num x.hour)) := by simp [lstl, pIdx_lst]
  have n1 := p_number S h.hour
  have hs : dSet 1 (qV (dLst (dLc (dItems (dLst (dSplit (dVar 0) (dCst (.str "\n"))))) (gN 7) (dYes) (dLst (dSplit (dVar 7) (dCst (.str " ")))) [7]))) [some (.val (.str x.text)), none, none, none, none, none, none, none, none] S = some (.nx [some (.val (.str x.text)), some (.val (linesD x.lines)), none, none, none, none, none, none, none], S) := by
    simp [c1, hz, text_split h, wipeE, -List.map_map, -pIdx_lst, -pLen_lst, -pSl_lst]
    simp [lc, linesD, -List.map_map, -pIdx_lst, -pLen_lst, -pSl_lst]
  have h0 : dIfS (dNot (dTest (dPr pIsi (dCons (dVar 0) (dCons (dCst (.ty "str")) (dNil)))))) (dBad) (dNop) [some (.val (.str x.text)), none, none, none, none, none, none, none, none] S = some (.nx [some (.val (.str x.text)), none, none, none, none, none, none, none, none], S) := by simp [-pIdx_lst, -pLen_lst, -pSl_lst]
  unfold rA
  rw [dSeq_ev, h0, seqR_nx, dSeq_ev, hs, seqR_nx]
  simp only [lstl, List.map_cons, List.map_nil] at g1 hn i1
  simp [g1, hn, i1, n1, -pIdx_lst, -pLen_lst, -pSl_lst]
  rfl
theorem p_read {x : Hl} (S : Store) (h : x.ok) : f_read_hall [.str x.text] S = .ok x.d S := by
  have hb : b_read_hall = dSeq rA (dSeq (whRun (tNt "house" 1 4) rhB 100000) (dSeq rC rD)) := by
    simp only [rA, dSeq_assoc]
    rfl
  have hd : x.lines.drop 1 = x.hs.flatMap Ho.lines ++ x.as.map Ak.line := rfl
  have h5 := h.hs
  have h6 := h.as
  obtain ⟨k', x', hl, hk⟩ := read_loop S x.lines (some (.val (.str x.text))) (some (.val (intD x.hour))) none none none x.as (100000 - x.hs.length - 1) x.hs [] 1 none h.ho (by simp [-pIdx_lst, -pLen_lst, -pSl_lst]; omega) hd
  rw [show x.hs.length + 1 + (100000 - x.hs.length - 1) = 100000 by omega] at hl
  have hs : pSl S (linesD x.lines) (some (k' : Nat)) none = some (.lst (x.as.map fun a => lstl a.line)) := by
    show some (D.lst (cutD (x.lines.map lstl) (some (k' : Int)) none)) = _
    rw [cut_drop, ← List.map_drop, hk, List.map_map]; rfl
  have lc : lcRun (gN 8) dYes (dCall 1 f_ask_in (dCons (dVar 8) dNil)) [some (.val (.str x.text)), some (.val (linesD x.lines)), some (.val (intD x.hour)), some (.own (x.hs.map Ho.d)), some (.val (intD k')), x', none, none, none] (x.as.map fun a => lstl a.line) [] S = .ok ([] ++ x.as.map Ak.d) S :=
    lc_typedM (f := fun a : Ak => lstl a.line) (ρ' := fun a => [some (.val (.str x.text)), some (.val (linesD x.lines)), some (.val (intD x.hour)), some (.own (x.hs.map Ho.d)), some (.val (intD k')), x', none, none, some (.val (lstl a.line))]) (fun a ha => ⟨by simp, by
      have := p_ask S (h.ao a ha)
      simp only [lstl] at this
      simp [this, -pIdx_lst, -pLen_lst, -pSl_lst]⟩) (by rw [sizeLine_val]; simp [-pIdx_lst, -pLen_lst, -pSl_lst]; omega)
  simp only [List.nil_append] at lc
  have r1 := p_rising S x.hs Ho.d Ho.path (fun _ => rfl) h.hr (by omega)
  have r2 := p_rising S x.as Ak.d Ak.path (fun _ => rfl) h.ar (by omega)
  have e3 : (3 : Nat) ≤ sizeLine := sz (by omega)
  unfold f_read_hall
  rw [dFn_ev, if_pos (show [D.str x.text].length = 1 from rfl), hb, dSeq_ev, show fnEnv N_read_hall.length [D.str x.text] = [some (.val (.str x.text)), none, none, none, none, none, none, none, none] from rfl, r_head S h, seqR_nx, dSeq_ev, hl, seqR_nx]
  simp [intD, hs, wipeE, -pIdx_lst, -pLen_lst, -pSl_lst]
  simp only [intD] at lc
  simp [lc, r1, r2, e3, Hl.d, -pIdx_lst, -pLen_lst, -pSl_lst]
end K75

/-! The law's look at what was read; its draws. -/
namespace K75
open PySem Py Hal TL
/-- nothing but ints, truths, texts, tuples, so deep -/
def Sm : Nat → D → Prop
  | 0, _ => False
  | j + 1, d => (∃ i, d = .int i) ∨ (∃ b, d = .bl b) ∨ (∃ z, d = .str z) ∨ ∃ ds : List D, d = .tup ds ∧ ds.length ≤ 1000 ∧ ∀ e ∈ ds, Sm j e
theorem Sm.succ : ∀ {j : Nat} {d : D}, Sm j d → Sm (j + 1) d
  | 0, _, h => h.elim
  | j + 1, d, h => by
    rcases h with h | h | h | ⟨ds, e, h1, h2⟩
    · exact .inl h
    · exact .inr (.inl h)
    · exact .inr (.inr (.inl h))
    · exact .inr (.inr (.inr ⟨ds, e, h1, fun x hx => Sm.succ (h2 x hx)⟩))
theorem Sm.mono {j k : Nat} {d : D} (h : Sm j d) (l : j ≤ k) : Sm k d := by
  obtain ⟨i, rfl⟩ := Nat.le.dest l
  clear l
  induction i with
  | zero => exact h
  | succ i ih => exact Sm.succ ih
theorem Sm.int {j : Nat} {i : Int} : Sm (j + 1) (.int i) := .inl ⟨i, rfl⟩
theorem Sm.bl {j : Nat} {b : Bool} : Sm (j + 1) (.bl b) := .inr (.inl ⟨b, rfl⟩)
theorem Sm.str {j : Nat} {z : Str} : Sm (j + 1) (.str z) := .inr (.inr (.inl ⟨z, rfl⟩))
theorem Sm.tup {j : Nat} {ds : List D} (h1 : ds.length ≤ 1000) (h2 : ∀ e ∈ ds, Sm j e) : Sm (j + 1) (.tup ds) := .inr (.inr (.inr ⟨ds, rfl, h1, h2⟩))
theorem rg1_nat (k : Nat) (h : k < 2 ^ 62) : rg1 [.int (k : Nat)] = some ((List.range k).map intD) := by
  show (if ((k : Nat) : Int).natAbs < 2 ^ 62 then some (rgD 0 ((k : Nat) : Int).toNat) else none) = _
  rw [if_pos (by omega), Int.toNat_natCast]
  unfold rgD
  congr 1
  refine List.map_congr_left fun i _ => ?_
  simp [intD]
theorem same (S : Store) : ∀ (j : Nat) (d : D), Sm j d → r__law_same j [d, d] S = .ok (.bl true) S
  | 0, _, h => h.elim
  | j + 1, d, h => by
    rcases h with ⟨i, rfl⟩ | ⟨b, rfl⟩ | ⟨z, rfl⟩ | ⟨ds, rfl, h1, h2⟩
    · simp [r__law_same, b__law_same, fnEnv, N__law_same]
    · simp [r__law_same, b__law_same, fnEnv, N__law_same]
    · simp [r__law_same, b__law_same, fnEnv, N__law_same]
    · have lc : lcRun (gN 2) dYes (dCall 2 (r__law_same j) (dCons (dOp pIdx (dVar 0) (dVar 2)) (dCons (dOp pIdx (dVar 1) (dVar 2)) (dNil)))) [some (.val (.tup ds)), some (.val (.tup ds)), none] ((List.range ds.length).map intD) [] S = .ok ([] ++ (List.range ds.length).map fun _ => D.bl true) S :=
        lc_typedM (ρ' := fun k => [some (.val (.tup ds)), some (.val (.tup ds)), some (.val (intD k))]) (fun k hk => ⟨by simp, by
          have hk := List.mem_range.mp hk
          have e : pIdx S (.tup ds) (intD k) = some ds[k] := by
            show L2.atI ds (k : Int) = _
            rw [atI_nat, List.getElem?_eq_getElem hk]
          have := same S j ds[k] (h2 _ (List.getElem_mem hk))
          simp [e, this]⟩) (by rw [sizeLine_val]; simp; omega)
      simp only [List.nil_append] at lc
      have ha : pAll S [.lst ((List.range ds.length).map fun _ => D.bl true)] = some (.bl true) := all_map_true (p := fun _ => true) fun c hcm => rfl
      have hr := rg1_nat ds.length (by omega)
      simp [r__law_same, b__law_same, fnEnv, N__law_same, hr, wipeE, -List.map_const]
      simp [lc, ha, -List.map_const]
theorem path_sm {p : List Nat} (h : p.length ≤ 1000) : Sm 2 (pathD p) := Sm.tup (by simpa using h) fun e he => by
  obtain ⟨x, _, rfl⟩ := List.mem_map.mp he
  exact Sm.int
theorem end_sm {e : Option En} : Sm 2 (endD e) := by
  cases e with
  | none => exact Sm.tup (by simp) (by simp)
  | some e => exact Sm.tup (by simp) (by simp; exact ⟨Sm.str, Sm.int, Sm.int⟩)
theorem ho_sm {x : Ho} (h : x.ok) : Sm 4 x.d := by
  obtain ⟨h1, h2, h3, h4, h5, h6⟩ := h
  refine Sm.tup (by simp) ?_
  simp only [List.mem_cons, List.not_mem_nil, or_false, forall_eq_or_imp, forall_eq]
  refine ⟨(path_sm (by have := len_le h1 (by decide); omega)).mono (by omega), Sm.str, Sm.int, end_sm.mono (by omega), Sm.tup (by simp; omega) fun e he => ?_, ?_⟩
  · obtain ⟨n, _, rfl⟩ := List.mem_map.mp he
    exact Sm.tup (by simp) (by simp; exact ⟨Sm.int, Sm.str, Sm.int⟩)
  · cases hf : x.fin with
    | inl e => exact Sm.tup (by simp) (by simp)
    | inr s =>
      rw [hf] at h4
      refine Sm.tup (by simp) ?_
      simp only [List.mem_cons, List.not_mem_nil, or_false, forall_eq_or_imp, forall_eq]
      exact ⟨Sm.int, path_sm (by have := h4.2.1; omega), Sm.int, Sm.int, Sm.bl⟩
theorem ak_sm {x : Ak} (h : x.ok) : Sm 4 x.d := by
  obtain ⟨h1, h2, h3, h4, h5⟩ := h
  refine Sm.tup (by simp) ?_
  simp only [List.mem_cons, List.not_mem_nil, or_false, forall_eq_or_imp, forall_eq]
  exact ⟨(path_sm (by have := len_le h1 (by decide); omega)).mono (by omega), Sm.str, Sm.int, Sm.int, end_sm.mono (by omega)⟩
theorem l_same {x : Hl} (S : Store) (h : x.ok) : f__law_same [x.d, x.d] S = .ok (.bl true) S := by
  refine same S 8 x.d (Sm.mono (j := 6) ?_ (by omega))
  refine Sm.tup (by simp) ?_
  simp only [List.mem_cons, List.not_mem_nil, or_false, forall_eq_or_imp, forall_eq]
  refine ⟨Sm.int, Sm.tup (by have := h.hs; simp; omega) fun e he => ?_, Sm.tup (by have := h.as; simp; omega) fun e he => ?_⟩
  · obtain ⟨n, hn, rfl⟩ := List.mem_map.mp he
    exact ho_sm (h.ho n hn)
  · obtain ⟨n, hn, rfl⟩ := List.mem_map.mp he
    exact ak_sm (h.ao n hn)
/-! draws -/
def In6 (M : Int) (ns : List Int) : Prop := ∀ x ∈ ns, 0 ≤ x ∧ x < M
theorem dw_loop (S : Store) (PW : DE) (M : Int) (hM : 0 < M) (hq : M.natAbs.log2 < 9000) (hp : ∀ ρ S, PW ρ S = .ok (.int M) S) (s0 s4 s5 : Option Sl) (n : Nat) (hn : n ≤ 1000) (j : Nat) : ∀ (i : Nat) (acc : List Int) (left : Int), acc.length + i = n → In6 M acc →
    ∃ acc' left', whRun (dAnd (dTest (dOp pGt (dVar 3) (dCst (.int 0)))) (dTest (dOp pLt (dPr pLen (dCons (dRd 2) (dNil))) (dVar 1)))) (dSeq (dOwn 2 fApp (dOp pMod (dVar 3) PW)) (dSet 3 (qV (dOp pDiv (dVar 3) PW)))) (i + 1 + j) [s0, some (.val (.int (n : Nat))), some (.own (acc.map D.int)), some (.val (.int left)), s4, s5] S =
      some (.nx [s0, some (.val (.int (n : Nat))), some (.own (acc'.map D.int)), some (.val (.int left')), s4, s5], S) ∧ acc'.length ≤ n ∧ In6 M acc'
  | 0, acc, left, h, hi => by
    refine ⟨acc, left, ?_, by omega, hi⟩
    rw [show 0 + 1 + j = j + 1 by omega]
    unfold whRun
    have : ¬ acc.length < n := by omega
    by_cases hl : 0 < left <;> simp [hl, this]
  | i + 1, acc, left, h, hi => by
    by_cases hl : 0 < left
    · have hm := Int.emod_lt_of_pos left hM
      have hm0 := Int.emod_nonneg left (Int.ne_of_gt hM)
      obtain ⟨acc', left', e, h1, h2⟩ := dw_loop S PW M hM hq hp s0 s4 s5 n hn j i (acc ++ [left % M]) (left / M) (by simp; omega) (fun x hx => by
        rcases List.mem_append.mp hx with hx | hx
        · exact hi x hx
        · rw [List.mem_singleton.mp hx]; exact ⟨hm0, hm⟩)
      refine ⟨acc', left', ?_, h1, h2⟩
      rw [show i + 1 + 1 + j = (i + 1 + j) + 1 by omega]
      unfold whRun
      have hlt : acc.length < n := by omega
      have a1 := pMod_int (S := S) (a := left) hM
      have a2 := pDiv_int (S := S) (a := left) hM hq
      have a3 : ∀ d, fApp (acc.map D.int) d = some (acc.map D.int ++ [d]) := fun d => fApp_ok (by rw [sizeLine_val]; simp; omega)
      simp [hl, hlt, hp, a1, a2, a3]
      simp only [List.map_append, List.map_cons, List.map_nil] at e
      exact e
    · refine ⟨acc, left, ?_, by omega, hi⟩
      rw [show i + 1 + 1 + j = (i + 1 + j) + 1 by omega]
      unfold whRun
      simp [hl]
end K75

/-! The law's draws. -/
namespace K75
open PySem Py Hal TL
theorem pPow_nat {S : Store} {a : Int} {n b : Nat} (h : Builtin.Int.intBits a ≤ b) (l : b * n ≤ 134217728) : pPow S (.int a) (.int (n : Nat)) = some (.int (a ^ n)) := by
  refine if_pos ⟨by omega, ?_⟩
  rw [Int.toNat_natCast]
  exact Nat.le_trans (Nat.mul_le_mul_right n h) l
theorem turn_gen (S : Store) (PW : DE) (M cell : Int) (hM : 0 < M) (hp : ∀ ρ S, PW ρ S = .ok (.int M) S) (p1 c1 c2 c3 c4 p2 c5 c6 c7 p3 c8 : Int) (k : Nat)
    (h1 : 0 < p1) (h2 : 0 < p2) (h3 : 0 < p3) (h8 : 0 < c8) (h8' : c8.natAbs.log2 < 9000)
    (m1 : pMul S (.int (cell % p1)) (.int c1) = some (.int (cell % p1 * c1))) (m2 : pMul S (.int c2) (.int (k : Nat)) = some (.int (c2 * k))) (m3 : pMul S (.int (c2 * k)) (.int (k : Nat)) = some (.int (c2 * k * k)))
    (m4 : pMul S (.int c3) (.int (k : Nat)) = some (.int (c3 * k))) (m5 : ∀ x : Int, pMul S (.int (x % p2)) (.int (x % p2)) = some (.int (x % p2 * (x % p2))))
    (m6 : pMul S (.int c5) (.int ((k : Nat) + c6)) = some (.int (c5 * (k + c6)))) (m7 : ∀ x : Int, pMul S (.int (x % p2 + c5 * (k + c6))) (.int c7) = some (.int ((x % p2 + c5 * (k + c6)) * c7)))
    (s1 s3 s5 : Option Sl) (acc : List D) (ha : acc.length < 1000) :
    ∃ (one v : Int), 0 ≤ v ∧ v < M ∧ dSeq (dSet 5 (qV (dOp pMod (dOp pAdd (dOp pAdd (dOp pAdd (dOp pMul (dOp pMod (dVar 0) (dCst (.int p1))) (dCst (.int c1))) (dOp pMul (dOp pMul (dCst (.int c2)) (dVar 4)) (dVar 4))) (dOp pMul (dCst (.int c3)) (dVar 4))) (dCst (.int c4))) (dCst (.int p2))))) (dSeq (dSet 5 (qV (dOp pMod (dOp pMul (dVar 5) (dVar 5)) (dCst (.int p2))))) (dOwn 2 fApp (dOp pMod (dOp pDiv (dOp pMod (dOp pMul (dOp pAdd (dVar 5) (dOp pMul (dCst (.int c5)) (dOp pAdd (dVar 4) (dCst (.int c6))))) (dCst (.int c7))) (dCst (.int p3))) (dCst (.int c8))) PW)))
      [some (.val (.int cell)), s1, some (.own acc), s3, some (.val (.int (k : Nat))), s5] S = some (.nx [some (.val (.int cell)), s1, some (.own (acc ++ [.int v])), s3, some (.val (.int (k : Nat))), some (.val (.int one))], S) := by
  have q1 := fun x : Int => pMod_int (S := S) (a := x) h1
  have q2 := fun x : Int => pMod_int (S := S) (a := x) h2
  have q3 := fun x : Int => pMod_int (S := S) (a := x) h3
  have q4 := fun x : Int => pMod_int (S := S) (a := x) hM
  have q8 := fun x : Int => pDiv_int (S := S) (a := x) h8 h8'
  have a3 : ∀ d, fApp acc d = some (acc ++ [d]) := fun d => fApp_ok (by rw [sizeLine_val]; omega)
  refine ⟨(cell % p1 * c1 + c2 * k * k + c3 * k + c4) % p2 * ((cell % p1 * c1 + c2 * k * k + c3 * k + c4) % p2) % p2, (((cell % p1 * c1 + c2 * k * k + c3 * k + c4) % p2 * ((cell % p1 * c1 + c2 * k * k + c3 * k + c4) % p2) % p2 + c5 * (k + c6)) * c7 % p3 / c8) % M, Int.emod_nonneg _ (Int.ne_of_gt hM), Int.emod_lt_of_pos _ hM, ?_⟩
  simp [q1, q2, q3, q4, q8, m1, m2, m3, m4, m5, m6, m7, hp, a3]
abbrev drB (PW : DE) : DS := dSeq (dSet 5 (qV (dOp pMod (dOp pAdd (dOp pAdd (dOp pAdd (dOp pMul (dOp pMod (dVar 0) (dCst (.int 1000000007))) (dCst (.int 48271))) (dOp pMul (dOp pMul (dCst (.int 977)) (dVar 4)) (dVar 4))) (dOp pMul (dCst (.int 131)) (dVar 4))) (dCst (.int 1))) (dCst (.int 2147483647))))) (dSeq (dSet 5 (qV (dOp pMod (dOp pMul (dVar 5) (dVar 5)) (dCst (.int 2147483647))))) (dOwn 2 fApp (dOp pMod (dOp pDiv (dOp pMod (dOp pMul (dOp pAdd (dVar 5) (dOp pMul (dCst (.int 40692)) (dOp pAdd (dVar 4) (dCst (.int 3))))) (dCst (.int 69621))) (dCst (.int 2147483629))) (dCst (.int 8))) PW)))
theorem dr_turn (S : Store) (PW : DE) (M cell : Int) (hM : 0 < M) (hp : ∀ ρ S, PW ρ S = .ok (.int M) S) (k : Nat) (hk : k < 1000) (s1 s3 s5 : Option Sl) (acc : List D) (ha : acc.length < 1000) :
    ∃ (one v : Int), 0 ≤ v ∧ v < M ∧ drB PW [some (.val (.int cell)), s1, some (.own acc), s3, some (.val (.int (k : Nat))), s5] S = some (.nx [some (.val (.int cell)), s1, some (.own (acc ++ [.int v])), s3, some (.val (.int (k : Nat))), some (.val (.int one))], S) :=
  turn_gen S PW M cell hM hp 1000000007 48271 977 131 1 2147483647 40692 3 69621 2147483629 8 k (by decide) (by decide) (by decide) (by decide) (by decide)
    (pMul_b (i := 64) (j := 64) (by omega) (by decide) (by omega)) (pMul_b (i := 64) (j := 64) (by decide) (by omega) (by omega)) (pMul_b (i := 64) (j := 64) (by omega) (by omega) (by omega)) (pMul_b (i := 64) (j := 64) (by decide) (by omega) (by omega))
    (fun x => pMul_b (i := 64) (j := 64) (by omega) (by omega) (by omega)) (pMul_b (i := 64) (j := 64) (by decide) (by omega) (by omega)) (fun x => pMul_b (i := 64) (j := 64) (by omega) (by decide) (by omega)) s1 s3 s5 acc ha
theorem dr_loop (S : Store) (PW : DE) (M cell : Int) (hM : 0 < M) (hp : ∀ ρ S, PW ρ S = .ok (.int M) S) (s1 s3 : Option Sl) : ∀ (ks : List Nat) (acc : List Int) (x y : Option Sl), (∀ k ∈ ks, k < 1000) → acc.length + ks.length ≤ 1000 → In6 M acc →
    ∃ acc' x' y', forRun (gN 4) (drB PW) (ks.map intD) [some (.val (.int cell)), s1, some (.own (acc.map D.int)), s3, x, y] S = some (.nx [some (.val (.int cell)), s1, some (.own (acc'.map D.int)), s3, x', y'], S) ∧ acc'.length = acc.length + ks.length ∧ In6 M acc'
  | [], acc, x, y, _, _, hi => ⟨acc, x, y, by simp [forRun], by simp, hi⟩
  | k :: ks, acc, x, y, hk, hl, hi => by
    simp only [List.length_cons] at hl
    obtain ⟨one, v, h1, h2, e⟩ := dr_turn S PW M cell hM hp k (hk k List.mem_cons_self) s1 s3 y (acc.map D.int) (by simp; omega)
    obtain ⟨acc', x', y', e2, h3, h4⟩ := dr_loop S PW M cell hM hp s1 s3 ks (acc ++ [v]) (some (.val (intD k))) (some (.val (.int one))) (fun j hj => hk j (List.mem_cons_of_mem _ hj)) (by simp; omega) (fun z hz => by
      rcases List.mem_append.mp hz with hz | hz
      · exact hi z hz
      · rw [List.mem_singleton.mp hz]; exact ⟨h1, h2⟩)
    refine ⟨acc', x', y', ?_, by simp at h3 ⊢; omega, h4⟩
    rw [List.map_cons]
    unfold forRun
    simp only [gN_ev, intD, List.set_cons_succ, List.set_cons_zero]
    rw [e]
    simp only [List.map_append, List.map_cons, List.map_nil, intD] at e2
    exact e2
abbrev PW6 : DE := dOp pPow (dCst (.int 10)) (dCst (.int 6))
theorem pw6 (ρ : Py.Env) (S : Store) : PW6 ρ S = .ok (.int (10 ^ 6)) S := by
  have := pPow_nat (S := S) (a := 10) (n := 6) (b := 4) (bits_nat (by decide)) (by decide)
  have e : ((6 : Nat) : Int) = 6 := rfl
  rw [e] at this
  simp [this]
theorem pw18 (ρ : Py.Env) (S : Store) : (dOp pPow (dCst (.int 10)) (dCst (.int 18))) ρ S = .ok (.int (10 ^ 18)) S := by
  have := pPow_nat (S := S) (a := 10) (n := 18) (b := 4) (bits_nat (by decide)) (by decide)
  have e : ((18 : Nat) : Int) = 18 := rfl
  rw [e] at this
  simp [this]
theorem rg2_len {a n : Nat} (h : a ≤ n) (hn : n ≤ 1000) : rg2 [.int (a : Nat), .int (n : Nat)] = some (((List.range (n - a)).map fun i => a + i).map intD) := by
  show (if ((a : Nat) : Int).natAbs < 2 ^ 62 ∧ ((n : Nat) : Int).natAbs < 2 ^ 62 then some (rgD (a : Nat) (((n : Nat) : Int) - (a : Nat)).toNat) else none) = _
  rw [if_pos ⟨by omega, by omega⟩]
  unfold rgD
  rw [show (((n : Nat) : Int) - (a : Nat)).toNat = n - a by omega, List.map_map]
  congr 1
theorem l_draws (cell : Int) (S : Store) : ∃ ns : List Int, ns.length = 460 ∧ In6 (10 ^ 6) ns ∧ f__law_draws [.int cell, .int 460] S = .ok (.lst (ns.map D.int)) S := by
  have hb : b__law_draws = dSeq (dSet 2 (qO (dDisp (dNil)))) (dSeq (dSet 3 (qV (dPr pAbs (dCons (dVar 0) (dNil))))) (dSeq (dIfS (dTest (dOp pGe (dVar 3) (dOp pPow (dCst (.int 10)) (dCst (.int 18))))) (whRun (dAnd (dTest (dOp pGt (dVar 3) (dCst (.int 0)))) (dTest (dOp pLt (dPr pLen (dCons (dRd 2) (dNil))) (dVar 1)))) (dSeq (dOwn 2 fApp (dOp pMod (dVar 3) PW6)) (dSet 3 (qV (dOp pDiv (dVar 3) PW6)))) 100000) (dNop)) (dSeq (dFor (dRg rg2 (dCons (dPr pLen (dCons (dRd 2) (dNil))) (dCons (dVar 1) (dNil)))) (gN 4) (drB PW6)) (dSeq (dFrz 2) (dRet (dVar 2)))))) := rfl
  obtain ⟨l, hl⟩ : ∃ l : Int, l = if cell < 0 then -cell else cell := ⟨_, rfl⟩
  have hM : (0 : Int) < 10 ^ 6 := by decide
  have hab : pAbs S [.int cell] = some (.int l) := by rw [hl]; rfl
  have h3 : ∃ acc left, dIfS (dTest (dOp pGe (dVar 3) (dOp pPow (dCst (.int 10)) (dCst (.int 18))))) (whRun (dAnd (dTest (dOp pGt (dVar 3) (dCst (.int 0)))) (dTest (dOp pLt (dPr pLen (dCons (dRd 2) (dNil))) (dVar 1)))) (dSeq (dOwn 2 fApp (dOp pMod (dVar 3) PW6)) (dSet 3 (qV (dOp pDiv (dVar 3) PW6)))) 100000) (dNop) [some (.val (.int cell)), some (.val (.int (460 : Nat))), some (.own []), some (.val (.int l)), none, none] S =
      some (.nx [some (.val (.int cell)), some (.val (.int (460 : Nat))), some (.own (acc.map D.int)), some (.val (.int left)), none, none], S) ∧ acc.length ≤ 460 ∧ In6 (10 ^ 6) acc := by
    by_cases hc : (10 ^ 18 : Int) ≤ l
    · obtain ⟨acc, left, e, h1, h2⟩ := dw_loop S PW6 (10 ^ 6) hM (by decide) pw6 (some (.val (.int cell))) none none 460 (by omega) (100000 - 461) 460 [] l rfl (fun x hx => by cases hx)
      rw [show 460 + 1 + (100000 - 461) = 100000 by omega] at e
      refine ⟨acc, left, ?_, h1, h2⟩
      rw [dIfS_ev]
      have ht : (dTest (dOp pGe (dVar 3) (dOp pPow (dCst (.int 10)) (dCst (.int 18))))) [some (.val (.int cell)), some (.val (.int (460 : Nat))), some (.own []), some (.val (.int l)), none, none] S = .ok true S := by
        rw [dTest_ev, dOp_ev]
        simp only [pw18]
        simp
        omega
      rw [ht, rS_ok, if_pos rfl]
      exact e
    · refine ⟨[], l, ?_, by simp, fun x hx => by cases hx⟩
      rw [dIfS_ev]
      have ht : (dTest (dOp pGe (dVar 3) (dOp pPow (dCst (.int 10)) (dCst (.int 18))))) [some (.val (.int cell)), some (.val (.int (460 : Nat))), some (.own []), some (.val (.int l)), none, none] S = .ok false S := by
        rw [dTest_ev, dOp_ev]
        simp only [pw18]
        simp
        omega
      rw [ht, rS_ok, if_neg (by simp)]
      rfl
  obtain ⟨acc, left, e3, h4, h5⟩ := h3
  obtain ⟨ns, x', y', e4, h6, h7⟩ := dr_loop S PW6 (10 ^ 6) cell hM pw6 (some (.val (.int (460 : Nat)))) (some (.val (.int left))) ((List.range (460 - acc.length)).map fun i => acc.length + i) acc none none (fun k hk => by
    obtain ⟨i, hi, rfl⟩ := List.mem_map.mp hk
    have := List.mem_range.mp hi
    omega) (by simp; omega) h5
  refine ⟨ns, by simp at h6; omega, h7, ?_⟩
  have hg := rg2_len h4 (by omega)
  unfold f__law_draws
  rw [dFn_ev, if_pos (show [D.int cell, D.int 460].length = 2 from rfl), hb, dSeq_ev, show fnEnv N__law_draws.length [D.int cell, D.int 460] = [some (.val (.int cell)), some (.val (.int (460 : Nat))), none, none, none, none] from rfl]
  have e0 : dSet 2 (qO (dDisp (dNil))) [some (.val (.int cell)), some (.val (.int (460 : Nat))), none, none, none, none] S = some (.nx [some (.val (.int cell)), some (.val (.int (460 : Nat))), some (.own []), none, none, none], S) := by simp
  have e1 : dSet 3 (qV (dPr pAbs (dCons (dVar 0) (dNil)))) [some (.val (.int cell)), some (.val (.int (460 : Nat))), some (.own []), none, none, none] S = some (.nx [some (.val (.int cell)), some (.val (.int (460 : Nat))), some (.own []), some (.val (.int l)), none, none], S) := by
    simp [hab, -pAbs_int]
  have e5 : (dRg rg2 (dCons (dPr pLen (dCons (dRd 2) (dNil))) (dCons (dVar 1) (dNil)))) [some (.val (.int cell)), some (.val (.int (460 : Nat))), some (.own (acc.map D.int)), some (.val (.int left)), none, none] S = .ok (((List.range (460 - acc.length)).map fun i => acc.length + i).map intD) S := by
    have hg' : rg2 [.int (acc.length : Nat), .int 460] = some (((List.range (460 - acc.length)).map fun i => acc.length + i).map intD) := hg
    simp [hg', -List.map_map]
  rw [e0, seqR_nx, dSeq_ev, e1, seqR_nx, dSeq_ev, e3, seqR_nx, dSeq_ev, dFor_ev, e5, rS_ok, e4, seqR_nx]
  simp
end K75

/-! One draw, one number, one path. -/
namespace K75
open PySem Py Hal TL
/-- the draws -/
structure Dr (ns : List Int) : Prop where
  len : ns.length = 460
  small : In6 (10 ^ 6) ns
def drD (ns : List Int) : D := .lst (ns.map D.int)
def at_ (ns : List Int) (a : Nat) : Int := ns.getD (a % 460) 0
def dr (ns : List Int) (a m : Nat) : Nat := (at_ ns a / 7 % (m : Int)).toNat
variable {ns : List Int}
theorem Dr.at_ (h : Dr ns) (a : Nat) (S : Store) : pIdx S (drD ns) (.int ((a : Int) % 460)) = some (.int (K75.at_ ns a)) ∧ 0 ≤ K75.at_ ns a ∧ K75.at_ ns a < 10 ^ 6 := by
  have hl := h.len
  have hlt : a % 460 < ns.length := by rw [hl]; omega
  have e : K75.at_ ns a = ns[a % 460] := by
    unfold K75.at_
    rw [List.getD_eq_getElem?_getD, List.getElem?_eq_getElem hlt]; rfl
  refine ⟨?_, ?_⟩
  · show L2.atI (ns.map D.int) _ = _
    rw [show (a : Int) % 460 = ((a % 460 : Nat) : Int) by omega, atI_nat, List.getElem?_map, List.getElem?_eq_getElem hlt, e]; rfl
  · rw [e]
    exact h.small _ (List.getElem_mem hlt)
theorem Dr.pl (h : Dr ns) (S : Store) : pLen S [drD ns] = some (.int 460) := by
  show some (D.int ((ns.map D.int).length : Nat)) = _
  rw [List.length_map, h.len]; rfl
theorem dr_lt {a m : Nat} (hm : 0 < m) : dr ns a m < m := by
  have h1 := Int.emod_lt_of_pos (at_ ns a / 7) (show (0 : Int) < m by omega)
  have h2 := Int.emod_nonneg (at_ ns a / 7) (show (m : Int) ≠ 0 by omega)
  unfold dr
  omega
theorem dr_int {a m : Nat} (hm : 0 < m) : ((dr ns a m : Nat) : Int) = at_ ns a / 7 % (m : Int) := Int.toNat_of_nonneg (Int.emod_nonneg _ (by omega))
theorem l_draw (h : Dr ns) (a m : Nat) (hm : 0 < m) (S : Store) : f__law_draw [drD ns, .int (a : Nat), .int (m : Nat)] S = .ok (intD (dr ns a m)) S := by
  obtain ⟨h1, _, _⟩ := h.at_ a S
  have q1 := pMod_int (S := S) (a := (a : Nat)) (b := 460) (by decide)
  have q2 := pDiv_int (S := S) (a := at_ ns a) (b := 7) (by decide) (by decide)
  have q3 := pMod_int (S := S) (a := at_ ns a / 7) (b := (m : Nat)) (by omega)
  simp [f__law_draw, b__law_draw, fnEnv, N__law_draw, h.pl, q1, h1, q2, q3, intD, dr_int hm]
def nuI (x y z g p c5 c3 M : Int) : Int := if z / 7 % 3 = 0 then (x * M + y) % c5 else if z / 7 % 3 = 1 then g - (x * M + y) % c3 else (x * M + y) % p
def nu (ns : List Int) (a : Nat) : Nat := (nuI (at_ ns a) (at_ ns (a + 1)) (at_ ns (a + 2)) 1000000006 1000000007 5 3 (10 ^ 6)).toNat
theorem nuI_bd (x y z : Int) : 0 ≤ nuI x y z 1000000006 1000000007 5 3 (10 ^ 6) ∧ nuI x y z 1000000006 1000000007 5 3 (10 ^ 6) ≤ 1000000006 := by
  unfold nuI
  split
  · omega
  · split <;> omega
theorem nu_le {a : Nat} : nu ns a ≤ Gt := by
  have := nuI_bd (at_ ns a) (at_ ns (a + 1)) (at_ ns (a + 2))
  unfold nu
  show _ ≤ 1000000006
  omega
theorem nu_int {a : Nat} : ((nu ns a : Nat) : Int) = nuI (at_ ns a) (at_ ns (a + 1)) (at_ ns (a + 2)) 1000000006 1000000007 5 3 (10 ^ 6) := Int.toNat_of_nonneg (nuI_bd _ _ _).1
abbrev nuB (PW : DE) (g p c5 c3 : Int) : DS := dSeq (dSet 2 (qV (dPr pLen (dCons (dVar 0) (dNil))))) (dSeq (dSet 3 (qV (dOp pMul (dOp pIdx (dVar 0) (dOp pMod (dVar 1) (dVar 2))) PW))) (dSeq (dSet 3 (qV (dOp pAdd (dVar 3) (dOp pIdx (dVar 0) (dOp pMod (dOp pAdd (dVar 1) (dCst (.int 1))) (dVar 2)))))) (dSeq (dSet 4 (qV (dOp pMod (dOp pDiv (dOp pIdx (dVar 0) (dOp pMod (dOp pAdd (dVar 1) (dCst (.int 2))) (dVar 2))) (dCst (.int 7))) (dCst (.int 3))))) (dRet (dOp pIdx (dLst (dDisp (dCons (dOp pMod (dVar 3) (dCst (.int c5))) (dCons (dOp pSub (dCst (.int g)) (dOp pMod (dVar 3) (dCst (.int c3)))) (dCons (dOp pMod (dVar 3) (dCst (.int p))) (dNil)))))) (dVar 4))))))
theorem number_gen (h : Dr ns) (S : Store) (PW : DE) (M : Int) (hp : ∀ ρ S, PW ρ S = .ok (.int M) S) (g p c5 c3 : Int) (h1 : 0 < p) (h2 : 0 < c5) (h3 : 0 < c3) (a : Nat) (m1 : pMul S (.int (at_ ns a)) (.int M) = some (.int (at_ ns a * M))) :
    nuB PW g p c5 c3 [some (.val (drD ns)), some (.val (.int (a : Nat))), none, none, none] S = some (.rt (.int (nuI (at_ ns a) (at_ ns (a + 1)) (at_ ns (a + 2)) g p c5 c3 M)), S) := by
  obtain ⟨i0, _, _⟩ := h.at_ a S
  obtain ⟨i1, _, _⟩ := h.at_ (a + 1) S
  obtain ⟨i2, _, _⟩ := h.at_ (a + 2) S
  simp only [Int.natCast_add] at i1 i2
  have i1 : pIdx S (drD ns) (.int (((a : Int) + 1) % 460)) = some (.int (at_ ns (a + 1))) := i1
  have i2 : pIdx S (drD ns) (.int (((a : Int) + 2) % 460)) = some (.int (at_ ns (a + 2))) := i2
  have q0 := fun x : Int => pMod_int (S := S) (a := x) (b := 460) (by decide)
  have q1 := fun x : Int => pMod_int (S := S) (a := x) h1
  have q2 := fun x : Int => pMod_int (S := S) (a := x) h2
  have q3 := fun x : Int => pMod_int (S := S) (a := x) h3
  have q4 := fun x : Int => pMod_int (S := S) (a := x) (b := 3) (by decide)
  have q7 := fun x : Int => pDiv_int (S := S) (a := x) (b := 7) (by decide) (by decide)
  have e3 : (3 : Nat) ≤ sizeLine := sz (by omega)
  have hw : at_ ns (a + 2) / 7 % 3 = 0 ∨ at_ ns (a + 2) / 7 % 3 = 1 ∨ at_ ns (a + 2) / 7 % 3 = 2 := by omega
  simp [h.pl, q0, i0, hp, m1, i1, i2, q7, q4, q2, q3, q1, e3]
  unfold nuI
  rcases hw with hw | hw | hw <;> simp [hw]
theorem l_number (h : Dr ns) (a : Nat) (S : Store) : f__law_number [drD ns, .int (a : Nat)] S = .ok (intD (nu ns a)) S := by
  have hb : b__law_number = nuB PW6 1000000006 1000000007 5 3 := rfl
  obtain ⟨_, b0, b1⟩ := h.at_ a S
  have := number_gen h S PW6 (10 ^ 6) pw6 1000000006 1000000007 5 3 (by decide) (by decide) (by decide) a (pMul_b (i := 64) (j := 64) (by omega) (by decide) (by omega))
  unfold f__law_number
  rw [dFn_ev, if_pos (show [drD ns, D.int (a : Nat)].length = 2 from rfl), hb, show fnEnv N__law_number.length [drD ns, D.int (a : Nat)] = [some (.val (drD ns)), some (.val (.int (a : Nat))), none, none, none] from rfl, this, ← nu_int]
  rfl
/-! paths -/
def cnt (ns : List Int) (a : Nat) (cs : List Nat) : Nat := cs.getD (dr ns a cs.length) 0
def pth (ns : List Int) (a : Nat) (cs : List Nat) : List Nat := (List.range (cnt ns a cs)).map fun k => dr ns (a + 1 + k) 10
def cntD (cs : List Nat) : D := .lst (cs.map intD)
theorem getD_mem {cs : List Nat} {i : Nat} (h : i < cs.length) : cs.getD i 0 ∈ cs := by
  rw [List.getD_eq_getElem?_getD, List.getElem?_eq_getElem h]
  exact List.getElem_mem h
theorem pth_ok {a : Nat} {cs : List Nat} (hc : 0 < cs.length) : pOk cs (pth ns a cs) := by
  refine ⟨?_, fun x hx => ?_⟩
  · unfold pth
    rw [List.length_map, List.length_range]
    exact getD_mem (dr_lt hc)
  · obtain ⟨k, _, rfl⟩ := List.mem_map.mp hx
    exact dr_lt (by omega)
theorem l_path (h : Dr ns) (a : Nat) (cs : List Nat) (hc : 0 < cs.length) (hs : ∀ c ∈ cs, c ≤ 6) (S : Store) : f__law_path [drD ns, .int (a : Nat), cntD cs] S = .ok (pathD (pth ns a cs)) S := by
  have hlt := dr_lt (ns := ns) (a := a) hc
  have hlen : pLen S [cntD cs] = some (.int (cs.length : Nat)) := by
    show some (D.int ((cs.map intD).length : Nat)) = _
    rw [List.length_map]
  have d1 := l_draw h a cs.length hc S
  have hi : pIdx S (cntD cs) (intD (dr ns a cs.length)) = some (intD (cnt ns a cs)) := by
    show L2.atI (cs.map intD) ((dr ns a cs.length : Nat) : Int) = _
    unfold cnt
    rw [atI_nat, List.getElem?_map, List.getD_eq_getElem?_getD, List.getElem?_eq_getElem hlt]; rfl
  have hb : cnt ns a cs ≤ 6 := hs _ (getD_mem hlt)
  have hr : rg1 [intD (cnt ns a cs)] = some ((List.range (cnt ns a cs)).map intD) := rg1_nat _ (by omega)
  have lc : lcRun (gN 3) dYes (dCall 3 f__law_draw (dCons (dVar 0) (dCons (dOp pAdd (dOp pAdd (dVar 1) (dCst (.int 1))) (dVar 3)) (dCons (dCst (.int 10)) (dNil))))) [some (.val (drD ns)), some (.val (.int (a : Nat))), some (.val (cntD cs)), none] ((List.range (cnt ns a cs)).map intD) [] S = .ok ([] ++ (List.range (cnt ns a cs)).map fun k => intD (dr ns (a + 1 + k) 10)) S :=
    lc_typedM (ρ' := fun k => [some (.val (drD ns)), some (.val (.int (a : Nat))), some (.val (cntD cs)), some (.val (intD k))]) (fun k hk => ⟨by simp, by
      have := l_draw h (a + 1 + k) 10 (by omega) S
      simp only [Int.natCast_add] at this
      have : f__law_draw [drD ns, .int ((a : Int) + 1 + (k : Int)), .int 10] S = .ok (intD (dr ns (a + 1 + k) 10)) S := this
      simp [intD, this]⟩) (by rw [sizeLine_val]; simp; omega)
  simp only [List.nil_append] at lc
  simp [f__law_path, b__law_path, fnEnv, N__law_path, hlen, d1, hi, hr, wipeE]
  simp [lc, pathD, pth]
end K75

/-! Paths, sorted. -/
namespace K75
open PySem Py Hal TL
variable {ns : List Int}
def keyP (p : List Nat) : List L2.Key := p.map fun x : Nat => (Sum.inl (x : Int) : L2.Key)
def kvP (ps : List (List Nat)) : List (List L2.Key × D) := ps.map fun p => (keyP p, .bl true)
def addP (ps : List (List Nat)) (p : List Nat) : List (List Nat) := if p ∈ ps then ps else ps ++ [p]
theorem keyP_inj {p q : List Nat} (h : keyP p = keyP q) : p = q := by
  unfold keyP at h
  exact (List.map_inj_right (f := fun x : Nat => (Sum.inl (x : Int) : L2.Key)) (fun x y z => by
    have : (x : Int) = (y : Int) := Sum.inl.inj z
    omega)).mp h
theorem put_kvP (ps : List (List Nat)) (p : List Nat) : putD (kvP ps) (keyP p) (.bl true) = kvP (addP ps p) := by
  have ha : ((kvP ps).any fun kv => decide (kv.1 = keyP p)) = decide (p ∈ ps) := by
    unfold kvP
    rw [List.any_map]
    by_cases hp : p ∈ ps
    · rw [decide_eq_true hp, List.any_eq_true]
      exact ⟨p, hp, by simp⟩
    · rw [decide_eq_false hp, List.any_eq_false]
      intro q hq
      simp only [Function.comp, decide_eq_true_eq]
      exact fun z => hp (keyP_inj z ▸ hq)
  unfold putD addP
  rw [ha]
  by_cases hp : p ∈ ps
  · rw [if_pos (decide_eq_true hp), if_pos hp]
    unfold kvP
    rw [List.map_map]
    refine List.map_congr_left fun q _ => ?_
    simp only [Function.comp]
    split <;> rfl
  · rw [if_neg (by simpa using hp), if_neg hp]
    simp [kvP]
theorem addP_nodup {ps : List (List Nat)} {p : List Nat} (h : ps.Nodup) : (addP ps p).Nodup := by
  unfold addP
  split
  · exact h
  · rename_i hp
    rw [List.nodup_append]
    exact ⟨h, by simp, fun a ha b hb => by
      rw [List.mem_singleton.mp hb]
      exact fun z => hp (z ▸ ha)⟩
theorem keyL_path (p : List Nat) : keyL (p.map intD) = some (keyP p) := by
  induction p with
  | nil => rfl
  | cons x p ih =>
    rw [List.map_cons, keyL, ih]; rfl
theorem kD_key (p : List Nat) : D.tup ((keyP p).map kD) = pathD p := by
  simp [keyP, pathD, kD, intD, List.map_map]
theorem lits_len : ∀ k ∈ lits, k.length = 3 ∨ k.length = 5 := by decide +kernel
theorem not_lit {p : List Nat} (h : p.length = 0 ∨ p.length = 2 ∨ p.length = 4 ∨ p.length = 6) : (lits.any fun k => decide (k = keyP p)) = false := by
  rw [List.any_eq_false]
  intro k hk
  simp only [decide_eq_true_eq]
  intro z
  have := lits_len k hk
  have hl : k.length = p.length := by rw [z]; simp [keyP]
  omega
abbrev paB : DS := dPut lits (dCst (.bl true)) (dVar 4) (dCall 3 f__law_path (dCons (dVar 0) (dCons (dOp pAdd (dVar 1) (dOp pMul (dCst (.int 7)) (dVar 5))) (dCons (dVar 2) (dNil)))))
theorem put_step (h : Dr ns) (S : Store) (a : Nat) (cs : List Nat) (hc : 0 < cs.length) (hs : ∀ c ∈ cs, c = 0 ∨ c = 2 ∨ c = 4 ∨ c = 6) (k : Nat) (hk : k < 1000) (ps : List (List Nat)) (hp : ps.length < 1000) (s3 : Option Sl) :
    paB [some (.val (drD ns)), some (.val (.int (a : Nat))), some (.val (cntD cs)), s3, some (.val (.ref S.length)), some (.val (intD k))] (S ++ [.dT (kvP ps)]) = some (.nx [some (.val (drD ns)), some (.val (.int (a : Nat))), some (.val (cntD cs)), s3, some (.val (.ref S.length)), some (.val (intD k))], S ++ [.dT (kvP (addP ps (pth ns (a + 7 * k) cs)))]) := by
  have l1 := l_path h (a + 7 * k) cs hc (fun c hc => by rcases hs c hc with h | h | h | h <;> omega) (S ++ [.dT (kvP ps)])
  have hm : pMul (S ++ [.dT (kvP ps)]) (.int 7) (intD k) = some (.int (7 * (k : Int))) := pMul_b (i := 64) (j := 64) (by decide) (by omega) (by omega)
  have hok := pth_ok (ns := ns) (a := a + 7 * k) hc
  have hnl := not_lit (hs _ hok.1)
  have hg : (S ++ [Ob.dT (kvP ps)])[S.length]? = some (.dT (kvP ps)) := by simp
  have hkv : (kvP ps).length = ps.length := by simp [kvP]
  have hst : stPut lits (S ++ [.dT (kvP ps)]) (.ref S.length) (pathD (pth ns (a + 7 * k) cs)) (.bl true) = some (S ++ [.dT (kvP (addP ps (pth ns (a + 7 * k) cs)))]) := by
    unfold stPut pathD
    simp only [hg, keyL_path, Option.bind_some]
    rw [if_pos ⟨by rw [hkv]; omega, hnl⟩, put_kvP]
    simp
  have l2 : f__law_path [drD ns, .int ((a : Int) + 7 * (k : Int)), cntD cs] (S ++ [.dT (kvP ps)]) = .ok (pathD (pth ns (a + 7 * k) cs)) (S ++ [.dT (kvP ps)]) := by
    simpa using l1
  simp [dPut, hm, l2, hst]
theorem put_loop (h : Dr ns) (S : Store) (a : Nat) (cs : List Nat) (hc : 0 < cs.length) (hs : ∀ c ∈ cs, c = 0 ∨ c = 2 ∨ c = 4 ∨ c = 6) (s3 : Option Sl) : ∀ (ks : List Nat) (ps : List (List Nat)) (x : Option Sl), (∀ k ∈ ks, k < 1000) → ps.length + ks.length ≤ 1000 → ps.Nodup → (∀ p ∈ ps, pOk cs p) →
    ∃ ps' x', forRun (gN 5) paB (ks.map intD) [some (.val (drD ns)), some (.val (.int (a : Nat))), some (.val (cntD cs)), s3, some (.val (.ref S.length)), x] (S ++ [.dT (kvP ps)]) = some (.nx [some (.val (drD ns)), some (.val (.int (a : Nat))), some (.val (cntD cs)), s3, some (.val (.ref S.length)), x'], S ++ [.dT (kvP ps')]) ∧ ps'.Nodup ∧ (∀ p ∈ ps', pOk cs p) ∧ ps'.length ≤ ps.length + ks.length
  | [], ps, x, _, _, hn, hp => ⟨ps, x, by simp [forRun], hn, hp, by simp⟩
  | k :: ks, ps, x, hk, hl, hn, hp => by
    simp only [List.length_cons] at hl
    have hal : (addP ps (pth ns (a + 7 * k) cs)).length ≤ ps.length + 1 := by unfold addP; split <;> simp
    obtain ⟨ps', x', e, h1, h2, h3⟩ := put_loop h S a cs hc hs s3 ks (addP ps (pth ns (a + 7 * k) cs)) (some (.val (intD k))) (fun j hj => hk j (List.mem_cons_of_mem _ hj)) (by omega) (addP_nodup hn) (fun p hpp => by
      unfold addP at hpp
      split at hpp
      · exact hp p hpp
      · rcases List.mem_append.mp hpp with hpp | hpp
        · exact hp p hpp
        · rw [List.mem_singleton.mp hpp]; exact pth_ok hc)
    refine ⟨ps', x', ?_, h1, h2, by simp; omega⟩
    rw [List.map_cons]
    unfold forRun
    simp only [gN_ev, List.set_cons_succ, List.set_cons_zero]
    rw [put_step h S a cs hc hs k (hk k List.mem_cons_self) ps (by omega) s3]
    exact e
/-! sorted -/
theorem plt_eq (p q : List Nat) : plt p q = decide ((p.map fun x : Nat => (x : Int)) < q.map fun x : Nat => (x : Int)) := by
  unfold plt pathD
  simp only [D.py]
  rw [PySem.W.dataLt_tuple]
  have e : ∀ l : List Nat, pyL (l.map intD) = (l.map fun x : Nat => (x : Int)).map PyData.int := fun l => by
    induction l with
    | nil => rfl
    | cons x l ih =>
      rw [List.map_cons, pyL, ih]; rfl
  rw [e, e]
  exact PySem.W.dataLt_ints _ _
theorem int_map_inj {p q : List Nat} (h : (p.map fun x : Nat => (x : Int)) = q.map fun x : Nat => (x : Int)) : p = q := by
  exact (List.map_inj_right (f := fun x : Nat => (x : Int)) (fun x y z => by
    have z : (x : Int) = (y : Int) := z
    omega)).mp h
def sle (p q : List Nat) : Bool := !plt q p
theorem sle_eq (p q : List Nat) : sle p q = decide ((p.map fun x : Nat => (x : Int)) ≤ q.map fun x : Nat => (x : Int)) := by
  unfold sle
  rw [plt_eq, ← decide_not]
  exact decide_eq_decide.mpr List.not_lt
theorem sle_trans (a b c : List Nat) (h1 : sle a b = true) (h2 : sle b c = true) : sle a c = true := by
  rw [sle_eq, decide_eq_true_eq] at *
  exact List.le_trans h1 h2
theorem sle_total (a b : List Nat) : (sle a b || sle b a) = true := by
  rw [sle_eq, sle_eq, Bool.or_eq_true, decide_eq_true_eq, decide_eq_true_eq]
  exact List.le_total _ _
theorem sle_lt {a b : List Nat} (h : sle a b = true) (hne : a ≠ b) : plt a b = true := by
  rw [sle_eq, decide_eq_true_eq] at h
  rw [plt_eq, decide_eq_true_eq]
  rcases Decidable.em ((a.map fun x : Nat => (x : Int)) < b.map fun x : Nat => (x : Int)) with h1 | h1
  · exact h1
  · exact absurd (int_map_inj (List.le_antisymm h (List.not_lt.mp h1))) hne
theorem sort_paths (ps : List (List Nat)) : sortD (ps.map pathD) = (ps.mergeSort sle).map pathD := by
  unfold sortD
  exact (List.map_mergeSort (f := pathD) (r := sle) (s := PySem.W.dataLe false D.py) (fun a _ b _ => rfl)).symm
theorem sorted_rise {ps : List (List Nat)} (h : ps.Nodup) : (ps.mergeSort sle).Pairwise fun p q => plt p q = true := by
  have h1 := List.pairwise_mergeSort (le := sle) sle_trans sle_total ps
  have h2 : (ps.mergeSort sle).Nodup := (List.mergeSort_perm ps sle).nodup_iff.mpr h
  exact (List.Pairwise.and h1 h2).imp fun ⟨a, b⟩ => sle_lt a b
theorem sort_okP {ps : List (List Nat)} (h : ps.length ≤ 1000) : sortOk (ps.map pathD) = true := by
  unfold sortOk
  simp only [Bool.and_eq_true, Bool.or_eq_true, List.all_eq_true, decide_eq_true_eq, List.length_map]
  refine ⟨⟨⟨fun d hd => ?_, fun d hd e he => ?_⟩, .inl fun d hd => ?_⟩, by omega⟩
  · obtain ⟨p, _, rfl⟩ := List.mem_map.mp hd
    exact path_sh.shal (by omega)
  · obtain ⟨p, _, rfl⟩ := List.mem_map.mp hd
    obtain ⟨q, _, rfl⟩ := List.mem_map.mp he
    simp only [pathD, D.py, PySem.W.alike]
    exact alike_ints p q
  · obtain ⟨p, _, rfl⟩ := List.mem_map.mp hd
    rfl
theorem l_paths (h : Dr ns) (S : Store) (a : Nat) (cs : List Nat) (hc : 0 < cs.length) (hs : ∀ c ∈ cs, c = 0 ∨ c = 2 ∨ c = 4 ∨ c = 6) (m : Nat) (hm : m ≤ 100) :
    ∃ (ps : List (List Nat)) (S' : Store), f__law_paths [drD ns, .int (a : Nat), cntD cs, .int (m : Nat)] S = .ok (.lst (ps.map pathD)) S' ∧ (∀ p ∈ ps, pOk cs p) ∧ ps.length ≤ m ∧ ps.Pairwise fun p q => plt p q = true := by
  obtain ⟨ps, x', e, h1, h2, h3⟩ := put_loop h S a cs hc hs (some (.val (.int (m : Nat)))) (List.range m) [] none (fun k hk => by have := List.mem_range.mp hk; omega) (by simp; omega) List.nodup_nil (fun p hp => by cases hp)
  simp only [List.length_nil, List.length_range, Nat.zero_add] at h3
  refine ⟨ps.mergeSort sle, S ++ [.dT (kvP ps)], ?_, fun p hp => h2 p ((List.mergeSort_perm ps sle).mem_iff.mp hp), by rw [List.length_mergeSort]; exact h3, sorted_rise h1⟩
  have hr := rg1_nat m (by omega)
  have hl : ∀ S' : Store, qListD (S ++ [.dT (kvP ps)]) [.ref S.length] = some (ps.map pathD) := fun _ => by
    unfold qListD
    simp only [List.getElem?_concat_length]
    simp [kvP, List.map_map, Function.comp_def, kD_key]
  have hq : qSort (S ++ [.dT (kvP ps)]) [.lst (ps.map pathD)] = some ((ps.mergeSort sle).map pathD) := by
    show (if sortOk (ps.map pathD) = true then some (sortD (ps.map pathD)) else none) = _
    rw [if_pos (sort_okP (by omega)), sort_paths]
  have e : forRun (gN 5) paB ((List.range m).map intD) [some (.val (drD ns)), some (.val (.int (a : Nat))), some (.val (cntD cs)), some (.val (.int (m : Nat))), some (.val (.ref S.length)), none] (S ++ [.dT []]) = _ := e
  simp [f__law_paths, b__law_paths, fnEnv, N__law_paths, dNewO, hr]
  rw [e]
  simp [hl S, hq]
end K75

/-! Ends, states, diaries drawn. -/
namespace K75
open PySem Py Hal TL
variable {ns : List Int}
theorem nb (h : Dr ns) (a c : Nat) (S : Store) : f__law_number [drD ns, .int ((a : Int) + (c : Nat))] S = .ok (intD (nu ns (a + c))) S := by
  have := l_number h (a + c) S
  rwa [Int.natCast_add] at this
theorem db (h : Dr ns) (a c m : Nat) (hm : 0 < m) (S : Store) : f__law_draw [drD ns, .int ((a : Int) + (c : Nat)), .int (m : Nat)] S = .ok (intD (dr ns (a + c) m)) S := by
  have := l_draw h (a + c) m hm S
  rwa [Int.natCast_add] at this
theorem strs_at {ws : List Str} {i : Nat} (h : i < ws.length) (S : Store) : pIdx S (.lst (ws.map D.str)) (intD i) = some (.str (ws.getD i "")) := by
  show L2.atI (ws.map D.str) (i : Int) = _
  rw [atI_nat, List.getElem?_map, List.getD_eq_getElem?_getD, List.getElem?_eq_getElem h]; rfl
theorem strs_mem {ws : List Str} {i : Nat} (h : i < ws.length) : ws.getD i "" ∈ ws := by
  rw [List.getD_eq_getElem?_getD, List.getElem?_eq_getElem h]
  exact List.getElem_mem h
def mkEn (ns : List Int) (a : Nat) : En := ⟨endWs.getD (dr ns a 3) "", if endWs.getD (dr ns a 3) "" = "off" then 0 else nu ns (a + 1), nu ns (a + 4)⟩
theorem mkEn_ok {a : Nat} : (mkEn ns a).ok := ⟨strs_mem (dr_lt (by omega)), by
  show (if _ then 0 else _) ≤ Gt
  split
  · exact Nat.zero_le _
  · exact nu_le, nu_le⟩
theorem l_end (h : Dr ns) (a : Nat) (b : Bool) (S : Store) : f__law_end [drD ns, .int (a : Nat), .bl b] S = .ok (endD (if b then some (mkEn ns a) else none)) S := by
  cases b with
  | false =>
    simp [f__law_end, b__law_end, fnEnv, N__law_end, endD]
  | true =>
    have d1 : f__law_draw [drD ns, .int (a : Nat), .int 3] S = .ok (intD (dr ns a 3)) S := l_draw h a 3 (by omega) S
    have n1 : f__law_number [drD ns, .int ((a : Int) + 1)] S = .ok (intD (nu ns (a + 1))) S := nb h a 1 S
    have n4 : f__law_number [drD ns, .int ((a : Int) + 4)] S = .ok (intD (nu ns (a + 4))) S := nb h a 4 S
    have hw : pIdx S (.lst [.str "good", .str "bad", .str "off"]) (intD (dr ns a 3)) = some (.str (endWs.getD (dr ns a 3) "")) := strs_at (ws := endWs) (show dr ns a 3 < 3 from dr_lt (by omega)) S
    have e3 : (3 : Nat) ≤ sizeLine := sz (by omega)
    have e2 : (2 : Nat) ≤ sizeLine := sz (by omega)
    simp [f__law_end, b__law_end, fnEnv, N__law_end, d1, hw, e3, n1, e2, n4, -List.getD_eq_getElem?_getD]
    by_cases ho : endWs.getD (dr ns a 3) "" = "off" <;> simp [ho, n4, e3, endD, mkEn, En.d, intD, -List.getD_eq_getElem?_getD]
def mkSi (ns : List Int) (a : Nat) (wide : Bool) : Si :=
  ⟨if wide then nu ns (a + 1) else dr ns (a + 4) 160, (List.range ([0, 1, 3, 32 + 8 * (if wide then 1 else 0)].getD (dr ns a 4) 0)).map fun k => nu ns (a + 5 + k), if wide then nu ns (a + 2) else dr ns (a + 1) 6, if wide then nu ns (a + 4) else dr ns (a + 2) 17, decide (dr ns (a + 3) 2 = 1)⟩
theorem many4 (i : Nat) (w : Bool) : [0, 1, 3, 32 + 8 * (if w then 1 else 0)].getD i 0 ≤ 40 := by
  match i with
  | 0 => simp
  | 1 => simp
  | 2 => simp
  | 3 => cases w <;> simp
  | i + 4 => simp
theorem dr_le {a m : Nat} (h1 : 0 < m) (h2 : m ≤ 1000) : dr ns a m ≤ Gt := by
  have := dr_lt (ns := ns) (a := a) h1
  have : 1000 ≤ Gt := by decide
  omega
theorem mkSi_ok {a : Nat} {w : Bool} : (mkSi ns a w).ok := by
  refine ⟨?_, ?_, fun x hx => ?_, ?_, ?_⟩
  · show (if _ then _ else _) ≤ Gt
    split
    · exact nu_le
    · exact dr_le (by omega) (by omega)
  · show ((List.range _).map _).length ≤ 40
    rw [List.length_map, List.length_range]
    exact many4 _ _
  · obtain ⟨k, _, rfl⟩ := List.mem_map.mp hx
    exact nu_le
  · show (if _ then _ else _) ≤ Gt
    split
    · exact nu_le
    · exact dr_le (by omega) (by omega)
  · show (if _ then _ else _) ≤ Gt
    split
    · exact nu_le
    · exact dr_le (by omega) (by omega)
theorem l_state (h : Dr ns) (a : Nat) (w : Bool) (S : Store) : f__law_state [drD ns, .int (a : Nat), .bl w] S = .ok (mkSi ns a w).d S := by
  obtain ⟨m, hm⟩ : ∃ m, m = [0, 1, 3, 32 + 8 * (if w then 1 else 0)].getD (dr ns a 4) 0 := ⟨_, rfl⟩
  have hm40 : m ≤ 40 := by rw [hm]; exact many4 _ _
  have d0 : f__law_draw [drD ns, .int (a : Nat), .int 4] S = .ok (intD (dr ns a 4)) S := l_draw h a 4 (by omega) S
  have d1 : f__law_draw [drD ns, .int ((a : Int) + 1), .int 6] S = .ok (intD (dr ns (a + 1) 6)) S := db h a 1 6 (by omega) S
  have d2 : f__law_draw [drD ns, .int ((a : Int) + 2), .int 17] S = .ok (intD (dr ns (a + 2) 17)) S := db h a 2 17 (by omega) S
  have d3 : f__law_draw [drD ns, .int ((a : Int) + 3), .int 2] S = .ok (intD (dr ns (a + 3) 2)) S := db h a 3 2 (by omega) S
  have d4 : f__law_draw [drD ns, .int ((a : Int) + 4), .int 160] S = .ok (intD (dr ns (a + 4) 160)) S := db h a 4 160 (by omega) S
  have n1 : f__law_number [drD ns, .int ((a : Int) + 1)] S = .ok (intD (nu ns (a + 1))) S := nb h a 1 S
  have n2 : f__law_number [drD ns, .int ((a : Int) + 2)] S = .ok (intD (nu ns (a + 2))) S := nb h a 2 S
  have n4 : f__law_number [drD ns, .int ((a : Int) + 4)] S = .ok (intD (nu ns (a + 4))) S := nb h a 4 S
  have hp : pMul S (.int 8) (.int (if w = true then 1 else 0)) = some (.int (8 * (if w = true then 1 else 0))) := pMul_b (i := 64) (j := 64) (by decide) (by cases w <;> decide) (by omega)
  have hi : pIdx S (.lst [.int 0, .int 1, .int 3, .int (32 + 8 * (if w = true then 1 else 0))]) (intD (dr ns a 4)) = some (intD m) := by
    have e : D.lst [.int 0, .int 1, .int 3, .int (32 + 8 * (if w = true then 1 else 0))] = cntD [0, 1, 3, 32 + 8 * (if w then 1 else 0)] := by cases w <;> rfl
    rw [e, hm]
    show L2.atI (_root_.List.map intD _) ((dr ns a 4 : Nat) : Int) = _
    have hlt := dr_lt (ns := ns) (a := a) (m := 4) (by omega)
    rw [atI_nat, List.getElem?_map, List.getD_eq_getElem?_getD, List.getElem?_eq_getElem (by simpa using hlt)]; rfl
  have hr : rg1 [intD m] = some ((List.range m).map intD) := rg1_nat m (by omega)
  have lc : lcRun (gN 7) dYes (dCall 2 f__law_number (dCons (dVar 0) (dCons (dOp pAdd (dOp pAdd (dVar 1) (dCst (.int 5))) (dVar 7)) (dNil)))) [some (.val (drD ns)), some (.val (.int (a : Nat))), some (.val (.bl w)), some (.val (intD m)), none, none, none, none] ((List.range m).map intD) [] S = .ok ([] ++ (List.range m).map fun k => intD (nu ns (a + 5 + k))) S :=
    lc_typedM (ρ' := fun k => [some (.val (drD ns)), some (.val (.int (a : Nat))), some (.val (.bl w)), some (.val (intD m)), none, none, none, some (.val (intD k))]) (fun k hk => ⟨by simp, by
      have := nb h (a + 5) k S
      have : f__law_number [drD ns, .int ((a : Int) + 5 + (k : Int))] S = .ok (intD (nu ns (a + 5 + k))) S := this
      simp [intD, this]⟩) (by rw [sizeLine_val]; simp; omega)
  simp only [List.nil_append] at lc
  have e4 : (4 : Nat) ≤ sizeLine := sz (by omega)
  have e3 : (3 : Nat) ≤ sizeLine := sz (by omega)
  have e2 : (2 : Nat) ≤ sizeLine := sz (by omega)
  have ap : ∀ x y z u v : D, pAdd S (.tup [x, y]) (.tup [z, u, v]) = some (.tup [x, y, z, u, v]) := fun x y z u v => pAdd_tup (by rw [sizeLine_val]; simp)
  have hc : pEq S (intD (dr ns (a + 3) 2)) (.int 1) = some (.bl (decide (dr ns (a + 3) 2 = 1))) := by
    rw [intD, pEq_int]
    congr 2
    exact decide_eq_decide.mpr (by omega)
  have hz : (List.range m).map (fun k => intD (nu ns (a + 5 + k))) = ((List.range m).map fun k => nu ns (a + 5 + k)).map intD := by rw [List.map_map]; rfl
  have hsl : (mkSi ns a w).slots = (List.range m).map fun k => nu ns (a + 5 + k) := by rw [hm]; rfl
  have hd : (mkSi ns a w).d = .tup [intD (mkSi ns a w).room, pathD ((List.range m).map fun k => nu ns (a + 5 + k)), intD (mkSi ns a w).wants, intD (mkSi ns a w).rounds, .bl (decide (dr ns (a + 3) 2 = 1))] := by
    rw [← hsl]; rfl
  rw [hd, pathD, ← hz]
  simp [f__law_state, b__law_state, fnEnv, N__law_state, d0, hp, e4, hi, hr, wipeE]
  simp [lc, d3, hc]
  cases w with
  | true => simp [n1, n2, n4, e3, e2, ap, mkSi]
  | false => simp [d1, d2, d4, e3, e2, ap, mkSi]
def mkNt (ns : List Int) (a : Nat) (wide : Bool) (k : Nat) : Nt :=
  ⟨nu ns (a + 9 * k + 5), noteWs.getD (dr ns (a + 9 * k) 5) "", if wide || decide (noteWs.getD (dr ns (a + 9 * k) 5) "" = "tell") then nu ns (a + 9 * k + 2) else dr ns (a + 9 * k + 1) 24⟩
theorem mkNt_ok {a k : Nat} {w : Bool} : (mkNt ns a w k).ok := ⟨nu_le, strs_mem (dr_lt (by omega)), by
  show (if _ then _ else _) ≤ Gt
  split
  · exact nu_le
  · exact dr_le (by omega) (by omega)⟩
abbrev dyB : DS := dSeq (dSet 7 (qV (dOp pIdx (dVar 4) (dCall 3 f__law_draw (dCons (dVar 0) (dCons (dOp pAdd (dVar 1) (dOp pMul (dCst (.int 9)) (dVar 6))) (dCons (dCst (.int 5)) (dNil)))))))) (dSeq (dSet 8 (qV (dCall 3 f__law_draw (dCons (dVar 0) (dCons (dOp pAdd (dOp pAdd (dVar 1) (dOp pMul (dCst (.int 9)) (dVar 6))) (dCst (.int 1))) (dCons (dCst (.int 24)) (dNil))))))) (dSeq (dIfS (dOr (dTest (dVar 3)) (dTest (dOp pEq (dVar 7) (dCst (.str "tell"))))) (dSet 8 (qV (dCall 2 f__law_number (dCons (dVar 0) (dCons (dOp pAdd (dOp pAdd (dVar 1) (dOp pMul (dCst (.int 9)) (dVar 6))) (dCst (.int 2))) (dNil)))))) (dNop)) (dOwn 5 fApp (dTup (dCons (dCall 2 f__law_number (dCons (dVar 0) (dCons (dOp pAdd (dOp pAdd (dVar 1) (dOp pMul (dCst (.int 9)) (dVar 6))) (dCst (.int 5))) (dNil)))) (dCons (dVar 7) (dCons (dVar 8) (dNil))))))))
theorem dy_loop (h : Dr ns) (S : Store) (a : Nat) (s2 : Option Sl) (w : Bool) : ∀ (ks : List Nat) (acc : List D) (x y z : Option Sl), (∀ k ∈ ks, k < 1000) → acc.length + ks.length ≤ 1000 →
    ∃ x' y' z', forRun (gN 6) dyB (ks.map intD) [some (.val (drD ns)), some (.val (.int (a : Nat))), s2, some (.val (.bl w)), some (.val (.lst (noteWs.map D.str))), some (.own acc), x, y, z] S = some (.nx [some (.val (drD ns)), some (.val (.int (a : Nat))), s2, some (.val (.bl w)), some (.val (.lst (noteWs.map D.str))), some (.own (acc ++ ks.map fun k => (mkNt ns a w k).d)), x', y', z'], S)
  | [], acc, x, y, z, _, _ => ⟨x, y, z, by simp [forRun]⟩
  | k :: ks, acc, x, y, z, hk, hl => by
    simp only [List.length_cons] at hl
    obtain ⟨x', y', z', ih⟩ := dy_loop h S a s2 w ks (acc ++ [(mkNt ns a w k).d]) (some (.val (intD k))) (some (.val (.str (mkNt ns a w k).w))) (some (.val (intD (mkNt ns a w k).n))) (fun j hj => hk j (List.mem_cons_of_mem _ hj)) (by simp; omega)
    refine ⟨x', y', z', ?_⟩
    have hk0 := hk k List.mem_cons_self
    have hm : pMul S (.int 9) (intD k) = some (.int (9 * (k : Int))) := pMul_b (i := 64) (j := 64) (by decide) (by omega) (by omega)
    have hm' : pMul S (.int 9) (.int (k : Nat)) = some (.int (9 * (k : Int))) := hm
    have d0 : f__law_draw [drD ns, .int ((a : Int) + 9 * (k : Int)), .int 5] S = .ok (intD (dr ns (a + 9 * k) 5)) S := by
      have := db h a (9 * k) 5 (by omega) S
      rwa [Int.natCast_mul] at this
    have d1 : f__law_draw [drD ns, .int ((a : Int) + 9 * (k : Int) + 1), .int 24] S = .ok (intD (dr ns (a + 9 * k + 1) 24)) S := by
      have := db h (a + 9 * k) 1 24 (by omega) S
      rw [Int.natCast_add, Int.natCast_mul] at this
      exact this
    have n2 : f__law_number [drD ns, .int ((a : Int) + 9 * (k : Int) + 2)] S = .ok (intD (nu ns (a + 9 * k + 2))) S := by
      have := nb h (a + 9 * k) 2 S
      rw [Int.natCast_add, Int.natCast_mul] at this
      exact this
    have n5 : f__law_number [drD ns, .int ((a : Int) + 9 * (k : Int) + 5)] S = .ok (intD (nu ns (a + 9 * k + 5))) S := by
      have := nb h (a + 9 * k) 5 S
      rw [Int.natCast_add, Int.natCast_mul] at this
      exact this
    have hw := strs_at (ws := noteWs) (i := dr ns (a + 9 * k) 5) (show dr ns (a + 9 * k) 5 < 5 from dr_lt (by omega)) S
    have e3 : (3 : Nat) ≤ sizeLine := sz (by omega)
    have a4 : ∀ d, fApp acc d = some (acc ++ [d]) := fun d => fApp_ok (by rw [sizeLine_val]; omega)
    rw [List.map_cons]
    unfold forRun
    have hg : (gN 6) (intD k) [some (.val (drD ns)), some (.val (.int (a : Nat))), s2, some (.val (.bl w)), some (.val (.lst (noteWs.map D.str))), some (.own acc), x, y, z] = some [some (.val (drD ns)), some (.val (.int (a : Nat))), s2, some (.val (.bl w)), some (.val (.lst (noteWs.map D.str))), some (.own acc), some (.val (intD k)), y, z] := rfl
    have hb : dyB [some (.val (drD ns)), some (.val (.int (a : Nat))), s2, some (.val (.bl w)), some (.val (.lst (noteWs.map D.str))), some (.own acc), some (.val (intD k)), y, z] S = some (.nx [some (.val (drD ns)), some (.val (.int (a : Nat))), s2, some (.val (.bl w)), some (.val (.lst (noteWs.map D.str))), some (.own (acc ++ [(mkNt ns a w k).d])), some (.val (intD k)), some (.val (.str (mkNt ns a w k).w)), some (.val (intD (mkNt ns a w k).n))], S) := by
      simp [hm, d0, hw, d1, -List.getD_eq_getElem?_getD, -pIdx_lst]
      by_cases ht : noteWs.getD (dr ns (a + 9 * k) 5) "" = "tell"
      · cases w <;> simp [ht, hm', n2, n5, e3, a4, mkNt, Nt.d, intD, -List.getD_eq_getElem?_getD]
      · cases w <;> simp [ht, hm', n2, n5, e3, a4, mkNt, Nt.d, intD, -List.getD_eq_getElem?_getD]
    rw [hg]
    simp only []
    rw [hb]
    simp only [List.map_cons]
    simp only [List.append_assoc, List.cons_append, List.nil_append] at ih
    exact ih
def mkDi (ns : List Int) (a m : Nat) (w : Bool) : List Nt := (List.range m).map (mkNt ns a w)
theorem l_diary (h : Dr ns) (a m : Nat) (hm : m ≤ 100) (w : Bool) (S : Store) : f__law_diary [drD ns, .int (a : Nat), intD m, .bl w] S = .ok (.tup ((mkDi ns a m w).map Nt.d)) S := by
  have hr : rg1 [intD m] = some ((List.range m).map intD) := rg1_nat m (by omega)
  obtain ⟨x', y', z', e⟩ := dy_loop h S a (some (.val (intD m))) w (List.range m) [] none none none (fun k hk => by have := List.mem_range.mp hk; omega) (by simp; omega)
  have e5 : (5 : Nat) ≤ sizeLine := sz (by omega)
  simp [f__law_diary, b__law_diary, fnEnv, N__law_diary, hr, e5]
  have e : forRun (gN 6) dyB ((List.range m).map intD) [some (.val (drD ns)), some (.val (.int (a : Nat))), some (.val (intD m)), some (.val (.bl w)), some (.val (.lst [.str "tell", .str "do", .str "done", .str "undo", .str "undone"])), some (.own []), none, none, none] S = _ := e
  rw [e]
  simp [mkDi, List.map_map, Function.comp_def]
end K75

/-! The hall drawn. -/
namespace K75
open PySem Py Hal TL
variable {ns : List Int}
def ended (ns : List Int) (k : Nat) : Bool := decide (dr ns (40 + 40 * k) 2 = 0)
def mkHo (ns : List Int) (w : Bool) (k : Nat) (p : List Nat) : Ho :=
  ⟨p, names.getD (dr ns (40 + 40 * k + 1) 8) "", nu ns (40 + 40 * k + 2), if ended ns k then .inl (mkEn ns (40 + 40 * k + 5)) else .inr (mkSi ns (40 + 40 * k + 10) w), mkDi ns (40 + 40 * k + 20) (dr ns (40 + 40 * k + 9) 4) w⟩
theorem mkHo_ok {w : Bool} {k : Nat} {p : List Nat} (h : pOk [0, 2, 4] p) : (mkHo ns w k p).ok := by
  refine ⟨h, strs_mem (show dr ns (40 + 40 * k + 1) 8 < 8 from dr_lt (by omega)), nu_le, ?_, ?_, fun n hn => ?_⟩
  · show fOk (if ended ns k then _ else _)
    split
    · exact mkEn_ok
    · exact mkSi_ok
  · show (mkDi _ _ _ _).length ≤ 3
    have := dr_lt (ns := ns) (a := 40 + 40 * k + 9) (m := 4) (by omega)
    simp only [mkDi, List.length_map, List.length_range]
    omega
  · obtain ⟨j, _, rfl⟩ := List.mem_map.mp hn
    exact mkNt_ok
def mkAk (ns : List Int) (k : Nat) (p : List Nat) : Ak :=
  ⟨p, names.getD (dr ns (350 + 20 * k) 8) "", nu ns (350 + 20 * k + 1), nu ns (350 + 20 * k + 4), if decide (dr ns (350 + 20 * k + 15) 2 = 0) then some (mkEn ns (350 + 20 * k + 7)) else none⟩
theorem mkAk_ok {k : Nat} {p : List Nat} (h : pOk [2, 4, 6] p) : (mkAk ns k p).ok := by
  refine ⟨h, strs_mem (show dr ns (350 + 20 * k) 8 < 8 from dr_lt (by omega)), nu_le, nu_le, fun e he => ?_⟩
  have he : (if decide (dr ns (350 + 20 * k + 15) 2 = 0) = true then some (mkEn ns (350 + 20 * k + 7)) else none) = some e := he
  split at he
  · cases he; exact mkEn_ok
  · cases he
theorem pEq0 {S : Store} {n : Nat} : pEq S (intD n) (.int 0) = some (.bl (decide (n = 0))) := by
  rw [intD, pEq_int]
  congr 2
  exact decide_eq_decide.mpr (by omega)
abbrev hoG : DG := gT 2 (gsC (gN 5) (gsC (gN 6) (gs0)))
abbrev hoB1 : DS := dSeq (dSet 7 (qV (dOp pAdd (dCst (.int 40)) (dOp pMul (dCst (.int 40)) (dVar 5))))) (dSeq (dSet 8 (qV (dOp pEq (dCall 3 f__law_draw (dCons (dVar 0) (dCons (dVar 7) (dCons (dCst (.int 2)) (dNil))))) (dCst (.int 0))))) (dSeq (dSet 9 (qV (dTup (dNil)))) (dIfS (dNot (dTest (dVar 8))) (dSet 9 (qV (dCall 3 f__law_state (dCons (dVar 0) (dCons (dOp pAdd (dVar 7) (dCst (.int 10))) (dCons (dVar 3) (dNil))))))) (dNop))))
abbrev hoB2 : DS := dSeq (dSet 10 (qV (dCall 4 f__law_diary (dCons (dVar 0) (dCons (dOp pAdd (dVar 7) (dCst (.int 20))) (dCons (dCall 3 f__law_draw (dCons (dVar 0) (dCons (dOp pAdd (dVar 7) (dCst (.int 9))) (dCons (dCst (.int 4)) (dNil))))) (dCons (dVar 3) (dNil)))))))) (dSeq (dSet 11 (qV (dTup (dCons (dVar 6) (dCons (dOp pIdx (dVar 2) (dCall 3 f__law_draw (dCons (dVar 0) (dCons (dOp pAdd (dVar 7) (dCst (.int 1))) (dCons (dCst (.int 8)) (dNil)))))) (dCons (dCall 2 f__law_number (dCons (dVar 0) (dCons (dOp pAdd (dVar 7) (dCst (.int 2))) (dNil)))) (dCons (dCall 3 f__law_end (dCons (dVar 0) (dCons (dOp pAdd (dVar 7) (dCst (.int 5))) (dCons (dVar 8) (dNil))))) (dNil)))))))) (dOwn 4 fApp (dOp pAdd (dVar 11) (dTup (dCons (dVar 10) (dCons (dVar 9) (dNil)))))))
theorem ho_step (h : Dr ns) (S : Store) (w : Bool) (s1 s12 : Option Sl) (k : Nat) (hk : k < 1000) (p : List Nat) (acc : List D) (hl : acc.length < 1000) (t7 t8 t9 t10 t11 : Option Sl) :
    ∃ u7 u8 u9 u10 u11, dSeq hoB1 hoB2 [some (.val (drD ns)), s1, some (.val (.lst (names.map D.str))), some (.val (.bl w)), some (.own acc), some (.val (intD k)), some (.val (pathD p)), t7, t8, t9, t10, t11, s12] S =
      some (.nx [some (.val (drD ns)), s1, some (.val (.lst (names.map D.str))), some (.val (.bl w)), some (.own (acc ++ [(mkHo ns w k p).d])), some (.val (intD k)), some (.val (pathD p)), u7, u8, u9, u10, u11, s12], S) := by
  obtain ⟨a, ha⟩ : ∃ a, a = 40 + 40 * k := ⟨_, rfl⟩
  have hm : pMul S (.int 40) (intD k) = some (.int (40 * (k : Int))) := pMul_b (i := 64) (j := 64) (by decide) (by omega) (by omega)
  have hA : pAdd S (.int 40) (.int (40 * (k : Int))) = some (intD a) := by
    rw [pAdd_int, intD, ha]
    congr 2
  have d0 : f__law_draw [drD ns, intD a, .int 2] S = .ok (intD (dr ns a 2)) S := l_draw h a 2 (by omega) S
  have ad : ∀ c : Nat, pAdd S (intD a) (.int (c : Nat)) = some (intD (a + c)) := fun c => by simp [intD]
  have st : f__law_state [drD ns, intD (a + 10), .bl w] S = .ok (mkSi ns (a + 10) w).d S := l_state h (a + 10) w S
  have d9 : f__law_draw [drD ns, intD (a + 9), .int 4] S = .ok (intD (dr ns (a + 9) 4)) S := l_draw h (a + 9) 4 (by omega) S
  have dy : f__law_diary [drD ns, intD (a + 20), intD (dr ns (a + 9) 4), .bl w] S = .ok (.tup ((mkDi ns (a + 20) (dr ns (a + 9) 4) w).map Nt.d)) S := l_diary h (a + 20) _ (by have := dr_lt (ns := ns) (a := a + 9) (m := 4) (by omega); omega) w S
  have d1 : f__law_draw [drD ns, intD (a + 1), .int 8] S = .ok (intD (dr ns (a + 1) 8)) S := l_draw h (a + 1) 8 (by omega) S
  have hw := strs_at (ws := names) (i := dr ns (a + 1) 8) (show dr ns (a + 1) 8 < 8 from dr_lt (by omega)) S
  have n2 : f__law_number [drD ns, intD (a + 2)] S = .ok (intD (nu ns (a + 2))) S := l_number h (a + 2) S
  have en : ∀ b, f__law_end [drD ns, intD (a + 5), .bl b] S = .ok (endD (if b then some (mkEn ns (a + 5)) else none)) S := fun b => l_end h (a + 5) b S
  have e4 : (4 : Nat) ≤ sizeLine := sz (by omega)
  have e2 : (2 : Nat) ≤ sizeLine := sz (by omega)
  have e0 : (0 : Nat) ≤ sizeLine := by omega
  have a4 : ∀ d, fApp acc d = some (acc ++ [d]) := fun d => fApp_ok (by rw [sizeLine_val]; omega)
  have ap : ∀ x y z u v q : D, pAdd S (.tup [x, y, z, u]) (.tup [v, q]) = some (.tup [x, y, z, u, v, q]) := fun x y z u v q => pAdd_tup (by rw [sizeLine_val]; simp)
  have a1 := ad 1
  have a2 := ad 2
  have a5 := ad 5
  have a9 := ad 9
  have a10 := ad 10
  have a20 := ad 20
  simp only [Int.cast_ofNat_Int] at a1 a2 a5 a9 a10 a20
  have a1 : pAdd S (intD a) (.int 1) = some (intD (a + 1)) := a1
  refine ⟨some (.val (intD a)), some (.val (.bl (ended ns k))), some (.val (finS (mkHo ns w k p).fin)), some (.val (.tup ((mkDi ns (a + 20) (dr ns (a + 9) 4) w).map Nt.d))), some (.val (.tup [pathD p, .str (mkHo ns w k p).name, intD (mkHo ns w k p).begun, endD (finE (mkHo ns w k p).fin)])), ?_⟩
  have hB1 : hoB1 [some (.val (drD ns)), s1, some (.val (.lst (names.map D.str))), some (.val (.bl w)), some (.own acc), some (.val (intD k)), some (.val (pathD p)), t7, t8, t9, t10, t11, s12] S = some (.nx [some (.val (drD ns)), s1, some (.val (.lst (names.map D.str))), some (.val (.bl w)), some (.own acc), some (.val (intD k)), some (.val (pathD p)), some (.val (intD a)), some (.val (.bl (ended ns k))), some (.val (finS (mkHo ns w k p).fin)), t10, t11, s12], S) := by
    have he : ended ns k = decide (dr ns a 2 = 0) := by rw [ended, ha]
    have hf : (mkHo ns w k p).fin = if ended ns k then .inl (mkEn ns (a + 5)) else .inr (mkSi ns (a + 10) w) := by rw [ha]; rfl
    rw [hf, he]
    by_cases hz : dr ns a 2 = 0
    · simp [hm, hA, d0, pEq0, hz, finS]
    · simp [hm, hA, d0, pEq0, hz, finS, a10, st]
  rw [dSeq_ev, hB1, seqR_nx]
  have hD : (mkHo ns w k p).d = .tup [pathD p, .str (mkHo ns w k p).name, intD (mkHo ns w k p).begun, endD (finE (mkHo ns w k p).fin), .tup ((mkDi ns (a + 20) (dr ns (a + 9) 4) w).map Nt.d), finS (mkHo ns w k p).fin] := by rw [ha]; rfl
  have hN : (mkHo ns w k p).name = names.getD (dr ns (a + 1) 8) "" := by rw [ha]; rfl
  have hB : (mkHo ns w k p).begun = nu ns (a + 2) := by rw [ha]; rfl
  have hF : finE (mkHo ns w k p).fin = if ended ns k then some (mkEn ns (a + 5)) else none := by
    have hf : (mkHo ns w k p).fin = if ended ns k then .inl (mkEn ns (a + 5)) else .inr (mkSi ns (a + 10) w) := by rw [ha]; rfl
    rw [hf]
    cases ended ns k <;> rfl
  rw [hD, hN, hB, hF]
  simp [a20, a9, d9, dy, a1, d1, hw, a2, n2, a5, en, e4, e2, ap, a4, -List.getD_eq_getElem?_getD, -pIdx_lst]
theorem ho_loop (h : Dr ns) (S : Store) (w : Bool) (s1 s12 : Option Sl) : ∀ (qs : List (List Nat × Nat)) (acc : List D) (t5 t6 t7 t8 t9 t10 t11 : Option Sl), (∀ q ∈ qs, q.2 < 1000) → acc.length + qs.length ≤ 1000 →
    ∃ u5 u6 u7 u8 u9 u10 u11, forRun hoG (dSeq hoB1 hoB2) (qs.map fun q => .tup [.int (q.2 : Nat), pathD q.1]) [some (.val (drD ns)), s1, some (.val (.lst (names.map D.str))), some (.val (.bl w)), some (.own acc), t5, t6, t7, t8, t9, t10, t11, s12] S =
      some (.nx [some (.val (drD ns)), s1, some (.val (.lst (names.map D.str))), some (.val (.bl w)), some (.own (acc ++ qs.map fun q => (mkHo ns w q.2 q.1).d)), u5, u6, u7, u8, u9, u10, u11, s12], S)
  | [], acc, t5, t6, t7, t8, t9, t10, t11, _, _ => ⟨t5, t6, t7, t8, t9, t10, t11, by simp [forRun]⟩
  | (p, k) :: qs, acc, t5, t6, t7, t8, t9, t10, t11, hk, hl => by
    simp only [List.length_cons] at hl
    obtain ⟨v7, v8, v9, v10, v11, e⟩ := ho_step h S w s1 s12 k (hk _ List.mem_cons_self) p acc (by omega) t7 t8 t9 t10 t11
    obtain ⟨u5, u6, u7, u8, u9, u10, u11, ih⟩ := ho_loop h S w s1 s12 qs (acc ++ [(mkHo ns w k p).d]) (some (.val (intD k))) (some (.val (pathD p))) v7 v8 v9 v10 v11 (fun q hq => hk q (List.mem_cons_of_mem _ hq)) (by simp; omega)
    refine ⟨u5, u6, u7, u8, u9, u10, u11, ?_⟩
    have hg : hoG (.tup [.int (k : Nat), pathD p]) [some (.val (drD ns)), s1, some (.val (.lst (names.map D.str))), some (.val (.bl w)), some (.own acc), t5, t6, t7, t8, t9, t10, t11, s12] = some [some (.val (drD ns)), s1, some (.val (.lst (names.map D.str))), some (.val (.bl w)), some (.own acc), some (.val (intD k)), some (.val (pathD p)), t7, t8, t9, t10, t11, s12] := rfl
    rw [List.map_cons]
    unfold forRun
    rw [hg]
    simp only []
    rw [e]
    simp only [List.map_cons]
    simp only [List.append_assoc, List.cons_append, List.nil_append] at ih
    exact ih
abbrev akyB : DS := dSeq (dSet 7 (qV (dOp pAdd (dCst (.int 350)) (dOp pMul (dCst (.int 20)) (dVar 5))))) (dSeq (dSet 11 (qV (dTup (dCons (dVar 6) (dCons (dOp pIdx (dVar 2) (dCall 3 f__law_draw (dCons (dVar 0) (dCons (dVar 7) (dCons (dCst (.int 8)) (dNil)))))) (dCons (dCall 2 f__law_number (dCons (dVar 0) (dCons (dOp pAdd (dVar 7) (dCst (.int 1))) (dNil)))) (dCons (dCall 2 f__law_number (dCons (dVar 0) (dCons (dOp pAdd (dVar 7) (dCst (.int 4))) (dNil)))) (dNil)))))))) (dOwn 12 fApp (dOp pAdd (dVar 11) (dTup (dCons (dCall 3 f__law_end (dCons (dVar 0) (dCons (dOp pAdd (dVar 7) (dCst (.int 7))) (dCons (dOp pEq (dCall 3 f__law_draw (dCons (dVar 0) (dCons (dOp pAdd (dVar 7) (dCst (.int 15))) (dCons (dCst (.int 2)) (dNil))))) (dCst (.int 0))) (dNil))))) (dNil))))))
theorem ak_step (h : Dr ns) (S : Store) (s1 s3 s4 s8 s9 s10 : Option Sl) (k : Nat) (hk : k < 1000) (p : List Nat) (acc : List D) (hl : acc.length < 1000) (t7 t11 : Option Sl) :
    ∃ u7 u11, akyB [some (.val (drD ns)), s1, some (.val (.lst (names.map D.str))), s3, s4, some (.val (intD k)), some (.val (pathD p)), t7, s8, s9, s10, t11, some (.own acc)] S =
      some (.nx [some (.val (drD ns)), s1, some (.val (.lst (names.map D.str))), s3, s4, some (.val (intD k)), some (.val (pathD p)), u7, s8, s9, s10, u11, some (.own (acc ++ [(mkAk ns k p).d]))], S) := by
  obtain ⟨a, ha⟩ : ∃ a, a = 350 + 20 * k := ⟨_, rfl⟩
  have hm : pMul S (.int 20) (intD k) = some (.int (20 * (k : Int))) := pMul_b (i := 64) (j := 64) (by decide) (by omega) (by omega)
  have hA : pAdd S (.int 350) (.int (20 * (k : Int))) = some (intD a) := by
    rw [pAdd_int, intD, ha]
    congr 2
  have d0 : f__law_draw [drD ns, intD a, .int 8] S = .ok (intD (dr ns a 8)) S := l_draw h a 8 (by omega) S
  have ad : ∀ c : Nat, pAdd S (intD a) (.int (c : Nat)) = some (intD (a + c)) := fun c => by simp [intD]
  have hw := strs_at (ws := names) (i := dr ns a 8) (show dr ns a 8 < 8 from dr_lt (by omega)) S
  have n1 : f__law_number [drD ns, intD (a + 1)] S = .ok (intD (nu ns (a + 1))) S := l_number h (a + 1) S
  have n4 : f__law_number [drD ns, intD (a + 4)] S = .ok (intD (nu ns (a + 4))) S := l_number h (a + 4) S
  have d15 : f__law_draw [drD ns, intD (a + 15), .int 2] S = .ok (intD (dr ns (a + 15) 2)) S := l_draw h (a + 15) 2 (by omega) S
  have en : ∀ b, f__law_end [drD ns, intD (a + 7), .bl b] S = .ok (endD (if b then some (mkEn ns (a + 7)) else none)) S := fun b => l_end h (a + 7) b S
  have e4 : (4 : Nat) ≤ sizeLine := sz (by omega)
  have e1 : (1 : Nat) ≤ sizeLine := sz (by omega)
  have a4 : ∀ d, fApp acc d = some (acc ++ [d]) := fun d => fApp_ok (by rw [sizeLine_val]; omega)
  have ap : ∀ x y z u v : D, pAdd S (.tup [x, y, z, u]) (.tup [v]) = some (.tup [x, y, z, u, v]) := fun x y z u v => pAdd_tup (by rw [sizeLine_val]; simp)
  have a1 : pAdd S (intD a) (.int 1) = some (intD (a + 1)) := ad 1
  have a4' : pAdd S (intD a) (.int 4) = some (intD (a + 4)) := ad 4
  have a7 : pAdd S (intD a) (.int 7) = some (intD (a + 7)) := ad 7
  have a15 : pAdd S (intD a) (.int 15) = some (intD (a + 15)) := ad 15
  have hD : (mkAk ns k p).d = .tup [pathD p, .str (names.getD (dr ns a 8) ""), intD (nu ns (a + 1)), intD (nu ns (a + 4)), endD (if decide (dr ns (a + 15) 2 = 0) then some (mkEn ns (a + 7)) else none)] := by rw [ha]; rfl
  refine ⟨some (.val (intD a)), some (.val (.tup [pathD p, .str (names.getD (dr ns a 8) ""), intD (nu ns (a + 1)), intD (nu ns (a + 4))])), ?_⟩
  rw [hD]
  simp [hm, hA, d0, hw, a1, n1, a4', n4, e4, a15, d15, pEq0, a7, en, e1, ap, a4, -List.getD_eq_getElem?_getD, -pIdx_lst]
theorem ak_loop (h : Dr ns) (S : Store) (s1 s3 s4 s8 s9 s10 : Option Sl) : ∀ (qs : List (List Nat × Nat)) (acc : List D) (t5 t6 t7 t11 : Option Sl), (∀ q ∈ qs, q.2 < 1000) → acc.length + qs.length ≤ 1000 →
    ∃ u5 u6 u7 u11, forRun hoG akyB (qs.map fun q => .tup [.int (q.2 : Nat), pathD q.1]) [some (.val (drD ns)), s1, some (.val (.lst (names.map D.str))), s3, s4, t5, t6, t7, s8, s9, s10, t11, some (.own acc)] S =
      some (.nx [some (.val (drD ns)), s1, some (.val (.lst (names.map D.str))), s3, s4, u5, u6, u7, s8, s9, s10, u11, some (.own (acc ++ qs.map fun q => (mkAk ns q.2 q.1).d))], S)
  | [], acc, t5, t6, t7, t11, _, _ => ⟨t5, t6, t7, t11, by simp [forRun]⟩
  | (p, k) :: qs, acc, t5, t6, t7, t11, hk, hl => by
    simp only [List.length_cons] at hl
    obtain ⟨v7, v11, e⟩ := ak_step h S s1 s3 s4 s8 s9 s10 k (hk _ List.mem_cons_self) p acc (by omega) t7 t11
    obtain ⟨u5, u6, u7, u11, ih⟩ := ak_loop h S s1 s3 s4 s8 s9 s10 qs (acc ++ [(mkAk ns k p).d]) (some (.val (intD k))) (some (.val (pathD p))) v7 v11 (fun q hq => hk q (List.mem_cons_of_mem _ hq)) (by simp; omega)
    refine ⟨u5, u6, u7, u11, ?_⟩
    have hg : hoG (.tup [.int (k : Nat), pathD p]) [some (.val (drD ns)), s1, some (.val (.lst (names.map D.str))), s3, s4, t5, t6, t7, s8, s9, s10, t11, some (.own acc)] = some [some (.val (drD ns)), s1, some (.val (.lst (names.map D.str))), s3, s4, some (.val (intD k)), some (.val (pathD p)), t7, s8, s9, s10, t11, some (.own acc)] := rfl
    rw [List.map_cons]
    unfold forRun
    rw [hg]
    simp only []
    rw [e]
    simp only [List.map_cons]
    simp only [List.append_assoc, List.cons_append, List.nil_append] at ih
    exact ih
end K75

/-! The hall drawn; the law. -/
namespace K75
open PySem Py Hal TL
variable {ns : List Int}
theorem enum_paths (ps : List (List Nat)) : enumD (ps.map pathD) = ps.zipIdx.map fun q => .tup [.int (q.2 : Nat), pathD q.1] := by
  rw [enumD_eq, List.zipIdx_map, List.map_map]
  rfl
theorem zipIdx_lt {α : Type} {ps : List α} (hl : ps.length ≤ 100) : ∀ q ∈ ps.zipIdx, q.2 < 1000 := fun q hq => by
  have := List.snd_lt_of_mem_zipIdx hq
  omega
theorem zip_fst {α β : Type} (f : α → β) (ps : List α) : (ps.zipIdx.map fun q => f q.1) = ps.map f := by
  rw [show (fun q : α × Nat => f q.1) = f ∘ Prod.fst from rfl, ← List.map_map, List.zipIdx_map_fst]
theorem fst_mem {α : Type} {ps : List α} {q : α × Nat} (h : q ∈ ps.zipIdx) : q.1 ∈ ps := List.fst_mem_of_mem_zipIdx h
theorem l_hall (h : Dr ns) (S : Store) : ∃ (x : Hl) (S' : Store), x.ok ∧ f__law_hall [drD ns, .int 5] S = .ok x.d S' := by
  obtain ⟨m1, hm1⟩ : ∃ m, m = dr ns 290 6 := ⟨_, rfl⟩
  obtain ⟨m2, hm2⟩ : ∃ m, m = dr ns 291 6 := ⟨_, rfl⟩
  have hm1' : m1 < 6 := by rw [hm1]; exact dr_lt (by omega)
  have hm2' : m2 < 6 := by rw [hm2]; exact dr_lt (by omega)
  obtain ⟨ps, S1, e1, h1, h2, h3⟩ := l_paths h S 0 [0, 2, 4] (by simp) (by simp) m1 (by omega)
  obtain ⟨qs, S2, e2, g1, g2, g3⟩ := l_paths h S1 300 [2, 4, 6] (by simp) (by simp) m2 (by omega)
  obtain ⟨w, hw⟩ : ∃ w, w = decide (dr ns 293 8 = 0) := ⟨_, rfl⟩
  have d293 : ∀ S, f__law_draw [drD ns, .int 293, .int 8] S = .ok (intD (dr ns 293 8)) S := fun S => l_draw h 293 8 (by omega) S
  have d290 : ∀ S, f__law_draw [drD ns, .int 290, .int 6] S = .ok (intD m1) S := fun S => by rw [hm1]; exact l_draw h 290 6 (by omega) S
  have d291 : ∀ S, f__law_draw [drD ns, .int 291, .int 6] S = .ok (intD m2) S := fun S => by rw [hm2]; exact l_draw h 291 6 (by omega) S
  have n292 : ∀ S, f__law_number [drD ns, .int 292] S = .ok (intD (nu ns 292)) S := fun S => l_number h 292 S
  obtain ⟨u5, u6, u7, u8, u9, u10, u11, l1⟩ := ho_loop h S1 w (some (.val (.int 5))) none ps.zipIdx [] none none none none none none none (zipIdx_lt (by omega)) (by simp; omega)
  obtain ⟨v5, v6, v7, v11, l2⟩ := ak_loop h S2 (some (.val (.int 5))) (some (.val (.bl w))) (some (.own (ps.zipIdx.map fun q => (mkHo ns w q.2 q.1).d))) u8 u9 u10 qs.zipIdx [] u5 u6 u7 u11 (zipIdx_lt (by omega)) (by simp; omega)
  refine ⟨⟨nu ns 292, ps.zipIdx.map fun q => mkHo ns w q.2 q.1, qs.zipIdx.map fun q => mkAk ns q.2 q.1⟩, S2, ⟨nu_le, by simp; omega, by simp; omega, fun y hy => ?_, fun y hy => ?_, ?_, ?_⟩, ?_⟩
  · obtain ⟨q, hq, rfl⟩ := List.mem_map.mp hy
    exact mkHo_ok (h1 _ (fst_mem hq))
  · obtain ⟨q, hq, rfl⟩ := List.mem_map.mp hy
    exact mkAk_ok (g1 _ (fst_mem hq))
  · have : (ps.zipIdx.map fun q => mkHo ns w q.2 q.1).map Ho.path = ps := by
      rw [List.map_map]
      exact (zip_fst id ps).trans (List.map_id ps)
    show List.Pairwise _ ((ps.zipIdx.map fun q => mkHo ns w q.2 q.1).map Ho.path)
    rw [this]
    exact h3
  · have : (qs.zipIdx.map fun q => mkAk ns q.2 q.1).map Ak.path = qs := by
      rw [List.map_map]
      exact (zip_fst id qs).trans (List.map_id qs)
    show List.Pairwise _ ((qs.zipIdx.map fun q => mkAk ns q.2 q.1).map Ak.path)
    rw [this]
    exact g3
  · have e8 : (8 : Nat) ≤ sizeLine := sz (by omega)
    have e3 : (3 : Nat) ≤ sizeLine := sz (by omega)
    have e1 : f__law_paths [drD ns, .int 0, .lst [.int 0, .int 2, .int 4], intD m1] S = .ok (.lst (ps.map pathD)) S1 := e1
    have e2 : f__law_paths [drD ns, .int 300, .lst [.int 2, .int 4, .int 6], intD m2] S1 = .ok (.lst (qs.map pathD)) S2 := e2
    have hb : b__law_hall = dSeq (dSet 2 (qV (dLst (dDisp (dCons (dCst (.str "a")) (dCons (dCst (.str "ab")) (dCons (dCst (.str "house")) (dCons (dCst (.str "state")) (dCons (dCst (.str "note")) (dCons (dCst (.str "ask")) (dCons (dCst (.str "hour")) (dCons (dCst (.str "zzzzzzzz")) (dNil))))))))))))) (dSeq (dSet 3 (qV (dOp pEq (dCall 3 f__law_draw (dCons (dVar 0) (dCons (dCst (.int 293)) (dCons (dCst (.int 8)) (dNil))))) (dCst (.int 0))))) (dSeq (dSet 4 (qO (dDisp (dNil)))) (dSeq (dFor (dRg en1 (dCons (dCall 4 f__law_paths (dCons (dVar 0) (dCons (dCst (.int 0)) (dCons (dLst (dDisp (dCons (dCst (.int 0)) (dCons (dCst (.int 2)) (dCons (dCst (.int 4)) (dNil)))))) (dCons (dCall 3 f__law_draw (dCons (dVar 0) (dCons (dCst (.int 290)) (dCons (dOp pAdd (dVar 1) (dCst (.int 1))) (dNil))))) (dNil)))))) (dNil))) hoG (dSeq hoB1 hoB2)) (dSeq (dSet 12 (qO (dDisp (dNil)))) (dSeq (dFor (dRg en1 (dCons (dCall 4 f__law_paths (dCons (dVar 0) (dCons (dCst (.int 300)) (dCons (dLst (dDisp (dCons (dCst (.int 2)) (dCons (dCst (.int 4)) (dCons (dCst (.int 6)) (dNil)))))) (dCons (dCall 3 f__law_draw (dCons (dVar 0) (dCons (dCst (.int 291)) (dCons (dOp pAdd (dVar 1) (dCst (.int 1))) (dNil))))) (dNil)))))) (dNil))) hoG akyB) (dRet (dTup (dCons (dCall 2 f__law_number (dCons (dVar 0) (dCons (dCst (.int 292)) (dNil)))) (dCons (dPr pTuple (dCons (dRd 4) (dNil))) (dCons (dPr pTuple (dCons (dRd 12) (dNil))) (dNil))))))))))) := by
      simp only [hoB1, dSeq_assoc]
      rfl
    have k1 : dSet 2 (qV (dLst (dDisp (dCons (dCst (.str "a")) (dCons (dCst (.str "ab")) (dCons (dCst (.str "house")) (dCons (dCst (.str "state")) (dCons (dCst (.str "note")) (dCons (dCst (.str "ask")) (dCons (dCst (.str "hour")) (dCons (dCst (.str "zzzzzzzz")) (dNil)))))))))))) [some (.val (drD ns)), some (.val (.int 5)), none, none, none, none, none, none, none, none, none, none, none] S = some (.nx [some (.val (drD ns)), some (.val (.int 5)), some (.val (.lst (names.map D.str))), none, none, none, none, none, none, none, none, none, none], S) := by
      simp [e8]; rfl
    have k2 : dSet 3 (qV (dOp pEq (dCall 3 f__law_draw (dCons (dVar 0) (dCons (dCst (.int 293)) (dCons (dCst (.int 8)) (dNil))))) (dCst (.int 0)))) [some (.val (drD ns)), some (.val (.int 5)), some (.val (.lst (names.map D.str))), none, none, none, none, none, none, none, none, none, none] S = some (.nx [some (.val (drD ns)), some (.val (.int 5)), some (.val (.lst (names.map D.str))), some (.val (.bl w)), none, none, none, none, none, none, none, none, none], S) := by
      simp [d293, pEq0, hw]
    have k3 : ∀ r, (dRg en1 (dCons (dCall 4 f__law_paths (dCons (dVar 0) (dCons (dCst (.int 0)) (dCons (dLst (dDisp (dCons (dCst (.int 0)) (dCons (dCst (.int 2)) (dCons (dCst (.int 4)) (dNil)))))) (dCons (dCall 3 f__law_draw (dCons (dVar 0) (dCons (dCst (.int 290)) (dCons (dOp pAdd (dVar 1) (dCst (.int 1))) (dNil))))) (dNil)))))) (dNil))) (some (.val (drD ns)) :: some (.val (.int 5)) :: r) S = .ok (ps.zipIdx.map fun q => .tup [.int (q.2 : Nat), pathD q.1]) S1 := fun r => by
      simp [e3, d290, e1, enum_paths]
    have k4 : ∀ r, (dRg en1 (dCons (dCall 4 f__law_paths (dCons (dVar 0) (dCons (dCst (.int 300)) (dCons (dLst (dDisp (dCons (dCst (.int 2)) (dCons (dCst (.int 4)) (dCons (dCst (.int 6)) (dNil)))))) (dCons (dCall 3 f__law_draw (dCons (dVar 0) (dCons (dCst (.int 291)) (dCons (dOp pAdd (dVar 1) (dCst (.int 1))) (dNil))))) (dNil)))))) (dNil))) (some (.val (drD ns)) :: some (.val (.int 5)) :: r) S1 = .ok (qs.zipIdx.map fun q => .tup [.int (q.2 : Nat), pathD q.1]) S2 := fun r => by
      simp [e3, d291, e2, enum_paths]
    have k5 : ∀ t, dSet 4 (qO (dDisp (dNil))) [some (.val (drD ns)), some (.val (.int 5)), some (.val (.lst (names.map D.str))), some (.val (.bl w)), t, none, none, none, none, none, none, none, none] S = some (.nx [some (.val (drD ns)), some (.val (.int 5)), some (.val (.lst (names.map D.str))), some (.val (.bl w)), some (.own []), none, none, none, none, none, none, none, none], S) := fun t => by simp
    unfold f__law_hall
    rw [dFn_ev, if_pos (show [drD ns, D.int 5].length = 2 from rfl), hb, dSeq_ev, show fnEnv N__law_hall.length [drD ns, D.int 5] = [some (.val (drD ns)), some (.val (.int 5)), none, none, none, none, none, none, none, none, none, none, none] from rfl, k1, seqR_nx, dSeq_ev, k2, seqR_nx, dSeq_ev, k5, seqR_nx, dSeq_ev, dFor_ev, k3, rS_ok, l1, seqR_nx, dSeq_ev]
    have k6 : dSet 12 (qO (dDisp (dNil))) [some (.val (drD ns)), some (.val (.int 5)), some (.val (.lst (names.map D.str))), some (.val (.bl w)), some (.own ([] ++ ps.zipIdx.map fun q => (mkHo ns w q.2 q.1).d)), u5, u6, u7, u8, u9, u10, u11, none] S1 = some (.nx [some (.val (drD ns)), some (.val (.int 5)), some (.val (.lst (names.map D.str))), some (.val (.bl w)), some (.own (ps.zipIdx.map fun q => (mkHo ns w q.2 q.1).d)), u5, u6, u7, u8, u9, u10, u11, some (.own [])], S1) := by simp
    rw [k6, seqR_nx, dSeq_ev, dFor_ev, k4, rS_ok, l2, seqR_nx]
    simp [n292, e3, Hl.d, intD, List.map_map, Function.comp_def]
end K75

/-! The law. -/
namespace K75
open PySem Py Hal TL
abbrev loB : DS := dSeq (dSet 2 (qV (dCall 2 f__law_hall (dCons (dCall 2 f__law_draws (dCons (dVar 1) (dCons (dCst (.int 460)) (dNil)))) (dCons (dCst (.int 5)) (dNil)))))) (dSeq (dSet 3 (qV (dCall 1 f__law_text (dCons (dCall 1 f__law_lines (dCons (dVar 2) (dNil))) (dNil))))) (dSeq (dSet 4 (qV (dCall 1 f_hall_text (dCons (dVar 2) (dNil))))) (dSeq (dIfS (dOr (dNot (dTest (dPr pIsi (dCons (dVar 4) (dCons (dCst (.ty "str")) (dNil)))))) (dOr (dTest (dOp pNe (dVar 4) (dVar 3))) (dNot (dTest (dCall 2 f__law_same (dCons (dCall 1 f_read_hall (dCons (dVar 3) (dNil))) (dCons (dVar 2) (dNil)))))))) (dRet (dCst (.bl false))) (dNop)) (dIfS (dOr (dTest (dOp pNe (dCall 1 f_hall_text (dCons (dCall 1 f_read_hall (dCons (dVar 3) (dNil))) (dNil))) (dVar 3))) (dNot (dTest (dCall 2 f__law_same (dCons (dCall 1 f_read_hall (dCons (dVar 4) (dNil))) (dCons (dVar 2) (dNil))))))) (dRet (dCst (.bl false))) (dNop)))))
theorem law_step (S : Store) (s0 t2 t3 t4 : Option Sl) (c : Int) : ∃ (u2 u3 u4 : Option Sl) (S' : Store), loB [s0, some (.val (.int c)), t2, t3, t4] S = some (.nx [s0, some (.val (.int c)), u2, u3, u4], S') := by
  obtain ⟨ns, h1, h2, e1⟩ := l_draws c S
  have hd : Dr ns := ⟨h1, h2⟩
  obtain ⟨x, S', hx, e2⟩ := l_hall hd S
  have e1 : f__law_draws [.int c, .int 460] S = .ok (drD ns) S := e1
  have e3 := l_lines S' hx
  have e4 := l_text S' hx
  have e5 := e_hall_text S' hx
  have e6 := p_read S' hx
  have e7 := l_same S' hx
  refine ⟨some (.val x.d), some (.val (.str x.text)), some (.val (.str x.text)), S', ?_⟩
  simp [e1, e2, e3, e4, e5, e6, e7]
theorem law_loop (s0 : Option Sl) : ∀ (cs : List Int) (S : Store) (t1 t2 t3 t4 : Option Sl), ∃ (u1 u2 u3 u4 : Option Sl) (S' : Store), forRun (gN 1) loB (cs.map D.int) [s0, t1, t2, t3, t4] S = some (.nx [s0, u1, u2, u3, u4], S')
  | [], S, t1, t2, t3, t4 => ⟨t1, t2, t3, t4, S, by simp [forRun]⟩
  | c :: cs, S, t1, t2, t3, t4 => by
    obtain ⟨v2, v3, v4, S1, e⟩ := law_step S s0 t2 t3 t4 c
    obtain ⟨u1, u2, u3, u4, S', ih⟩ := law_loop s0 cs S1 (some (.val (.int c))) v2 v3 v4
    refine ⟨u1, u2, u3, u4, S', ?_⟩
    rw [List.map_cons]
    unfold forRun
    simp only [gN_ev, List.set_cons_succ, List.set_cons_zero]
    rw [e]
    exact ih
theorem plain : Plain := by
  intro ns hl _
  have h0 : pLen [Ob.frz (ns.map D.int)] [.ref 0] = some (.int (ns.length : Nat)) := by simp [seqOf]
  have h1 : pSl [Ob.frz (ns.map D.int)] (.ref 0) none (some 12) = some (.lst ((ns.take 12).map D.int)) := by
    show some (D.lst (cutD (ns.map D.int) none (some ((12 : Nat) : Int)))) = _
    rw [cut_take, List.map_take]
  have h2 : pAdd [Ob.frz (ns.map D.int)] (.lst [.int (ns.length : Nat)]) (.lst ((ns.take 12).map D.int)) = some (.lst ((((ns.length : Nat) : Int) :: ns.take 12).map D.int)) := by
    rw [pAdd_lst (by rw [sizeLine_val]; simp; omega)]; simp
  obtain ⟨u1, u2, u3, u4, S', e⟩ := law_loop (some (.val (.ref 0))) (((ns.length : Nat) : Int) :: ns.take 12) [.frz (ns.map D.int)] none none none none
  have e1 : (1 : Nat) ≤ sizeLine := sz (by omega)
  refine ⟨S', ?_⟩
  have hb : b_law = dSeq (dFor (dItems (dOp pAdd (dLst (dDisp (dCons (dPr pLen (dCons (dVar 0) (dNil))) (dNil)))) (dSl (dVar 0) (dNo) (dSo (dCst (.int 12)))))) (gN 1) loB) (dRet (dCst (.bl true))) := rfl
  have hi : dItems (dOp pAdd (dLst (dDisp (dCons (dPr pLen (dCons (dVar 0) (dNil))) (dNil)))) (dSl (dVar 0) (dNo) (dSo (dCst (.int 12))))) [some (.val (.ref 0)), none, none, none, none] [.frz (ns.map D.int)] = .ok ((((ns.length : Nat) : Int) :: ns.take 12).map D.int) [.frz (ns.map D.int)] := by
    simp [h0, e1, h1, h2, -pLen_ref, -List.map_take]
  unfold f_law
  rw [dFn_ev, if_pos (show [D.ref 0].length = 1 from rfl), hb, dSeq_ev, show fnEnv N_law.length [D.ref 0] = [some (.val (.ref 0)), none, none, none, none] from rfl, dFor_ev, hi, rS_ok, e, seqR_nx]
  rfl
end K75

theorem PySem.Challenge.cw_errandwide_k75_halls_as_texts_holds : PySem.Challenge.rw_errandwide_k75_halls_as_texts.Holds := by
  exact K75.holds_of K75.plain

