import PyProof.Rows.All
import Wide.All
import OpenK.AllK
import Wide.FinOn
import KE.DataEq
import KE.DataCmp
import KE.SortData
import HandS.ForMost
import HandS.ForExc
import HandS.TryMany
import HandS.Wide
import HandS.WideBits
import HandS.IsInst
import HandS.TupAny
import HandS.TupMul
import HandS.Star
import HandS.Lambda
import KE.KeyNested
import KE.KDictKeyed
import KE.GoesEnum
import HandS.Walk
import HandS.Zip
import HandS.Conv
import HandS.SetFor
import HandS.Strs
import HandS.Flow
import HandS.Style
import HandS.Defaults
import HandS.HeadHook2
import HandS.Head0
import HandS.Head1
import HandS.Head2
import HandS.HeadEnd
import HandS.EndBits
import KE.KStateDown
import KE.KEqNest
import HandS.SortInts
import HandS.Text
import HandS.DictTup
import HandS.RaiseMore
import HandS.ExcOwn
import PyProof.ExcBaseAll.ValueError
import HandS.HeadHook4
import HandS.EndTab
import KE.KDictPairs
import HandS.Iter
import HandS.SetTxt0
import HandS.TupLen
import HandS.WordsDict
import HandS.Deep
import KE.GoesZip
import KE.GoesMore
import HandS.HeadWalk
import HandS.DictComp
import PyProof.NeKinds
import PySem.Challenge.RW_errandwide_k95_refusals_of_runs_side_by
set_option Elab.async false
set_option linter.all false
set_option maxRecDepth 100000
set_option maxHeartbeats 2000000
/-! Part 1: data, stores, how they lie in the heap, results. -/
namespace Py
open PySem PySem.Spec PyProof.Rows L2

/-- a value of the program: tuples (tup) and lists that are not changed any more (lst) by what they hold; ref: an object of the store; glo: a def or class of the text; emp: an empty dict that stays so -/
inductive D where
  | non | bl (b : Bool) | int (i : Int) | str (x : Str) | ty (n : String) | ref (n : Nat) | glo (g : Nat) | tup (ds : List D) | lst (ds : List D) | emp | pt0

/-- an object of the store: a list; a list that is read only (the script) -/
inductive Ob where
  | lst (ds : List D) | frz (ds : List D)
  | dK (kvs : List (L2.Key × D)) | dT (kvs : List (List L2.Key × D))
  | ins (c : Nat) (fs : List (Str × D))
  | dN (kvs : List (D × D))
abbrev Store := List Ob

/-- what the end of a piece of code is: a value, an exception of the text's class c, or out of this evaluator's reach -/
inductive R (α : Type) where
  | ok (a : α) (S : Store) | exc (c : Nat) (S : Store) | bad
abbrev M (α : Type) := Store → R α
def R.bind {α β : Type} (r : R α) (k : α → M β) : R β := match r with
  | .ok a S => k a S
  | .exc c S => .exc c S
  | .bad => .bad
@[simp] theorem R.ok_bind {α β : Type} {S : Store} (a : α) (k : α → M β) : (R.ok a S).bind k = k a S := rfl
@[simp] theorem R.exc_bind {α β : Type} {S : Store} (c : Nat) (k : α → M β) : (R.exc c S : R α).bind k = .exc c S := rfl
@[simp] theorem R.bad_bind {α β : Type} (k : α → M β) : (R.bad : R α).bind k = .bad := rfl

/-! ### data as the library reads it -/
mutual
/-- nothing but data within -/
def D.okd : D → Bool
  | .non => true
  | .bl _ => true
  | .int _ => true
  | .str _ => true
  | .ty _ => false
  | .ref _ => false
  | .glo _ => false
  | .tup ds => okdL ds
  | .lst ds => okdL ds
  | .emp => false
  | .pt0 => false
def okdL : List D → Bool
  | [] => true
  | d :: ds => d.okd && okdL ds
end
mutual
def D.py : D → PyData
  | .non => .none
  | .bl b => .bool b
  | .int i => .int i
  | .str x => .str x
  | .ty _ => .none
  | .ref _ => .none
  | .glo _ => .none
  | .tup ds => .tuple (pyL ds)
  | .lst ds => .list (pyL ds)
  | .emp => .none
  | .pt0 => .none
def pyL : List D → List PyData
  | [] => []
  | d :: ds => d.py :: pyL ds
end
mutual
theorem D.py_plain : ∀ d : D, d.py.plain = true
  | .non => rfl
  | .bl _ => rfl
  | .int _ => rfl
  | .str _ => rfl
  | .ty _ => rfl
  | .ref _ => rfl
  | .glo _ => rfl
  | .tup ds => by rw [D.py, PyData.plain]; exact pyL_plain ds
  | .lst ds => by rw [D.py, PyData.plain]; exact pyL_plain ds
  | .emp => rfl
  | .pt0 => rfl
theorem pyL_plain : ∀ ds : List D, PyData.plainAll (pyL ds) = true
  | [] => rfl
  | d :: ds => by rw [pyL, PyData.plainAll, D.py_plain d, pyL_plain ds]; rfl
end

/-! ### how data lie in the heap -/
/-- the text's own objects: the written part, where each def and class stands -/
structure Gc where
  K : PySem.W.Frag
  ad : Nat → Option Addr
  /-- the tuples of the text that are named: what they hold -/
  lits : List (List L2.Key) := []
  /-- the tables of code objects, the lambdas' name -/
  tabs : List (Addr × Str) := []
  /-- the world: how keys are hashed -/
  w : World
/-- tables aside -/
def nt (H : Hp) (a : Addr) : Option HO := match H a with
  | some (.tbl _) => none
  | o => o
theorem nt_of {H : Hp} {a : Addr} {o : HO} (h : H a = some o) (n : ∀ ps, o ≠ .tbl ps) : nt H a = some o := by
  unfold nt
  rw [h]
  cases o <;> first | rfl | exact absurd rfl (n _)
theorem nt_some {H : Hp} {a : Addr} {o : HO} (h : nt H a = some o) : H a = some o ∧ ∀ ps, o ≠ .tbl ps := by
  unfold nt at h
  split at h
  · cases h
  · rename_i k
    exact ⟨h, fun ps z => k ps (z ▸ h)⟩
theorem nt_none {H : Hp} {a : Addr} (h : H a = none) : nt H a = none := by
  unfold nt
  rw [h]
theorem nt_ne {H : Hp} {a L : Addr} {o : HO} (h : a ≠ L) : nt (upd H L o) a = nt H a := by
  unfold nt
  rw [upd_ne h]
theorem tabs_upd {T : List (Addr × Str)} {H : Hp} {L : Addr} {u o : HO} (t : LamX.Tabs T H) (h : H L = some u) (n1 : ∀ ps, u ≠ .tbl ps) (n2 : ∀ c q, u ≠ LamX.CodeO c q) : LamX.Tabs T (upd H L o) := fun p hp => by
  obtain ⟨ps, h1, h2, h3⟩ := t p hp
  have ne : p.1 ≠ L := fun z => by
    rw [z, h] at h1
    exact n1 _ (Option.some.inj h1)
  refine ⟨ps, by rw [upd_ne ne]; exact h1, h2, fun pos cv hc => ?_⟩
  obtain ⟨c, e1, e2⟩ := h3 pos cv hc
  have nc : c ≠ L := fun z => by
    rw [z, h] at e2
    exact n2 _ _ (Option.some.inj e2)
  exact ⟨c, e1, by rw [upd_ne nc]; exact e2⟩
theorem nt_same {H H' : Hp} (s : Same H H') {a : Addr} {o : HO} (h : nt H a = some o) : nt H' a = some o := nt_of (s _ _ (nt_some h).1) (nt_some h).2
/-- a tuple: made by the program, or one of the text's that are named -/
def Tq (G : Gc) (H : Hp) (a : Addr) (xs : List V) : Prop := H a = some (.tup xs) ∨ (SqT G.K H a xs ∧ ∃ k, k ∈ G.lits ∧ xs = k.map kV)
theorem Tq.of {G : Gc} {H : Hp} {a : Addr} {xs : List V} (h : H a = some (.tup xs)) : Tq G H a xs := .inl h
theorem Tq.sq {G : Gc} {H : Hp} {a : Addr} {xs : List V} (h : Tq G H a xs) : SqT G.K H a xs := h.elim SqT.of fun h => h.1

/-- what is mutable where one stands: the store's objects (as, by their numbers), others (O) -/
structure Mu where
  as : List Addr
  O : Addr → Prop
def Mu.has (m : Mu) (a : Addr) : Prop := a ∈ m.as ∨ m.O a

/-- the object of an empty tuple that tuple() made -/
def pt0O : Obj := { cls := .type "tuple", data := .seq ([] : List Value).toArray }
mutual
def Rp (G : Gc) (m : Mu) (H : Hp) : D → V → Prop
  | .non, v => v = .non
  | .bl b, v => v = .bl b
  | .int i, v => v = .int i
  | .str x, v => v = .str x
  | .ty n, v => v = .ty n
  | .ref n, v => ∃ a, v = .ref a ∧ m.as[n]? = some a
  | .glo g, v => ∃ a, v = .ref a ∧ G.ad g = some a
  | .tup ds, v => ∃ a xs, v = .ref a ∧ Tq G H a xs ∧ RpL G m H ds xs
  | .lst ds, v => ∃ a xs, v = .ref a ∧ H a = some (.lst xs) ∧ ¬ m.has a ∧ RpL G m H ds xs
  | .emp, v => ∃ a, v = .ref a ∧ H a = some (.dK []) ∧ ¬ m.has a
  | .pt0, v => ∃ a, v = .ref a ∧ H a = some (.frz pt0O (.tup [])) ∧ ¬ m.has a
def RpL (G : Gc) (m : Mu) (H : Hp) : List D → List V → Prop
  | [], xs => xs = []
  | d :: ds, xs => ∃ v r, xs = v :: r ∧ Rp G m H d v ∧ RpL G m H ds r
end
/-- read only, by a primitive: a list may be mutable -/
def Rt (G : Gc) (m : Mu) (H : Hp) (d : D) (v : V) : Prop := match d with
  | .lst ds => ∃ a xs, v = .ref a ∧ H a = some (.lst xs) ∧ a ∉ m.as ∧ RpL G m H ds xs
  | d => Rp G m H d v
/-- a list that one alone holds -/
def Ol (G : Gc) (m : Mu) (H : Hp) (ds : List D) (a : Addr) : Prop := ∃ xs, H a = some (.lst xs) ∧ RpL G m H ds xs
/-- keyed values -/
def RpKV {κ : Type} (G : Gc) (m : Mu) (H : Hp) : List (κ × D) → List (κ × V) → Prop
  | [], xs => xs = []
  | p :: r, xs => ∃ v s, xs = (p.1, v) :: s ∧ Rp G m H p.2 v ∧ RpKV G m H r s
mutual
/-- the key that a value is, nested; True is 1 -/
def nkOf : D → Option NestedKey
  | .non => some .none
  | .bl b => some (.num (if b = true then 1 else 0))
  | .int i => some (.num i)
  | .str x => some (.text x)
  | .tup ds => (nkL ds).map .tup
  | _ => none
def nkL : List D → Option (List NestedKey)
  | [] => some []
  | d :: ds => (nkOf d).bind fun k => (nkL ds).map (k :: ·)
end
inductive PrN : List (NestedKey × Addr × V) → List (NestedKey × Addr × Value) → Prop
  | nil : PrN [] []
  | cons {k : NestedKey} {b : Addr} {v : V} {u : Value} {xs : List (NestedKey × Addr × V)} {ys : List (NestedKey × Addr × Value)} : RelV v u → PrN xs ys → PrN ((k, b, v) :: xs) ((k, b, u) :: ys)
/-- a dict whose keys are tuples, nested: by its one object -/
def DictN (w : World) (a : Addr) (xs : List (NestedKey × Addr × V)) : HO := .ext fun h => xs.length ≤ sizeLine ∧ (a == sysModules) = false ∧ ∃ ys : List (NestedKey × Addr × Value), PrN xs ys ∧
  ∃ o es ep, h.get? a = some o ∧ o.ExactDict ∧ o.data = .dict es ep ∧ es.toList = ys.map (fun x => (⟨x.1.hash w, .ref x.2.1, x.2.2⟩ : DictEntry)) ∧ (ys.map (·.1)).Nodup
/-- its keys and values -/
def RpN (G : Gc) (m : Mu) (H : Hp) : List (D × D) → List (NestedKey × Addr × V) → Prop
  | [], xs => xs = []
  | p :: r, xs => ∃ q b v s, xs = (q, b, v) :: s ∧ nkOf p.1 = some q ∧ q.depth ≤ 8 ∧ Rp G m H p.1 (.ref b) ∧ Rp G m H p.2 v ∧ RpN G m H r s
def RpO (G : Gc) (m : Mu) (H : Hp) : Ob → Addr → Prop
  | .lst ds, a => Ol G m H ds a
  | .frz ds, a => ∃ o xs, H a = some (.frz o (.lst xs)) ∧ RpL G m H ds xs
  | .dK kvs, a => ∃ xs, H a = some (.dK xs) ∧ RpKV G m H kvs xs
  | .dT kvs, a => ∃ xs, H a = some (.dT xs) ∧ RpKV G m H kvs xs
  | .ins c fs, a => ∃ C dx xs, G.ad c = some C ∧ H a = some (.ins C dx xs) ∧ RpKV G m H fs xs
  | .dN kvs, a => ∃ xs, H a = some (DictN G.w a xs) ∧ RpN G m H kvs xs

/-- the step from a state to a later one: the store grows by what is new, objects that are not in it stay -/
structure Le (G : Gc) (m : Mu) (H : Hp) (m' : Mu) (H' : Hp) : Prop where
  as : ∃ e, m'.as = m.as ++ e ∧ ∀ a ∈ e, nt H a = none
  O : m'.O = m.O
  kept : ∀ a o, nt H a = some o → a ∉ m.as → nt H' a = some o
  tups : ∀ a xs, Tq G H a xs → Tq G H' a xs
  there : ∀ a, nt H a ≠ none → nt H' a ≠ none
structure Holds (G : Gc) (m : Mu) (H : Hp) (S : Store) : Prop where
  len : m.as.length = S.length
  nd : m.as.Nodup
  ob : ∀ (n : Nat) (ob : Ob) (a : Addr), S[n]? = some ob → m.as[n]? = some a → RpO G m H ob a
  dis : ∀ a, m.O a → a ∉ m.as
  there : ∀ a, m.O a → nt H a ≠ none
  tabs : LamX.Tabs G.tabs H

section
variable {G : Gc} {m m' m'' : Mu} {H H' H'' : Hp} {S S' : Store}
mutual
theorem Rp.mono (ha : ∀ (n : Nat) (a : Addr), m.as[n]? = some a → m'.as[n]? = some a) (ht : ∀ a xs, Tq G H a xs → Tq G H' a xs)
    (hl : ∀ a o, nt H a = some o → ¬ m.has a → nt H' a = some o ∧ ¬ m'.has a) : ∀ (d : D) (v : V), Rp G m H d v → Rp G m' H' d v
  | .non, _, h => h
  | .bl _, _, h => h
  | .int _, _, h => h
  | .str _, _, h => h
  | .ty _, _, h => h
  | .ref n, _, ⟨a, e, h⟩ => ⟨a, e, ha n a h⟩
  | .glo _, _, h => h
  | .tup ds, _, ⟨a, xs, e, h1, h2⟩ => ⟨a, xs, e, ht a xs h1, RpL.mono ha ht hl ds xs h2⟩
  | .lst ds, _, ⟨a, xs, e, h1, h2, h3⟩ => ⟨a, xs, e, (nt_some (hl a _ (nt_of h1 fun _ z => by cases z) h2).1).1, (hl a _ (nt_of h1 fun _ z => by cases z) h2).2, RpL.mono ha ht hl ds xs h3⟩
  | .emp, _, ⟨a, e, h1, h2⟩ => ⟨a, e, (nt_some (hl a _ (nt_of h1 fun _ z => by cases z) h2).1).1, (hl a _ (nt_of h1 fun _ z => by cases z) h2).2⟩
  | .pt0, _, ⟨a, e, h1, h2⟩ => ⟨a, e, (nt_some (hl a _ (nt_of h1 fun _ z => by cases z) h2).1).1, (hl a _ (nt_of h1 fun _ z => by cases z) h2).2⟩
theorem RpL.mono (ha : ∀ (n : Nat) (a : Addr), m.as[n]? = some a → m'.as[n]? = some a) (ht : ∀ a xs, Tq G H a xs → Tq G H' a xs)
    (hl : ∀ a o, nt H a = some o → ¬ m.has a → nt H' a = some o ∧ ¬ m'.has a) : ∀ (ds : List D) (xs : List V), RpL G m H ds xs → RpL G m' H' ds xs
  | [], _, h => h
  | d :: ds, _, ⟨v, r, e, h1, h2⟩ => ⟨v, r, e, Rp.mono ha ht hl d v h1, RpL.mono ha ht hl ds r h2⟩
end
theorem RpL.imp (hl : ∀ d v, Rp G m H d v → Rp G m' H' d v) : ∀ {ds : List D} {xs : List V}, RpL G m H ds xs → RpL G m' H' ds xs
  | [], _, h => h
  | _ :: _, _, ⟨v, r, e, h1, h2⟩ => ⟨v, r, e, hl _ _ h1, RpL.imp hl h2⟩
theorem RpKV.imp {κ : Type} (hl : ∀ d v, Rp G m H d v → Rp G m' H' d v) : ∀ {ds : List (κ × D)} {xs : List (κ × V)}, RpKV G m H ds xs → RpKV G m' H' ds xs
  | [], _, h => h
  | _ :: _, _, ⟨v, r, e, h1, h2⟩ => ⟨v, r, e, hl _ _ h1, RpKV.imp hl h2⟩
theorem RpN.imp (hl : ∀ d v, Rp G m H d v → Rp G m' H' d v) : ∀ {ds : List (D × D)} {xs : List (NestedKey × Addr × V)}, RpN G m H ds xs → RpN G m' H' ds xs
  | [], _, h => h
  | _ :: _, _, ⟨q, b, v, s, e, h1, h2, h3, h4, h5⟩ => ⟨q, b, v, s, e, h1, h2, hl _ _ h3, hl _ _ h4, RpN.imp hl h5⟩
theorem RpO.mono {a : Addr} (hk : ∀ o, (∀ ps, o ≠ .tbl ps) → H a = some o → H' a = some o) (hl : ∀ d v, Rp G m H d v → Rp G m' H' d v) {ob : Ob} (h : RpO G m H ob a) : RpO G m' H' ob a := by
  cases ob with
  | lst ds => obtain ⟨xs, e, r⟩ := h; exact ⟨xs, hk _ (fun _ z => by cases z) e, RpL.imp hl r⟩
  | frz ds => obtain ⟨o, xs, e, r⟩ := h; exact ⟨o, xs, hk _ (fun _ z => by cases z) e, RpL.imp hl r⟩
  | dK ds => obtain ⟨xs, e, r⟩ := h; exact ⟨xs, hk _ (fun _ z => by cases z) e, RpKV.imp hl r⟩
  | dT ds => obtain ⟨xs, e, r⟩ := h; exact ⟨xs, hk _ (fun _ z => by cases z) e, RpKV.imp hl r⟩
  | ins c ds => obtain ⟨C, dx, xs, e1, e, r⟩ := h; exact ⟨C, dx, xs, e1, hk _ (fun _ z => by cases z) e, RpKV.imp hl r⟩
  | dN ds => obtain ⟨xs, e, r⟩ := h; exact ⟨xs, hk _ (fun _ z => by unfold DictN at z; cases z) e, RpN.imp hl r⟩
theorem RpO.some_ {a : Addr} {ob : Ob} (h : RpO G m H ob a) : ∃ o, H a = some o := by
  cases ob with
  | lst ds => obtain ⟨xs, e, r⟩ := h; exact ⟨_, e⟩
  | frz ds => obtain ⟨o, xs, e, r⟩ := h; exact ⟨_, e⟩
  | dK ds => obtain ⟨xs, e, r⟩ := h; exact ⟨_, e⟩
  | dT ds => obtain ⟨xs, e, r⟩ := h; exact ⟨_, e⟩
  | ins c ds => obtain ⟨C, dx, xs, e1, e, r⟩ := h; exact ⟨_, e⟩
  | dN ds => obtain ⟨xs, e, r⟩ := h; exact ⟨_, e⟩
theorem rd_some {a : Addr} {u : HO} (h : Rd H a u) : ∃ o, H a = some o := by
  rcases h with h | ⟨o, h⟩
  · exact ⟨_, h⟩
  · exact ⟨_, h⟩
theorem Le.refl : Le G m H m H := ⟨⟨[], by simp, by simp⟩, rfl, fun _ _ h _ => h, fun _ _ h => h, fun _ h => h⟩
theorem Le.ix (l : Le G m H m' H') {n : Nat} {a : Addr} (h : m.as[n]? = some a) : m'.as[n]? = some a := by
  obtain ⟨e, e1, _⟩ := l.as
  rw [e1, List.getElem?_append_left (List.getElem?_eq_some_iff.mp h).1]
  exact h
theorem Le.nhas (l : Le G m H m' H') {a : Addr} {o : HO} (h : nt H a = some o) (n : ¬ m.has a) : ¬ m'.has a := by
  obtain ⟨e, e1, e2⟩ := l.as
  rintro (q | q)
  · rw [e1, List.mem_append] at q
    rcases q with q | q
    · exact n (.inl q)
    · rw [e2 a q] at h; cases h
  · rw [l.O] at q
    exact n (.inr q)
theorem Le.lsts (l : Le G m H m' H') (a : Addr) (o : HO) (h : nt H a = some o) (n : ¬ m.has a) : nt H' a = some o ∧ ¬ m'.has a := ⟨l.kept a _ h fun z => n (.inl z), l.nhas h n⟩
theorem Le.rp (l : Le G m H m' H') {d : D} {v : V} (h : Rp G m H d v) : Rp G m' H' d v := Rp.mono (fun _ _ => l.ix) l.tups l.lsts d v h
theorem Le.rpL (l : Le G m H m' H') {ds : List D} {xs : List V} (h : RpL G m H ds xs) : RpL G m' H' ds xs := RpL.mono (fun _ _ => l.ix) l.tups l.lsts ds xs h
theorem Le.trans (l : Le G m H m' H') (k : Le G m' H' m'' H'') : Le G m H m'' H'' := by
  obtain ⟨e, e1, e2⟩ := l.as
  obtain ⟨f, f1, f2⟩ := k.as
  have hn : ∀ a o, nt H a = some o → a ∉ m.as → a ∉ m'.as := fun a o h n q => by
    rw [e1, List.mem_append] at q
    rcases q with q | q
    · exact n q
    · rw [e2 a q] at h; cases h
  refine ⟨⟨e ++ f, by rw [f1, e1, List.append_assoc], fun a ha => ?_⟩, k.O.trans l.O, fun a o h n => k.kept a o (l.kept a o h n) (hn a o h n), fun a xs h => k.tups a xs (l.tups a xs h), fun a h => k.there a (l.there a h)⟩
  rcases List.mem_append.mp ha with q | q
  · exact e2 a q
  · cases h : nt H a with
    | none => rfl
    | some o => exact absurd (f2 a q) (l.there a (by rw [h]; simp))
theorem Le.nas (l : Le G m H m' H') {a : Addr} {o : HO} (h : nt H a = some o) (n : a ∉ m.as) : a ∉ m'.as := by
  obtain ⟨e, e1, e2⟩ := l.as
  intro q
  rw [e1, List.mem_append] at q
  rcases q with q | q
  · exact n q
  · rw [e2 a q] at h; cases h
theorem Rp.rt {d : D} {v : V} (h : Rp G m H d v) : Rt G m H d v := by
  cases d with
  | lst ds =>
    obtain ⟨a, xs, e, h1, h2, h3⟩ := h
    exact ⟨a, xs, e, h1, fun z => h2 (.inl z), h3⟩
  | _ => exact h
theorem Le.rt (l : Le G m H m' H') {d : D} {v : V} (h : Rt G m H d v) : Rt G m' H' d v := by
  cases d with
  | lst ds =>
    obtain ⟨a, xs, e, h1, h2, h3⟩ := h
    exact ⟨a, xs, e, (nt_some (l.kept a _ (nt_of h1 fun _ z => by cases z) h2)).1, l.nas (nt_of h1 fun _ z => by cases z) h2, l.rpL h3⟩
  | _ => exact l.rp h
end

/-! ### behind a piece of code -/
def Aft (G : Gc) (m : Mu) (H : Hp) {α : Type} (X : XK) (r : R α) (Φ : α → Store → Mu → Hp → Prop) : Prop := match r with
  | .ok a S => ∀ m' H', Le G m H m' H' → Holds G m' H' S → Φ a S m' H'
  | .exc c S => ∀ m' H', Le G m H m' H' → Holds G m' H' S → ∀ ca, G.ad c = some ca → X (.ref ca) none H'
  | .bad => False
section
variable {G : Gc} {m m' : Mu} {H H' : Hp} {α β : Type} {X : XK} {r : R α} {Φ Ψ : α → Store → Mu → Hp → Prop}
theorem Aft.later (h : Aft G m H X r Φ) (l : Le G m H m' H') : Aft G m' H' X r Φ := by
  cases r with
  | ok a S => exact fun m2 H2 l2 h2 => h m2 H2 (l.trans l2) h2
  | exc c S => exact fun m2 H2 l2 h2 => h m2 H2 (l.trans l2) h2
  | bad => exact h
theorem Aft.imp (h : Aft G m H X r Φ) (k : ∀ a S m' H', Le G m H m' H' → Holds G m' H' S → Φ a S m' H' → Ψ a S m' H') : Aft G m H X r Ψ := by
  cases r with
  | ok a S => exact fun m2 H2 l2 h2 => k a S m2 H2 l2 h2 (h m2 H2 l2 h2)
  | exc c S => exact h
  | bad => exact h
theorem Aft.impX {X' : XK} (h : Aft G m H X r Φ) (k : ∀ c H', X c none H' → X' c none H') : Aft G m H X' r Φ := by
  cases r with
  | ok a S => exact h
  | exc c S => exact fun m2 H2 l2 h2 ca e => k _ _ (h m2 H2 l2 h2 ca e)
  | bad => exact h
theorem Aft.bind {k : α → M β} {Φ : β → Store → Mu → Hp → Prop} (h : Aft G m H X (r.bind k) Φ) : Aft G m H X r fun a S m' H' => Aft G m' H' X (k a S) Φ := by
  cases r with
  | ok a S => exact fun m2 H2 l2 h2 => Aft.later (show Aft G m H X (k a S) Φ from h) l2
  | exc c S => exact h
  | bad => exact h
theorem Aft.ok {a : α} {S : Store} (h : Aft G m H X (.ok a S) Φ) (hs : Holds G m H S) : Φ a S m H := h m H Le.refl hs
end

/-! ### the slots -/
abbrev Sg := L2.St
/-- a slot: a value, or a list that it alone holds -/
inductive Sl where
  | val (d : D) | own (ds : List D)
abbrev Env := List (Option Sl)
def RpS (G : Gc) (m : Mu) (H : Hp) : Sl → V → Prop
  | .val d, v => Rp G m H d v
  | .own ds, v => ∃ a, v = .ref a ∧ m.O a ∧ a ∉ m.as ∧ Ol G m H ds a
structure RpE (G : Gc) (m : Mu) (H : Hp) (ρ : Env) (σ : Sg) : Prop where
  at_ : ∀ (i : Nat) (s : Sl), ρ[i]? = some (some s) → ∃ v, σ[i]? = some (some v) ∧ RpS G m H s v
  inj : ∀ (i j : Nat) (ds es : List D) (a : Addr), ρ[i]? = some (some (.own ds)) → ρ[j]? = some (some (.own es)) → σ[i]? = some (some (V.ref a)) → σ[j]? = some (some (V.ref a)) → i = j
  len : ρ.length = σ.length
section
variable {G : Gc} {m m' : Mu} {H H' : Hp} {ρ : Env} {σ : Sg}
theorem Le.ol (l : Le G m H m' H') {ds : List D} {a : Addr} (n : a ∉ m.as) (h : Ol G m H ds a) : Ol G m' H' ds a := by
  obtain ⟨xs, e, q⟩ := h
  exact ⟨xs, (nt_some (l.kept a _ (nt_of e fun _ z => by cases z) n)).1, l.rpL q⟩
theorem Le.rps (l : Le G m H m' H') {s : Sl} {v : V} (h : RpS G m H s v) : RpS G m' H' s v := by
  cases s with
  | val d => exact l.rp h
  | own ds =>
    obtain ⟨a, e, h1, h2, h3⟩ := h
    obtain ⟨xs, ex, _⟩ := id h3
    exact ⟨a, e, by rw [l.O]; exact h1, l.nas (nt_of ex fun _ z => by cases z) h2, l.ol h2 h3⟩
theorem RpE.le (E : RpE G m H ρ σ) (l : Le G m H m' H') : RpE G m' H' ρ σ :=
  ⟨fun i s h => let ⟨v, e, q⟩ := E.at_ i s h; ⟨v, e, l.rps q⟩, E.inj, E.len⟩
/-- all that is tracked stays -/
theorem sqT_same {K : PySem.W.Frag} (s : Same H H') {a : Addr} {xs : List V} (h : SqT K H a xs) : SqT K H' a xs := by
  rcases h with (h | ⟨o, h⟩) | h
  · exact .inl (.inl (s _ _ h))
  · exact .inl (.inr ⟨o, s _ _ h⟩)
  · exact .inr h
theorem tq_same (s : Same H H') {a : Addr} {xs : List V} (h : Tq G H a xs) : Tq G H' a xs := h.elim (fun h => .inl (s _ _ h)) fun h => .inr ⟨sqT_same s h.1, h.2⟩
theorem Le.same (s : Same H H') : Le G m H m H' := ⟨⟨[], by simp, by simp⟩, rfl, fun a o h _ => nt_same s h, fun _ _ h => tq_same s h, fun a h => by
  cases e : nt H a with
  | none => exact absurd e h
  | some o => rw [nt_same s e]; simp⟩
theorem Holds.same {S : Store} (h : Holds G m H S) (s : Same H H') : Holds G m H' S :=
  ⟨h.len, h.nd, fun n ob a e1 e2 => by
    exact (h.ob n ob a e1 e2).mono (fun o _ => s a o) fun d v r => (Le.same (m := m) s).rp r, h.dis, fun a q => (Le.same (G := G) (m := m) s).there a (h.there a q), h.tabs.ext s⟩
theorem Same.new {p : Addr} {o : HO} (h : H p = none) : Same H (upd H p o) := fun a u e => by
  rw [upd_ne (ne_of_none e h)]
  exact e
end

/-! ### readings of code by what it is -/
abbrev DE := Env → M D
abbrev DT := Env → M Bool
abbrev DA := Env → M (List D)
def Inp (G : Gc) (σ : Sg) (H : Hp) (k : Mu → Env → Store → Prop) : Prop := ∃ m ρ S, Holds G m H S ∧ RpE G m H ρ σ ∧ k m ρ S
def RtL (G : Gc) (m : Mu) (H : Hp) : List D → List V → Prop
  | [], xs => xs = []
  | d :: ds, xs => ∃ v r, xs = v :: r ∧ Rt G m H d v ∧ RtL G m H ds r
def tE (G : Gc) (W : WX) (d : DE) : TE := fun σ H Q => Inp G σ H fun m ρ S => Aft G m H (fun c x H' => W c x σ H') (d ρ S) fun r _ m' H' => ∀ v, Rp G m' H' r v → Q v H'
def tR (G : Gc) (W : WX) (d : DE) : TE := fun σ H Q => Inp G σ H fun m ρ S => Aft G m H (fun c x H' => W c x σ H') (d ρ S) fun r _ m' H' => ∀ v, Rt G m' H' r v → Q v H'
def tT (G : Gc) (W : WX) (d : DT) : TT := fun σ H Q => Inp G σ H fun m ρ S => Aft G m H (fun c x H' => W c x σ H') (d ρ S) fun r _ _ H' => Q r H'
def tA (G : Gc) (W : WX) (d : DA) : TA := fun σ H Q => Inp G σ H fun m ρ S => Aft G m H (fun c x H' => W c x σ H') (d ρ S) fun r _ m' H' => ∀ vs, RpL G m' H' r vs → Q vs H'
def tB (G : Gc) (W : WX) (d : DA) : TA := fun σ H Q => Inp G σ H fun m ρ S => Aft G m H (fun c x H' => W c x σ H') (d ρ S) fun r _ m' H' => ∀ vs, RtL G m' H' r vs → Q vs H'
/-- primitives: they read the store -/
abbrev Pr (α β : Type) := Store → α → Option β
def rRes (G : Gc) (m : Mu) (H : Hp) (S : Store) (r : D) (Q : VK) : Prop := ∀ m' H', Le G m H m' H' → Holds G m' H' S → ∀ v, Rp G m' H' r v → Q v H'
def rO (G : Gc) (f : Store → D → D → Option D) : R2 := fun x y H Q => ∃ m S d e r, Holds G m H S ∧ Rt G m H d x ∧ Rt G m H e y ∧ f S d e = some r ∧ rRes G m H S r Q
def rC (G : Gc) (f : Store → List D → Option D) : List V → Hp → VK → Prop := fun vs H Q => ∃ m S ds r, Holds G m H S ∧ RtL G m H ds vs ∧ f S ds = some r ∧ rRes G m H S r Q
def optM {β : Type} (r : Option β) : M β := fun S => match r with
  | some b => .ok b S
  | none => .bad
def dOp (f : Store → D → D → Option D) (a b : DE) : DE := fun ρ S => (a ρ S).bind fun x S => (b ρ S).bind fun y S => optM (f S x y) S
def dPr (f : Store → List D → Option D) (a : DA) : DE := fun ρ S => (a ρ S).bind fun xs S => optM (f S xs) S
section
variable {G : Gc} {W : WX} {X : Cx} {e a b : Expr} {t t' : TE} {da db : DE} {m : Mu} {H : Hp} {S : Store} {σ : Sg}
theorem pe_imp (h : PE X e t) (k : ∀ σ H Q, t' σ H Q → t σ H Q) : PE X e t' := ⟨fun pins s σ H Q I q => h.run pins s σ H Q I (k σ H Q q)⟩
theorem pt_imp {t t' : TT} (h : PT X e t) (k : ∀ σ H Q, t' σ H Q → t σ H Q) : PT X e t' := ⟨fun pins s σ H Q I q => h.run pins s σ H Q I (k σ H Q q)⟩
theorem pa_imp {es : List Expr} {t t' : TA} (h : PA X es t) (k : ∀ σ H Q, t' σ H Q → t σ H Q) : PA X es t' := ⟨fun pos pins s σ H Q I q => h.run pos pins s σ H Q I (k σ H Q q)⟩
theorem opr_imp {f : Value → Value → Sem Value} {r r' : R2} (h : OpR X f r) (k : ∀ x y H Q, r' x y H Q → r x y H Q) : OpR X f r' := fun pins s σ H x y v u Q I rx ry q => h pins s σ H x y v u Q I rx ry (k x y H Q q)
theorem callr_imp {f : Value} {r r' : List V → Hp → VK → Prop} (h : CallR X f r) (k : ∀ xs H Q, r' xs H Q → r xs H Q) : CallR X f r' := fun pins s σ H xs us Q I rx q => h pins s σ H xs us Q I rx (k xs H Q q)
theorem rRes.here {r : D} {Q : VK} (h : rRes G m H S r Q) (hs : Holds G m H S) {v : V} (q : Rp G m H r v) : Q v H := h m H Le.refl hs v q
theorem rRes.new {r : D} {Q : VK} (h : rRes G m H S r Q) (hs : Holds G m H S) {p : Addr} {o : HO} (hp : H p = none) {v : V} (q : Rp G m (upd H p o) r v) : Q v (upd H p o) :=
  h m _ (Le.same (Same.new hp)) (hs.same (Same.new hp)) v q
theorem rRes.later {r : D} {Q : VK} {m' : Mu} {H' : Hp} (h : rRes G m H S r Q) (l : Le G m H m' H') : rRes G m' H' S r Q := fun m2 H2 l2 h2 => h m2 H2 (l.trans l2) h2
theorem aft_opt {r : Option D} {Y : XK} {Q : VK} (h : Aft G m H Y (optM r S) fun r _ m' H' => ∀ v, Rp G m' H' r v → Q v H') : ∃ d, r = some d ∧ rRes G m H S d Q := by
  cases r with
  | none => exact h.elim
  | some d => exact ⟨d, rfl, fun m' H' l hs v q => h m' H' l hs v q⟩
/-- reading a value twice: the weak reading of a strong one -/
theorem jr_of (h : PE X e (tE G W da)) : PE X e (tR G W da) := pe_imp h fun σ H Q ⟨m, ρ, S, hS, hE, q⟩ => ⟨m, ρ, S, hS, hE, q.imp fun r S' m' H' _ _ z v rv => z v rv.rt⟩
theorem tOp_of {f : Store → D → D → Option D} {Q : VK} (h : tE G W (dOp f da db) σ H Q) : tOp (rO G f) (tR G W da) (tR G W db) σ H Q := by
  obtain ⟨m, ρ, S, hS, hE, h⟩ := h
  refine ⟨m, ρ, S, hS, hE, (Aft.bind h).imp fun x S1 m1 H1 l1 hS1 h1 v rv => ?_⟩
  refine ⟨m1, ρ, S1, hS1, hE.le l1, (Aft.bind h1).imp fun y S2 m2 H2 l2 hS2 h2 u ru => ?_⟩
  obtain ⟨d, e, k⟩ := aft_opt h2
  exact ⟨m2, S2, x, y, d, hS2, l2.rt rv, ru, e, k⟩
theorem je_op {op : Operator} {f : Store → D → D → Option D} {pos : Pos} (ho : OpR X (binaryOp op) (rO G f)) (ha : PE X a (tR G W da)) (hb : PE X b (tR G W db)) : PE X (.BinOp a op b pos) (tE G W (dOp f da db)) :=
  pe_imp (pe_op ho ha hb) fun _ _ _ h => tOp_of h
theorem je_cmp {op : CmpOp} {f : Store → D → D → Option D} {pos : Pos} (ho : OpR X (compareOp op) (rO G f)) (ha : PE X a (tR G W da)) (hb : PE X b (tR G W db)) (hm : behindInMarks op b = false) : PE X (.Compare a [op] [b] pos) (tE G W (dOp f da db)) :=
  pe_imp (pe_cmpR ho ha hb hm) fun _ _ _ h => tOp_of h
end
end Py

/-! Part 2: primitives. -/
namespace Py
open PySem PySem.Spec PyProof.Rows L2

section
variable {G : Gc} {X : Cx} {pins : List (Addr × Obj)} {σ : Sg} {m : Mu} {H : Hp} {s : Shared}
mutual
theorem Rp.reads (I : Inv X pins σ H s) (hK : X.K = G.K) : ∀ (d : D) (v : V) (u : Value), d.okd = true → Rp G m H d v → RelV v u → ∃ as, Reads s.heap u d.py as
  | .non, _, _, _, h, r => by
    have h : _ = V.non := h
    subst h; cases r; exact ⟨_, Reads.none⟩
  | .bl b, _, _, _, h, r => by
    have h : _ = V.bl b := h
    subst h; cases r; exact ⟨_, Reads.bool b⟩
  | .int i, _, _, _, h, r => by
    have h : _ = V.int i := h
    subst h; obtain ⟨t, rfl⟩ := r; exact ⟨_, Reads.int i t⟩
  | .str x, _, _, _, h, r => by
    have h : _ = V.str x := h
    subst h; obtain ⟨t, rfl⟩ := r; exact ⟨_, Reads.str x t⟩
  | .ty n, _, _, k, _, _ => by cases k
  | .ref n, _, _, k, _, _ => by cases k
  | .glo n, _, _, k, _, _ => by cases k
  | .emp, _, _, k, _, _ => by cases k
  | .pt0, _, _, k, _, _ => by cases k
  | .tup ds, _, _, k, ⟨a, xs, e, h1, h2⟩, r => by
    subst e; cases r
    have h1 := h1.sq
    rw [← hK] at h1
    obtain ⟨its, rv, ⟨o, ho, hc, n, hd⟩, _⟩ := I.tuple h1
    obtain ⟨as, hr⟩ := RpL.reads I hK ds xs its k h2 rv
    exact ⟨_, Reads.tuple ho hc hd hr⟩
  | .lst ds, _, _, k, ⟨a, xs, e, h1, _, h2⟩, r => by
    subst e; cases r
    obtain ⟨its, rv, ⟨o, n, ho, hc, _, hd⟩, _⟩ := I.list (.inl (.inl h1))
    obtain ⟨as, hr⟩ := RpL.reads I hK ds xs its k h2 rv
    exact ⟨_, Reads.list ho hc hd hr⟩
theorem RpL.reads (I : Inv X pins σ H s) (hK : X.K = G.K) : ∀ (ds : List D) (vs : List V) (us : List Value), okdL ds = true → RpL G m H ds vs → Vals vs us → ∃ as, ReadsAll s.heap us (pyL ds) as
  | [], _, _, _, h, r => by
    have h : _ = [] := h
    subst h; cases r; exact ⟨_, ReadsAll.nil⟩
  | d :: ds, _, _, k, ⟨v, r', e, h1, h2⟩, r => by
    subst e
    have k' : (d.okd && okdL ds) = true := k
    rw [Bool.and_eq_true] at k'
    cases r with
    | cons r1 r2 =>
      obtain ⟨as, q1⟩ := Rp.reads I hK d _ _ k'.1 h1 r1
      obtain ⟨bs, q2⟩ := RpL.reads I hK ds _ _ k'.2 h2 r2
      exact ⟨_, ReadsAll.cons q1 q2⟩
end
theorem Rt.reads (I : Inv X pins σ H s) (hK : X.K = G.K) {d : D} {v : V} {u : Value} (k : d.okd = true) (h : Rt G m H d v) (r : RelV v u) : ∃ as, Reads s.heap u d.py as := by
  cases d with
  | lst ds =>
    obtain ⟨a, xs, e, h1, _, h2⟩ := h
    subst e; cases r
    obtain ⟨its, rv, ⟨o, n, ho, hc, _, hd⟩, _⟩ := I.list (.inl (.inl h1))
    obtain ⟨as, hr⟩ := RpL.reads I hK ds xs its k h2 rv
    exact ⟨_, Reads.list ho hc hd hr⟩
  | _ => exact Rp.reads (m := m) I hK _ _ _ k h r
end

/-! ### comparisons of data -/
def shal (d : D) : Bool := d.okd && decide (d.py.depth ≤ 100)
theorem shal_ok {d : D} (h : shal d = true) : d.okd = true ∧ d.py.depth ≤ 100 := by
  unfold shal at h
  rw [Bool.and_eq_true, decide_eq_true_eq] at h
  exact h
def pEq (_ : Store) (d e : D) : Option D := if shal d && shal e then some (.bl (PyData.eqv d.py e.py)) else none
def pNe (_ : Store) (d e : D) : Option D := if shal d && shal e then some (.bl (!PyData.eqv d.py e.py)) else none
def isNonD : D → Bool
  | .non => true
  | _ => false
def cmpOk (d e : D) : Bool := shal d && shal e && PySem.W.alike d.py e.py && !isNonD d
theorem cmpOk_ok {d e : D} (h : cmpOk d e = true) : shal d = true ∧ shal e = true ∧ PySem.W.alike d.py e.py = true ∧ d.py ≠ .none := by
  unfold cmpOk at h
  simp only [Bool.and_eq_true] at h
  obtain ⟨⟨⟨h1, h2⟩, h3⟩, h4⟩ := h
  refine ⟨h1, h2, h3, ?_⟩
  have k := (shal_ok h1).1
  cases d <;> simp_all [D.py, isNonD, D.okd]
def pLt (_ : Store) (d e : D) : Option D := if cmpOk d e then some (.bl (PySem.W.dataLt d.py e.py)) else none
def pGt (_ : Store) (d e : D) : Option D := if cmpOk d e then some (.bl (PySem.W.dataLt e.py d.py)) else none
def pLe (_ : Store) (d e : D) : Option D := if cmpOk d e then some (.bl (!PySem.W.dataLt e.py d.py)) else none
def pGe (_ : Store) (d e : D) : Option D := if cmpOk d e then some (.bl (!PySem.W.dataLt d.py e.py)) else none
def itemsOf : D → Option (List D)
  | .tup ds => some ds
  | .lst ds => some ds
  | _ => none
def pIn0 (_ : Store) (d e : D) : Option D := match itemsOf e with
  | some ds => if shal d && shal e then some (.bl ((pyL ds).any fun y => PyData.eqv y d.py)) else none
  | none => none
def pNotIn0 (_ : Store) (d e : D) : Option D := match itemsOf e with
  | some ds => if shal d && shal e then some (.bl (!(pyL ds).any fun y => PyData.eqv y d.py)) else none
  | none => none
/-- a sign in a text -/
def signIn : D → D → Option Bool
  | .str ⟨⟨[c]⟩⟩, .str z => some (decide (c ∈ z.cps.toList))
  | _, _ => none
def pIn (S : Store) (d e : D) : Option D := match signIn d e with
  | some b => some (.bl b)
  | none => pIn0 S d e
def pNotIn (S : Store) (d e : D) : Option D := match signIn d e with
  | some b => some (.bl (!b))
  | none => pNotIn0 S d e
section
variable {G : Gc} {X : Cx}
theorem some_if {α : Type} {c : Bool} {a r : α} (h : (if c = true then some a else none) = some r) : c = true ∧ a = r := by
  cases c with
  | true => exact ⟨rfl, Option.some.inj h⟩
  | false => cases h
theorem op_of_data {op : CmpOp} {f : Store → D → D → Option D} (g : D → D → Bool) (c : D → D → Bool) (hK : X.K = G.K) (hf : ∀ S d e r, f S d e = some r → c d e = true ∧ r = .bl (g d e)) (hc : ∀ d e, c d e = true → d.okd = true ∧ e.okd = true)
    (rule : ∀ {E : Value → Shared → Prop} {s : Shared} {a b : Value} {d e : D} {as bs : List Addr} {Q : Value → Shared → Prop}, Reads s.heap a d.py as → Reads s.heap b e.py bs → c d e = true → Q (.bool (g d e)) s → wpAny (model X.prog X.w) X.A (compareOp op a b) Q E s) :
    OpR X (compareOp op) (rO G f) := by
  intro pins s σ H x y v u Q I rx ry ⟨m, S, d, e, r, hS, hx, hy, hf', k⟩
  obtain ⟨h1, rfl⟩ := hf S d e r hf'
  obtain ⟨k1, k2⟩ := hc d e h1
  obtain ⟨as, q1⟩ := hx.reads I hK k1 rx
  obtain ⟨bs, q2⟩ := hy.reads I hK k2 ry
  exact rule q1 q2 h1 ⟨.bl _, H, I, rfl, k.here hS (v := .bl _) rfl⟩
theorem shal2 {d e : D} (h : (shal d && shal e) = true) : (d.okd = true ∧ d.py.depth ≤ 100) ∧ e.okd = true ∧ e.py.depth ≤ 100 := by
  rw [Bool.and_eq_true] at h
  exact ⟨shal_ok h.1, shal_ok h.2⟩
theorem o_eq (hK : X.K = G.K) (hu : X.A.units + 200 < cLine) : OpR X (compareOp .Eq) (rO G pEq) :=
  op_of_data (fun d e => PyData.eqv d.py e.py) (fun d e => shal d && shal e) hK (fun S d e r h => by obtain ⟨h1, h2⟩ := some_if h; exact ⟨h1, h2.symm⟩) (fun d e h => ⟨(shal2 h).1.1, (shal2 h).2.1⟩)
    fun ra rb hc q => SeqAt.eq_plain ra rb (D.py_plain _) (D.py_plain _) (by have h1 := (shal2 hc).1.2; omega) q
theorem o_ne (hK : X.K = G.K) (hu : X.A.units + 200 < cLine) : OpR X (compareOp .NotEq) (rO G pNe) :=
  op_of_data (fun d e => !PyData.eqv d.py e.py) (fun d e => shal d && shal e) hK (fun S d e r h => by obtain ⟨h1, h2⟩ := some_if h; exact ⟨h1, h2.symm⟩) (fun d e h => ⟨(shal2 h).1.1, (shal2 h).2.1⟩)
    fun ra rb hc q => SeqAt.ne_plain ra rb (D.py_plain _) (D.py_plain _) (by have h1 := (shal2 hc).1.2; omega) q
theorem o_lt (hK : X.K = G.K) (hu : X.A.units + 200 < cLine) : OpR X (compareOp .Lt) (rO G pLt) :=
  op_of_data (fun d e => PySem.W.dataLt d.py e.py) cmpOk hK (fun S d e r h => by obtain ⟨h1, h2⟩ := some_if h; exact ⟨h1, h2.symm⟩) (fun d e h => ⟨(shal_ok (cmpOk_ok h).1).1, (shal_ok (cmpOk_ok h).2.1).1⟩)
    fun ra rb hc q => PySem.W.lt_data ra rb (cmpOk_ok hc).2.2.1 (cmpOk_ok hc).2.2.2 (by have h1 := (shal_ok (cmpOk_ok hc).1).2; omega) q
theorem o_gt (hK : X.K = G.K) (hu : X.A.units + 200 < cLine) : OpR X (compareOp .Gt) (rO G pGt) :=
  op_of_data (fun d e => PySem.W.dataLt e.py d.py) cmpOk hK (fun S d e r h => by obtain ⟨h1, h2⟩ := some_if h; exact ⟨h1, h2.symm⟩) (fun d e h => ⟨(shal_ok (cmpOk_ok h).1).1, (shal_ok (cmpOk_ok h).2.1).1⟩)
    fun ra rb hc q => PySem.W.gt_data ra rb (cmpOk_ok hc).2.2.1 (cmpOk_ok hc).2.2.2 (by have h1 := (shal_ok (cmpOk_ok hc).1).2; omega) q
theorem o_le (hK : X.K = G.K) (hu : X.A.units + 200 < cLine) : OpR X (compareOp .LtE) (rO G pLe) :=
  op_of_data (fun d e => !PySem.W.dataLt e.py d.py) cmpOk hK (fun S d e r h => by obtain ⟨h1, h2⟩ := some_if h; exact ⟨h1, h2.symm⟩) (fun d e h => ⟨(shal_ok (cmpOk_ok h).1).1, (shal_ok (cmpOk_ok h).2.1).1⟩)
    fun ra rb hc q => PySem.W.le_data ra rb (cmpOk_ok hc).2.2.1 (cmpOk_ok hc).2.2.2 (by have h1 := (shal_ok (cmpOk_ok hc).1).2; omega) q
theorem o_ge (hK : X.K = G.K) (hu : X.A.units + 200 < cLine) : OpR X (compareOp .GtE) (rO G pGe) :=
  op_of_data (fun d e => !PySem.W.dataLt d.py e.py) cmpOk hK (fun S d e r h => by obtain ⟨h1, h2⟩ := some_if h; exact ⟨h1, h2.symm⟩) (fun d e h => ⟨(shal_ok (cmpOk_ok h).1).1, (shal_ok (cmpOk_ok h).2.1).1⟩)
    fun ra rb hc q => PySem.W.ge_data ra rb (cmpOk_ok hc).2.2.1 (cmpOk_ok hc).2.2.2 (by have h1 := (shal_ok (cmpOk_ok hc).1).2; omega) q
theorem in_ok {e : D} {ds : List D} (h : itemsOf e = some ds) (k : shal e = true) : (e = .tup ds ∨ e = .lst ds) ∧ PyData.depthAll (pyL ds) < 100 := by
  obtain ⟨k1, k2⟩ := shal_ok k
  cases e <;> simp only [itemsOf] at h <;> first | cases h | skip
  all_goals
    rw [D.py, PyData.depth] at k2
    exact ⟨by simp, by omega⟩
theorem pIn_ok {S : Store} {d e r : D} (h : pIn0 S d e = some r) : ∃ ds, itemsOf e = some ds ∧ (shal d && shal e) = true ∧ r = .bl ((pyL ds).any fun y => PyData.eqv y d.py) := by
  unfold pIn0 at h
  split at h
  · rename_i ds hd
    obtain ⟨h1, h2⟩ := some_if h
    exact ⟨ds, hd, h1, h2.symm⟩
  · cases h
theorem pNotIn_ok {S : Store} {d e r : D} (h : pNotIn0 S d e = some r) : ∃ ds, itemsOf e = some ds ∧ (shal d && shal e) = true ∧ r = .bl (!(pyL ds).any fun y => PyData.eqv y d.py) := by
  unfold pNotIn0 at h
  split at h
  · rename_i ds hd
    obtain ⟨h1, h2⟩ := some_if h
    exact ⟨ds, hd, h1, h2.symm⟩
  · cases h
theorem o_in0 (hK : X.K = G.K) (hu : X.A.units + 200 < cLine) : OpR X (compareOp .In) (rO G pIn0) := by
  intro pins s σ H x y v u Q I rx ry ⟨m, S, d, e, r, hS, hx, hy, hf', k⟩
  obtain ⟨ds, hd, hs, rfl⟩ := pIn_ok hf'
  obtain ⟨⟨k1, k3⟩, k2, k4⟩ := shal2 hs
  obtain ⟨as, q1⟩ := hx.reads I hK k1 rx
  obtain ⟨bs, q2⟩ := hy.reads I hK k2 ry
  have hb := (in_ok hd (by rw [Bool.and_eq_true] at hs; exact hs.2)).2
  rcases (in_ok hd (by rw [Bool.and_eq_true] at hs; exact hs.2)).1 with rfl | rfl
  · rw [D.py] at q2
    exact SeqAt.in_tuple_data q2 q1 (pyL_plain ds) (D.py_plain d) (by omega) ⟨.bl _, H, I, rfl, k.here hS (v := .bl _) rfl⟩
  · rw [D.py] at q2
    exact SeqAt.in_list_data q2 q1 (pyL_plain ds) (D.py_plain d) (by omega) ⟨.bl _, H, I, rfl, k.here hS (v := .bl _) rfl⟩
theorem o_notIn0 (hK : X.K = G.K) (hu : X.A.units + 200 < cLine) : OpR X (compareOp .NotIn) (rO G pNotIn0) := by
  intro pins s σ H x y v u Q I rx ry ⟨m, S, d, e, r, hS, hx, hy, hf', k⟩
  obtain ⟨ds, hd, hs, rfl⟩ := pNotIn_ok hf'
  obtain ⟨⟨k1, k3⟩, k2, k4⟩ := shal2 hs
  obtain ⟨as, q1⟩ := hx.reads I hK k1 rx
  obtain ⟨bs, q2⟩ := hy.reads I hK k2 ry
  have hb := (in_ok hd (by rw [Bool.and_eq_true] at hs; exact hs.2)).2
  rcases (in_ok hd (by rw [Bool.and_eq_true] at hs; exact hs.2)).1 with rfl | rfl
  · rw [D.py] at q2
    exact SeqAt.notIn_tuple_data q2 q1 (pyL_plain ds) (D.py_plain d) (by omega) ⟨.bl _, H, I, rfl, k.here hS (v := .bl _) rfl⟩
  · rw [D.py] at q2
    exact SeqAt.notIn_list_data q2 q1 (pyL_plain ds) (D.py_plain d) (by omega) ⟨.bl _, H, I, rfl, k.here hS (v := .bl _) rfl⟩
theorem signIn_ok {d e : D} {b : Bool} (h : signIn d e = some b) : ∃ (c : Nat) (z : Str), d = .str ⟨#[c]⟩ ∧ e = .str z ∧ b = decide (c ∈ z.cps.toList) := by
  unfold signIn at h
  split at h
  · exact ⟨_, _, rfl, rfl, (Option.some.inj h).symm⟩
  · cases h
theorem o_in (hK : X.K = G.K) (hu : X.A.units + 200 < cLine) : OpR X (compareOp .In) (rO G pIn) := by
  refine opr_imp (OpR.or (o_in0 hK hu) op_in_sign) fun x y H Q ⟨m, S, d, e, r, hS, hx, hy, hf, k⟩ => ?_
  unfold pIn at hf
  split at hf
  · rename_i b hb
    obtain ⟨c, z, rfl, rfl, rfl⟩ := signIn_ok hb
    cases hf
    have hx : x = V.str _ := hx
    have hy : y = V.str _ := hy
    exact .inr ⟨c, z, hx, hy, k.here hS (v := .bl _) rfl⟩
  · exact .inl ⟨m, S, d, e, r, hS, hx, hy, hf, k⟩
theorem o_notIn (hK : X.K = G.K) (hu : X.A.units + 200 < cLine) : OpR X (compareOp .NotIn) (rO G pNotIn) := by
  refine opr_imp (OpR.or (o_notIn0 hK hu) op_notIn_sign) fun x y H Q ⟨m, S, d, e, r, hS, hx, hy, hf, k⟩ => ?_
  unfold pNotIn at hf
  split at hf
  · rename_i b hb
    obtain ⟨c, z, rfl, rfl, rfl⟩ := signIn_ok hb
    cases hf
    have hx : x = V.str _ := hx
    have hy : y = V.str _ := hy
    exact .inr ⟨c, z, hx, hy, k.here hS (v := .bl _) rfl⟩
  · exact .inl ⟨m, S, d, e, r, hS, hx, hy, hf, k⟩
end
end Py

/-! Part 3: primitives on numbers, texts, tuples, lists. -/
namespace Py
open PySem PySem.Spec PyProof.Rows L2

section
variable {G : Gc} {m : Mu} {H : Hp}
theorem RpL.length : ∀ {ds : List D} {xs : List V}, RpL G m H ds xs → xs.length = ds.length
  | [], _, h => by
    have h : _ = [] := h
    rw [h]; rfl
  | d :: ds, _, ⟨v, r, e, _, h⟩ => by
    rw [e, List.length_cons, List.length_cons, RpL.length h]
theorem RpL.append : ∀ {ds es : List D} {xs ys : List V}, RpL G m H ds xs → RpL G m H es ys → RpL G m H (ds ++ es) (xs ++ ys)
  | [], _, _, _, h, k => by
    have h : _ = [] := h
    rw [h]; exact k
  | d :: ds, es, _, ys, ⟨v, r, e, h1, h⟩, k => ⟨v, r ++ ys, by rw [e]; rfl, h1, RpL.append h k⟩
theorem RpL.get : ∀ {ds : List D} {xs : List V} {i : Nat} {d : D}, RpL G m H ds xs → ds[i]? = some d → ∃ v, xs[i]? = some v ∧ Rp G m H d v
  | [], _, _, _, _, e => by simp at e
  | d :: ds, _, 0, _, ⟨v, r, e, h1, h⟩, k => by
    simp at k; subst k; subst e
    exact ⟨v, rfl, h1⟩
  | d :: ds, _, i + 1, d', ⟨v, r, e, h1, h⟩, k => by
    subst e
    obtain ⟨u, q1, q2⟩ := RpL.get (i := i) h (by simpa using k)
    exact ⟨u, by simpa using q1, q2⟩
theorem RpL.getV : ∀ {ds : List D} {xs : List V} {i : Nat} {v : V}, RpL G m H ds xs → xs[i]? = some v → ∃ d, ds[i]? = some d ∧ Rp G m H d v
  | [], _, _, _, h, e => by
    have h : _ = [] := h
    rw [h] at e; simp at e
  | d :: ds, _, 0, _, ⟨v, r, e, h1, h⟩, k => by
    subst e
    simp at k; subst k
    exact ⟨d, rfl, h1⟩
  | d :: ds, _, i + 1, d', ⟨v, r, e, h1, h⟩, k => by
    subst e
    obtain ⟨u, q1, q2⟩ := RpL.getV (i := i) h (by simpa using k)
    exact ⟨u, by simpa using q1, q2⟩
theorem RpL.take : ∀ (n : Nat) {ds : List D} {xs : List V}, RpL G m H ds xs → RpL G m H (ds.take n) (xs.take n)
  | 0, ds, xs, _ => by
    show RpL G m H [] []
    rfl
  | n + 1, [], _, h => by
    have h : _ = [] := h
    rw [h]; rfl
  | n + 1, d :: ds, _, ⟨v, r, e, h1, h⟩ => by
    subst e
    exact ⟨v, r.take n, rfl, h1, RpL.take n h⟩
theorem RpL.drop : ∀ (n : Nat) {ds : List D} {xs : List V}, RpL G m H ds xs → RpL G m H (ds.drop n) (xs.drop n)
  | 0, ds, xs, h => h
  | n + 1, [], _, h => by
    have h : _ = [] := h
    rw [h]; rfl
  | n + 1, d :: ds, _, ⟨v, r, e, h1, h⟩ => by
    subst e
    exact RpL.drop n h
theorem RpL.nil : RpL G m H [] [] := rfl
theorem RpL.rep {ds : List D} {xs : List V} (h : RpL G m H ds xs) : ∀ n : Nat, RpL G m H (List.replicate n ds).flatten (List.replicate n xs).flatten
  | 0 => rfl
  | n + 1 => by
    rw [List.replicate_succ, List.flatten_cons, List.replicate_succ, List.flatten_cons]
    exact h.append (RpL.rep h n)
theorem RpL.set : ∀ {ds : List D} {xs : List V} {i : Nat} {d : D} {v : V}, RpL G m H ds xs → Rp G m H d v → RpL G m H (ds.set i d) (xs.set i v)
  | [], _, _, _, _, h, _ => by
    have h : _ = [] := h
    rw [h]; exact rfl
  | d :: ds, _, 0, _, _, ⟨v, r, e, h1, h⟩, k => by
    subst e
    exact ⟨_, _, rfl, k, h⟩
  | d :: ds, _, i + 1, _, _, ⟨v, r, e, h1, h⟩, k => by
    subst e
    exact ⟨_, _, rfl, h1, RpL.set h k⟩
theorem RpL.inj_ints {ds : List D} : ∀ {ns : List Int} {xs : List V}, RpL G m H (ns.map D.int) xs → xs = ns.map V.int
  | [], _, h => h
  | n :: ns, _, ⟨v, r, e, h1, h⟩ => by
    have h1 : v = V.int n := h1
    rw [e, h1, RpL.inj_ints (ds := ds) h]; rfl
end

/-! ### numbers -/
def pAdd (_ : Store) : D → D → Option D
  | .int i, .int j => some (.int (i + j))
  | .str a, .str b => if a.length + b.length ≤ sizeLine then some (.str (a ++ b)) else none
  | .tup a, .tup b => if a.length + b.length ≤ sizeLine then some (.tup (a ++ b)) else none
  | .lst a, .lst b => if a.length + b.length ≤ sizeLine then some (.lst (a ++ b)) else none
  | _, _ => none
def pSub (_ : Store) : D → D → Option D
  | .int i, .int j => some (.int (i - j))
  | _, _ => none
def pMul (_ : Store) : D → D → Option D
  | .int i, .int j => if Builtin.Int.intBits i + Builtin.Int.intBits j ≤ 134217728 then some (.int (i * j)) else none
  | .tup a, .int k => if a ≠ [] ∧ 2 ≤ k.toNat ∧ k.toNat ≤ 1000 ∧ a.length ≤ 1000 then some (.tup (List.replicate k.toNat a).flatten) else none
  | .lst a, .int k => if k.natAbs < 2 ^ 63 ∧ a.length * k.toNat ≤ sizeLine then some (.lst (List.replicate k.toNat a).flatten) else none
  | _, _ => none
def pDiv (_ : Store) : D → D → Option D
  | .int i, .int j => if 0 < j ∧ j.natAbs.log2 < 9000 then some (.int (i / j)) else none
  | _, _ => none
def pMod (_ : Store) : D → D → Option D
  | .int i, .int j => if 0 < j then some (.int (i % j)) else none
  | _, _ => none
def pPow (_ : Store) : D → D → Option D
  | .int i, .int j => if 0 ≤ j ∧ Builtin.Int.intBits i * j.toNat ≤ 134217728 then some (.int (i ^ j.toNat)) else none
  | _, _ => none
theorem some_ifp {α : Type} {c : Prop} [Decidable c] {a r : α} (h : (if c then some a else none) = some r) : c ∧ a = r := by
  by_cases k : c
  · rw [if_pos k] at h; exact ⟨k, Option.some.inj h⟩
  · rw [if_neg k] at h; cases h
section
variable {G : Gc} {X : Cx} {m : Mu} {H : Hp} {S : Store}
theorem Rt.tup_get {ds : List D} {v : V} (h : Rt G m H (.tup ds) v) : ∃ a xs, v = .ref a ∧ Tq G H a xs ∧ RpL G m H ds xs := h
theorem Rt.lst_get {ds : List D} {v : V} (h : Rt G m H (.lst ds) v) : ∃ a xs, v = .ref a ∧ H a = some (.lst xs) ∧ a ∉ m.as ∧ RpL G m H ds xs := h
/-- a new tuple | list -/
theorem rRes.tup {ds : List D} {xs : List V} {Q : VK} {p : Addr} (k : rRes G m H S (.tup ds) Q) (hS : Holds G m H S) (hp : H p = none) (h : RpL G m H ds xs) : Q (.ref p) (upd H p (.tup xs)) :=
  k.new hS hp (show Rp G m _ (.tup ds) _ from ⟨p, xs, rfl, Tq.of upd_same, (Le.same (Same.new hp)).rpL h⟩)
theorem Holds.fresh (hS : Holds G m H S) {p : Addr} (hp : H p = none) : ¬ m.has p := by
  rintro (q | q)
  · obtain ⟨n, hn⟩ := List.getElem?_of_mem q
    have hl : n < S.length := by rw [← hS.len]; exact (List.getElem?_eq_some_iff.mp hn).1
    have z := hS.ob n S[n] p (by simp [hl]) hn
    obtain ⟨o, e⟩ := z.some_
    rw [hp] at e; cases e
  · exact hS.there p q (nt_none hp)
theorem rRes.lst {ds : List D} {xs : List V} {Q : VK} {p : Addr} (k : rRes G m H S (.lst ds) Q) (hS : Holds G m H S) (hp : H p = none) (h : RpL G m H ds xs) : Q (.ref p) (upd H p (.lst xs)) :=
  k.new hS hp (show Rp G m _ (.lst ds) _ from ⟨p, xs, rfl, upd_same, hS.fresh hp, (Le.same (Same.new hp)).rpL h⟩)
theorem o_add (hK : X.K = G.K) : OpR X (binaryOp .Add) (rO G pAdd) := by
  refine opr_imp (OpR.or op_add (OpR.or op_add_str (OpR.or op_catA op_cat))) fun x y H Q ⟨m, S, d, e, r, hS, hx, hy, hf, k⟩ => ?_
  cases d <;> cases e <;> simp only [pAdd] at hf <;> first | cases hf; done | skip
  · obtain rfl := Option.some.inj hf
    have hx : x = V.int _ := hx
    have hy : y = V.int _ := hy
    exact .inl ⟨_, _, hx, hy, k.here hS (v := .int _) rfl⟩
  · obtain ⟨hc, rfl⟩ := some_ifp hf
    have hx : x = V.str _ := hx
    have hy : y = V.str _ := hy
    exact .inr (.inl ⟨_, _, hx, hy, hc, k.here hS (v := .str _) rfl⟩)
  · obtain ⟨hc, rfl⟩ := some_ifp hf
    obtain ⟨a, xs, rfl, h1, h2⟩ := hx.tup_get
    obtain ⟨b, ys, rfl, h3, h4⟩ := hy.tup_get
    refine .inr (.inr (.inl ⟨a, b, xs, ys, rfl, rfl, by rw [hK]; exact h1.sq, by rw [hK]; exact h3.sq, by rw [h2.length, h4.length]; exact hc, fun e => ?_, fun _ e => ?_, fun _ _ p hp => k.tup hS hp (h2.append h4)⟩))
    · subst e
      have := h2.append h4
      rw [List.nil_append] at this
      exact k.here hS (show Rp G m H (.tup _) _ from ⟨b, ys, rfl, h3, this⟩)
    · subst e
      have := h2.append h4
      rw [List.append_nil] at this
      exact k.here hS (show Rp G m H (.tup _) _ from ⟨a, xs, rfl, h1, this⟩)
  · obtain ⟨hc, rfl⟩ := some_ifp hf
    obtain ⟨a, xs, rfl, h1, _, h2⟩ := hx.lst_get
    obtain ⟨b, ys, rfl, h3, _, h4⟩ := hy.lst_get
    exact .inr (.inr (.inr ⟨a, b, xs, ys, rfl, rfl, h1, h3, by rw [h2.length, h4.length]; exact hc, fun p hp => k.lst hS hp (h2.append h4)⟩))
theorem o_sub : OpR X (binaryOp .Sub) (rO G pSub) := by
  refine opr_imp op_sub fun x y H Q ⟨m, S, d, e, r, hS, hx, hy, hf, k⟩ => ?_
  cases d <;> cases e <;> simp only [pSub] at hf <;> first | cases hf; done | skip
  obtain rfl := Option.some.inj hf
  have hx : x = V.int _ := hx
  have hy : y = V.int _ := hy
  exact ⟨_, _, hx, hy, k.here hS (v := .int _) rfl⟩
theorem mul_cond {i j : Int} (h : Builtin.Int.intBits i + Builtin.Int.intBits j ≤ 134217728) : (Builtin.Int.intBits i : Int) + (Builtin.Int.intBits j : Int) ≤ 134217728 := by omega
theorem o_mul (hK : X.K = G.K) : OpR X (binaryOp .Mult) (rO G pMul) := by
  refine opr_imp (OpR.or op_mulX (OpR.or op_repT op_rep)) fun x y H Q ⟨m, S, d, e, r, hS, hx, hy, hf, k⟩ => ?_
  cases d <;> cases e <;> simp only [pMul] at hf <;> first | cases hf; done | skip
  · obtain ⟨hc, rfl⟩ := some_ifp hf
    have hx : x = V.int _ := hx
    have hy : y = V.int _ := hy
    exact .inl ⟨_, _, hx, hy, mul_cond hc, k.here hS (v := .int _) rfl⟩
  · obtain ⟨⟨c1, c2, c3, c4⟩, rfl⟩ := some_ifp hf
    obtain ⟨a, xs, rfl, h1, h2⟩ := hx.tup_get
    have hy : y = V.int _ := hy
    refine .inr (.inl ⟨a, _, xs, rfl, hy, by rw [hK]; exact h1.sq, fun e => ?_, by omega, by omega, by rw [h2.length]; exact c4, fun p hp => k.tup hS hp (h2.rep _)⟩)
    subst e
    have := h2.length
    exact c1 (List.eq_nil_of_length_eq_zero this.symm)
  · obtain ⟨⟨c1, c3⟩, rfl⟩ := some_ifp hf
    obtain ⟨a, xs, rfl, h1, _, h2⟩ := hx.lst_get
    have hy : y = V.int _ := hy
    exact .inr (.inr ⟨a, _, xs, rfl, hy, h1, by omega, by omega, by rw [h2.length]; exact c3, fun p hp => k.lst hS hp (h2.rep _)⟩)
theorem o_div : OpR X (binaryOp .FloorDiv) (rO G pDiv) := by
  refine opr_imp op_fdivW fun x y H Q ⟨m, S, d, e, r, hS, hx, hy, hf, k⟩ => ?_
  cases d <;> cases e <;> simp only [pDiv] at hf <;> first | cases hf; done | skip
  obtain ⟨hc, rfl⟩ := some_ifp hf
  have hx : x = V.int _ := hx
  have hy : y = V.int _ := hy
  exact ⟨_, _, hx, hy, hc, k.here hS (v := .int _) rfl⟩
theorem o_mod : OpR X (binaryOp .Mod) (rO G pMod) := by
  refine opr_imp op_mod fun x y H Q ⟨m, S, d, e, r, hS, hx, hy, hf, k⟩ => ?_
  cases d <;> cases e <;> simp only [pMod] at hf <;> first | cases hf; done | skip
  obtain ⟨hc, rfl⟩ := some_ifp hf
  have hx : x = V.int _ := hx
  have hy : y = V.int _ := hy
  exact ⟨_, _, hx, hy, hc, k.here hS (v := .int _) rfl⟩
theorem o_pow : OpR X (binaryOp .Pow) (rO G pPow) := by
  refine opr_imp (opI (f := binaryOp .Pow) (C := fun i j => 0 ≤ j ∧ (Builtin.Int.intBits i : Int) * j ≤ 2 ^ 27) (g := fun i j => i ^ j.toNat) fun _ _ _ _ _ _ _ hc q => pow_int hc.1 hc.2 q) fun x y H Q ⟨m, S, d, e, r, hS, hx, hy, hf, k⟩ => ?_
  cases d <;> cases e <;> simp only [pPow] at hf <;> first | cases hf; done | skip
  obtain ⟨hc, rfl⟩ := some_ifp hf
  have hx : x = V.int _ := hx
  have hy : y = V.int _ := hy
  exact ⟨_, _, hx, hy, ⟨hc.1, by
    have h2 := hc.2
    rw [← Int.toNat_of_nonneg hc.1]
    exact_mod_cast h2⟩, k.here hS (v := .int _) rfl⟩
/-- is None, is not None -/
def pIs (_ : Store) : D → D → Option D
  | .glo _, .non => none
  | d, .non => some (.bl (isNonD d))
  | _, _ => none
def pIsNot (_ : Store) : D → D → Option D
  | .glo _, .non => none
  | d, .non => some (.bl (!isNonD d))
  | _, _ => none
theorem isNon_rt {d : D} {x : V} (h : Rt G m H d x) : decide (x = .non) = isNonD d := by
  cases d with
  | non => have h : x = _ := h; subst h; rfl
  | bl _ => have h : x = _ := h; subst h; rfl
  | int _ => have h : x = _ := h; subst h; rfl
  | str _ => have h : x = _ := h; subst h; rfl
  | ty _ => have h : x = _ := h; subst h; rfl
  | ref _ => obtain ⟨a, rfl, _⟩ := h; rfl
  | glo _ => obtain ⟨a, rfl, _⟩ := h; rfl
  | tup _ => obtain ⟨a, _, rfl, _⟩ := h; rfl
  | lst _ => obtain ⟨a, _, rfl, _⟩ := h; rfl
  | emp => obtain ⟨a, rfl, _⟩ := h; rfl
  | pt0 => obtain ⟨a, rfl, _⟩ := h; rfl
theorem o_is : OpR X (compareOp .Is) (rO G pIs) := by
  refine opr_imp op_isN fun x y H Q ⟨m, S, d, e, r, hS, hx, hy, hf, k⟩ => ?_
  cases e <;> (cases d <;> simp only [pIs] at hf <;> first | cases hf; done | skip)
  all_goals
    obtain rfl := Option.some.inj hf
    have hy : y = V.non := hy
    rw [isNon_rt hx]
    exact ⟨hy, k.here hS (v := .bl _) rfl⟩
theorem o_isNot : OpR X (compareOp .IsNot) (rO G pIsNot) := by
  refine opr_imp op_notN fun x y H Q ⟨m, S, d, e, r, hS, hx, hy, hf, k⟩ => ?_
  cases e <;> (cases d <;> simp only [pIsNot] at hf <;> first | cases hf; done | skip)
  all_goals
    obtain rfl := Option.some.inj hf
    have hy : y = V.non := hy
    rw [isNon_rt hx]
    exact ⟨hy, k.here hS (v := .bl _) rfl⟩
end
end Py

/-! Part 4: names, constants, tests, subscripts, displays, calls of what is built in. -/
namespace Py
open PySem PySem.Spec PyProof.Rows L2

/-! ### forms of syntax -/
def starB : Expr → Bool
  | .Starred .. => true
  | _ => false
theorem starEach_plain {e : Expr} {es : List Expr} {env : PySem.Env} (h : starB e = false) : starEach (e :: es) env = (false, eval e env) :: starEach es env := by
  cases e <;> first | rfl | cases h
theorem backTo_plain {env : PySem.Env} {pos : Pos} : ∀ {es : List Expr}, es.any starB = false → (backTo pos (starEach es env)).any (·.1) = false
  | [], _ => by rfl
  | e :: es, h => by
    rw [List.any_cons, Bool.or_eq_false_iff] at h
    rw [starEach_plain h.1]
    show (false || (backTo pos (starEach es env)).any (·.1)) = false
    rw [backTo_plain h.2]; rfl

section
variable {G : Gc} {W : WX} {X : Cx} {e a b c : Expr} {m : Mu} {H : Hp} {S : Store} {σ : Sg} {pos : Pos}
/-! ### names, constants -/
def slV (ρ : Env) (i : Nat) : Option D := match ρ[i]? with
  | some (some (.val d)) => some d
  | _ => none
def slR (ρ : Env) (i : Nat) : Option D := match ρ[i]? with
  | some (some (.val d)) => some d
  | some (some (.own ds)) => some (.lst ds)
  | _ => none
def dVar (i : Nat) : DE := fun ρ => optM (slV ρ i)
/-- a slot that holds a list of its own, read by a primitive -/
def dRd (i : Nat) : DE := fun ρ => optM (slR ρ i)
theorem slV_ok {ρ : Env} {i : Nat} {d : D} (h : slV ρ i = some d) : ρ[i]? = some (some (.val d)) := by
  unfold slV at h
  split at h
  · rename_i d' hd
    rw [hd, Option.some.inj h]
  · cases h
theorem slR_ok {ρ : Env} {i : Nat} {d : D} (h : slR ρ i = some d) : ρ[i]? = some (some (.val d)) ∨ ∃ ds, d = .lst ds ∧ ρ[i]? = some (some (.own ds)) := by
  unfold slR at h
  split at h
  · rename_i d' hd
    rw [hd, Option.some.inj h]; exact .inl rfl
  · rename_i ds hd
    exact .inr ⟨ds, (Option.some.inj h).symm, hd⟩
  · cases h
theorem RpE.rt {ρ : Env} {i : Nat} {d : D} (E : RpE G m H ρ σ) (h : slR ρ i = some d) : ∃ v, σ[i]? = some (some v) ∧ Rt G m H d v := by
  rcases slR_ok h with k | ⟨ds, rfl, k⟩
  · obtain ⟨v, h1, h2⟩ := E.at_ i _ k
    exact ⟨v, h1, Rp.rt h2⟩
  · obtain ⟨v, h1, a, e, q1, q2, xs, q3, q4⟩ := E.at_ i _ k
    exact ⟨v, h1, a, xs, e, q3, q2, q4⟩
theorem RpE.rp {ρ : Env} {i : Nat} {d : D} (E : RpE G m H ρ σ) (h : slV ρ i = some d) : ∃ v, σ[i]? = some (some v) ∧ Rp G m H d v := E.at_ i _ (slV_ok h)
theorem aft_optG {α : Type} {r : Option α} {Y : XK} {Φ : α → Store → Mu → Hp → Prop} (h : Aft G m H Y (optM r S) Φ) (hS : Holds G m H S) : ∃ d, r = some d ∧ Φ d S m H := by
  cases r with
  | none => exact h.elim
  | some d => exact ⟨d, rfl, h.ok hS⟩
def dCst (d : D) : DE := fun _ S => .ok d S
theorem je_var {i : Nat} {x : Str} (hN : X.N[i]? = some x) (hv : Vis X.env.scope x) (hd : (x == ("__debug__" : Str)) = false) (hcd : (x == ("__classdict__" : Str)) = false) : PE X (.Name x pos) (tE G W (dVar i)) := by
  refine pe_imp (pe_var hN hv hd hcd) fun σ H Q ⟨m, ρ, S, hS, hE, h⟩ => ?_
  obtain ⟨d, e, k⟩ := aft_optG h hS
  obtain ⟨v, h1, h2⟩ := hE.rp e
  exact ⟨v, h1, k v h2⟩
theorem jr_rd {i : Nat} {x : Str} (hN : X.N[i]? = some x) (hv : Vis X.env.scope x) (hd : (x == ("__debug__" : Str)) = false) (hcd : (x == ("__classdict__" : Str)) = false) : PE X (.Name x pos) (tR G W (dRd i)) := by
  refine pe_imp (pe_var hN hv hd hcd) fun σ H Q ⟨m, ρ, S, hS, hE, h⟩ => ?_
  obtain ⟨d, e, k⟩ := aft_optG h hS
  obtain ⟨v, h1, h2⟩ := hE.rt e
  exact ⟨v, h1, k v h2⟩
theorem je_c {e : Expr} {v : V} {d : D} (h : PE X e (tC v)) (r : ∀ (m : Mu) (H : Hp), Rp G m H d v) : PE X e (tE G W (dCst d)) :=
  pe_imp h fun σ H Q ⟨m, ρ, S, hS, hE, h⟩ => h.ok hS v (r m H)

/-! ### tests -/
def asB : D → Option Bool
  | .bl b => some b
  | _ => none
def dTest (d : DE) : DT := fun ρ S => (d ρ S).bind fun x S => optM (asB x) S
def plainTest : Expr → Bool
  | .UnaryOp .Not _ _ => false
  | .BoolOp .. => false
  | .IfExp .. => false
  | .Compare .. => false
  | _ => true
theorem plain_isTrue {env : PySem.Env} (h : plainTest e = true) (whole : Sem Value) : isTrue e env whole = (do let v ← whole; standAt e.pos; holding [v] (truthy v)) := by
  cases e with
  | UnaryOp op x p => cases op <;> first | rfl | cases h
  | BoolOp => cases h
  | IfExp => cases h
  | Compare => cases h
  | _ => rfl
theorem asB_ok {d : D} {b : Bool} {v : V} (h : asB d = some b) (r : Rt G m H d v) : v = .bl b := by
  cases d <;> simp only [asB] at h <;> first | cases h; done | skip
  have := Option.some.inj h
  subst this
  exact r
theorem aft_optT {r : Option Bool} {Y : XK} {Q : Bool → Hp → Prop} (h : Aft G m H Y (optM r S) fun r _ _ H' => Q r H') (hS : Holds G m H S) : ∃ b, r = some b ∧ Q b H := by
  cases r with
  | none => exact h.elim
  | some d => exact ⟨d, rfl, h.ok hS⟩
theorem test_of {d : DE} {Q : Bool → Hp → Prop} (h : tT G W (dTest d) σ H Q) : tR G W d σ H fun x H' => ∃ k, x = .bl k ∧ Q k H' := by
  obtain ⟨m, ρ, S, hS, hE, h⟩ := h
  refine ⟨m, ρ, S, hS, hE, (Aft.bind h).imp fun x S1 m1 H1 l1 hS1 h1 v rv => ?_⟩
  obtain ⟨b, e, q⟩ := aft_optT h1 hS1
  exact ⟨b, asB_ok e rv, q⟩
theorem jt_val {d : DE} (h : PE X e (tR G W d)) (he : plainTest e = true) : PT X e (tT G W (dTest d)) :=
  pt_imp (pt_val h fun whole => plain_isTrue he whole) fun _ _ _ q => test_of q
def dChain (f g : Store → D → D → Option D) (a b c : DE) : DE := fun ρ S => (a ρ S).bind fun x S => (b ρ S).bind fun y S => match (f S x y).bind asB with
  | some true => (c ρ S).bind fun z S => optM (g S y z) S
  | some false => .ok (.bl false) S
  | none => .bad
theorem tChain_of {f g : Store → D → D → Option D} {da db dc : DE} {Q : VK} (h : tE G W (dChain f g da db dc) σ H Q) : tChain (rO G f) (rO G g) (tR G W da) (tR G W db) (tR G W dc) σ H Q := by
  obtain ⟨m, ρ, S, hS, hE, h⟩ := h
  refine ⟨m, ρ, S, hS, hE, (Aft.bind h).imp fun x S1 m1 H1 l1 hS1 h1 v rv => ?_⟩
  refine ⟨m1, ρ, S1, hS1, hE.le l1, (Aft.bind h1).imp fun y S2 m2 H2 l2 hS2 h2 u ru => ?_⟩
  cases hf : f S2 x y with
  | none => rw [hf] at h2; exact h2.elim
  | some d =>
    rw [hf] at h2
    refine ⟨m2, S2, x, y, d, hS2, l2.rt rv, ru, hf, fun m3 H3 l3 hS3 w rw => ?_⟩
    cases hb : asB d with
    | none =>
      have h2 : Aft G m2 H2 _ (match (asB d) with | some true => _ | some false => _ | none => R.bad) _ := h2
      rw [hb] at h2
      exact h2.elim
    | some k =>
      refine ⟨k, asB_ok hb rw.rt, ?_⟩
      have h2 : Aft G m2 H2 _ (match (asB d) with | some true => _ | some false => _ | none => R.bad) _ := h2
      rw [hb] at h2
      cases k with
      | false => exact h2 m3 H3 l3 hS3 (.bl false) rfl
      | true =>
        refine ⟨m3, ρ, S2, hS3, (hE.le l1).le (l2.trans l3), (Aft.bind (h2.later l3)).imp fun z S4 m4 H4 l4 hS4 h4 w' rw' => ?_⟩
        obtain ⟨d', e', k'⟩ := aft_opt h4
        exact ⟨m4, S4, y, z, d', hS4, l4.rt (l3.rt ru), rw', e', k'⟩
theorem je_chain {op op' : CmpOp} {f g : Store → D → D → Option D} {da db dc : DE} (ho : OpR X (compareOp op) (rO G f)) (ho' : OpR X (compareOp op') (rO G g)) (ha : PE X a (tR G W da)) (hb : PE X b (tR G W db)) (hc : PE X c (tR G W dc))
    (hm : behindInMarks op' c = false) : PE X (.Compare a [op, op'] [b, c] pos) (tE G W (dChain f g da db dc)) :=
  pe_imp (pe_chain ho ho' ha hb hc (show lastMarks [op, op'] [b, c] = false from hm)) fun _ _ _ h => tChain_of h
/-- what a test asks of a value that comes as tE -/
theorem tE_test {d : DE} {Q : Bool → Hp → Prop} (h : tT G W (dTest d) σ H Q) : tE G W d σ H fun x H' => ∃ k, x = .bl k ∧ Q k H' := by
  obtain ⟨m, ρ, S, hS, hE, h⟩ := h
  refine ⟨m, ρ, S, hS, hE, (Aft.bind h).imp fun x S1 m1 H1 l1 hS1 h1 v rv => ?_⟩
  obtain ⟨b, e, q⟩ := aft_optT h1 hS1
  exact ⟨b, asB_ok e (Rp.rt rv), q⟩
theorem jt_cmp {op : CmpOp} {f : Store → D → D → Option D} {da db : DE} (ho : OpR X (compareOp op) (rO G f)) (ha : PE X a (tR G W da)) (hb : PE X b (tR G W db)) (hm : behindInMarks op b = false) : PT X (.Compare a [op] [b] pos) (tT G W (dTest (dOp f da db))) :=
  pt_imp (pt_cmpR ho ha hb hm) fun _ _ _ h => tOp_of (tE_test h)
theorem jt_chain {op op' : CmpOp} {f g : Store → D → D → Option D} {da db dc : DE} (ho : OpR X (compareOp op) (rO G f)) (ho' : OpR X (compareOp op') (rO G g)) (ha : PE X a (tR G W da)) (hb : PE X b (tR G W db)) (hc : PE X c (tR G W dc))
    (hm : behindInMarks op' c = false) : PT X (.Compare a [op, op'] [b, c] pos) (tT G W (dTest (dChain f g da db dc))) :=
  pt_imp (pt_chain ho ho' ha hb hc (show lastMarks [op, op'] [b, c] = false from hm)) fun _ _ _ h => tChain_of (tE_test h)
def dAnd (t u : DT) : DT := fun ρ S => (t ρ S).bind fun b S => if b then u ρ S else .ok false S
def dOr (t u : DT) : DT := fun ρ S => (t ρ S).bind fun b S => if b then .ok true S else u ρ S
def dNot (t : DT) : DT := fun ρ S => (t ρ S).bind fun b S => .ok (!b) S
variable {da db dc : DE} {ta tb : DT}
theorem tAnd_of {Q : Bool → Hp → Prop} (h : tT G W (dAnd ta tb) σ H Q) : tAnd (tT G W ta) (tT G W tb) σ H Q := by
  obtain ⟨m, ρ, S, hS, hE, h⟩ := h
  refine ⟨m, ρ, S, hS, hE, (Aft.bind h).imp fun x S1 m1 H1 l1 hS1 h1 => ?_⟩
  cases x with
  | true => exact ⟨m1, ρ, S1, hS1, hE.le l1, h1⟩
  | false => exact h1.ok hS1
theorem tOr_of {Q : Bool → Hp → Prop} (h : tT G W (dOr ta tb) σ H Q) : tOr (tT G W ta) (tT G W tb) σ H Q := by
  obtain ⟨m, ρ, S, hS, hE, h⟩ := h
  refine ⟨m, ρ, S, hS, hE, (Aft.bind h).imp fun x S1 m1 H1 l1 hS1 h1 => ?_⟩
  cases x with
  | false => exact ⟨m1, ρ, S1, hS1, hE.le l1, h1⟩
  | true => exact h1.ok hS1
theorem pw_imp {t t' : TT} (h : PW X e t) (k : ∀ σ H Q, t' σ H Q → t σ H Q) : PW X e t' := ⟨fun wh pins s σ H Q I q => h.run wh pins s σ H Q I (k σ H Q q)⟩
theorem jw_and {rest : List Expr} (ha : PT X a (tT G W ta)) (hb : PW X (.BoolOp .And (b :: rest) pos) (tT G W tb)) : PW X (.BoolOp .And (a :: b :: rest) pos) (tT G W (dAnd ta tb)) := pw_imp (pw_and ha hb) fun _ _ _ h => tAnd_of h
theorem jw_or {rest : List Expr} (ha : PT X a (tT G W ta)) (hb : PW X (.BoolOp .Or (b :: rest) pos) (tT G W tb)) : PW X (.BoolOp .Or (a :: b :: rest) pos) (tT G W (dOr ta tb)) := pw_imp (pw_or ha hb) fun _ _ _ h => tOr_of h
theorem jt_not (ha : PT X a (tT G W ta)) : PT X (.UnaryOp .Not a pos) (tT G W (dNot ta)) := pt_imp (pt_not ha) fun σ H Q ⟨m, ρ, S, hS, hE, h⟩ =>
  ⟨m, ρ, S, hS, hE, (Aft.bind h).imp fun x S1 m1 H1 l1 hS1 h1 => h1.ok hS1⟩
/-- a test's answer as a value: and, or, not of bools -/
def dBl (t : DT) : DE := fun ρ S => (t ρ S).bind fun b S => .ok (.bl b) S
def dAndV (a b : DE) : DE := fun ρ S => (a ρ S).bind fun x S => match asB x with
  | some true => b ρ S
  | some false => .ok (.bl false) S
  | none => .bad
def dOrV (a b : DE) : DE := fun ρ S => (a ρ S).bind fun x S => match asB x with
  | some true => .ok (.bl true) S
  | some false => b ρ S
  | none => .bad
def dNotV (a : DE) : DE := fun ρ S => (a ρ S).bind fun x S => match asB x with
  | some k => .ok (.bl (!k)) S
  | none => .bad
theorem je_and {rest : List Expr} (ha : PE X a (tE G W da)) (hb : PE X (.BoolOp .And (b :: rest) pos) (tE G W db)) : PE X (.BoolOp .And (a :: b :: rest) pos) (tE G W (dAndV da db)) :=
  pe_imp (pe_and ha hb) fun σ H Q ⟨m, ρ, S, hS, hE, h⟩ => ⟨m, ρ, S, hS, hE, (Aft.bind h).imp fun x S1 m1 H1 l1 hS1 h1 v rv => by
    cases hb : asB x with
    | none =>
      rw [hb] at h1
      exact h1.elim
    | some k =>
      rw [hb] at h1
      refine ⟨k, asB_ok hb (Rp.rt rv), ?_⟩
      cases k with
      | true => exact ⟨m1, ρ, S1, hS1, hE.le l1, h1⟩
      | false => exact h1.ok hS1 (.bl false) rfl⟩
theorem je_or {rest : List Expr} (ha : PE X a (tE G W da)) (hb : PE X (.BoolOp .Or (b :: rest) pos) (tE G W db)) : PE X (.BoolOp .Or (a :: b :: rest) pos) (tE G W (dOrV da db)) :=
  pe_imp (pe_or ha hb) fun σ H Q ⟨m, ρ, S, hS, hE, h⟩ => ⟨m, ρ, S, hS, hE, (Aft.bind h).imp fun x S1 m1 H1 l1 hS1 h1 v rv => by
    cases hb : asB x with
    | none =>
      rw [hb] at h1
      exact h1.elim
    | some k =>
      rw [hb] at h1
      refine ⟨k, asB_ok hb (Rp.rt rv), ?_⟩
      cases k with
      | false => exact ⟨m1, ρ, S1, hS1, hE.le l1, h1⟩
      | true => exact h1.ok hS1 (.bl true) rfl⟩
theorem je_not (ha : PE X a (tE G W da)) : PE X (.UnaryOp .Not a pos) (tE G W (dNotV da)) :=
  pe_imp (pe_not ha) fun σ H Q ⟨m, ρ, S, hS, hE, h⟩ => ⟨m, ρ, S, hS, hE, (Aft.bind h).imp fun x S1 m1 H1 l1 hS1 h1 v rv => by
    cases hb : asB x with
    | none =>
      rw [hb] at h1
      exact h1.elim
    | some k =>
      rw [hb] at h1
      exact ⟨k, asB_ok hb (Rp.rt rv), h1.ok hS1 (.bl _) rfl⟩⟩
def dIf (t : DT) (a b : DE) : DE := fun ρ S => (t ρ S).bind fun k S => if k then a ρ S else b ρ S
theorem je_if (hc : PT X c (tT G W ta)) (ha : PE X a (tE G W da)) (hb : PE X b (tE G W db)) : PE X (.IfExp c a b pos) (tE G W (dIf ta da db)) :=
  pe_imp (pe_ifExp hc ha hb) fun σ H Q ⟨m, ρ, S, hS, hE, h⟩ => ⟨m, ρ, S, hS, hE, (Aft.bind h).imp fun x S1 m1 H1 l1 hS1 h1 => by
    cases x with
    | true => exact ⟨m1, ρ, S1, hS1, hE.le l1, h1⟩
    | false => exact ⟨m1, ρ, S1, hS1, hE.le l1, h1⟩⟩
def dNeg (a : DE) : DE := fun ρ S => (a ρ S).bind fun x S => match x with
  | .int i => .ok (.int (-i)) S
  | _ => .bad
theorem je_neg (ha : PE X a (tE G W da)) : PE X (.UnaryOp .USub a pos) (tE G W (dNeg da)) :=
  pe_imp (pe_un un_neg ha) fun σ H Q ⟨m, ρ, S, hS, hE, h⟩ => ⟨m, ρ, S, hS, hE, (Aft.bind h).imp fun x S1 m1 H1 l1 hS1 h1 v rv => by
    cases x with
    | int i => exact ⟨i, rv, h1.ok hS1 (.int _) rfl⟩
    | _ => exact h1.elim⟩
end
end Py

/-! Part 5: subscripts, slices, displays, arguments. -/
namespace Py
open PySem PySem.Spec PyProof.Rows L2

/-- what a list, tuple or list of the store holds -/
def seqOf (S : Store) : D → Option (List D)
  | .tup ds => some ds
  | .lst ds => some ds
  | .ref n => match S[n]? with
    | some (.lst ds) => some ds
    | some (.frz ds) => some ds
    | _ => none
  | _ => none
def pIdx (S : Store) (d e : D) : Option D := match e with
  | .int i => (match d with
    | .str z => if z.length ≤ sizeLine then (atI z.cps.toList i).map fun c => D.str ⟨#[c]⟩ else none
    | d => (seqOf S d).bind fun ds => atI ds i)
  | _ => none
section
variable {G : Gc} {W : WX} {X : Cx} {e a b c : Expr} {m : Mu} {H : Hp} {S : Store} {σ : Sg} {pos : Pos}
theorem seq_ok {d : D} {ds : List D} {v : V} (hS : Holds G m H S) (h : seqOf S d = some ds) (r : Rt G m H d v) : ∃ p xs, v = .ref p ∧ (SqL G.K H p xs ∨ SqT G.K H p xs) ∧ RpL G m H ds xs := by
  cases d <;> simp only [seqOf] at h <;> first | cases h; done | skip
  · rename_i n
    obtain ⟨p, rfl, hp⟩ := r
    split at h
    · rename_i es he
      cases h
      obtain ⟨xs, q1, q2⟩ := hS.ob n _ p he hp
      exact ⟨p, xs, rfl, .inl (SqL.of q1), q2⟩
    · rename_i es he
      cases h
      obtain ⟨o, xs, q1, q2⟩ := hS.ob n _ p he hp
      exact ⟨p, xs, rfl, .inl (.inl (.inr ⟨o, q1⟩)), q2⟩
    · cases h
  · cases h
    obtain ⟨p, xs, rfl, q1, q2⟩ := r
    exact ⟨p, xs, rfl, .inr q1.sq, q2⟩
  · cases h
    obtain ⟨p, xs, rfl, q1, _, q2⟩ := r
    exact ⟨p, xs, rfl, .inl (SqL.of q1), q2⟩
theorem RpL.atI {ds : List D} {xs : List V} {i : Int} {d : D} (h : RpL G m H ds xs) (e : L2.atI ds i = some d) : ∃ v, L2.atI xs i = some v ∧ Rp G m H d v := by
  unfold L2.atI at e ⊢
  rw [h.length]
  cases q : ixN ds.length i with
  | none => rw [q] at e; cases e
  | some j =>
    rw [q] at e
    exact h.get e
theorem i_idx (hK : X.K = G.K) : IxR X (rO G pIdx) := by
  have base : IxR X (rIx X.K) := ix_seq
  intro value slice pins s σ H x y v u Q I rx ry ⟨m, S, d, e, r, hS, hx, hy, hf, k⟩ hs
  refine base value slice pins s σ H x y v u Q I rx ry ?_ hs
  cases e <;> simp only [pIdx] at hf <;> first | cases hf; done | skip
  rename_i i
  have hy : y = V.int i := hy
  have gen : ∀ ds, seqOf S d = some ds → L2.atI ds i = some r → rIx X.K x y H Q := fun ds h1 h2 => by
    obtain ⟨p, xs, rfl, q1, q2⟩ := seq_ok hS h1 hx
    obtain ⟨v, q3, q4⟩ := q2.atI h2
    rcases q1 with q1 | q1
    · exact .inl ⟨p, xs, i, v, rfl, hy, by rw [hK]; exact q1, q3, k.here hS q4⟩
    · exact .inr (.inl ⟨p, xs, i, v, rfl, hy, by rw [hK]; exact q1, q3, k.here hS q4⟩)
  cases d with
  | str z =>
    have hx : x = V.str z := hx
    have hf : (if z.length ≤ sizeLine then (L2.atI z.cps.toList i).map fun c => D.str ⟨#[c]⟩ else none) = some r := hf
    by_cases hz : z.length ≤ sizeLine
    · rw [if_pos hz] at hf
      cases q : L2.atI z.cps.toList i with
      | none => rw [q] at hf; cases hf
      | some c =>
        rw [q] at hf
        have := Option.some.inj hf
        subst this
        exact .inr (.inr ⟨z, i, c, hx, hy, hz, q, k.here hS (v := .str _) rfl⟩)
    · rw [if_neg hz] at hf; cases hf
  | _ =>
    simp only [Option.bind_eq_some_iff] at hf
    obtain ⟨ds, h1, h2⟩ := hf
    exact gen ds h1 h2
def sliceB : Expr → Bool
  | .Slice .. => true
  | _ => false
theorem plainIx_of (h : sliceB b = false) : PlainIx b := by
  intro o i
  cases b <;> first | rfl | cases h
theorem je_ix {f : Store → D → D → Option D} {da db : DE} (hr : IxR X (rO G f)) (ha : PE X a (tR G W da)) (hb : PE X b (tR G W db)) (hs : sliceB b = false) : PE X (.Subscript a b pos) (tE G W (dOp f da db)) :=
  pe_imp (pe_ix hr ha hb (plainIx_of hs)) fun _ _ _ h => tOp_of h

/-! ### slices -/
def cutD (ds : List D) (lo hi : Option Int) : List D := (ds.drop (HT.sIx ds.length 0 lo)).take (HT.sIx ds.length ds.length hi - HT.sIx ds.length 0 lo)
def pSl (S : Store) (d : D) (lo hi : Option Int) : Option D := match d with
  | .tup ds => some (.tup (cutD ds lo hi))
  | .str z => if z.length ≤ sizeLine then some (.str (cutS z lo hi)) else none
  | d => (seqOf S d).map fun ds => .lst (cutD ds lo hi)
def rSl (G : Gc) : V → Option Int → Option Int → Hp → VK → Prop := fun x lo hi H Q => ∃ m S d r, Holds G m H S ∧ Rt G m H d x ∧ pSl S d lo hi = some r ∧ rRes G m H S r Q
theorem RpL.cut {ds : List D} {xs : List V} (h : RpL G m H ds xs) (lo hi : Option Int) : RpL G m H (cutD ds lo hi) (cutV xs lo hi) := by
  unfold cutD cutV
  rw [h.length]
  exact (h.drop _).take _
theorem cutD_whole {ds : List D} {lo hi : Option Int} (h : HT.sIx ds.length 0 lo = 0 ∧ HT.sIx ds.length ds.length hi = ds.length) : cutD ds lo hi = ds := by
  unfold cutD
  rw [h.1, h.2]
  simp
theorem s_sl (hK : X.K = G.K) : SlR X (rSl G) := by
  have base := (SlR.or (sl_tupA (X := X)) (SlR.or sl_list sl_str))
  intro pins s σ H x v vl vu lo hi sl Q I rx hs pl pu ⟨m, S, d, r, hS, hx, hf, k⟩
  refine base pins s σ H x v vl vu lo hi sl Q I rx hs pl pu ?_
  have gen : ∀ ds, seqOf S d = some ds → (∀ es, d ≠ .tup es) → r = .lst (cutD ds lo hi) → rSlL X.K x lo hi H Q := fun ds h1 h2 h3 => by
    subst h3
    obtain ⟨p, xs, rfl, q1, q2⟩ := seq_ok hS h1 hx
    rcases q1 with q1 | q1
    · exact ⟨p, xs, rfl, by rw [hK]; exact q1, fun p hp => k.lst hS hp (q2.cut lo hi)⟩
    · -- only a tuple
      exfalso
      cases d <;> simp only [seqOf] at h1 <;> first | cases h1; done | exact h2 _ rfl | skip
      · rename_i n
        obtain ⟨p', e', hp⟩ := hx
        cases e'
        split at h1
        · rename_i es he
          obtain ⟨ys, z1, _⟩ := hS.ob n _ p he hp
          obtain ⟨_, _, pl, _⟩ := I.list (SqL.of z1)
          obtain ⟨_, _, pt, _⟩ := I.tuple (by rw [hK]; exact q1)
          obtain ⟨o, _, e1, c1, _⟩ := pl
          obtain ⟨o', e2, c2, _⟩ := pt
          rw [e1] at e2; cases e2
          rw [c1] at c2; exact absurd c2 (by decide)
        · rename_i es he
          obtain ⟨o, ys, z1, _⟩ := hS.ob n _ p he hp
          obtain ⟨_, _, pl, _⟩ := I.list (.inl (.inr ⟨o, z1⟩))
          obtain ⟨_, _, pt, _⟩ := I.tuple (by rw [hK]; exact q1)
          obtain ⟨o, _, e1, c1, _⟩ := pl
          obtain ⟨o', e2, c2, _⟩ := pt
          rw [e1] at e2; cases e2
          rw [c1] at c2; exact absurd c2 (by decide)
        · cases h1
      · obtain ⟨p', ys, e', z1, _, _⟩ := hx
        cases e'
        obtain ⟨_, _, pl, _⟩ := I.list (SqL.of z1)
        obtain ⟨_, _, pt, _⟩ := I.tuple (by rw [hK]; exact q1)
        obtain ⟨o, _, e1, c1, _⟩ := pl
        obtain ⟨o', e2, c2, _⟩ := pt
        rw [e1] at e2; cases e2
        rw [c1] at c2; exact absurd c2 (by decide)
  cases d with
  | tup ds =>
    have hf : some (D.tup (cutD ds lo hi)) = some r := hf
    obtain rfl := Option.some.inj hf
    obtain ⟨p, xs, rfl, q1, q2⟩ := hx
    refine .inl ⟨p, xs, rfl, by rw [hK]; exact q1.sq, fun hw => ?_, fun _ p hp => k.tup hS hp (q2.cut lo hi)⟩
    rw [q2.length] at hw
    rw [cutD_whole hw] at k
    exact k.here hS (show Rp G m H (.tup _) _ from ⟨p, xs, rfl, q1, q2⟩)
  | str z =>
    have hf : (if z.length ≤ sizeLine then some (D.str (cutS z lo hi)) else none) = some r := hf
    obtain ⟨hz, rfl⟩ := some_ifp hf
    exact .inr (.inr ⟨z, hx, hz, k.here hS (v := .str _) rfl⟩)
  | _ =>
    simp only [pSl, Option.map_eq_some_iff] at hf
    obtain ⟨ds, h1, h2⟩ := hf
    exact .inr (.inl (gen ds h1 (fun _ z => by cases z) h2.symm))
abbrev DO := Env → M (Option Int)
def tOo (G : Gc) (W : WX) (d : DO) : TO := fun σ H Q => Inp G σ H fun m ρ S => Aft G m H (fun c x H' => W c x σ H') (d ρ S) fun r _ m' H' => Q r H'
def dNo : DO := fun _ S => .ok none S
def dSo (d : DE) : DO := fun ρ S => (d ρ S).bind fun x S => match x with
  | .int i => .ok (some i) S
  | _ => .bad
theorem po_imp {t t' : TO} {o : Option Expr} (h : PO X o t) (k : ∀ σ H Q, t' σ H Q → t σ H Q) : PO X o t' := ⟨fun pins s σ H Q I q => h.run pins s σ H Q I (k σ H Q q)⟩
theorem jo_none : PO X none (tOo G W dNo) := po_imp po_none fun σ H Q ⟨m, ρ, S, hS, hE, h⟩ => h.ok hS
theorem jo_some {d : DE} (h : PE X e (tE G W d)) : PO X (some e) (tOo G W (dSo d)) := po_imp (po_some h) fun σ H Q ⟨m, ρ, S, hS, hE, h⟩ =>
  ⟨m, ρ, S, hS, hE, (Aft.bind h).imp fun x S1 m1 H1 l1 hS1 h1 v rv => by
    cases x with
    | int i => exact ⟨i, rv, h1.ok hS1⟩
    | _ => exact h1.elim⟩
def dSl (a : DE) (lo hi : DO) : DE := fun ρ S => (a ρ S).bind fun x S => (lo ρ S).bind fun l S => (hi ρ S).bind fun u S => optM (pSl S x l u) S
theorem je_sl {lo hi : Option Expr} {da : DE} {dl dh : DO} {p2 : Pos} (hK : X.K = G.K) (ha : PE X a (tR G W da)) (hl : PO X lo (tOo G W dl)) (hh : PO X hi (tOo G W dh)) : PE X (.Subscript a (.Slice lo hi none p2) pos) (tE G W (dSl da dl dh)) :=
  pe_imp (pe_slice (s_sl (G := G) hK) ha hl hh) fun σ H Q ⟨m, ρ, S, hS, hE, h⟩ =>
    ⟨m, ρ, S, hS, hE, (Aft.bind h).imp fun x S1 m1 H1 l1 hS1 h1 v rv => ⟨m1, ρ, S1, hS1, hE.le l1, (Aft.bind h1).imp fun l S2 m2 H2 l2 hS2 h2 => ⟨m2, ρ, S2, hS2, (hE.le l1).le l2, (Aft.bind h2).imp fun u S3 m3 H3 l3 hS3 h3 => by
      obtain ⟨d, e, k⟩ := aft_opt h3
      exact ⟨m3, S3, x, d, hS3, (l2.trans l3).rt rv, e, k⟩⟩⟩⟩

/-! ### arguments, items -/
def dNil : DA := fun _ S => .ok [] S
def dCons (a : DE) (r : DA) : DA := fun ρ S => (a ρ S).bind fun x S => (r ρ S).bind fun xs S => .ok (x :: xs) S
def dStar (a : DE) (r : DA) : DA := fun ρ S => (a ρ S).bind fun x S => match seqOf S x with
  | some ds => (match x with
    | .ref _ => .bad
    | _ => (r ρ S).bind fun xs S => .ok (ds ++ xs) S)
  | none => .bad
theorem ja_nil : PA X [] (tA G W dNil) := pa_imp pa_nil fun σ H Q ⟨m, ρ, S, hS, hE, h⟩ => h.ok hS [] rfl
theorem jb_nil : PA X [] (tB G W dNil) := pa_imp pa_nil fun σ H Q ⟨m, ρ, S, hS, hE, h⟩ => h.ok hS [] rfl
theorem ja_cons {es : List Expr} {da : DE} {dr : DA} (hs : starB e = false) (ha : PE X e (tE G W da)) (hr : PA X es (tA G W dr)) : PA X (e :: es) (tA G W (dCons da dr)) :=
  pa_imp (pa_cons ha hr (starEach_plain hs)) fun σ H Q ⟨m, ρ, S, hS, hE, h⟩ =>
    ⟨m, ρ, S, hS, hE, (Aft.bind h).imp fun x S1 m1 H1 l1 hS1 h1 v rv => ⟨m1, ρ, S1, hS1, hE.le l1, (Aft.bind h1).imp fun xs S2 m2 H2 l2 hS2 h2 vs rvs => h2.ok hS2 (v :: vs) ⟨v, vs, rfl, l2.rp rv, rvs⟩⟩⟩
theorem jb_cons {es : List Expr} {da : DE} {dr : DA} (hs : starB e = false) (ha : PE X e (tR G W da)) (hr : PA X es (tB G W dr)) : PA X (e :: es) (tB G W (dCons da dr)) :=
  pa_imp (pa_cons ha hr (starEach_plain hs)) fun σ H Q ⟨m, ρ, S, hS, hE, h⟩ =>
    ⟨m, ρ, S, hS, hE, (Aft.bind h).imp fun x S1 m1 H1 l1 hS1 h1 v rv => ⟨m1, ρ, S1, hS1, hE.le l1, (Aft.bind h1).imp fun xs S2 m2 H2 l2 hS2 h2 vs rvs => h2.ok hS2 (v :: vs) ⟨v, vs, rfl, l2.rt rv, rvs⟩⟩⟩
theorem ja_star {es : List Expr} {da : DE} {dr : DA} {p : Pos} (hK : X.K = G.K) (ha : PE X e (tR G W da)) (hr : PA X es (tA G W dr)) : PA X (.Starred e p :: es) (tA G W (dStar da dr)) :=
  pa_imp (StX.pa_star ha hr) fun σ H Q ⟨m, ρ, S, hS, hE, h⟩ =>
    ⟨m, ρ, S, hS, hE, (Aft.bind h).imp fun x S1 m1 H1 l1 hS1 h1 v rv => by
      cases hq : seqOf S1 x with
      | none => rw [hq] at h1; exact h1.elim
      | some ds =>
        rw [hq] at h1
        obtain ⟨q, xs, e, k1, k2⟩ := seq_ok hS1 hq rv
        have fin : Aft G m1 H1 (fun c x H' => W c x σ H') ((dr ρ S1).bind fun xs S => .ok (ds ++ xs) S) (fun r _ m' H' => ∀ vs, RpL G m' H' r vs → Q vs H') → _ := fun h1 =>
          (show ∃ p xs, v = V.ref p ∧ (SqT X.K H1 p xs ∨ SqL X.K H1 p xs) ∧ tA G W dr σ H1 fun ys H2 => Q (xs ++ ys) H2 from
            ⟨q, xs, e, by rw [hK]; exact k1.symm, m1, ρ, S1, hS1, hE.le l1, (Aft.bind h1).imp fun ys S2 m2 H2 l2 hS2 h2 vs rvs => h2.ok hS2 (xs ++ vs) ((l2.rpL k2).append rvs)⟩)
        cases x with
        | ref n => exact h1.elim
        | _ => exact fin h1⟩
/-- a tuple display -/
def dTup (r : DA) : DE := fun ρ S => (r ρ S).bind fun xs S => if xs.length ≤ sizeLine then .ok (.tup xs) S else .bad
theorem aft_if {α β : Type} {c : Prop} [Decidable c] {a : β} {Y : XK} {Φ : β → Store → Mu → Hp → Prop} (h : Aft G m H Y (if c then .ok a S else .bad) Φ) : c ∧ Aft G m H Y (.ok a S) Φ := by
  by_cases k : c
  · rw [if_pos k] at h; exact ⟨k, h⟩
  · rw [if_neg k] at h; exact h.elim
theorem je_tup {es : List Expr} {dr : DA} {x1} (h : PA X es (tA G W dr)) : PE X (.Tuple es x1 pos) (tE G W (dTup dr)) :=
  pe_imp (pe_tup h) fun σ H Q ⟨m, ρ, S, hS, hE, h⟩ => ⟨m, ρ, S, hS, hE, (Aft.bind h).imp fun xs S1 m1 H1 l1 hS1 h1 vs rvs => by
    obtain ⟨hc, h1⟩ := aft_if (α := D) h1
    refine ⟨by rw [rvs.length]; exact hc, fun p hp => h1 m1 _ (Le.same (Same.new hp)) (hS1.same (Same.new hp)) (.ref p) ⟨p, vs, rfl, Tq.of upd_same, (Le.same (Same.new hp)).rpL rvs⟩⟩⟩
/-! ### a list just made -/
def Mu.add (m : Mu) (p : Addr) : Mu := ⟨m.as, fun a => m.O a ∨ a = p⟩
def AftL (G : Gc) (m : Mu) (H : Hp) (Y : XK) (r : R (List D)) (Q : VK) : Prop := match r with
  | .ok ds S => ∀ m' H' p, Le G m H m' H' → nt H p = none → Holds G (m'.add p) H' S → Ol G (m'.add p) H' ds p → Q (.ref p) H'
  | .exc c S => ∀ m' H', Le G m H m' H' → Holds G m' H' S → ∀ ca, G.ad c = some ca → Y (.ref ca) none H'
  | .bad => False
def tL (G : Gc) (W : WX) (d : DA) : TE := fun σ H Q => Inp G σ H fun m ρ S => AftL G m H (fun c x H' => W c x σ H') (d ρ S) Q
theorem Mu.add_rp {p : Addr} {d : D} {v : V} (h : Rp G (m.add p) H d v) : Rp G m H d v := Rp.mono (m := m.add p) (m' := m) (H := H) (H' := H) (fun _ _ z => z) (fun _ _ z => z) (fun a o z n => ⟨z, fun q => n (Or.elim q Or.inl fun q => Or.inr (Or.inl q))⟩) d v h
theorem Mu.add_rpL {p : Addr} {d : List D} {v : List V} (h : RpL G (m.add p) H d v) : RpL G m H d v := RpL.mono (m := m.add p) (m' := m) (H := H) (H' := H) (fun _ _ z => z) (fun _ _ z => z) (fun a o z n => ⟨z, fun q => n (Or.elim q Or.inl fun q => Or.inr (Or.inl q))⟩) d v h
theorem Holds.drop {p : Addr} (h : Holds G (m.add p) H S) : Holds G m H S :=
  ⟨h.len, h.nd, fun n ob a e1 e2 => by
    exact (h.ob n ob a e1 e2).mono (fun _ _ e => e) fun d v r => Mu.add_rp r, fun a q => h.dis a (.inl q), fun a q => h.there a (.inl q), h.tabs⟩
def dLst (r : DA) : DE := fun ρ S => (r ρ S).bind fun xs S => .ok (.lst xs) S
/-- a list that is not changed any more -/
theorem je_lst {d : DA} (h : PE X e (tL G W d)) : PE X e (tE G W (dLst d)) :=
  pe_imp h fun σ H Q ⟨m, ρ, S, hS, hE, h⟩ => ⟨m, ρ, S, hS, hE, by
    have h : Aft G m H _ ((d ρ S).bind fun xs S => R.ok (D.lst xs) S) _ := h
    cases hd : d ρ S with
    | bad =>
      rw [hd] at h
      exact h.elim
    | exc c S1 =>
      rw [hd] at h
      show AftL G m H _ (d ρ S) Q
      rw [hd]
      exact h
    | ok ds S1 =>
      rw [hd] at h
      show AftL G m H _ (d ρ S) Q
      rw [hd]
      intro m' H' p l hp hS' ⟨xs, e1, e2⟩
      refine h m' H' l hS'.drop (.ref p) ⟨p, xs, rfl, e1, ?_, Mu.add_rpL e2⟩
      rintro (q | q)
      · exact hS'.dis p (.inr rfl) q
      · rw [l.O] at q
        exact hS.there p q hp⟩
end
end Py

/-! Part 6: enumerate over a tuple. -/
namespace PySem
open Sem (wp)
theorem meets_enum_new1 {v : Value} {o : Obj} {H : Heap → Prop} (B : Begins v o H) :
    Meets (Builtin.«enumerate.__new__» ⟨[.type "enumerate", v], []⟩) (fun _ R s => H s.heap ∧
      R (.ok (.ret (.ref (s.heap.push o).objs.size))) { s with heap := (s.heap.push o).push { cls := .type "enumerate", data := .fields #[.none, .bool false, .ref s.heap.objs.size, rawInt 0, .none, .none] } }) :=
  .of_wp fun prog w A R s h => by
    obtain ⟨hp, g, d, tk, os⟩ := s; obtain ⟨h1, h⟩ := h
    have hsub := sub_enumerate
    have q1 : ∀ {A' : Around} {E : Value → Shared → Prop} {Q : Value → Shared → Prop}, Q (.ref hp.objs.size) ⟨hp.push o, g, d, tk, os⟩ → wpAny (model prog w) A' (pyIter v) Q E ⟨hp, g, d, tk, os⟩ :=
      fun q => B.iter prog w _ _ ⟨hp, g, d, tk, os⟩ _ h1 q
    wp_walk using q1
    refine wpAny_stack_any fun st => wpAny_pure ?_
    split
    · rename_i c _ _ _ _ _
      cases (c == Value.type "enumerate")
      · wp_walk using q1
        exact ⟨_, rfl, h⟩
      · wp_walk using q1
        exact ⟨_, rfl, h⟩
    · wp_walk using q1
      exact ⟨_, rfl, h⟩
section
variable {prog : Program} {w : World} {A : Around} {E : Value → Shared → Prop} {s : Shared}
theorem enum_begins1 {v : Value} {o : Obj} {H : Heap → Prop} {Q : Value → Shared → Prop} (B : Begins v o H) (h1 : H s.heap)
    (h : ∀ h', IsEnum h' (s.heap.objs.size + 1) s.heap.objs.size 0 .none → h'.get? s.heap.objs.size = some o → h'.objs.size = s.heap.objs.size + 2 →
      (∀ b o, s.heap.get? b = some o → h'.get? b = some o) → Q (.ref (s.heap.objs.size + 1)) { s with heap := h' }) :
    wpAny (model prog w) A (call (.type "enumerate") [v]) Q E s := by
  refine callType_new F.called_enumerate (by decide) (F.typeCall_enumerate_1 _) (F.newCall_enumerate_1 _) (fun obj => F.args_object_init_2 obj _) F.entry_enumerate_new
    (meets_enum_new1 B) ⟨h1, ?_⟩
  have hz : (s.heap.push o).objs.size = s.heap.objs.size + 1 := Heap.size_push ..
  show _ ∧ _
  rw [hz]
  have he : IsEnum ((s.heap.push o).push { cls := .type "enumerate", data := .fields #[.none, .bool false, .ref s.heap.objs.size, rawInt 0, .none, .none] }) (s.heap.objs.size + 1) s.heap.objs.size 0 .none := by
    have := Heap.get?_push_size (s.heap.push o) (o := { cls := .type "enumerate", data := .fields #[.none, .bool false, .ref s.heap.objs.size, rawInt 0, .none, .none] }) rfl
    rw [hz] at this; exact this
  refine ⟨⟨_, he, rfl⟩, h _ he (Heap.get?_push_of_some _ (Heap.get?_push_size _ B.free)) (by rw [Heap.size_push, hz]) fun b o x => Heap.get?_push_of_some _ (Heap.get?_push_of_some _ x)⟩
end
end PySem
namespace L2
open PySem PySem.Spec PyProof.Rows
/-- the tuple at a, each item in a new pair -/
def IteT (K : PySem.W.Frag) (a : Addr) : It :=
  ⟨fun i H => ∃ (xs : List V) (x : V), SqT K H a xs ∧ xs[i]? = some x, fun i H v H' => ∃ T x, v = .ref T ∧ H T = none ∧ H' = upd H T (.tup [.int (i : Nat), x]) ∧ ∀ xs, SqT K H a xs → xs[i]? = some x, fun i H => ∃ xs : List V, SqT K H a xs ∧ xs.length ≤ i⟩
theorem turn_enumT {P : Program} {w : World} {K : PySem.W.Frag} {elts : List Expr} {kk : Nat} {tpos : Pos} (a e it : Addr) (hat : a ≠ it) :
    Turn P w K (.Tuple elts kk tpos) (IteT K a) [e, it] e (fun i h => (∃ old, IsEnum h e it ((i : Nat) : Int) old) ∧ h.IsTupleIter it a i ∧ e ≠ it) where
  mem := by simp
  obj := fun i h st b hb => by
    obtain ⟨⟨old, he⟩, ⟨o, ho, hc, hd⟩, _⟩ := st
    have e' : b = e ∨ b = it := by simpa using hb
    rcases e' with z | z
    · rw [z]; exact ⟨_, he, fun v q => nomatch q⟩
    · rw [z]; exact ⟨o, ho, fun v q => by rw [hd] at q; cases q⟩
  keep := fun i h h' st k => let ⟨⟨old, he⟩, hi, hne⟩ := st; ⟨⟨old, k e (by simp) _ he⟩, hi.at fun o q => k it (by simp) o q, hne⟩
  item := by
    intro X hP hw hK hc i pins s σ H E I hf st hg
    subst hP hw hK
    obtain ⟨⟨old, he⟩, hit, hne⟩ := st
    obtain ⟨xs, x, hq, hx⟩ := hg
    obtain ⟨its, rv, p, hz⟩ := I.tuple hq
    obtain ⟨u, hu, ru⟩ := rv.get hx
    have pt : s.heap.IsTuple a its.toArray := p
    have hel : e < s.heap.objs.size := Heap.lt_size he
    have hil : it < s.heap.objs.size := by obtain ⟨_, q, _⟩ := hit; exact Heap.lt_size q
    have hae : a ≠ e := fun z => by
      obtain ⟨o, e1, c1, _⟩ := pt
      rw [z] at e1
      have e2 : s.heap.get? e = _ := he
      rw [e1] at e2
      cases e2
      have c2 : Value.type "enumerate" = Value.type "tuple" := c1
      injection c2 with c3
      exact absurd c3 (by decide)
    refine wpAny_pyNext_enum_itemD (n := its.toArray.size) (Draws.tuple (A := X.A.in1) (I.ok.hd hc) it a hat its.toArray) he ⟨hit, pt⟩ (i := i) ?_ hne ?_ fun y h' tk hP ho st' hT hsz hk => ?_
    · have := (List.getElem?_eq_some_iff.mp hu).1
      simpa using this
    · simp only [List.mem_cons, List.not_mem_nil, or_false, not_or]
      exact ⟨hne, fun z => hae z.symm⟩
    · have ey : y = u := by
        have hP : its.toArray[i]? = some y := hP
        rw [List.getElem?_toArray, hu] at hP
        exact (Option.some.inj hP).symm
      subst ey
      refine ⟨_, rfl, wpAny_letOwnedTupleGo_enum (s := { s with heap := h', toks := tk + 1 }) ho fun h'' he' sb => ?_⟩
      have hT2 : h''.get? s.heap.objs.size = some { cls := .type "tuple", data := .seq #[.int i tk, y] } := (sb.2 _ (Nat.ne_of_gt hel)).trans hT
      have new : ObjOk X.prog X.w (upd H s.heap.objs.size (.tup [.int (i : Nat), x])) h'' s.heap.objs.size (.tup [.int (i : Nat), x]) :=
        ⟨by show 2 ≤ sizeLine; decide, [.int i tk, y], .cons ⟨_, rfl⟩ (.cons ru .nil), ⟨_, hT2, rfl, _, rfl⟩⟩
      have I1 : Inv X pins σ (upd H s.heap.objs.size (.tup [.int (i : Nat), x])) { s with heap := h'', toks := tk + 1 } :=
        I.turnedNew (ch := [e, it]) (fun b ob hb q => (sb.2 b (fun z => hb (by simp [z]))).trans (hk b ob (fun z => hb (by simp [z])) (fun z => hb (by simp [z])) q)) hf (Nat.le_refl _) new
      refine ⟨.ref s.heap.objs.size, _, I1, rfl, ⟨_, x, rfl, I.hok.fresh (Nat.le_refl _), rfl, fun ys hy => by rw [I.tuple_inj hy hq]; exact hx⟩, ⟨⟨y, ?_⟩, st'.1.at fun o q => (sb.2 it (Ne.symm hne)).trans q, hne⟩, fun b hb => ?_⟩
      · have e1 : ((i + 1 : Nat) : Int) = (i : Int) + 1 := by omega
        rw [e1]; exact he'
      · have hb' : b < s.heap.objs.size := by
          have e' : b = e ∨ b = it := by simpa using hb
          rcases e' with z | z
          · rw [z]; exact hel
          · rw [z]; exact hil
        rw [upd_ne (Nat.ne_of_lt hb')]
        exact (hf b hb).1
  done := by
    intro X hP hw hK hc i pins s σ H E I hf st hg
    subst hP hw hK
    obtain ⟨⟨old, he⟩, hit, hne⟩ := st
    obtain ⟨xs, hq, hx⟩ := hg
    obtain ⟨its, rv, p, hz⟩ := I.tuple hq
    obtain ⟨f0, f1, f2, f3, f4, f5⟩ := hf it (by simp)
    have hl := rv.length
    -- the end is told at the number of items: past it the iterator has stood there, too
    have hT : s.TypeIs (.ref e) "enumerate" := ⟨_, he, rfl⟩
    unfold pyNext
    refine wpAny_bind (wpAny_attempt (wpAny_callSpecial?_slot (name := Str.ofString "__next__") hT F.slot_enumerate_next
      (wpAny_call_entry F.slot_enumerate_next hT F.entry_enumerate_next ?_ (F.args_enumerate_next_1 _))))
    show wpAny _ _ (field (.ref e) 2 >>= _) _ _ _
    refine wpAny_bind (wpAny_field he rfl (x := .ref it) rfl ?_)
    refine wpAny_bind (wpAny_nextOf_tuple_end (A := X.A.in1) (I.ok.hd hc) hit (show s.heap.IsTuple a its.toArray from p) (by simp; omega) fun h' x he' hx' => ?_)
    obtain ⟨o, ho, hc'⟩ := hx'
    refine wpAny_bind (wpAny_isInstance (T := "StopIteration") (b := true) ⟨o, ho, hc'⟩ isSubtype_stop ?_)
    exact wpAny_pure ⟨rfl, I.turned (t' := s.toks) (fun b o hb q => he' b o hb q) f0 f1 f3 f4 f5⟩
  self := fun A i s Q E st h => let ⟨⟨_, he⟩, _⟩ := st; wpAny_pyIter_enum he h
def iEnumT (K : PySem.W.Frag) (ta : TA) : TI := fun σ H R => ta σ H fun vs H1 => ∃ a xs, vs = [.ref a] ∧ ((SqL K H1 a xs ∧ R (Ite K a) H1) ∨ (SqT K H1 a xs ∧ R (IteT K a) H1))
theorem pi_enumT {X : Cx} {e : Expr} {ta : TA} {p pos tpos : Pos} {elts : List Expr} {kk : Nat} (hg : Gl X "enumerate") (hm : X.mg "enumerate" = none) (ha : PA X [e] ta) (hs : starEach [e] X.env = [(false, eval e X.env)] := by rfl) :
    PI X (.Tuple elts kk tpos) (.Call (.Name "enumerate" p) [e] [] pos) (iEnumT X.K ta) := by
  refine ⟨fun pins s σ H R I h => ?_⟩
  refine Call_ (ld_blt I hg hm boot_enumerate (PyProof.Rows.callWith_type1 (thn (ha.run pos pins s σ H _ I h) fun us s1 ⟨vs, H1, I1, r1, q1⟩ => ?_) hs rfl))
  obtain ⟨a, xs, ex, q1⟩ := q1
  subst ex
  cases r1 with
  | cons r rr =>
    cases rr
    cases r
    have fre : ∀ b ∈ [s1.heap.objs.size + 1, s1.heap.objs.size], FpOk X pins H1 b := fun b hb => by
      have e' : b = s1.heap.objs.size + 1 ∨ b = s1.heap.objs.size := by simpa using hb
      have hle : s1.heap.objs.size ≤ b := by
        rcases e' with z | z
        · rw [z]; exact Nat.le_add_right _ _
        · rw [z]; exact Nat.le_refl _
      exact I1.fpOk hle (I1.hok.fresh hle)
    rcases q1 with ⟨hq, q⟩ | ⟨hq, q⟩
    · obtain ⟨its, rv, p', hz⟩ := I1.list hq
      refine call_enumerate_list p'.isList fun h' he hit hsz hk => wpAny_pyIter_enum he ?_
      have I2 : Inv X pins σ H1 { s1 with heap := h' } := I1.kept (t' := s1.toks) hk
      exact ⟨s1.heap.objs.size + 1, [s1.heap.objs.size + 1, s1.heap.objs.size], _, _, H1, rfl, I2, turn_enum a (s1.heap.objs.size + 1) s1.heap.objs.size, ⟨⟨.none, he⟩, hit, Nat.succ_ne_self _⟩, fre, q⟩
    · obtain ⟨its, rv, p', hz⟩ := I1.tuple hq
      have pt : s1.heap.IsTuple a its.toArray := p'
      obtain ⟨o1, ho1, _⟩ := id pt
      refine enum_begins1 (begins_tuple a its.toArray) pt fun h' he hit hsz hk => wpAny_pyIter_enum he ?_
      have I2 : Inv X pins σ H1 { s1 with heap := h' } := I1.kept (t' := s1.toks) hk
      exact ⟨s1.heap.objs.size + 1, [s1.heap.objs.size + 1, s1.heap.objs.size], _, _, H1, rfl, I2, turn_enumT a (s1.heap.objs.size + 1) s1.heap.objs.size (Nat.ne_of_lt (Heap.lt_size ho1)), ⟨⟨.none, he⟩, ⟨_, hit, rfl, rfl⟩, Nat.succ_ne_self _⟩, fre, q⟩
theorem walk_enumT {K : PySem.W.Frag} {a : Addr} {xs : List V} : Walk (IteT K a) xs.length (fun H => SqT K H a xs) (YPair (fun i => some (.int (i : Nat))) (fun i => xs[i]?)) := by
  refine ⟨fun i _ hi q => ⟨xs, xs[i], q, by simp [hi]⟩, fun _ q => ⟨xs, q, Nat.le_refl _⟩, fun i H v H' _ q y => ?_⟩
  obtain ⟨T, x, h1, h2, h3, h4⟩ := y
  exact ⟨T, .int (i : Nat), x, h1, h2, h3, rfl, h4 xs q⟩
theorem walk_zipT {K : PySem.W.Frag} {a b : Addr} {xs ys : List V} {n : Nat} (hn : n = min xs.length ys.length) : Walk (RZ.ItzT K a b) n (fun H => SqT K H a xs ∧ SqT K H b ys) (YPair (fun i => xs[i]?) (fun i => ys[i]?)) := by
  subst hn
  refine ⟨fun i _ hi q => ?_, fun _ q => ⟨xs, ys, q.1, q.2, by omega⟩, fun i H v H' _ q y => ?_⟩
  · have h1 : i < xs.length := by omega
    have h2 : i < ys.length := by omega
    exact ⟨xs, ys, xs[i], ys[i], q.1, q.2, by simp [h1], by simp [h2]⟩
  · obtain ⟨T, x, z, h1, h2, h3, h4, h5⟩ := y
    exact ⟨T, x, z, h1, h2, h3, h4 xs q.1, h5 ys q.2⟩
end L2

/-! Part 7: what is walked; targets; comprehensions. -/
namespace Py
open PySem PySem.Spec PyProof.Rows L2

/-- the weak step: what others hold stays; of what one holds (m.O) only what kp names -/
structure Lx (G : Gc) (kp : Addr → Prop) (m : Mu) (H : Hp) (m' : Mu) (H' : Hp) : Prop where
  as : ∃ e, m'.as = m.as ++ e ∧ ∀ a ∈ e, nt H a = none
  O1 : ∀ a, m'.O a → m.O a ∨ nt H a = none
  O2 : ∀ a, m.O a → kp a → m'.O a
  kept : ∀ a o, nt H a = some o → a ∉ m.as → (m.O a → kp a) → nt H' a = some o
  tups : ∀ a xs, Tq G H a xs → Tq G H' a xs
  there : ∀ a, nt H a ≠ none → nt H' a ≠ none
abbrev kAll : Addr → Prop := fun _ => True
section
variable {G : Gc} {kp : Addr → Prop} {m m' m'' : Mu} {H H' H'' : Hp} {S S' : Store}
theorem Le.lx (l : Le G m H m' H') : Lx G kp m H m' H' := ⟨l.as, fun a h => .inl (by rw [l.O] at h; exact h), fun a h _ => by rw [l.O]; exact h, fun a o h n _ => l.kept a o h n, l.tups, l.there⟩
theorem Lx.refl : Lx G kp m H m H := Le.refl.lx
theorem Lx.nas (l : Lx G kp m H m' H') {a : Addr} {o : HO} (h : nt H a = some o) (n : a ∉ m.as) : a ∉ m'.as := by
  obtain ⟨e, e1, e2⟩ := l.as
  intro q
  rw [e1, List.mem_append] at q
  rcases q with q | q
  · exact n q
  · rw [e2 a q] at h; cases h
theorem Lx.trans (l : Lx G kp m H m' H') (k : Lx G kp m' H' m'' H'') : Lx G kp m H m'' H'' := by
  have ob : ∀ a, nt H a = none ∨ ∃ o, nt H a = some o := fun a => by
    cases h : nt H a with
    | none => exact .inl rfl
    | some o => exact .inr ⟨o, rfl⟩
  have back : ∀ a, nt H' a = none → nt H a = none := fun a h => by
    rcases ob a with q | ⟨o, q⟩
    · exact q
    · exact absurd h (l.there a (by rw [q]; simp))
  obtain ⟨e, e1, e2⟩ := l.as
  obtain ⟨f, f1, f2⟩ := k.as
  refine ⟨⟨e ++ f, by rw [f1, e1, List.append_assoc], fun a ha => ?_⟩, fun a h => ?_, fun a h q => k.O2 a (l.O2 a h q) q, fun a o h n q => ?_, fun a xs h => k.tups a xs (l.tups a xs h), fun a h => k.there a (l.there a h)⟩
  · rcases List.mem_append.mp ha with q | q
    · exact e2 a q
    · exact back a (f2 a q)
  · rcases k.O1 a h with q | q
    · exact l.O1 a q
    · exact .inr (back a q)
  · refine k.kept a o (l.kept a o h n q) (l.nas h n) fun z => ?_
    rcases l.O1 a z with z | z
    · exact q z
    · rw [z] at h; cases h
theorem Lx.ix (l : Lx G kp m H m' H') {n : Nat} {a : Addr} (h : m.as[n]? = some a) : m'.as[n]? = some a := by
  obtain ⟨e, e1, _⟩ := l.as
  rw [e1, List.getElem?_append_left (List.getElem?_eq_some_iff.mp h).1]
  exact h
theorem Lx.lsts (l : Lx G kp m H m' H') (a : Addr) (o : HO) (h : nt H a = some o) (n : ¬ m.has a) : nt H' a = some o ∧ ¬ m'.has a :=
  ⟨l.kept a _ h (fun z => n (.inl z)) fun z => absurd (.inr z) n, by
    rintro (q | q)
    · exact l.nas h (fun z => n (.inl z)) q
    · rcases l.O1 a q with z | z
      · exact n (.inr z)
      · rw [z] at h; cases h⟩
theorem Lx.rp (l : Lx G kp m H m' H') {d : D} {v : V} (h : Rp G m H d v) : Rp G m' H' d v := Rp.mono (fun _ _ => l.ix) l.tups l.lsts d v h
theorem Lx.rpL (l : Lx G kp m H m' H') {d : List D} {v : List V} (h : RpL G m H d v) : RpL G m' H' d v := RpL.mono (fun _ _ => l.ix) l.tups l.lsts d v h
theorem Lx.rps (l : Lx G kAll m H m' H') {s : Sl} {v : V} (h : RpS G m H s v) : RpS G m' H' s v := by
  cases s with
  | val d => exact l.rp h
  | own ds =>
    obtain ⟨a, e, h1, h2, xs, ex, q⟩ := h
    have ex' := nt_of ex fun _ z => by cases z
    exact ⟨a, e, l.O2 a h1 trivial, l.nas ex' h2, xs, (nt_some (l.kept a _ ex' h2 fun _ => trivial)).1, l.rpL q⟩
theorem RpE.lx {ρ : Env} {σ : Sg} (E : RpE G m H ρ σ) (l : Lx G kAll m H m' H') : RpE G m' H' ρ σ :=
  ⟨fun i s h => let ⟨v, e, q⟩ := E.at_ i s h; ⟨v, e, l.rps q⟩, E.inj, E.len⟩
/-- a new list at p -/
theorem Lx.add {p : Addr} (l : Le G m H m' H') (hp : nt H p = none) : Lx G kp m H (m'.add p) H' :=
  ⟨l.as, fun a h => by
    rcases h with h | h
    · exact .inl (by rw [l.O] at h; exact h)
    · subst h; exact .inr hp, fun a h _ => .inl (by rw [l.O]; exact h), fun a o h n _ => l.kept a o h n, l.tups, l.there⟩
end

/-! ### what is walked -/
/-- J gives the items ds, however things go on by Lx -/
def Serv (G : Gc) (kp : Addr → Prop) (m : Mu) (H : Hp) (ds : List D) (J : It) : Prop := ∃ (Gd : Hp → Prop) (Y : Nat → Hp → V → Hp → Prop), Walk J ds.length Gd Y ∧
  (∀ m' H', Lx G kp m H m' H' → Gd H') ∧ ∀ m' H' i x H'', Lx G kp m H m' H' → i < ds.length → Y i H' x H'' → Same H' H'' ∧ ∃ d, ds[i]? = some d ∧ ∀ m2, Lx G kp m H m2 H' → Rp G m2 H'' d x
abbrev DI := Env → M (List D)
def tI (G : Gc) (W : WX) (d : DI) : TI := fun σ H R => ∃ kp, Inp G σ H fun m ρ S => Aft G m H (fun c x H' => W c x σ H') (d ρ S) fun ds S' m' H' => ∀ J, Serv G kp m' H' ds J → R J H'
/-- within an expression: also a list of one's own -/
def tIw (G : Gc) (W : WX) (d : DI) : TI := fun σ H R => Inp G σ H fun m ρ S => Aft G m H (fun c x H' => W c x σ H') (d ρ S) fun ds S' m' H' => ∀ J, Serv G kAll m' H' ds J → R J H'
section
variable {G : Gc} {W : WX} {X : Cx} {e a b c tg : Expr} {m m' : Mu} {H H' : Hp} {S : Store} {σ : Sg} {pos p : Pos} {kp : Addr → Prop}
theorem pi_imp {t t' : TI} (h : PI X tg e t) (k : ∀ σ H R, t' σ H R → t σ H R) : PI X tg e t' := ⟨fun pins s σ H R I q => h.run pins s σ H R I (k σ H R q)⟩
theorem jiw_of {d : DI} (h : PI X tg e (tI G W d)) : PI X tg e (tIw G W d) := pi_imp h fun _ _ _ q => ⟨_, q⟩

theorem serv_list {p : Addr} {xs : List V} {ds : List D} (h : H p = some (.lst xs)) (n : p ∉ m.as) (k : m.O p → kp p) (r : RpL G m H ds xs) : Serv G kp m H ds (Itl G.K p) := by
  refine ⟨fun H => SqL G.K H p xs, YAt xs, r.length ▸ walk_list, fun m' H' l => SqL.of (nt_some (l.kept p _ (nt_of h fun _ z => by cases z) n k)).1, fun m' H' i x H'' l hi y => ?_⟩
  obtain ⟨e, y⟩ := y
  subst e
  refine ⟨fun _ _ z => z, ?_⟩
  obtain ⟨d, e, q⟩ := r.getV y
  exact ⟨d, e, fun m2 l2 => l2.rp q⟩
theorem serv_tup {p : Addr} {xs : List V} {ds : List D} (h : Tq G H p xs) (r : RpL G m H ds xs) : Serv G kp m H ds (Itt G.K p) := by
  refine ⟨fun H => SqT G.K H p xs, YAt xs, r.length ▸ walk_tup, fun m' H' l => (l.tups p xs h).sq, fun m' H' i x H'' l hi y => ?_⟩
  obtain ⟨e, y⟩ := y
  subst e
  refine ⟨fun _ _ z => z, ?_⟩
  obtain ⟨d, e, q⟩ := r.getV y
  exact ⟨d, e, fun m2 l2 => l2.rp q⟩
/-- a list that is written in the text -/
theorem serv_range {lo : Int} {n : Nat} : Serv G kp m H ((List.range n).map fun (i : Nat) => D.int (lo + i)) (Itr lo n) := by
  refine ⟨fun _ => True, YFn fun i => .int (lo + i), ?_, fun _ _ _ => trivial, fun m' H' i x H'' l hi y => ?_⟩
  · have e : ((List.range n).map fun (i : Nat) => D.int (lo + i)).length = n := by simp
    rw [e]
    exact walk_range
  · obtain ⟨e, y⟩ := y
    subst e
    have hi : i < n := by simpa using hi
    refine ⟨fun _ _ z => z, .int (lo + i), by simp [hi], fun _ _ => y⟩
theorem serv_pair {J : It} {n : Nat} {Gd : Hp → Prop} {xs ys : Nat → Option V} {ds : List D} (hn : ds.length = n) (w : Walk J n Gd (YPair xs ys)) (hg : ∀ m' H', Lx G kp m H m' H' → Gd H')
    (hd : ∀ i x y, i < n → xs i = some x → ys i = some y → ∃ d e, ds[i]? = some (.tup [d, e]) ∧ Rp G m H d x ∧ Rp G m H e y) : Serv G kp m H ds J := by
  subst hn
  refine ⟨Gd, _, w, hg, fun m' H' i v H'' l hi y => ?_⟩
  obtain ⟨T, x, y, rfl, hT, rfl, h1, h2⟩ := y
  obtain ⟨d, e, q1, q2, q3⟩ := hd i x y hi h1 h2
  have sm : Same H' (upd H' T (.tup [x, y])) := Same.new hT
  refine ⟨sm, _, q1, fun m2 l2 => ⟨T, [x, y], rfl, Tq.of upd_same, x, [y], rfl, (Le.same sm).rp (l2.rp q2), y, [], rfl, (Le.same sm).rp (l2.rp q3), rfl⟩⟩
theorem serv_str {z : Str} : Serv G kp m H (z.cps.toList.map fun c => D.str ⟨#[c]⟩) (Its z) := by
  have e : (z.cps.toList.map fun c => D.str ⟨#[c]⟩).length = z.cps.size := by simp
  refine ⟨fun _ => True, _, e ▸ walk_str, fun _ _ _ => trivial, fun m' H' i x H'' l hi y => ?_⟩
  obtain ⟨e, c, h1, h2⟩ := y
  subst e h2
  refine ⟨fun _ _ z => z, .str ⟨#[c]⟩, ?_, fun _ _ => rfl⟩
  have h3 : z.cps.toList[i]? = some c := by simpa using h1
  rw [List.getElem?_map, h3]; rfl

/-! a value that is walked -/
def iSeq (K : PySem.W.Frag) (tl : TE) : TI := fun σ H R => tl σ H fun x H1 => (∃ a, x = .ref a ∧ (∃ xs, SqL K H1 a xs) ∧ R (Itl K a) H1) ∨ (∃ a, x = .ref a ∧ (∃ xs, SqT K H1 a xs) ∧ R (Itt K a) H1) ∨ ∃ z, x = .str z ∧ R (Its z) H1
theorem pi_val {l : Expr} {tl : TE} (hl : PE X l tl) : PI X tg l (iSeq X.K tl) := by
  refine ⟨fun pins s σ H R I h => ?_⟩
  refine thn (hl.run pins s σ H _ I h) fun v s1 ⟨x, H1, I1, r1, q1⟩ => ?_
  rcases q1 with ⟨a, e, ⟨xs, hq⟩, q⟩ | ⟨a, e, ⟨xs, hq⟩, q⟩ | ⟨z, e, q⟩
  · subst e
    cases r1
    obtain ⟨its, rv, p, hz⟩ := I1.list hq
    refine wpAny_pyIter_list p.isList ?_
    refine ⟨s1.heap.objs.size, [s1.heap.objs.size], _, _, H1, rfl, I1.kept (t' := s1.toks) fun b o e => Heap.get?_push_of_some _ e, turn_list a _, ⟨_, Heap.get?_push_size _ rfl, rfl, rfl⟩, fun b hb => ?_, q⟩
    have e : b = s1.heap.objs.size := by simpa using hb
    subst e
    exact I1.fpOk (Nat.le_refl _) (I1.hok.fresh (Nat.le_refl _))
  · subst e
    cases r1
    obtain ⟨its, rv, p, hz⟩ := I1.tuple hq
    refine wpAny_pyIter_tuple (show s1.heap.IsTuple a its.toArray from p) ?_
    refine ⟨s1.heap.objs.size, [s1.heap.objs.size], _, _, H1, rfl, I1.kept (t' := s1.toks) fun b o e => Heap.get?_push_of_some _ e, turn_tuple a _, ⟨_, Heap.get?_push_size _ rfl, rfl, rfl⟩, fun b hb => ?_, q⟩
    have e : b = s1.heap.objs.size := by simpa using hb
    subst e
    exact I1.fpOk (Nat.le_refl _) (I1.hok.fresh (Nat.le_refl _))
  · subst e
    obtain ⟨t, rfl⟩ := r1
    cases ha : z.cps.all (· < 128)
    · exact wpAny_pyIter_wide ha (pi_one (tk := s1.toks) I1 _ (turn_str _ z t "str_iterator" (.inr rfl)) ⟨_, Heap.get?_push_size _ rfl, rfl, rfl⟩ q)
    · exact wpAny_pyIter_ascii ha (pi_one (tk := s1.toks) I1 _ (turn_str _ z t "str_ascii_iterator" (.inl rfl)) ⟨_, Heap.get?_push_size _ rfl, rfl, rfl⟩ q)
def itms : D → Option (List D)
  | .tup ds => some ds
  | .lst ds => some ds
  | .str z => some (z.cps.toList.map fun c => D.str ⟨#[c]⟩)
  | .pt0 => some []
  | _ => none
theorem serv_pt0 {p : Addr} (h : H p = some (.frz pt0O (.tup []))) (n : ¬ m.has p) : Serv G kp m H [] (Itt G.K p) := by
  refine ⟨fun H => SqT G.K H p ([] : List V), YAt ([] : List V), (show Walk (Itt G.K p) ([] : List V).length _ _ from walk_tup), fun m' H' l => .inl (.inr ⟨_, (nt_some (l.kept p _ (nt_of h fun _ z => by cases z) (fun z => n (.inl z)) fun z => absurd (.inr z) n)).1⟩), fun m' H' i x H'' l hi y => by simp at hi⟩
theorem serv_val {d : D} {ds : List D} {v : V} {R : It → Hp → Prop} (h : itms d = some ds) (r : Rp G m H d v) (k : ∀ J, Serv G kp m H ds J → R J H) :
    (∃ a, v = .ref a ∧ (∃ xs, SqL G.K H a xs) ∧ R (Itl G.K a) H) ∨ (∃ a, v = .ref a ∧ (∃ xs, SqT G.K H a xs) ∧ R (Itt G.K a) H) ∨ ∃ z, v = .str z ∧ R (Its z) H := by
  cases d <;> simp only [itms] at h <;> first | cases h; done | skip
  · cases h
    exact .inr (.inr ⟨_, r, k _ serv_str⟩)
  · cases h
    obtain ⟨a, xs, e, h1, h2⟩ := r
    exact .inr (.inl ⟨a, e, ⟨xs, h1.sq⟩, k _ (serv_tup h1 h2)⟩)
  · cases h
    obtain ⟨a, xs, e, h1, h2, h3⟩ := r
    exact .inl ⟨a, e, ⟨xs, SqL.of h1⟩, k _ (serv_list h1 (fun z => h2 (.inl z)) (fun z => absurd (.inr z) h2) h3)⟩
  · cases h
    obtain ⟨a, e, h1, h2⟩ := r
    exact .inr (.inl ⟨a, e, ⟨[], .inl (.inr ⟨_, h1⟩)⟩, k _ (serv_pt0 h1 h2)⟩)
theorem serv_valW {d : D} {ds : List D} {v : V} {R : It → Hp → Prop} (h : itms d = some ds) (r : Rt G m H d v) (k : ∀ J, Serv G kAll m H ds J → R J H) :
    (∃ a, v = .ref a ∧ (∃ xs, SqL G.K H a xs) ∧ R (Itl G.K a) H) ∨ (∃ a, v = .ref a ∧ (∃ xs, SqT G.K H a xs) ∧ R (Itt G.K a) H) ∨ ∃ z, v = .str z ∧ R (Its z) H := by
  cases d <;> simp only [itms] at h <;> first | cases h; done | skip
  · cases h
    exact .inr (.inr ⟨_, r, k _ serv_str⟩)
  · cases h
    obtain ⟨a, xs, e, h1, h2⟩ := r
    exact .inr (.inl ⟨a, e, ⟨xs, h1.sq⟩, k _ (serv_tup h1 h2)⟩)
  · cases h
    obtain ⟨a, xs, e, h1, h2, h3⟩ := r
    exact .inl ⟨a, e, ⟨xs, SqL.of h1⟩, k _ (serv_list h1 h2 (fun _ => trivial) h3)⟩
  · cases h
    obtain ⟨a, e, h1, h2⟩ := r
    exact .inr (.inl ⟨a, e, ⟨[], .inl (.inr ⟨_, h1⟩)⟩, k _ (serv_pt0 h1 h2)⟩)
def dItems (d : DE) : DI := fun ρ S => (d ρ S).bind fun x S => optM (itms x) S
theorem ji_val {d : DE} (hK : X.K = G.K) (h : PE X e (tE G W d)) : PI X tg e (tI G W (dItems d)) :=
  pi_imp (pi_val h) fun σ H R ⟨kp, m, ρ, S, hS, hE, h⟩ => ⟨m, ρ, S, hS, hE, (Aft.bind h).imp fun x S1 m1 H1 l1 hS1 h1 v rv => by
    obtain ⟨ds, e, k⟩ := aft_optG h1 hS1
    rw [hK]
    exact serv_val e rv k⟩
theorem ji_valW {d : DE} (hK : X.K = G.K) (h : PE X e (tR G W d)) : PI X tg e (tIw G W (dItems d)) :=
  pi_imp (pi_val h) fun σ H R ⟨m, ρ, S, hS, hE, h⟩ => ⟨m, ρ, S, hS, hE, (Aft.bind h).imp fun x S1 m1 H1 l1 hS1 h1 v rv => by
    obtain ⟨ds, e, k⟩ := aft_optG h1 hS1
    rw [hK]
    exact serv_valW e rv k⟩
/-! range -/
def rgD (lo : Int) (n : Nat) : List D := (List.range n).map fun (i : Nat) => D.int (lo + i)
def rg1 : List D → Option (List D)
  | [.int j] => if j.natAbs < 2 ^ 62 then some (rgD 0 j.toNat) else none
  | _ => none
def rg2 : List D → Option (List D)
  | [.int i, .int j] => if i.natAbs < 2 ^ 62 ∧ j.natAbs < 2 ^ 62 then some (rgD i (j - i).toNat) else none
  | _ => none
def dRg (f : List D → Option (List D)) (r : DA) : DI := fun ρ S => (r ρ S).bind fun xs S => optM (f xs) S
theorem ji_rg1 {r : DA} (hg : Gl X "range") (hm : X.mg "range" = none) (ha : PA X [a] (tA G W r)) (hs : starB a = false) : PI X tg (.Call (.Name "range" p) [a] [] pos) (tI G W (dRg rg1 r)) :=
  pi_imp (pi_range1 hg hm ha (starEach_plain hs)) fun σ H R ⟨kp, m, ρ, S, hS, hE, h⟩ => ⟨m, ρ, S, hS, hE, (Aft.bind h).imp fun x S1 m1 H1 l1 hS1 h1 vs rvs => by
    obtain ⟨ds, e, k⟩ := aft_optG h1 hS1
    unfold rg1 at e
    split at e
    · obtain ⟨b1, e⟩ := some_ifp e
      obtain ⟨v, r, rfl, q, r0⟩ := rvs
      obtain rfl : v = .int _ := q
      obtain rfl : r = [] := r0
      exact ⟨_, rfl, by omega, by omega, k _ (e ▸ serv_range)⟩
    · cases e⟩
theorem ji_rg2 {r : DA} (hg : Gl X "range") (hm : X.mg "range" = none) (ha : PA X [a, b] (tA G W r)) (hs : starB a = false) (hs2 : starB b = false) : PI X tg (.Call (.Name "range" p) [a, b] [] pos) (tI G W (dRg rg2 r)) :=
  pi_imp (pi_range2 hg hm ha ((starEach_plain hs).trans (congrArg _ (starEach_plain hs2))) (starEach_plain hs2)) fun σ H R ⟨kp, m, ρ, S, hS, hE, h⟩ => ⟨m, ρ, S, hS, hE, (Aft.bind h).imp fun x S1 m1 H1 l1 hS1 h1 vs rvs => by
    obtain ⟨ds, e, k⟩ := aft_optG h1 hS1
    unfold rg2 at e
    split at e
    · obtain ⟨b, e⟩ := some_ifp e
      obtain ⟨v, r, rfl, q, v2, r2, rfl, q2, r0⟩ := rvs
      obtain rfl : v = .int _ := q
      obtain rfl : v2 = .int _ := q2
      obtain rfl : r2 = [] := r0
      exact ⟨_, _, rfl, ⟨by omega, by omega, by omega, by omega⟩, k _ (e ▸ serv_range)⟩
    · cases e⟩
/-! enumerate, zip -/
def enumD (ds : List D) : List D := ds.mapIdx fun i d => .tup [.int (i : Nat), d]
def en1 : List D → Option (List D)
  | [.tup ds] => some (enumD ds)
  | [.lst ds] => some (enumD ds)
  | _ => none
def zp2 : List D → Option (List D)
  | [.tup ds, .tup es] => some ((ds.zip es).map fun x => .tup [x.1, x.2])
  | [.lst ds, .lst es] => some ((ds.zip es).map fun x => .tup [x.1, x.2])
  | _ => none
theorem enum_at {ds : List D} {xs : List V} (r : RpL G m H ds xs) (i : Nat) (x y : V) (hi : i < xs.length) (h1 : some (V.int (i : Nat)) = some x) (h2 : xs[i]? = some y) :
    ∃ d e, (enumD ds)[i]? = some (.tup [d, e]) ∧ Rp G m H d x ∧ Rp G m H e y := by
  obtain ⟨d, e, q⟩ := r.getV h2
  refine ⟨.int (i : Nat), d, by unfold enumD; rw [List.getElem?_mapIdx, e]; rfl, (Option.some.inj h1).symm, q⟩
theorem zip_at {ds es : List D} {xs ys : List V} (r : RpL G m H ds xs) (r2 : RpL G m H es ys) (i : Nat) (x y : V) (h1 : xs[i]? = some x) (h2 : ys[i]? = some y) :
    ∃ d e, ((ds.zip es).map fun x => D.tup [x.1, x.2])[i]? = some (.tup [d, e]) ∧ Rp G m H d x ∧ Rp G m H e y := by
  obtain ⟨d, e, q⟩ := r.getV h1
  obtain ⟨d', e', q'⟩ := r2.getV h2
  refine ⟨d, d', ?_, q, q'⟩
  have hz : (ds.zip es)[i]? = some (d, d') := by rw [List.getElem?_zip_eq_some]; exact ⟨e, e'⟩
  rw [List.getElem?_map, hz]; rfl
theorem serv_enum {d : List D} {ds : List D} {vs : List V} {R : It → Hp → Prop} (h : en1 d = some ds) (r : RpL G m H d vs) (k : ∀ J, Serv G kp m H ds J → R J H) :
    ∃ a xs, vs = [.ref a] ∧ ((SqL G.K H a xs ∧ R (Ite G.K a) H) ∨ (SqT G.K H a xs ∧ R (IteT G.K a) H)) := by
  unfold en1 at h
  split at h
  · cases h
    obtain ⟨v, t, rfl, ⟨a, xs, rfl, q1, q2⟩, rfl⟩ := r
    exact ⟨a, xs, rfl, .inr ⟨q1.sq, k _ (serv_pair (n := xs.length) (by simp [enumD, q2.length]) walk_enumT (fun m' H' l => (l.tups a xs q1).sq) fun i x y hi e1 e2 => enum_at q2 i x y hi e1 e2)⟩⟩
  · cases h
    obtain ⟨v, t, rfl, ⟨a, xs, rfl, q1, q3, q2⟩, rfl⟩ := r
    exact ⟨a, xs, rfl, .inl ⟨SqL.of q1, k _ (serv_pair (n := xs.length) (by simp [enumD, q2.length]) walk_enum (fun m' H' l => SqL.of (nt_some (l.lsts a _ (nt_of q1 fun _ z => by cases z) q3).1).1) fun i x y hi e1 e2 => enum_at q2 i x y hi e1 e2)⟩⟩
  · cases h
theorem serv_zip {d : List D} {ds : List D} {vs : List V} {R : It → Hp → Prop} (h : zp2 d = some ds) (r : RpL G m H d vs) (k : ∀ J, Serv G kp m H ds J → R J H) :
    ∃ a b xs ys, vs = [.ref a, .ref b] ∧ ((SqL G.K H a xs ∧ SqL G.K H b ys ∧ R (Itz G.K a b) H) ∨ (SqT G.K H a xs ∧ SqT G.K H b ys ∧ R (RZ.ItzT G.K a b) H)) := by
  unfold zp2 at h
  split at h
  · cases h
    obtain ⟨v, t, rfl, ⟨a, xs, rfl, q1, q2⟩, v', t', rfl, ⟨b, ys, rfl, p1, p2⟩, rfl⟩ := r
    refine ⟨a, b, xs, ys, rfl, .inr ⟨q1.sq, p1.sq, k _ (serv_pair (n := min xs.length ys.length) (by simp [q2.length, p2.length]) (walk_zipT rfl) (fun m' H' l => ⟨(l.tups a xs q1).sq, (l.tups b ys p1).sq⟩) fun i x y hi e1 e2 => zip_at q2 p2 i x y e1 e2)⟩⟩
  · cases h
    obtain ⟨v, t, rfl, ⟨a, xs, rfl, q1, q3, q2⟩, v', t', rfl, ⟨b, ys, rfl, p1, p3, p2⟩, rfl⟩ := r
    refine ⟨a, b, xs, ys, rfl, .inl ⟨SqL.of q1, SqL.of p1, k _ (serv_pair (n := min xs.length ys.length) (by simp [q2.length, p2.length]) (walk_zip rfl) (fun m' H' l => ⟨SqL.of (nt_some (l.lsts a _ (nt_of q1 fun _ z => by cases z) q3).1).1, SqL.of (nt_some (l.lsts b _ (nt_of p1 fun _ z => by cases z) p3).1).1⟩) fun i x y hi e1 e2 => zip_at q2 p2 i x y e1 e2)⟩⟩
  · cases h
theorem ji_enum {r : DA} {elts : List Expr} {kk : Nat} {tpos : Pos} (hK : X.K = G.K) (hg : Gl X "enumerate") (hm : X.mg "enumerate" = none) (ha : PA X [a] (tA G W r)) (hs : starB a = false) : PI X (.Tuple elts kk tpos) (.Call (.Name "enumerate" p) [a] [] pos) (tI G W (dRg en1 r)) :=
  pi_imp (pi_enumT hg hm ha (starEach_plain hs)) fun σ H R ⟨kp, m, ρ, S, hS, hE, h⟩ => ⟨m, ρ, S, hS, hE, (Aft.bind h).imp fun x S1 m1 H1 l1 hS1 h1 vs rvs => by
    obtain ⟨ds, e, k⟩ := aft_optG h1 hS1
    rw [hK]
    exact serv_enum e rvs k⟩
theorem ji_zip {r : DA} {elts : List Expr} {kk : Nat} {tpos : Pos} (hK : X.K = G.K) (hg : Gl X "zip") (hm : X.mg "zip" = none) (ha : PA X [a, b] (tA G W r)) (hs : starB a = false) (hs2 : starB b = false) : PI X (.Tuple elts kk tpos) (.Call (.Name "zip" p) [a, b] [] pos) (tI G W (dRg zp2 r)) :=
  pi_imp (RZ.pi_zipA hg hm ha (starEach_plain hs) (backTo_plain (by simp [hs2]))) fun σ H R ⟨kp, m, ρ, S, hS, hE, h⟩ => ⟨m, ρ, S, hS, hE, (Aft.bind h).imp fun x S1 m1 H1 l1 hS1 h1 vs rvs => by
    obtain ⟨ds, e, k⟩ := aft_optG h1 hS1
    rw [hK]
    exact serv_zip e rvs k⟩
end
end Py

/-! Part 8: targets; comprehensions. -/
namespace Py
open PySem PySem.Spec PyProof.Rows L2

section
variable {G : Gc} {m m' : Mu} {H H' : Hp} {ρ : Env} {σ : Sg}
theorem set_get {α : Type} {l : List (Option α)} {i j : Nat} {x y : α} (h : (l.set i (some x))[j]? = some (some y)) : (j = i ∧ i < l.length ∧ y = x) ∨ (j ≠ i ∧ l[j]? = some (some y)) := by
  rw [List.getElem?_set] at h
  split at h
  · rename_i e
    subst e
    split at h
    · cases h; exact .inl ⟨rfl, by assumption, rfl⟩
    · cases h
  · rename_i e
    exact .inr ⟨fun z => e z.symm, h⟩
theorem RpE.set {d : D} {v : V} (E : RpE G m H ρ σ) (r : Rp G m H d v) (i : Nat) : RpE G m H (ρ.set i (some (.val d))) (σ.set i (some v)) := by
  refine ⟨fun j s h => ?_, fun j k ds es a h1 h2 h3 h4 => ?_, by simp [E.len]⟩
  · rcases set_get h with ⟨e, hl, e2⟩ | ⟨e, h⟩
    · subst e e2
      have : j < σ.length := E.len ▸ hl
      exact ⟨v, by simp [this], r⟩
    · obtain ⟨w, q1, q2⟩ := E.at_ j s h
      exact ⟨w, by rw [List.getElem?_set_ne (fun z => e z.symm)]; exact q1, q2⟩
  · rcases set_get h1 with ⟨_, _, e⟩ | ⟨e, h1⟩
    · cases e
    rcases set_get h2 with ⟨_, _, e'⟩ | ⟨e', h2⟩
    · cases e'
    rw [List.getElem?_set_ne (fun z => e z.symm)] at h3
    rw [List.getElem?_set_ne (fun z => e' z.symm)] at h4
    exact E.inj j k ds es a h1 h2 h3 h4
def wipeE (ρ : Env) : List Nat → Env
  | [] => ρ
  | v :: vs => (wipeE ρ vs).set v none
theorem none_get {α : Type} {l : List (Option α)} {i j : Nat} {y : α} (h : (l.set i none)[j]? = some (some y)) : j ≠ i ∧ l[j]? = some (some y) := by
  rw [List.getElem?_set] at h
  split at h
  · split at h
    · cases h
    · cases h
  · rename_i e
    exact ⟨fun z => e z.symm, h⟩
theorem RpE.wipe (E : RpE G m H ρ σ) : ∀ vs : List Nat, RpE G m H (wipeE ρ vs) (wipe σ vs)
  | [] => E
  | v :: vs => by
    have F := RpE.wipe E vs
    unfold wipeE L2.wipe
    refine ⟨fun j s h => ?_, fun j k ds es a h1 h2 h3 h4 => ?_, by simp [F.len]⟩
    · obtain ⟨e, h⟩ := none_get h
      obtain ⟨w, q1, q2⟩ := F.at_ j s h
      exact ⟨w, by rw [List.getElem?_set_ne (fun z => e z.symm)]; exact q1, q2⟩
    · obtain ⟨e, h1⟩ := none_get h1
      obtain ⟨e', h2⟩ := none_get h2
      rw [List.getElem?_set_ne (fun z => e z.symm)] at h3
      rw [List.getElem?_set_ne (fun z => e' z.symm)] at h4
      exact F.inj j k ds es a h1 h2 h3 h4
theorem wipe_set {i : Nat} {x : Option V} : ∀ {vs : List Nat}, i ∈ vs → L2.wipe (σ.set i x) vs = L2.wipe σ vs
  | v :: vs, h => by
    unfold L2.wipe
    by_cases e : i ∈ vs
    · rw [wipe_set e]
    · rcases List.mem_cons.mp h with e1 | e1
      · subst e1
        have comm : ∀ ws : List Nat, i ∉ ws → L2.wipe (σ.set i x) ws = (L2.wipe σ ws).set i x := by
          intro ws
          induction ws with
          | nil => intro _; rfl
          | cons w ws ih =>
            intro hn
            rw [List.mem_cons, not_or] at hn
            unfold L2.wipe
            rw [ih hn.2, List.set_comm _ _ hn.1]
        rw [comm vs e, List.set_set]
      · exact absurd e1 e
theorem wipe_sub {vs : List Nat} : ∀ {ws : List Nat}, (∀ w ∈ ws, w ∈ vs) → L2.wipe (L2.wipe σ ws) vs = L2.wipe σ vs
  | [], _ => rfl
  | w :: ws, h => by
    rw [show L2.wipe σ (w :: ws) = (L2.wipe σ ws).set w none from rfl, wipe_set (h w List.mem_cons_self)]
    exact wipe_sub fun x hx => h x (List.mem_cons_of_mem _ hx)
theorem wipe_wipe {vs : List Nat} : L2.wipe (L2.wipe σ vs) vs = L2.wipe σ vs := wipe_sub fun _ h => h
end

abbrev DG := D → Env → Option Env
abbrev DGs := List D → Env → Option Env
/-- what is bound: slots of vs only; lists of one's own elsewhere stay -/
structure Bnds (G : Gc) (vs : List Nat) (m : Mu) (H : Hp) (ρ : Env) (σ : Sg) (ρ' : Env) (σ' : Sg) : Prop where
  rp : RpE G m H ρ' σ'
  wp : L2.wipe σ' vs = L2.wipe σ vs
  own : ∀ (i : Nat) (ds : List D), ρ'[i]? = some (some (.own ds)) → ρ[i]? = some (some (.own ds)) ∧ σ'[i]? = σ[i]?
def tG (G : Gc) (vs : List Nat) (g : DG) : TG := fun v σ H Q => ∃ m ρ S d, Holds G m H S ∧ RpE G m H ρ σ ∧ Rp G m H d v ∧ ∃ ρ', g d ρ = some ρ' ∧ ∀ σ', Bnds G vs m H ρ σ ρ' σ' → Q σ' H
def tGs (G : Gc) (vs : List Nat) (g : DGs) : TGs := fun v σ H Q => ∃ m ρ S d, Holds G m H S ∧ RpE G m H ρ σ ∧ RpL G m H d v ∧ ∃ ρ', g d ρ = some ρ' ∧ ∀ σ', Bnds G vs m H ρ σ ρ' σ' → Q σ' H
def gN (i : Nat) : DG := fun d ρ => some (ρ.set i (some (.val d)))
def gT (n : Nat) (g : DGs) : DG := fun d ρ => match d with
  | .tup ds => if ds.length = n then g ds ρ else none
  | _ => none
def gs0 : DGs := fun ds ρ => match ds with
  | [] => some ρ
  | _ => none
def gsC (g : DG) (gs : DGs) : DGs := fun ds ρ => match ds with
  | d :: ds => (g d ρ).bind fun ρ => gs ds ρ
  | [] => none
section
variable {G : Gc} {W : WX} {X : Cx} {e a b c tg : Expr} {m m' : Mu} {H H' : Hp} {S : Store} {σ : Sg} {pos p : Pos} {vs : List Nat} {g : DG} {gs : DGs}
theorem pg_imp {t t' : TG} (h : PG X e t) (k : ∀ v σ H Q, t' v σ H Q → t v σ H Q) : PG X e t' := ⟨fun pins s σ H v u Q I r q => h.run pins s σ H v u Q I r (k v σ H Q q)⟩
theorem pgs_imp {es : List Expr} {t t' : TGs} (h : PGs X es t) (k : ∀ v σ H Q, t' v σ H Q → t v σ H Q) : PGs X es t' := ⟨fun pins s σ H v u Q I r q => h.run pins s σ H v u Q I r (k v σ H Q q)⟩
theorem Bnds.refl {ρ : Env} (h : RpE G m H ρ σ) : Bnds G vs m H ρ σ ρ σ := ⟨h, rfl, fun _ _ z => ⟨z, rfl⟩⟩
theorem Bnds.trans {ρ ρ' ρ'' : Env} {σ' σ'' : Sg} (h : Bnds G vs m H ρ σ ρ' σ') (k : Bnds G vs m H ρ' σ' ρ'' σ'') : Bnds G vs m H ρ σ ρ'' σ'' :=
  ⟨k.rp, k.wp.trans h.wp, fun i ds q => let ⟨a, b⟩ := k.own i ds q; let ⟨a', b'⟩ := h.own i ds a; ⟨a', b.trans b'⟩⟩
theorem Bnds.set {ρ : Env} {d : D} {v : V} {i : Nat} (E : RpE G m H ρ σ) (r : Rp G m H d v) (hi : i ∈ vs) : Bnds G vs m H ρ σ (ρ.set i (some (.val d))) (σ.set i (some v)) :=
  ⟨E.set r i, wipe_set hi, fun j ds h => by
    rcases set_get h with ⟨_, _, e⟩ | ⟨e, h⟩
    · cases e
    · exact ⟨h, by rw [List.getElem?_set_ne (fun z => e z.symm)]⟩⟩
theorem jg_name {i : Nat} {x : Str} (hN : X.N.Nodup) (hi : X.N[i]? = some x) (hx : Loc X.env.scope x) (hf : X.fn x = true ∨ X.env.scope.names.lookup x = some .local) (hv : i ∈ vs) : PG X (.Name x pos) (tG G vs (gN i)) :=
  pg_imp (pg_name hN hi hx hf) fun v σ H Q ⟨m, ρ, S, d, hS, hE, r, ρ', e, k⟩ => by
    cases e
    exact k _ (Bnds.set hE r hv)
theorem jgs_nil : PGs X [] (tGs G vs gs0) := pgs_imp pgs_nil fun v σ H Q ⟨m, ρ, S, d, hS, hE, r, ρ', e, k⟩ => by
  unfold gs0 at e
  split at e
  · cases e
    exact ⟨r, k σ (Bnds.refl hE)⟩
  · cases e
def subB : Expr → Bool
  | .Name .. => true
  | .Tuple .. => true
  | .Subscript .. => true
  | .Attribute .. => true
  | _ => false
theorem jgs_cons {es : List Expr} (h1 : PG X e (tG G vs g)) (h2 : PGs X es (tGs G vs gs))
    (hs : (assignEach (e :: es) X.env).map (·.2) = assign e X.env :: (assignEach es X.env).map (·.2) := by rfl) : PGs X (e :: es) (tGs G vs (gsC g gs)) :=
  pgs_imp (pgs_cons h1 h2 hs) fun v σ H Q ⟨m, ρ, S, d, hS, hE, r, ρ', e, k⟩ => by
    unfold gsC at e
    split at e
    · rename_i ds d
      obtain ⟨v1, rest, rfl, r1, r2⟩ := r
      obtain ⟨ρ1, e1, e2⟩ := Option.bind_eq_some_iff.mp e
      refine ⟨v1, rest, rfl, m, ρ, S, _, hS, hE, r1, ρ1, e1, fun σ1 b1 => ?_⟩
      exact ⟨m, ρ1, S, _, hS, b1.rp, r2, ρ', e2, fun σ2 b2 => k σ2 (b1.trans b2)⟩
    · cases e
theorem jg_tup {es : List Expr} {k n : Nat} (hK : X.K = G.K) (hc : X.calm = true) (h : PGs X es (tGs G vs gs))
    (hn : (assignEach es X.env).length = n := by rfl) (hst : (assignEach es X.env).findIdx? (·.1) = none := by rfl) : PG X (.Tuple es k pos) (tG G vs (gT n gs)) :=
  pg_imp (pg_tup hc h hn hst) fun v σ H Q ⟨m, ρ, S, d, hS, hE, r, ρ', e, k⟩ => by
    unfold gT at e
    split at e
    · rename_i ds
      obtain ⟨e0, e⟩ : ds.length = n ∧ gs ds ρ = some ρ' := by
        by_cases q : ds.length = n
        · rw [if_pos q] at e; exact ⟨q, e⟩
        · rw [if_neg q] at e; cases e
      obtain ⟨a, xs, rfl, q1, q2⟩ := r
      exact ⟨a, xs, rfl, by rw [hK]; exact q1.sq, by rw [q2.length, e0], m, ρ, S, ds, hS, hE, q2, ρ', e, k⟩
    · cases e

/-! ### comprehensions -/
def noX {α : Type} : R α → R α
  | .ok a S => .ok a S
  | _ => .bad
theorem aft_noX {α : Type} {r : R α} {Y Y' : XK} {Φ : α → Store → Mu → Hp → Prop} (h : Aft G m H Y (noX r) Φ) : Aft G m H Y' r Φ := by
  cases r with
  | ok a S => exact h
  | exc c S => exact h.elim
  | bad => exact h.elim
/-- the turns of a comprehension: acc is what was put so far -/
def lcRun (g : DG) (t : DT) (e : DE) (ρ : Env) : List D → List D → M (List D)
  | [], acc => fun S => .ok acc S
  | d :: ds, acc => fun S => match g d ρ with
    | none => .bad
    | some ρ' => (t ρ' S).bind fun b S => if b = true then (e ρ' S).bind fun y S => if acc.length < sizeLine then lcRun g t e ρ ds (acc ++ [y]) S else .bad else lcRun g t e ρ ds acc S
def dLc (di : DI) (g : DG) (t : DT) (e : DE) (vs : List Nat) : DA := fun ρ S => (di ρ S).bind fun ds S => noX (lcRun g t e (wipeE ρ vs) ds [] S)
abbrev WN : WX := fun _ _ _ _ => False
theorem AftL.of {α : Type} {r : R α} {k : α → M (List D)} {Y : XK} {Q : VK} (h : AftL G m H Y (r.bind k) Q) : Aft G m H Y r fun a S m' H' => AftL G m' H' Y (k a S) Q := by
  cases r with
  | ok a S =>
    intro m' H' l hS
    have h : AftL G m H Y (k a S) Q := h
    show AftL G m' H' Y (k a S) Q
    cases q : k a S with
    | ok ds S2 =>
      rw [q] at h
      exact fun m2 H2 p l2 hp => h m2 H2 p (l.trans l2) (by
        cases z : nt H p with
        | none => rfl
        | some o => exact absurd hp (l.there p (by rw [z]; simp)))
    | exc c S2 =>
      rw [q] at h
      exact fun m2 H2 l2 => h m2 H2 (l.trans l2)
    | bad =>
      rw [q] at h
      exact h
  | exc c S => exact h
  | bad => exact h
theorem Holds.laid {p : Addr} {o : HO} (h : Holds G m H S) (hp : H p = none) : Holds G m (upd H p o) S := h.same (Same.new hp)
/-- a fresh list joins what one holds -/
theorem Holds.join {p : Addr} {o : HO} {H0 : Hp} {m0 : Mu} (h : Holds G m H S) (l : Le G m0 H0 m H) (hp : H p = none) (ho : nt (upd H p o) p ≠ none) : Holds G (m.add p) (upd H p o) S := by
  have s : Same H (upd H p o) := Same.new hp
  have l2 : Lx G kAll m H (m.add p) (upd H p o) := Lx.add (Le.same s) (nt_none hp)
  refine ⟨h.len, h.nd, fun n ob a e1 e2 => ?_, fun a q => ?_, fun a q => ?_, h.tabs.ext s⟩
  · exact (h.ob n ob a e1 e2).mono (fun o _ => s a o) fun d v r => l2.rp r
  · rcases q with q | q
    · exact h.dis a q
    · subst q
      intro z
      obtain ⟨n, hn⟩ := List.getElem?_of_mem z
      have hl : n < S.length := by rw [← h.len]; exact (List.getElem?_eq_some_iff.mp hn).1
      have w := h.ob n S[n] a (by simp [hl]) hn
      obtain ⟨o, e⟩ := w.some_
      rw [hp] at e; cases e
  · rcases q with q | q
    · exact (Le.same (G := G) (m := m) s).there a (h.there a q)
    · subst q; exact ho
theorem tups_put {K : PySem.W.Frag} {L a : Addr} {ys xs : List V} {o : HO} (h : H L = some (.lst ys)) (t : SqT K H a xs) : SqT K (upd H L o) a xs := by
  have ne : ∀ b u, H b = some u → (∀ zs, u ≠ .lst zs) → b ≠ L := fun b u e n z => by
    subst z
    rw [h] at e; cases e
    exact n ys rfl
  rcases t with (t | ⟨q, t⟩) | t
  · exact .inl (.inl (by rw [upd_ne (ne a _ t (fun _ z => by cases z))]; exact t))
  · exact .inl (.inr ⟨q, by rw [upd_ne (ne a _ t (fun _ z => by cases z))]; exact t⟩)
  · exact .inr t
/-- a thing that is no tuple and not frozen -/
structure NotT (u : HO) : Prop where
  tup : ∀ zs, u ≠ .tup zs
  frz : ∀ q z, u ≠ .frz q z
  tbl : ∀ ps, u ≠ .tbl ps
  ext : ∀ c q, u ≠ LamX.CodeO c q
theorem notT_lst {xs : List V} : NotT (.lst xs) := ⟨(fun _ z => by cases z), (fun _ _ z => by cases z), (fun _ z => by cases z), (fun _ _ z => by unfold LamX.CodeO at z; cases z)⟩
theorem tq_put {L a : Addr} {xs : List V} {u o : HO} (h : H L = some u) (hn : NotT u) (t : Tq G H a xs) : Tq G (upd H L o) a xs := by
  have ne : ∀ b w, H b = some w → ((∃ zs, w = .tup zs) ∨ ∃ q z, w = .frz q z) → b ≠ L := fun b w e n z => by
    subst z
    rw [h] at e; cases e
    rcases n with ⟨zs, n⟩ | ⟨q, z, n⟩
    · exact hn.tup zs n
    · exact hn.frz q z n
  rcases t with t | ⟨(t | ⟨q, t⟩) | t, hl⟩
  · exact .inl (by rw [upd_ne (ne a _ t (.inl ⟨_, rfl⟩))]; exact t)
  · exact .inl (by rw [upd_ne (ne a _ t (.inl ⟨_, rfl⟩))]; exact t)
  · exact .inr ⟨.inl (.inr ⟨q, by rw [upd_ne (ne a _ t (.inr ⟨_, _, rfl⟩))]; exact t⟩), hl⟩
  · exact .inr ⟨.inr t, hl⟩
/-- a list of one's own changes -/
theorem Lx.put {L : Addr} {ys xs : List V} (hO : m.O L) (h : H L = some (.lst ys)) : Lx G (fun a => a ≠ L) m H m (upd H L (.lst xs)) :=
  ⟨⟨[], by simp, by simp⟩, fun a q => .inl q, fun a q _ => q, fun a o e n k => by
    by_cases z : a = L
    · exact absurd z (k (z ▸ hO))
    · rw [nt_ne z]; exact e, fun a xs t => tq_put h notT_lst t, fun a q => by
    by_cases z : a = L
    · subst z; rw [nt_of upd_same fun _ z => by cases z]; simp
    · rw [nt_ne z]; exact q⟩
theorem Holds.put {L : Addr} {ys xs : List V} (hS : Holds G m H S) (hO : m.O L) (h : H L = some (.lst ys)) : Holds G m (upd H L (.lst xs)) S := by
  have l : Lx G (fun a => a ≠ L) m H m (upd H L (.lst xs)) := Lx.put hO h
  refine ⟨hS.len, hS.nd, fun n ob a e1 e2 => ?_, hS.dis, fun a q => l.there a (hS.there a q), tabs_upd hS.tabs h (fun _ z => by cases z) fun _ _ z => by unfold LamX.CodeO at z; cases z⟩
  have ne : a ≠ L := fun z => hS.dis L hO (z ▸ List.mem_of_getElem? e2)
  exact (hS.ob n ob a e1 e2).mono (fun o _ e => by rw [upd_ne ne]; exact e) fun d v r => l.rp r
theorem Le.put {L : Addr} {m1 : Mu} {H1 : Hp} {ys xs : List V} (l : Le G m1 H1 m H) (hL : nt H1 L = none) (h : H L = some (.lst ys)) : Le G m1 H1 m (upd H L (.lst xs)) :=
  ⟨l.as, l.O, fun a o e n => by
    rw [nt_ne (show a ≠ L from fun z => by rw [z, hL] at e; cases e)]
    exact l.kept a o e n, fun a xs t => tq_put h notT_lst (l.tups a xs t), fun a q => by
    by_cases z : a = L
    · subst z; rw [nt_of upd_same fun _ z => by cases z]; simp
    · rw [nt_ne z]; exact l.there a q⟩
/-- behind a comprehension -/
def FinL (G : Gc) (m : Mu) (H : Hp) (L : Addr) (r : R (List D)) (Q : VK) : Prop := match r with
  | .ok ds S => ∀ m' H', Le G m H m' H' → Holds G (m'.add L) H' S → Ol G (m'.add L) H' ds L → Q (.ref L) H'
  | _ => False
theorem getElem_split {α : Type} {ds : List α} {i : Nat} {d : α} (h : ds[i]? = some d) : ds.drop i = d :: ds.drop (i + 1) := by
  obtain ⟨hl, e⟩ := List.getElem?_eq_some_iff.mp h
  rw [List.drop_eq_getElem_cons hl, e]
/-- inside a comprehension: the list at L is the comprehension's alone -/
theorem Le.del {L : Addr} {m1 : Mu} {H1 : Hp} (l : Le G m1 H1 m H) (hD : nt H1 L = none) (k : Le G (m.add L) H m' H') : Le G m1 H1 ⟨m'.as, m.O⟩ H' := by
  have l2 : Lx G kAll m1 H1 (m.add L) H := Lx.add l hD
  have l3 : Lx G kAll m1 H1 m' H' := l2.trans k.lx
  exact ⟨l3.as, l.O, fun a o h n => l3.kept a o h n fun _ => trivial, l3.tups, l3.there⟩
theorem Mu.eta {m' : Mu} {L : Addr} (h : m'.O = (m.add L).O) : (⟨m'.as, m.O⟩ : Mu).add L = m' := by
  cases m' with
  | mk as O =>
    have h : O = (m.add L).O := h
    subst h
    rfl
theorem lcT {di : DI} {t : DT} {de : DE} {ρ : Env} {Q : VK} (vs : List Nat) (hS : Holds G m H S) (hE : RpE G m H ρ σ) (h : AftL G m H (fun c x H' => W c x σ H') (dLc di g t de vs ρ S) Q) :
    tLc (tIw G W di) (tG G vs g) (tT G WN t) (tE G WN de) vs σ H Q := by
  refine ⟨m, ρ, S, hS, hE, (AftL.of h).imp fun ds S1 m1 H1 l1 hS1 h1 J sv => ?_⟩
  intro L hD
  obtain ⟨Gd, Y, wk, hGd, hY⟩ := sv
  have sD : Same H1 (upd H1 L (.lst [])) := Same.new hD
  have fin : FinL G m1 H1 L (lcRun g t de (wipeE ρ vs) ds [] S1) Q := by
    revert h1
    cases q : lcRun g t de (wipeE ρ vs) ds [] S1 with
    | ok r S2 => exact fun h1 m' H' l hS' ho => h1 m' H' L l (nt_none hD) hS' ho
    | exc c S2 => exact fun h1 => h1.elim
    | bad => exact fun h1 => h1.elim
  refine lc_it wk (fun i H2 => ∃ m2 acc S2, Le G m1 H1 m2 H2 ∧ Holds G (m2.add L) H2 S2 ∧ Ol G (m2.add L) H2 acc L ∧ FinL G m1 H1 L (lcRun g t de (wipeE ρ vs) (ds.drop i) acc S2) Q) ?_ ?_ ?_ ?_
  · refine ⟨m1, [], S1, Le.same sD, hS1.join Le.refl hD (by rw [nt_of upd_same fun _ z => by cases z]; simp), ⟨[], upd_same, rfl⟩, fin⟩
  · rintro i H2 hi ⟨m2, acc, S2, l2, _⟩
    exact hGd _ H2 (Lx.add l2 (nt_none hD))
  · rintro i x H2 H3 hi ⟨m2, acc, S2, l2, hS2, ho, fn⟩ y
    have lx2 : Lx G kAll m1 H1 (m2.add L) H2 := Lx.add l2 (nt_none hD)
    obtain ⟨s3, d, hd, rd⟩ := hY _ H2 i x H3 lx2 hi y
    rw [getElem_split hd] at fn
    have hE3 : RpE G (m2.add L) H3 (wipeE ρ vs) (L2.wipe σ vs) := ((hE.le l1).lx (lx2.trans (Le.same s3).lx)).wipe vs
    have hS3 : Holds G (m2.add L) H3 S2 := hS2.same s3
    have l3 : Le G m1 H1 m2 H3 := l2.trans (Le.same s3)
    have ho3 : Ol G (m2.add L) H3 acc L := by
      obtain ⟨xs, e, q⟩ := ho
      exact ⟨xs, s3 _ _ e, (Le.same s3).rpL q⟩
    unfold lcRun at fn
    cases hgd : g d (wipeE ρ vs) with
    | none => rw [hgd] at fn; exact fn.elim
    | some ρ' =>
      rw [hgd] at fn
      refine ⟨m2.add L, wipeE ρ vs, S2, d, hS3, hE3, rd _ lx2, ρ', hgd, fun σ' bn => ⟨bn.wp.trans wipe_wipe, m2.add L, ρ', S2, hS3, bn.rp, ?_⟩⟩
      dsimp only at fn
      cases ht : t ρ' S2 with
      | exc c S => rw [ht] at fn; exact fn.elim
      | bad => rw [ht] at fn; exact fn.elim
      | ok b S4 =>
        rw [ht] at fn ⊢
        intro m4 H4 l4 hS4
        have l34 := Le.del l3 (nt_none hD) l4
        cases b with
        | false =>
          refine iteF ?_
          refine ⟨⟨m4.as, m2.O⟩, acc, S4, l34, by rw [Mu.eta l4.O]; exact hS4, ?_, fn⟩
          rw [Mu.eta l4.O]
          exact l4.ol (hS3.dis L (.inr rfl)) ho3
        | true =>
          refine iteT ?_
          have fn : FinL G m1 H1 L ((de ρ' S4).bind fun y S => if acc.length < sizeLine then lcRun g t de (wipeE ρ vs) (ds.drop (i + 1)) (acc ++ [y]) S else .bad) Q := fn
          refine ⟨m4, ρ', S4, hS4, bn.rp.le l4, ?_⟩
          cases hd : de ρ' S4 with
          | exc c S => rw [hd] at fn; exact fn.elim
          | bad => rw [hd] at fn; exact fn.elim
          | ok y S5 =>
            rw [hd] at fn ⊢
            have fn : FinL G m1 H1 L (if acc.length < sizeLine then lcRun g t de (wipeE ρ vs) (ds.drop (i + 1)) (acc ++ [y]) S5 else .bad) Q := fn
            intro m5 H5 l5 hS5 v rv
            by_cases hz : acc.length < sizeLine
            · rw [if_pos hz] at fn
              have l35 := Le.del l3 (nt_none hD) (l4.trans l5)
              have nD : L ∉ m5.as := hS5.dis L (by rw [l5.O, l4.O]; exact .inr rfl)
              obtain ⟨xs, e, q⟩ := (l4.trans l5).ol (hS3.dis L (.inr rfl)) ho3
              refine ⟨xs, e, by rw [q.length]; exact hz, ⟨m5.as, m2.O⟩, acc ++ [y], S5, ?_, ?_, ?_, fn⟩
              · exact l35.put (nt_none hD) e
              · rw [Mu.eta (l5.O.trans l4.O)]
                exact hS5.put (by rw [l5.O, l4.O]; exact .inr rfl) e
              · rw [Mu.eta (l5.O.trans l4.O)]
                exact ⟨xs ++ [v], upd_same, (Lx.put (by rw [l5.O, l4.O]; exact .inr rfl) e).rpL (q.append ⟨v, [], rfl, rv, rfl⟩)⟩
            · rw [if_neg hz] at fn; exact fn.elim
  · rintro H2 ⟨m2, acc, S2, l2, hS2, ho, fn⟩
    rw [show ds.drop ds.length = [] by simp] at fn
    exact fn m2 H2 l2 hS2 ho
theorem je_lc {elt iter : Expr} {scope : Scope} {own : List (Str × Nat)} {ifs : List Expr} {di : DI} {t : DT} {de : DE} (hc : X.calm = true) (hN : X.N.Nodup) (hi : PI X tg iter (tIw G W di)) (ok : BlkOk X.N X.env.scope scope own)
    (hg : ∀ (s : Shared) (H : Hp) (C : Addr) (cl : List (Str × Addr)) (fp : List Addr), PG (X.blk s H scope (compEnvC scope cl C X.env) fp) tg (tG G (own.map (·.2)) g)) (ht : ∀ (s : Shared) (H : Hp) (C : Addr) (cl : List (Str × Addr)) (fp : List Addr), PTs (X.blk s H scope (compEnvC scope cl C X.env) fp) ifs (tT G WN t))
    (he : ∀ (s : Shared) (H : Hp) (C : Addr) (cl : List (Str × Addr)) (fp : List Addr), PE (X.blk s H scope (compEnvC scope cl C X.env) fp) elt (tE G WN de)) (hs : ∀ x, foldedSetIterable iter X.env x = pure x) :
    PE X (.ListComp elt [⟨tg, iter, ifs, 0⟩] scope pos) (tL G W (dLc di g t de (own.map (·.2)))) := by
  refine pe_imp (pe_lc hc hN hi ok hg ht he hs) fun σ H Q ⟨m, ρ, S, hS, hE, h⟩ => ?_
  exact lcT (own.map (·.2)) hS hE h
end
end Py

/-! Part 9: calls of what is built in. -/
namespace L2
open PySem PySem.Spec PyProof.Rows
/-- set(t), t a tuple of ints -/
def rSetTI (K : PySem.W.Frag) (w : World) : List V → Hp → VK → Prop := fun xs H Q => ∃ (p : Addr) (ns : List Int), xs = [.ref p] ∧ SqT K H p (ns.map V.int) ∧ ns.length ≤ 1000 ∧
  ∀ (a : Addr) (S : Int → Bool) (n : Nat), H a = none → (∀ k : Int, S k = decide (k ∈ ns)) → n ≤ ns.length → Q (.ref a) (upd H a (SetO w a S n))
theorem cr_setTI {X : Cx} (hc : X.calm = true) : CallR X (.type "set") (rSetTI X.K X.w) := by
  intro pins s σ H xs us Q I r h
  obtain ⟨p, ns, rfl, hq, hl, q⟩ := h
  rw [Vals.ref1 r]
  obtain ⟨its, rv, pt, hz⟩ := I.tuple hq
  have hi : IntsAre its.toArray.toList ns := ints_of_vals rv
  refine call_set_tupI ns (I.ok.hd hc) (show s.heap.IsTuple p its.toArray from pt) hi (by unfold scanBound; omega) fun h' tk c R hcn k => ?_
  exact ⟨.ref s.heap.objs.size, upd H s.heap.objs.size (SetO X.w s.heap.objs.size (fun j => decide (j ∈ ns)) c), I.laid (t' := tk) k (Nat.le_refl _) (setO_new R), rfl, q _ _ _ (I.hok.fresh (Nat.le_refl _)) (fun _ => rfl) hcn⟩
end L2
namespace Py
open PySem PySem.Spec PyProof.Rows L2

/-! ### results -/
def pLen (S : Store) : List D → Option D
  | [.str z] => if z.length ≤ sizeLine then some (.int (z.length : Nat)) else none
  | [d] => (seqOf S d).map fun ds => .int (ds.length : Nat)
  | _ => none
def pInt (_ : Store) : List D → Option D
  | [.int i] => some (.int i)
  | [.bl b] => some (.int (if b then 1 else 0))
  | [.str z] => if z.length ≤ 640 then (PySem.intText? z).map .int else none
  | _ => none
def pAbs (_ : Store) : List D → Option D
  | [.int i] => some (.int (if i < 0 then -i else i))
  | _ => none
def pStr (_ : Store) : List D → Option D
  | [.int i] => if i.natAbs.log2 < 1920 then some (.str (toString i)) else none
  | [.str z] => some (.str z)
  | _ => none
def intsD : List D → Option (List Int)
  | [] => some []
  | .int i :: ds => (intsD ds).map (i :: ·)
  | _ => none
def blsD : List D → Option (List Bool)
  | [] => some []
  | .bl i :: ds => (blsD ds).map (i :: ·)
  | _ => none
def maxI : List Int → Int
  | [] => 0
  | [x] => x
  | x :: xs => let m := maxI xs; if m > x then m else x
def minI : List Int → Int
  | [] => 0
  | [x] => x
  | x :: xs => let m := minI xs; if m < x then m else x
def pMax (_ : Store) : List D → Option D
  | [.int i, .int j] => some (.int (if j > i then j else i))
  | [.lst ds] => (intsD ds).bind fun ns => if ns = [] then none else some (.int (maxI ns))
  | _ => none
def pMin (_ : Store) : List D → Option D
  | [.int i, .int j] => some (.int (if j < i then j else i))
  | [.lst ds] => (intsD ds).bind fun ns => if ns = [] then none else some (.int (minI ns))
  | _ => none
def pSum (_ : Store) : List D → Option D
  | [.lst ds] => (intsD ds).map fun ns => .int ns.sum
  | _ => none
def pAll (_ : Store) : List D → Option D
  | [.lst ds] => (blsD ds).map fun bs => .bl (bs.all id)
  | _ => none
def pAny (_ : Store) : List D → Option D
  | [.lst ds] => (blsD ds).map fun bs => .bl (bs.any id)
  | _ => none
def pTuple (_ : Store) : List D → Option D
  | [.lst ds] => some (.tup ds)
  | [.tup ds] => some (.tup ds)
  | _ => none
/-- the built-in type of a value -/
def tyD : D → Option String
  | .non => some "NoneType"
  | .bl _ => some "bool"
  | .int _ => some "int"
  | .str _ => some "str"
  | .tup _ => some "tuple"
  | .lst _ => some "list"
  | .emp => some "dict"
  | .pt0 => none
  | _ => none
def pIsi (_ : Store) : List D → Option D
  | [d, .ty t] => (tyD d).bind fun a => (kitB a t).map .bl
  | _ => none
def pOrd (_ : Store) : List D → Option D
  | [.str z] => if z.length = 1 then some (.int (z.cps.getD 0 0 : Nat)) else none
  | _ => none
section
variable {G : Gc} {W : WX} {X : Cx} {e a b c tg : Expr} {m m' : Mu} {H H' : Hp} {S : Store} {σ : Sg} {pos p : Pos}
theorem intsD_map : ∀ {ds : List D} {ns : List Int}, intsD ds = some ns → ds = ns.map D.int
  | [], ns, h => by cases h; rfl
  | d :: ds, ns, h => by
    cases d <;> simp only [intsD] at h <;> first | cases h; done | skip
    obtain ⟨r, e, e2⟩ := Option.map_eq_some_iff.mp h
    subst e2
    rw [intsD_map e]; rfl
theorem blsD_map : ∀ {ds : List D} {ns : List Bool}, blsD ds = some ns → ds = ns.map D.bl
  | [], ns, h => by cases h; rfl
  | d :: ds, ns, h => by
    cases d <;> simp only [blsD] at h <;> first | cases h; done | skip
    obtain ⟨r, e, e2⟩ := Option.map_eq_some_iff.mp h
    subst e2
    rw [blsD_map e]; rfl
theorem RpL.ints : ∀ {ns : List Int} {xs : List V}, RpL G m H (ns.map D.int) xs → xs = ns.map V.int
  | [], _, h => h
  | n :: ns, _, ⟨v, r, e, h1, h2⟩ => by
    subst e
    obtain rfl : v = V.int n := h1
    rw [RpL.ints h2]; rfl
theorem RpL.bls : ∀ {ns : List Bool} {xs : List V}, RpL G m H (ns.map D.bl) xs → xs = ns.map V.bl
  | [], _, h => h
  | n :: ns, _, ⟨v, r, e, h1, h2⟩ => by
    subst e
    obtain rfl : v = V.bl n := h1
    rw [RpL.bls h2]; rfl
theorem RpL.ofInts : ∀ (ns : List Int), RpL G m H (ns.map D.int) (ns.map V.int)
  | [] => rfl
  | n :: ns => ⟨_, _, rfl, rfl, RpL.ofInts ns⟩
theorem maxI_mem : ∀ {ns : List Int}, ns ≠ [] → maxI ns ∈ ns ∧ ∀ y ∈ ns, y ≤ maxI ns
  | [], h => absurd rfl h
  | [x], _ => by simp [maxI]
  | x :: y :: r, _ => by
    obtain ⟨h1, h2⟩ := maxI_mem (ns := y :: r) (by simp)
    have e : maxI (x :: y :: r) = if maxI (y :: r) > x then maxI (y :: r) else x := rfl
    rw [e]
    split
    · exact ⟨List.mem_cons_of_mem _ h1, fun z hz => by
        rcases List.mem_cons.mp hz with q | q
        · subst q; omega
        · exact h2 z q⟩
    · exact ⟨List.mem_cons_self, fun z hz => by
        rcases List.mem_cons.mp hz with q | q
        · subst q; omega
        · have := h2 z q; omega⟩
theorem minI_mem : ∀ {ns : List Int}, ns ≠ [] → minI ns ∈ ns ∧ ∀ y ∈ ns, minI ns ≤ y
  | [], h => absurd rfl h
  | [x], _ => by simp [minI]
  | x :: y :: r, _ => by
    obtain ⟨h1, h2⟩ := minI_mem (ns := y :: r) (by simp)
    have e : minI (x :: y :: r) = if minI (y :: r) < x then minI (y :: r) else x := rfl
    rw [e]
    split
    · exact ⟨List.mem_cons_of_mem _ h1, fun z hz => by
        rcases List.mem_cons.mp hz with q | q
        · subst q; omega
        · exact h2 z q⟩
    · exact ⟨List.mem_cons_self, fun z hz => by
        rcases List.mem_cons.mp hz with q | q
        · subst q; omega
        · have := h2 z q; omega⟩
theorem RtL.one {d : D} {vs : List V} (h : RtL G m H [d] vs) : ∃ v, vs = [v] ∧ Rt G m H d v := by
  obtain ⟨v, r, e, q, r0⟩ := h
  obtain rfl : r = [] := r0
  exact ⟨v, e, q⟩
theorem RtL.two {d d' : D} {vs : List V} (h : RtL G m H [d, d'] vs) : ∃ v v', vs = [v, v'] ∧ Rt G m H d v ∧ Rt G m H d' v' := by
  obtain ⟨v, r, e, q, v', r', e', q', r0⟩ := h
  subst e'
  obtain rfl : r' = [] := r0
  exact ⟨v, v', e, q, q'⟩
theorem c_len (hK : X.K = G.K) : CallR X (.builtin "len") (rC G pLen) := callr_imp call_len fun vs H Q ⟨m, S, ds, r, hS, hr, hf, k⟩ => by
  match ds, hr, hf with
  | [], hr, hf => cases hf
  | d :: d' :: t, hr, hf => cases d <;> cases hf
  | [d], hr, hf =>
    obtain ⟨v, rfl, rv⟩ := hr.one
    have gen : ∀ es, seqOf S d = some es → r = .int (es.length : Nat) → ∃ x n, [v] = [x] ∧ LenV X.K x H n ∧ Q (.int n) H := fun es h1 h2 => by
      subst h2
      obtain ⟨p, xs, rfl, q1, q2⟩ := seq_ok hS h1 rv
      refine ⟨.ref p, xs.length, rfl, ?_, k.here hS (v := .int _) (by rw [q2.length]; rfl)⟩
      rw [hK]
      rcases q1 with q1 | q1
      · exact .inl ⟨xs, q1, rfl⟩
      · exact .inr ⟨xs, q1, rfl⟩
    cases d with
    | str z =>
      have hf : (if z.length ≤ sizeLine then some (D.int (z.length : Nat)) else none) = some r := hf
      obtain ⟨hz, rfl⟩ := some_ifp hf
      exact ⟨.str z, z.length, by rw [show v = V.str z from rv], ⟨hz, rfl⟩, k.here hS (v := .int _) rfl⟩
    | _ =>
      simp only [pLen, Option.map_eq_some_iff] at hf
      obtain ⟨es, h1, h2⟩ := hf
      exact gen es h1 h2.symm
theorem c_int : CallR X (.type "int") (rC G pInt) := callr_imp (CallR.or call_int1 call_int_str) fun vs H Q ⟨m, S, ds, r, hS, hr, hf, k⟩ => by
  unfold pInt at hf
  split at hf
  · cases hf
    obtain ⟨v, rfl, rv⟩ := hr.one
    obtain rfl : v = V.int _ := rv
    exact .inl (.inl ⟨_, rfl, k.here hS (v := .int _) rfl⟩)
  · cases hf
    obtain ⟨v, rfl, rv⟩ := hr.one
    obtain rfl : v = V.bl _ := rv
    exact .inl (.inr ⟨_, rfl, k.here hS (v := .int _) rfl⟩)
  · rename_i z
    obtain ⟨hz, hf⟩ : z.length ≤ 640 ∧ (PySem.intText? z).map D.int = some r := by
      by_cases hz : z.length ≤ 640
      · rw [if_pos hz] at hf; exact ⟨hz, hf⟩
      · rw [if_neg hz] at hf; cases hf
    obtain ⟨n, e, rfl⟩ := Option.map_eq_some_iff.mp hf
    obtain ⟨v, rfl, rv⟩ := hr.one
    obtain rfl : v = V.str _ := rv
    exact .inr ⟨_, n, rfl, e, hz, k.here hS (v := .int _) rfl⟩
  · cases hf
theorem c_abs : CallR X (.builtin "abs") (rC G pAbs) := callr_imp call_abs fun vs H Q ⟨m, S, ds, r, hS, hr, hf, k⟩ => by
  unfold pAbs at hf
  split at hf
  · cases hf
    obtain ⟨v, rfl, rv⟩ := hr.one
    obtain rfl : v = V.int _ := rv
    exact ⟨_, rfl, k.here hS (v := .int _) rfl⟩
  · cases hf
theorem c_ord : CallR X (.builtin "ord") (rC G pOrd) := callr_imp call_ord fun vs H Q ⟨m, S, ds, r, hS, hr, hf, k⟩ => by
  unfold pOrd at hf
  split at hf
  · obtain ⟨hz, rfl⟩ := some_ifp hf
    obtain ⟨v, rfl, rv⟩ := hr.one
    obtain rfl : v = V.str _ := rv
    exact ⟨_, rfl, hz, k.here hS (v := .int _) rfl⟩
  · cases hf
theorem c_max (hc : X.calm = true) (hK : X.K = G.K) : CallR X (.builtin "max") (rC G pMax) := callr_imp (CallR.or (call_max2 hc) (cr_max hc)) fun vs H Q ⟨m, S, ds, r, hS, hr, hf, k⟩ => by
  unfold pMax at hf
  split at hf
  · cases hf
    obtain ⟨v, v', rfl, rv, rv'⟩ := hr.two
    obtain rfl : v = V.int _ := rv
    obtain rfl : v' = V.int _ := rv'
    exact .inl ⟨_, _, rfl, k.here hS (v := .int _) rfl⟩
  · obtain ⟨ns, e, hf⟩ := Option.bind_eq_some_iff.mp hf
    obtain ⟨hn, hf⟩ : ns ≠ [] ∧ some (D.int (maxI ns)) = some r := by
      split at hf
      · cases hf
      · exact ⟨by assumption, hf⟩
    cases hf
    obtain ⟨v, rfl, rv⟩ := hr.one
    obtain ⟨a, xs, rfl, q1, _, q2⟩ := rv
    rw [intsD_map e] at q2
    obtain rfl := q2.ints
    refine .inr ⟨a, ns, rfl, by rw [hK]; exact SqL.of q1, List.length_pos_iff.mpr hn, fun z h1 h2 => ?_⟩
    obtain ⟨m1, m2⟩ := maxI_mem hn
    have : z = maxI ns := Int.le_antisymm (m2 z h1) (h2 _ m1)
    subst this
    exact k.here hS (v := .int _) rfl
  · cases hf
theorem c_min (hc : X.calm = true) (hK : X.K = G.K) : CallR X (.builtin "min") (rC G pMin) := callr_imp (CallR.or (call_min2 hc) (cr_min hc)) fun vs H Q ⟨m, S, ds, r, hS, hr, hf, k⟩ => by
  unfold pMin at hf
  split at hf
  · cases hf
    obtain ⟨v, v', rfl, rv, rv'⟩ := hr.two
    obtain rfl : v = V.int _ := rv
    obtain rfl : v' = V.int _ := rv'
    exact .inl ⟨_, _, rfl, k.here hS (v := .int _) rfl⟩
  · obtain ⟨ns, e, hf⟩ := Option.bind_eq_some_iff.mp hf
    obtain ⟨hn, hf⟩ : ns ≠ [] ∧ some (D.int (minI ns)) = some r := by
      split at hf
      · cases hf
      · exact ⟨by assumption, hf⟩
    cases hf
    obtain ⟨v, rfl, rv⟩ := hr.one
    obtain ⟨a, xs, rfl, q1, _, q2⟩ := rv
    rw [intsD_map e] at q2
    obtain rfl := q2.ints
    refine .inr ⟨a, ns, rfl, by rw [hK]; exact SqL.of q1, List.length_pos_iff.mpr hn, fun z h1 h2 => ?_⟩
    obtain ⟨m1, m2⟩ := minI_mem hn
    have : z = minI ns := Int.le_antisymm (h2 _ m1) (m2 z h1)
    subst this
    exact k.here hS (v := .int _) rfl
  · cases hf
theorem c_sum (hc : X.calm = true) (hK : X.K = G.K) : CallR X (.builtin "sum") (rC G pSum) := callr_imp (cr_sum hc) fun vs H Q ⟨m, S, ds, r, hS, hr, hf, k⟩ => by
  unfold pSum at hf
  split at hf
  · obtain ⟨ns, e, rfl⟩ := Option.map_eq_some_iff.mp hf
    obtain ⟨v, rfl, rv⟩ := hr.one
    obtain ⟨a, xs, rfl, q1, _, q2⟩ := rv
    rw [intsD_map e] at q2
    obtain rfl := q2.ints
    exact ⟨a, ns, rfl, by rw [hK]; exact SqL.of q1, k.here hS (v := .int _) rfl⟩
  · cases hf
theorem c_all (hc : X.calm = true) (hK : X.K = G.K) : CallR X (.builtin "all") (rC G pAll) := callr_imp (cr_all hc) fun vs H Q ⟨m, S, ds, r, hS, hr, hf, k⟩ => by
  unfold pAll at hf
  split at hf
  · obtain ⟨ns, e, rfl⟩ := Option.map_eq_some_iff.mp hf
    obtain ⟨v, rfl, rv⟩ := hr.one
    obtain ⟨a, xs, rfl, q1, _, q2⟩ := rv
    rw [blsD_map e] at q2
    obtain rfl := q2.bls
    exact ⟨a, ns, rfl, by rw [hK]; exact SqL.of q1, k.here hS (v := .bl _) rfl⟩
  · cases hf
theorem c_any (hc : X.calm = true) (hK : X.K = G.K) : CallR X (.builtin "any") (rC G pAny) := callr_imp (cr_any hc) fun vs H Q ⟨m, S, ds, r, hS, hr, hf, k⟩ => by
  unfold pAny at hf
  split at hf
  · obtain ⟨ns, e, rfl⟩ := Option.map_eq_some_iff.mp hf
    obtain ⟨v, rfl, rv⟩ := hr.one
    obtain ⟨a, xs, rfl, q1, _, q2⟩ := rv
    rw [blsD_map e] at q2
    obtain rfl := q2.bls
    exact ⟨a, ns, rfl, by rw [hK]; exact SqL.of q1, k.here hS (v := .bl _) rfl⟩
  · cases hf
theorem c_tuple (hK : X.K = G.K) : CallR X (.type "tuple") (rC G pTuple) := callr_imp call_tuple_of fun vs H Q ⟨m, S, ds, r, hS, hr, hf, k⟩ => by
  unfold pTuple at hf
  split at hf
  · cases hf
    obtain ⟨v, rfl, rv⟩ := hr.one
    obtain ⟨a, xs, rfl, q1, _, q2⟩ := rv
    exact ⟨a, xs, rfl, .inl ⟨by rw [hK]; exact SqL.of q1, fun l hl => k.new hS hl ⟨l, xs, rfl, Tq.of upd_same, (Le.same (Same.new hl)).rpL q2⟩⟩⟩
  · cases hf
    obtain ⟨v, rfl, rv⟩ := hr.one
    obtain ⟨a, xs, rfl, q1, q2⟩ := rv
    exact ⟨a, xs, rfl, .inr ⟨by rw [hK]; exact q1.sq, k.here hS (v := .ref a) ⟨a, xs, rfl, q1, q2⟩⟩⟩
  · cases hf
theorem tyx {d : D} {v : V} {n : String} (h : tyD d = some n) (r : Rt G m H d v) : TyX G.K H v (.type n) := by
  cases d <;> simp only [tyD] at h <;> first | cases h; done | skip
  · cases h; obtain rfl : v = _ := r; exact .base .non
  · cases h; obtain rfl : v = _ := r; exact .base (.bl _)
  · cases h; obtain rfl : v = _ := r; exact .base (.int _)
  · cases h; obtain rfl : v = _ := r; exact .base (.str _)
  · cases h
    obtain ⟨a, xs, rfl, q1, _⟩ := r
    rcases q1.sq with (q1 | ⟨o, q1⟩) | ⟨o, its, n, q1, q2, _⟩
    · exact .base (.tup q1)
    · exact .fTuple q1
    · exact .kTuple q1 q2
  · cases h
    obtain ⟨a, xs, rfl, q1, _⟩ := r
    exact .base (.lst q1)
  · cases h
    obtain ⟨a, rfl, q1, _⟩ := r
    exact .base (.dK q1)
theorem c_isi (hK : X.K = G.K) : CallR X (.builtin "isinstance") (rC G pIsi) := callr_imp call_isi fun vs H Q ⟨m, S, ds, r, hS, hr, hf, k⟩ => by
  unfold pIsi at hf
  split at hf
  · obtain ⟨a, e, hf⟩ := Option.bind_eq_some_iff.mp hf
    obtain ⟨b, e2, rfl⟩ := Option.map_eq_some_iff.mp hf
    obtain ⟨v, v', rfl, rv, rv'⟩ := hr.two
    obtain rfl : v' = V.ty _ := rv'
    exact ⟨v, _, _, _, b, rfl, .ty _, by rw [hK]; exact tyx e rv, kit_ty e2, k.here hS (v := .bl _) rfl⟩
  · cases hf
theorem tCB_of {f : Store → List D → Option D} {r : DA} {Q : VK} (h : tE G W (dPr f r) σ H Q) : tCB (rC G f) (tB G W r) σ H Q := by
  obtain ⟨m, ρ, S, hS, hE, h⟩ := h
  refine ⟨m, ρ, S, hS, hE, (Aft.bind h).imp fun xs S1 m1 H1 l1 hS1 h1 vs rvs => ?_⟩
  obtain ⟨d, e, k⟩ := aft_opt h1
  exact ⟨m1, S1, xs, d, hS1, rvs, e, k⟩
theorem je_callB {id x : String} {f : Store → List D → Option D} {es : List Expr} {r : DA} (hc : CallR X (.builtin id) (rC G f)) (hg : Gl X x) (hm : X.mg x = none) (hv : bootBuiltins x = some (.builtin id)) (ha : PA X (e :: es) (tB G W r)) (hs : (e :: es).any starB = false)
    (hn : (x : Str) ≠ "__name__" := by decide) (hdb : ((x : Str) == ("__debug__" : Str)) = false := by decide) : PE X (.Call (.Name x p) (e :: es) [] pos) (tE G W (dPr f r)) := by
  rw [List.any_cons, Bool.or_eq_false_iff] at hs
  exact pe_imp (pe_callB hc hg hm hv ha hn hdb (starEach_plain hs.1) (backTo_plain hs.2)) fun _ _ _ h => tCB_of h
theorem je_callT {id x : String} {f : Store → List D → Option D} {es : List Expr} {r : DA} (hc : CallR X (.type id) (rC G f)) (hg : Gl X x) (hm : X.mg x = none) (hv : bootBuiltins x = some (.type id)) (ha : PA X (e :: es) (tB G W r)) (hs : (e :: es).any starB = false)
    (hn : (x : Str) ≠ "__name__" := by decide) (hdb : ((x : Str) == ("__debug__" : Str)) = false := by decide) : PE X (.Call (.Name x p) (e :: es) [] pos) (tE G W (dPr f r)) := by
  rw [List.any_cons, Bool.or_eq_false_iff] at hs
  exact pe_imp (pe_callTy hc hg hm hv ha hn hdb (starEach_plain hs.1) (backTo_plain hs.2)) fun _ _ _ h => tCB_of h
/-! ### what makes a new list -/
/-- a new list of ds -/
theorem AftL.new {ds : List D} {vs : List V} {Y : XK} {Q : VK} (h : AftL G m H Y (.ok ds S) Q) (hS : Holds G m H S) (r : RpL G m H ds vs) {l : Addr} (hl : H l = none) : Q (.ref l) (upd H l (.lst vs)) := by
  have s : Same H (upd H l (.lst vs)) := Same.new hl
  have lx : Lx G kAll m H (m.add l) (upd H l (.lst vs)) := Lx.add (Le.same s) (nt_none hl)
  refine h m _ l (Le.same s) (nt_none hl) ?_ ⟨vs, upd_same, lx.rpL r⟩
  exact hS.join Le.refl hl (by rw [nt_of upd_same fun _ z => by cases z]; simp)
def qList (_ : Store) : List D → Option (List D)
  | [.lst ds] => some ds
  | [.tup ds] => some ds
  | _ => none
def dPrL (f : Store → List D → Option (List D)) (r : DA) : DA := fun ρ S => (r ρ S).bind fun xs S => optM (f S xs) S
theorem aftL_opt {r : Option (List D)} {Y : XK} {Q : VK} (h : AftL G m H Y (optM r S) Q) : ∃ ds, r = some ds ∧ AftL G m H Y (.ok ds S) Q := by
  cases r with
  | none => exact h.elim
  | some d => exact ⟨d, rfl, h⟩
/-- [a, b, ..] -/
theorem jl_lst {es : List Expr} {r : DA} {k : Nat} (ha : PA X es (tA G W r)) : PE X (.List es pos) (tL G W (fun ρ S => (r ρ S).bind fun xs S => if xs.length ≤ sizeLine then .ok xs S else .bad)) :=
  pe_imp (pe_lst ha) fun σ H Q ⟨m, ρ, S, hS, hE, h⟩ => ⟨m, ρ, S, hS, hE, (AftL.of h).imp fun xs S1 m1 H1 l1 hS1 h1 vs rvs => by
    by_cases hz : xs.length ≤ sizeLine
    · rw [if_pos hz] at h1
      exact ⟨by rw [rvs.length]; exact hz, fun p hp => AftL.new h1 hS1 rvs hp⟩
    · rw [if_neg hz] at h1; exact h1.elim⟩
/-- list(x) -/
theorem jl_list {r : DA} {es : List Expr} (hK : X.K = G.K) (hg : Gl X "list") (hm : X.mg "list" = none) (ha : PA X (e :: es) (tB G W r)) (hs : (e :: es).any starB = false) : PE X (.Call (.Name "list" p) (e :: es) [] pos) (tL G W (dPrL qList r)) := by
  rw [List.any_cons, Bool.or_eq_false_iff] at hs
  exact pe_imp (pe_callTy call_list_of hg hm PyProof.Rows.boot_list ha (by decide) (by decide) (starEach_plain hs.1) (backTo_plain hs.2)) fun σ H Q ⟨m, ρ, S, hS, hE, h⟩ => ⟨m, ρ, S, hS, hE, (AftL.of h).imp fun xs S1 m1 H1 l1 hS1 h1 vs rvs => by
    obtain ⟨ds, e, h1⟩ := aftL_opt h1
    unfold qList at e
    split at e
    · cases e
      obtain ⟨v, rfl, rv⟩ := rvs.one
      obtain ⟨a, xs, rfl, q1, _, q2⟩ := rv
      exact ⟨a, xs, rfl, .inl (by rw [hK]; exact SqL.of q1), fun l hl => AftL.new h1 hS1 q2 hl⟩
    · cases e
      obtain ⟨v, rfl, rv⟩ := rvs.one
      obtain ⟨a, xs, rfl, q1, q2⟩ := rv
      exact ⟨a, xs, rfl, .inr (by rw [hK]; exact q1.sq), fun l hl => AftL.new h1 hS1 q2 hl⟩
    · cases e⟩
/-- list(range(a)) -/
def lrg (d : D) : Option (List D) := match d with
  | .int j => if j.natAbs ≤ 2 ^ 24 then some (rgD 0 j.toNat) else none
  | _ => none
def dLrg (d : DE) : DA := fun ρ S => (d ρ S).bind fun x S => optM (lrg x) S
theorem rgV_eq (a b : Int) : RpL G m H (rgD a (b - a).toNat) (rgV a b) := by
  unfold rgD rgV
  induction (List.range (b - a).toNat) with
  | nil => exact rfl
  | cons i l ih => exact ⟨_, _, rfl, rfl, ih⟩
theorem jl_rg {d : DE} {p2 q : Pos} (hc : X.calm = true) (hg : Gl X "list") (hm : X.mg "list" = none) (hg2 : Gl X "range") (hm2 : X.mg "range" = none) (ha : PE X a (tE G W d)) (hs : starB a = false) :
    PE X (.Call (.Name "list" p) [.Call (.Name "range" p2) [a] [] q] [] pos) (tL G W (dLrg d)) :=
  pe_imp (pe_listRg hc hg hm (prg_1 hg2 hm2 ha (starEach_plain hs)) (by rfl)) fun σ H Q ⟨m, ρ, S, hS, hE, h⟩ => ⟨m, ρ, S, hS, hE, (AftL.of h).imp fun x S1 m1 H1 l1 hS1 h1 v rv => by
    obtain ⟨ds, e, h1⟩ := aftL_opt h1
    unfold lrg at e
    split at e
    · rename_i j
      obtain ⟨b1, e⟩ := some_ifp e
      subst e
      refine ⟨j, rv, ⟨by omega, by omega, by omega, by omega, by omega⟩, fun l hl => AftL.new h1 hS1 ?_ hl⟩
      have := rgV_eq (G := G) (m := m1) (H := H1) 0 j
      rw [Int.sub_zero] at this
      exact this
    · cases e⟩
/-- sorted(set(t)), t a tuple of ints -/
def insI (x : Int) : List Int → List Int
  | [] => [x]
  | y :: ys => if x < y then x :: y :: ys else if x = y then y :: ys else y :: insI x ys
def setI : List Int → List Int
  | [] => []
  | x :: xs => insI x (setI xs)
theorem insI_mem {x k : Int} : ∀ {ys : List Int}, k ∈ insI x ys ↔ k = x ∨ k ∈ ys
  | [] => by simp [insI]
  | y :: ys => by
    unfold insI
    split
    · simp
    · split
      · rename_i h; subst h; simp
      · simp only [List.mem_cons, insI_mem (ys := ys)]
        constructor
        · rintro (h | h | h) <;> simp [h]
        · rintro (h | h | h) <;> simp [h]
theorem insI_pw {x : Int} : ∀ {ys : List Int}, ys.Pairwise (· < ·) → (insI x ys).Pairwise (· < ·)
  | [], _ => by simp [insI]
  | y :: ys, h => by
    obtain ⟨h1, h2⟩ := List.pairwise_cons.mp h
    unfold insI
    split
    · rename_i hl
      exact List.pairwise_cons.mpr ⟨fun z hz => by
        rcases List.mem_cons.mp hz with q | q
        · subst q; exact hl
        · have := h1 z q; omega, h⟩
    · split
      · exact h
      · rename_i n1 n2
        refine List.pairwise_cons.mpr ⟨fun z hz => ?_, insI_pw h2⟩
        rcases insI_mem.mp hz with q | q
        · subst q; omega
        · exact h1 z q
theorem setI_mem {k : Int} : ∀ {xs : List Int}, k ∈ setI xs ↔ k ∈ xs
  | [] => by simp [setI]
  | x :: xs => by
    unfold setI
    rw [insI_mem, setI_mem, List.mem_cons]
theorem setI_pw : ∀ {xs : List Int}, (setI xs).Pairwise (· < ·)
  | [] => List.Pairwise.nil
  | x :: xs => insI_pw setI_pw
theorem pw_unique : ∀ {xs ys : List Int}, xs.Pairwise (· < ·) → ys.Pairwise (· < ·) → (∀ k, k ∈ xs ↔ k ∈ ys) → xs = ys
  | [], [], _, _, _ => rfl
  | [], y :: ys, _, _, h => absurd ((h y).mpr List.mem_cons_self) (by simp)
  | x :: xs, [], _, _, h => absurd ((h x).mp List.mem_cons_self) (by simp)
  | x :: xs, y :: ys, h1, h2, h => by
    obtain ⟨a1, a2⟩ := List.pairwise_cons.mp h1
    obtain ⟨b1, b2⟩ := List.pairwise_cons.mp h2
    have e : x = y := by
      rcases List.mem_cons.mp ((h x).mp List.mem_cons_self) with q | q
      · exact q
      · rcases List.mem_cons.mp ((h y).mpr List.mem_cons_self) with q' | q'
        · exact q'.symm
        · have := b1 x q; have := a1 y q'; omega
    subst e
    rw [pw_unique a2 b2 fun k => ⟨fun hk => by
      rcases List.mem_cons.mp ((h k).mp (List.mem_cons_of_mem _ hk)) with q | q
      · subst q; have := a1 k hk; omega
      · exact q, fun hk => by
      rcases List.mem_cons.mp ((h k).mpr (List.mem_cons_of_mem _ hk)) with q | q
      · subst q; have := b1 k hk; omega
      · exact q⟩]
def qSortSet (d : D) : Option (List D) := match d with
  | .tup ds => (intsD ds).bind fun ns => if ns.length < 64 then some ((setI ns).map D.int) else none
  | _ => none
def dSortSet (d : DE) : DA := fun ρ S => (d ρ S).bind fun x S => optM (qSortSet x) S
theorem jl_sortSet {d : DE} {p2 q : Pos} (hc : X.calm = true) (hK : X.K = G.K) (hg : Gl X "sorted") (hm : X.mg "sorted" = none) (hg2 : Gl X "set") (hm2 : X.mg "set" = none) (ha : PE X a (tE G W d)) (hs : starB a = false) :
    PE X (.Call (.Name "sorted" p) [.Call (.Name "set" p2) [a] [] q] [] pos) (tL G W (dSortSet d)) :=
  pe_imp (pe_callB (cr_sortedSet hc) hg hm PyProof.Rows.boot_sorted (pa_cons (pe_callTy (cr_setTI hc) hg2 hm2 PyProof.Rows.boot_set (pa_cons ha pa_nil (starEach_plain hs)) (by decide) (by decide) (starEach_plain hs) (by rfl)) pa_nil (by rfl)) (by decide) (by decide) (by rfl) (by rfl))
    fun σ H Q ⟨m, ρ, S, hS, hE, h⟩ => ⟨m, ρ, S, hS, hE, (AftL.of h).imp fun x S1 m1 H1 l1 hS1 h1 v rv => by
    obtain ⟨ds, e, h1⟩ := aftL_opt h1
    unfold qSortSet at e
    split at e
    · obtain ⟨ns, e0, e⟩ := Option.bind_eq_some_iff.mp e
      obtain ⟨hl, rfl⟩ := some_ifp e
      obtain ⟨a, xs, rfl, q1, q2⟩ := rv
      rw [intsD_map e0] at q2
      obtain rfl := q2.ints
      refine ⟨a, ns, rfl, by rw [hK]; exact q1.sq, by omega, fun b T n hb hT hn => ⟨b, T, n, rfl, upd_same, by omega, fun ms p hp hm _ hpn => ?_⟩⟩
      have sm : Same H1 (upd H1 b (SetO X.w b T n)) := Same.new hb
      have e1 : ms = setI ns := pw_unique hp setI_pw fun k => by rw [hm k, setI_mem, hT k, decide_eq_true_iff]
      subst e1
      have h2 : AftL G m1 (upd H1 b (SetO X.w b T n)) (fun c x H' => W c x σ H') (.ok ((setI ns).map D.int) S1) Q := fun m' H' p' l hp' => h1 m' H' p' ((Le.same sm).trans l) (by
        cases z : nt H1 p' with
        | none => rfl
        | some o => rw [nt_same sm z] at hp'; cases hp')
      exact AftL.new h2 (hS1.same sm) (RpL.ofInts _) hpn
    · cases e⟩
end
end Py

/-! Part 10: statements. -/
namespace Py
open PySem PySem.Spec PyProof.Rows L2

/-! ### slots' values: values, fresh lists -/
abbrev DQ := Env → M Sl
/-- what an expression gives to a slot -/
def AftQ (G : Gc) (m : Mu) (H : Hp) (Y : XK) (r : R Sl) (Q : VK) : Prop := match r with
  | .ok s S => ∀ m' H' v, Lx G kAll m H m' H' → (∀ a, m'.O a → m.O a ∨ ∃ ds, s = .own ds ∧ v = .ref a ∧ nt H a = none) → Holds G m' H' S → RpS G m' H' s v → (∀ ds a, s = .own ds → v = .ref a → nt H a = none) → Q v H'
  | .exc c S => ∀ m' H', Le G m H m' H' → Holds G m' H' S → ∀ ca, G.ad c = some ca → Y (.ref ca) none H'
  | .bad => False
def tQ (G : Gc) (W : WX) (q : DQ) : TE := fun σ H Q => Inp G σ H fun m ρ S => AftQ G m H (fun c x H' => W c x σ H') (q ρ S) Q
def qV (d : DE) : DQ := fun ρ S => (d ρ S).bind fun x S => .ok (.val x) S
def qO (d : DA) : DQ := fun ρ S => (d ρ S).bind fun x S => .ok (.own x) S
section
variable {G : Gc} {W : WX} {X : Cx} {e a b c tg : Expr} {m m' : Mu} {H H' : Hp} {S : Store} {σ : Sg} {pos p : Pos}
theorem tE_of {d : DE} {Q : VK} (h : tQ G W (qV d) σ H Q) : tE G W d σ H Q := by
  obtain ⟨m, ρ, S, hS, hE, h⟩ := h
  refine ⟨m, ρ, S, hS, hE, ?_⟩
  have h : AftQ G m H _ ((d ρ S).bind fun x S => .ok (.val x) S) Q := h
  show Aft G m H _ (d ρ S) fun r _ m' H' => ∀ v, Rp G m' H' r v → Q v H'
  cases q : d ρ S with
  | ok x S1 =>
    rw [q] at h
    exact fun m' H' l hS' v rv => h m' H' v l.lx (fun a z => .inl (by rw [l.O] at z; exact z)) hS' rv (fun _ _ z => by cases z)
  | exc c S1 =>
    rw [q] at h
    exact h
  | bad =>
    rw [q] at h
    exact h
theorem tL_of {d : DA} {Q : VK} (h : tQ G W (qO d) σ H Q) : tL G W d σ H Q := by
  obtain ⟨m, ρ, S, hS, hE, h⟩ := h
  refine ⟨m, ρ, S, hS, hE, ?_⟩
  have h : AftQ G m H _ ((d ρ S).bind fun x S => .ok (.own x) S) Q := h
  show AftL G m H _ (d ρ S) Q
  cases q : d ρ S with
  | ok x S1 =>
    rw [q] at h
    exact fun m' H' p l hp hS' ho => h (m'.add p) H' (.ref p) (Lx.add l hp) (fun a z => by
      rcases z with z | z
      · exact .inl (by rw [l.O] at z; exact z)
      · exact .inr ⟨x, rfl, by rw [z], by rw [z]; exact hp⟩) hS' ⟨p, rfl, .inr rfl, hS'.dis p (.inr rfl), ho⟩ (fun ds a _ z => by cases z; exact hp)
  | exc c S1 =>
    rw [q] at h
    exact h
  | bad =>
    rw [q] at h
    exact h
/-- a new list as a value that does not change any more -/
theorem tL_frz {d : DA} {Q : VK} (h : tE G W (dLst d) σ H Q) : tL G W d σ H Q := by
  obtain ⟨m, ρ, S, hS, hE, h⟩ := h
  refine ⟨m, ρ, S, hS, hE, ?_⟩
  have h : Aft G m H _ ((d ρ S).bind fun xs S => R.ok (D.lst xs) S) _ := h
  cases hd : d ρ S with
  | bad =>
    rw [hd] at h
    exact h.elim
  | exc c S1 =>
    rw [hd] at h
    show AftL G m H _ (d ρ S) Q
    rw [hd]
    exact h
  | ok ds S1 =>
    rw [hd] at h
    show AftL G m H _ (d ρ S) Q
    rw [hd]
    intro m' H' p l hp hS' ⟨xs, e1, e2⟩
    refine h m' H' l hS'.drop (.ref p) ⟨p, xs, rfl, e1, ?_, Mu.add_rpL e2⟩
    rintro (q | q)
    · exact hS'.dis p (.inr rfl) q
    · rw [l.O] at q
      exact hS.there p q hp
/-- a new list as an object of the store -/
def dNew (r : DA) : DE := fun ρ S => (r ρ S).bind fun xs S => .ok (.ref S.length) (S ++ [.lst xs])
theorem Le.grow {p : Addr} (l : Le G m H m' H') (hp : nt H p = none) : Le G m H ⟨m'.as ++ [p], m'.O⟩ H' := by
  obtain ⟨e, e1, e2⟩ := l.as
  refine ⟨⟨e ++ [p], by rw [e1, List.append_assoc], fun a ha => ?_⟩, l.O, l.kept, l.tups, l.there⟩
  rcases List.mem_append.mp ha with q | q
  · exact e2 a q
  · rw [List.mem_singleton.mp q]; exact hp
theorem rp_grow {p : Addr} {ds : List D} {xs : List V} (h : RpL G (m.add p) H ds xs) : RpL G ⟨m.as ++ [p], m.O⟩ H ds xs :=
  RpL.mono (m := m.add p) (m' := ⟨m.as ++ [p], m.O⟩) (H := H) (H' := H) (fun n a q => by
    have q : m.as[n]? = some a := q
    show (m.as ++ [p])[n]? = some a
    rw [List.getElem?_append_left (List.getElem?_eq_some_iff.mp q).1]; exact q) (fun _ _ z => z) (fun a o z n => ⟨z, fun q => n (by
    rcases q with q | q
    · rcases List.mem_append.mp q with q | q
      · exact .inl q
      · exact .inr (.inr (List.mem_singleton.mp q))
    · exact .inr (.inl q))⟩) ds xs h
theorem Holds.grow {p : Addr} {ds : List D} (h : Holds G (m.add p) H S) (ho : Ol G (m.add p) H ds p) (hn : ¬ m.O p) : Holds G ⟨m.as ++ [p], m.O⟩ H (S ++ [.lst ds]) := by
  have pn : p ∉ m.as := h.dis p (.inr rfl)
  have hl : m.as.length = S.length := h.len
  refine ⟨by simp [hl], ?_, fun n ob a e1 e2 => ?_, fun a q z => ?_, fun a q => h.there a (.inl q), h.tabs⟩
  · show (m.as ++ [p]).Nodup
    rw [List.nodup_append]
    exact ⟨h.nd, by simp, fun a ha b hb => by
      rw [List.mem_singleton.mp hb]
      exact fun z => pn (z ▸ ha)⟩
  · have e2 : (m.as ++ [p])[n]? = some a := e2
    by_cases hn : n < S.length
    · rw [List.getElem?_append_left hn] at e1
      rw [List.getElem?_append_left (by rw [hl]; exact hn)] at e2
      refine (h.ob n ob a e1 e2).mono (fun _ _ e => e) fun d v r => ?_
      obtain ⟨v', r', e', q, _⟩ := rp_grow (ds := [d]) (xs := [v]) ⟨v, [], rfl, r, rfl⟩
      cases e'
      exact q
    · rw [List.getElem?_append_right (by omega)] at e1
      rw [List.getElem?_append_right (by rw [hl]; omega)] at e2
      have hn2 : n - S.length = 0 := by
        have := (List.getElem?_eq_some_iff.mp e1).1
        simp at this
        omega
      rw [hn2] at e1
      rw [hl, hn2] at e2
      cases e1
      cases e2
      obtain ⟨xs, e, r⟩ := ho
      exact ⟨xs, e, rp_grow r⟩
  · have z : a ∈ m.as ++ [p] := z
    rcases List.mem_append.mp z with z | z
    · exact h.dis a (.inl q) z
    · rw [List.mem_singleton.mp z] at q
      exact hn q
theorem tL_new {d : DA} {Q : VK} (h : tE G W (dNew d) σ H Q) : tL G W d σ H Q := by
  obtain ⟨m, ρ, S, hS, hE, h⟩ := h
  refine ⟨m, ρ, S, hS, hE, ?_⟩
  have h : Aft G m H _ ((d ρ S).bind fun xs S => R.ok (D.ref S.length) (S ++ [Ob.lst xs])) _ := h
  cases hd : d ρ S with
  | bad =>
    rw [hd] at h
    exact h.elim
  | exc c S1 =>
    rw [hd] at h
    show AftL G m H _ (d ρ S) Q
    rw [hd]
    exact h
  | ok ds S1 =>
    rw [hd] at h
    show AftL G m H _ (d ρ S) Q
    rw [hd]
    intro m' H' p l hp hS' ho
    have hn : ¬ m'.O p := fun q => by
      rw [l.O] at q
      exact hS.there p q hp
    refine h _ H' (l.grow hp) (hS'.grow ho hn) (.ref p) ⟨p, rfl, ?_⟩
    have hl : m'.as.length = S1.length := hS'.len
    show (m'.as ++ [p])[S1.length]? = some p
    rw [← hl]
    simp
theorem je_new {d : DA} (h : PE X e (tL G W d)) : PE X e (tE G W (dNew d)) := pe_imp h fun _ _ _ q => tL_new q
end

/-! ### statements: what they do -/
inductive Out where
  | nx (ρ : Env) | br (ρ : Env) | ct (ρ : Env) | rt (d : D) | ex (c : Nat) (ρ : Env)
abbrev Res := Option (Out × Store)
abbrev DS := Env → Store → Res
def rS {α : Type} (r : R α) (ρ : Env) (k : α → Store → Res) : Res := match r with
  | .ok a S => k a S
  | .exc c S => some (.ex c ρ, S)
  | .bad => none
def dSeq (a b : DS) : DS := fun ρ S => match a ρ S with
  | some (.nx ρ', S') => b ρ' S'
  | r => r
def dNop : DS := fun ρ S => some (.nx ρ, S)
def dSet (i : Nat) (q : DQ) : DS := fun ρ S => rS (q ρ S) ρ fun s S => some (.nx (ρ.set i (some s)), S)
def dBnd (d : DE) (g : DG) : DS := fun ρ S => rS (d ρ S) ρ fun x S => match g x ρ with
  | some ρ' => some (.nx ρ', S)
  | none => none
def dPar2 (i j : Nat) (q q' : DQ) : DS := fun ρ S => rS (q ρ S) ρ fun s S => rS (q' ρ S) ρ fun s' S => some (.nx ((ρ.set i (some s)).set j (some s')), S)
def dPar3 (i j l : Nat) (q q' q'' : DQ) : DS := fun ρ S => rS (q ρ S) ρ fun s S => rS (q' ρ S) ρ fun s' S => rS (q'' ρ S) ρ fun s'' S => some (.nx (((ρ.set i (some s)).set j (some s')).set l (some s'')), S)
def dRet (d : DE) : DS := fun ρ S => rS (d ρ S) ρ fun x S => some (.rt x, S)
def dRetN : DS := fun ρ S => some (.rt .non, S)
def dDrop (d : DE) : DS := fun ρ S => rS (d ρ S) ρ fun x S => some (.nx ρ, S)
def dIfS (t : DT) (a b : DS) : DS := fun ρ S => rS (t ρ S) ρ fun c S => if c = true then a ρ S else b ρ S
def dBrk : DS := fun ρ S => some (.br ρ, S)
def dCnt : DS := fun ρ S => some (.ct ρ, S)
def dBad : DS := fun _ _ => none
/-- a list of one's own does not change any more -/
def dFrz (i : Nat) : DS := fun ρ S => match ρ[i]? with
  | some (some (.own ds)) => some (.nx (ρ.set i (some (.val (.lst ds)))), S)
  | _ => none
/-- x.append(e) -/
def dApp (i : Nat) (d : DE) : DS := fun ρ S => rS (d ρ S) ρ fun y S => match ρ[i]? with
  | some (some (.own ds)) => if ds.length < sizeLine then some (.nx (ρ.set i (some (.own (ds ++ [y])))), S) else none
  | _ => none
/-- o[i] = v, o a list of the store -/
def stSet (S : Store) (o i v : D) : Option Store := match o, i with
  | .ref n, .int k => match S[n]? with
    | some (.lst ds) => (ixN ds.length k).map fun j => S.set n (.lst (ds.set j v))
    | _ => none
  | _, _ => none
def dSto (v o i : DE) : DS := fun ρ S => rS (v ρ S) ρ fun x S => rS (o ρ S) ρ fun y S => rS (i ρ S) ρ fun z S => match stSet S y z x with
  | some S' => some (.nx ρ, S')
  | none => none
def forRun (g : DG) (b : DS) : List D → DS
  | [], ρ, S => some (.nx ρ, S)
  | d :: ds, ρ, S => match g d ρ with
    | none => none
    | some ρ' => match b ρ' S with
      | some (.nx ρ2, S2) => forRun g b ds ρ2 S2
      | some (.ct ρ2, S2) => forRun g b ds ρ2 S2
      | some (.br ρ2, S2) => some (.nx ρ2, S2)
      | r => r
def dFor (di : DI) (g : DG) (b : DS) : DS := fun ρ S => rS (di ρ S) ρ fun ds S => forRun g b ds ρ S
def whRun (t : DT) (b : DS) : Nat → DS
  | 0, _, _ => none
  | n + 1, ρ, S => rS (t ρ S) ρ fun c S => if c = true then match b ρ S with
      | some (.nx ρ2, S2) => whRun t b n ρ2 S2
      | some (.ct ρ2, S2) => whRun t b n ρ2 S2
      | some (.br ρ2, S2) => some (.nx ρ2, S2)
      | r => r
    else some (.nx ρ, S)

/-! ### .. read -/
structure RpF (G : Gc) (kp : Addr → Prop) (m : Mu) (H : Hp) (ρ : Env) (σ : Sg) : Prop where
  rp : RpE G m H ρ σ
  sub : ∀ a, kp a → m.O a
  own : ∀ (i : Nat) (ds : List D) (a : Addr), ρ[i]? = some (some (.own ds)) → σ[i]? = some (some (.ref a)) → ¬ kp a
def AftS (G : Gc) (W : WX) (kp : Addr → Prop) (m : Mu) (H : Hp) (D : Ends) (r : Res) : Prop := match r with
  | none => False
  | some (.nx ρ, S) => ∀ m' H' σ', Lx G kp m H m' H' → Holds G m' H' S → RpF G kp m' H' ρ σ' → D.nx σ' H'
  | some (.br ρ, S) => ∀ m' H' σ', Lx G kp m H m' H' → Holds G m' H' S → RpF G kp m' H' ρ σ' → D.bk σ' H'
  | some (.ct ρ, S) => ∀ m' H' σ', Lx G kp m H m' H' → Holds G m' H' S → RpF G kp m' H' ρ σ' → D.ct σ' H'
  | some (.rt d, S) => ∀ m' H' v, Lx G kp m H m' H' → (∀ a, kp a → m'.O a) → Holds G m' H' S → Rp G m' H' d v → D.rt v H'
  | some (.ex c ρ, S) => ∀ m' H' σ', Lx G kp m H m' H' → Holds G m' H' S → RpF G kp m' H' ρ σ' → ∀ ca, G.ad c = some ca → W (.ref ca) none σ' H'
def tS (G : Gc) (W : WX) (d : DS) : TS := fun D σ H => ∃ kp m ρ S, Holds G m H S ∧ RpF G kp m H ρ σ ∧ AftS G W kp m H D (d ρ S)
section
variable {G : Gc} {W : WX} {X : Cx} {e a b c tg : Expr} {m m' : Mu} {H H' : Hp} {S : Store} {σ : Sg} {pos p : Pos} {kp : Addr → Prop} {ρ : Env} {st : Stmt} {rest : List Stmt} {Dn Dn' : Ends} {r : Res}
theorem AftS.later (h : AftS G W kp m H Dn r) (l : Lx G kp m H m' H') : AftS G W kp m' H' Dn r := by
  cases r with
  | none => exact h
  | some x =>
    obtain ⟨o, S⟩ := x
    cases o with
    | nx ρ => exact fun m2 H2 σ2 l2 => h m2 H2 σ2 (l.trans l2)
    | br ρ => exact fun m2 H2 σ2 l2 => h m2 H2 σ2 (l.trans l2)
    | ct ρ => exact fun m2 H2 σ2 l2 => h m2 H2 σ2 (l.trans l2)
    | rt d => exact fun m2 H2 v l2 => h m2 H2 v (l.trans l2)
    | ex c ρ => exact fun m2 H2 σ2 l2 => h m2 H2 σ2 (l.trans l2)
theorem RpF.le (F : RpF G kp m H ρ σ) (l : Le G m H m' H') : RpF G kp m' H' ρ σ := ⟨F.rp.le l, fun a h => by rw [l.O]; exact F.sub a h, F.own⟩
theorem ps_imp {t t' : TS} (h : PS X st t) (k : ∀ D σ H, t' D σ H → t D σ H) : PS X st t' := ⟨fun pins s σ H D I q => h.run pins s σ H D I (k D σ H q)⟩
theorem pss_imp {sts : List Stmt} {t t' : TS} (h : PSs X sts t) (k : ∀ D σ H, t' D σ H → t D σ H) : PSs X sts t' := ⟨fun pins s σ H D I q => h.run pins s σ H D I (k D σ H q)⟩
/-- a statement that begins with an expression's value -/
theorem AftS.rS {α : Type} {q : R α} {k : α → Store → Res} (h : AftS G W kp m H Dn (Py.rS q ρ k)) (F : RpF G kp m H ρ σ) : Aft G m H (fun c x H' => W c x σ H') q fun a S m' H' => AftS G W kp m' H' Dn (k a S) := by
  cases q with
  | ok a S => exact fun m' H' l hS => AftS.later (show AftS G W kp m H Dn (k a S) from h) l.lx
  | exc c S => exact fun m' H' l hS ca e => h m' H' σ l.lx hS (F.le l) ca e
  | bad => exact h
theorem jss_nil : PSs X [] (tS G W dNop) := pss_imp pss_nil fun D σ H ⟨kp, m, ρ, S, hS, F, h⟩ => h m H σ Lx.refl hS F
theorem seq_of {a b : DS} (h : tS G W (dSeq a b) Dn σ H) : tS G W a { Dn with nx := tS G W b Dn } σ H := by
  obtain ⟨kp, m, ρ, S, hS, F, h⟩ := h
  refine ⟨kp, m, ρ, S, hS, F, ?_⟩
  unfold dSeq at h
  cases q : a ρ S with
  | none => rw [q] at h; exact h
  | some x =>
    obtain ⟨o, S1⟩ := x
    rw [q] at h
    cases o with
    | nx ρ1 => exact fun m' H' σ' l hS' F' => ⟨kp, m', ρ1, S1, hS', F', AftS.later h l⟩
    | br ρ1 => exact h
    | ct ρ1 => exact h
    | rt d => exact h
    | ex c ρ1 => exact h
theorem jss_cons {a b : DS} (h1 : PS X st (tS G W a)) (h2 : PSs X rest (tS G W b)) : PSs X (st :: rest) (tS G W (dSeq a b)) := pss_imp (pss_cons h1 h2) fun D σ H h => seq_of h
theorem jss_one {a : DS} (h1 : PS X st (tS G W a)) : PSs X [st] (tS G W a) := pss_one h1
theorem js_pass : PS X (.Pass pos) (tS G W dNop) := ps_imp ps_pass fun D σ H ⟨kp, m, ρ, S, hS, F, h⟩ => h m H σ Lx.refl hS F
theorem js_brk : PS X (.Break pos) (tS G W dBrk) := ps_imp ps_break fun D σ H ⟨kp, m, ρ, S, hS, F, h⟩ => h m H σ Lx.refl hS F
theorem js_cnt : PS X (.Continue pos) (tS G W dCnt) := ps_imp ps_continue fun D σ H ⟨kp, m, ρ, S, hS, F, h⟩ => h m H σ Lx.refl hS F
/-- code that is not come to -/
theorem js_bad : PS X st (tS G W dBad) := ps_imp ps_never fun D σ H ⟨kp, m, ρ, S, hS, F, h⟩ => h
theorem js_ret {d : DE} (h : PE X e (tE G W d)) : PS X (.Return (some e) pos) (tS G W (dRet d)) := ps_imp (ps_ret h) fun D σ H ⟨kp, m, ρ, S, hS, F, h⟩ =>
  ⟨m, ρ, S, hS, F.rp, (AftS.rS h F).imp fun x S1 m1 H1 l1 hS1 h1 v rv => h1 m1 H1 v Lx.refl (fun a z => by rw [l1.O]; exact F.sub a z) hS1 rv⟩
theorem js_retN : PS X (.Return none pos) (tS G W dRetN) := ps_imp ps_retN fun D σ H ⟨kp, m, ρ, S, hS, F, h⟩ => h m H .non Lx.refl F.sub hS rfl
theorem js_if {t : DT} {x y : DS} {sa sb : List Stmt} (hc : PT X c (tT G W t)) (ha : PSs X sa (tS G W x)) (hb : PSs X sb (tS G W y)) : PS X (.If c sa sb pos) (tS G W (dIfS t x y)) :=
  ps_imp (ps_if hc ha hb) fun D σ H ⟨kp, m, ρ, S, hS, F, h⟩ => ⟨m, ρ, S, hS, F.rp, (AftS.rS h F).imp fun c S1 m1 H1 l1 hS1 h1 => by
    cases c with
    | true => exact iteT ⟨kp, m1, ρ, S1, hS1, F.le l1, h1⟩
    | false => exact iteF ⟨kp, m1, ρ, S1, hS1, F.le l1, h1⟩⟩
theorem js_drop {d : DE} (he : PE X e (tE G W d)) (hs : swapsWith e none pos.line X.env = pure false) : PS X (.Expr e pos) (tS G W (dDrop d)) := ps_imp (ps_expr he hs) fun D σ H ⟨kp, m, ρ, S, hS, F, h⟩ =>
  ⟨m, ρ, S, hS, F.rp, (AftS.rS h F).imp fun x S1 m1 H1 l1 hS1 h1 v rv => h1 m1 H1 σ Lx.refl hS1 (F.le l1)⟩

/-! slots -/
theorem RpE.setS {s : Sl} {v : V} (E : RpE G m H ρ σ) (r : RpS G m H s v) (i : Nat) (fr : ∀ ds a, s = .own ds → v = .ref a → ∀ j es, j ≠ i → ρ[j]? = some (some (.own es)) → σ[j]? ≠ some (some (V.ref a))) : RpE G m H (ρ.set i (some s)) (σ.set i (some v)) := by
  refine ⟨fun j s' h => ?_, fun j k ds es a h1 h2 h3 h4 => ?_, by simp [E.len]⟩
  · rcases set_get h with ⟨e, hl, e2⟩ | ⟨e, h⟩
    · subst e e2
      have : j < σ.length := E.len ▸ hl
      exact ⟨v, by simp [this], r⟩
    · obtain ⟨w, q1, q2⟩ := E.at_ j s' h
      exact ⟨w, by rw [List.getElem?_set_ne (fun z => e z.symm)]; exact q1, q2⟩
  · rcases set_get h1 with ⟨e1, l1, e⟩ | ⟨e, g1⟩
    · rcases set_get h2 with ⟨e2, l2, e'⟩ | ⟨e', g2⟩
      · rw [e1, e2]
      · subst e1 e
        have hv : v = .ref a := by
          have : j < σ.length := E.len ▸ l1
          rw [List.getElem?_set_self this] at h3
          exact Option.some.inj (Option.some.inj h3)
        rw [List.getElem?_set_ne (fun z => e' z.symm)] at h4
        exact absurd h4 (fr ds a rfl hv k es e' g2)
    · rcases set_get h2 with ⟨e2, l2, e'⟩ | ⟨e', g2⟩
      · subst e2 e'
        have hv : v = .ref a := by
          have : k < σ.length := E.len ▸ l2
          rw [List.getElem?_set_self this] at h4
          exact Option.some.inj (Option.some.inj h4)
        rw [List.getElem?_set_ne (fun z => e z.symm)] at h3
        exact absurd h3 (fr es a rfl hv j ds e g1)
      · rw [List.getElem?_set_ne (fun z => e z.symm)] at h3
        rw [List.getElem?_set_ne (fun z => e' z.symm)] at h4
        exact E.inj j k ds es a g1 g2 h3 h4
theorem RpF.setS {s : Sl} {v : V} (F : RpF G kp m H ρ σ) (r : RpS G m H s v) (i : Nat) (fr : ∀ ds a, s = .own ds → v = .ref a → ¬ kp a ∧ ∀ j es, j ≠ i → ρ[j]? = some (some (.own es)) → σ[j]? ≠ some (some (V.ref a))) : RpF G kp m H (ρ.set i (some s)) (σ.set i (some v)) :=
  ⟨F.rp.setS r i fun ds a e1 e2 => (fr ds a e1 e2).2, F.sub, fun j ds a h1 h2 => by
    rcases set_get h1 with ⟨e, hl, e2⟩ | ⟨e, h⟩
    · subst e
      have : j < σ.length := F.rp.len ▸ hl
      rw [List.getElem?_set_self this] at h2
      exact (fr ds a e2.symm (Option.some.inj (Option.some.inj h2))).1
    · rw [List.getElem?_set_ne (fun z => e z.symm)] at h2
      exact F.own j ds a h h2⟩
/-- the address of a list of one's own is known -/
theorem RpE.known (E : RpE G m H ρ σ) {j : Nat} {es : List D} {a : Addr} (h : ρ[j]? = some (some (.own es))) (h2 : σ[j]? = some (some (V.ref a))) : m.O a ∧ a ∉ m.as ∧ ∃ xs, H a = some (.lst xs) ∧ RpL G m H es xs := by
  obtain ⟨v, q1, b, e, q2, q3, xs, q4, q5⟩ := E.at_ j _ h
  rw [h2] at q1
  cases Option.some.inj q1
  cases e
  exact ⟨q2, q3, xs, q4, q5⟩
/-- a slot takes what an expression gave -/
theorem RpF.take {s : Sl} {v : V} (F : RpF G kp m H ρ σ) (hS : Holds G m H S) (l : Lx G kAll m H m' H') (r : RpS G m' H' s v) (fr : ∀ ds a, s = .own ds → v = .ref a → nt H a = none) (i : Nat) : RpF G kp m' H' (ρ.set i (some s)) (σ.set i (some v)) := by
  have F1 : RpF G kp m' H' ρ σ := ⟨F.rp.lx l, fun a h => l.O2 a (F.sub a h) trivial, F.own⟩
  refine F1.setS r i fun ds a e1 e2 => ⟨fun q => hS.there a (F.sub a q) (fr ds a e1 e2), fun j es _ h1 h2 => ?_⟩
  obtain ⟨_, _, xs, q, _⟩ := F.rp.known h1 h2
  exact absurd (nt_of q fun _ z => by cases z) (by rw [fr ds a e1 e2]; simp)
theorem Lx.weak (l : Lx G kAll m H m' H') : Lx G kp m H m' H' := ⟨l.as, l.O1, fun a h _ => l.O2 a h trivial, fun a o h n _ => l.kept a o h n fun _ => trivial, l.tups, l.there⟩
theorem AftS.rQ {q : R Sl} {k : Sl → Store → Res} (h : AftS G W kp m H Dn (Py.rS q ρ k)) (F : RpF G kp m H ρ σ) {Q : VK}
    (hk : ∀ s S m' H' v, Lx G kAll m H m' H' → Holds G m' H' S → RpS G m' H' s v → (∀ ds a, s = .own ds → v = .ref a → nt H a = none) → AftS G W kp m' H' Dn (k s S) → Q v H') : AftQ G m H (fun c x H' => W c x σ H') q Q := by
  cases q with
  | ok s S => exact fun m' H' v l _ hS r fr => hk s S m' H' v l hS r fr (AftS.later (show AftS G W kp m H Dn (k s S) from h) l.weak)
  | exc c S => exact fun m' H' l hS ca e => h m' H' σ l.lx hS (F.le l) ca e
  | bad => exact h
/-- x = e -/
theorem js_set {i : Nat} {q : DQ} (h : PS X st (tAsg (tQ G W q) (gName i))) : PS X st (tS G W (dSet i q)) := ps_imp h fun D σ H ⟨kp, m, ρ, S, hS, F, h⟩ =>
  ⟨m, ρ, S, hS, F.rp, AftS.rQ h F fun s S1 m1 H1 v l hS1 r fr h1 => h1 m1 H1 _ Lx.refl hS1 (F.take hS l r fr i)⟩
theorem asg_imp {te te' : TE} {g : TG} (h : PS X st (tAsg te g)) (k : ∀ σ H Q, te' σ H Q → te σ H Q) : PS X st (tAsg te' g) := ps_imp h fun D σ H q => k _ _ _ q
/-- pattern = e -/
theorem js_bnd {d : DE} {g : DG} {vs : List Nat} (h : PS X st (tAsg (tE G W d) (tG G vs g))) : PS X st (tS G W (dBnd d g)) := ps_imp h fun D σ H ⟨kp, m, ρ, S, hS, F, h⟩ =>
  ⟨m, ρ, S, hS, F.rp, (AftS.rS h F).imp fun x S1 m1 H1 l1 hS1 h1 v rv => by
    cases q : g x ρ with
    | none => rw [q] at h1; exact h1.elim
    | some ρ' =>
      rw [q] at h1
      have F1 := F.le l1
      refine ⟨m1, ρ, S1, x, hS1, F1.rp, rv, ρ', q, fun σ' bn => h1 m1 H1 σ' Lx.refl hS1 ⟨bn.rp, F1.sub, fun i ds a e1 e2 => ?_⟩⟩
      obtain ⟨k1, k2⟩ := bn.own i ds e1
      exact F1.own i ds a k1 (by rw [← k2]; exact e2)⟩
theorem js_par2 {i j : Nat} {q q' : DQ} (h : PS X st (tPar i j (tCons (tQ G W q) (tCons (tQ G W q') tNil)))) : PS X st (tS G W (dPar2 i j q q')) := ps_imp h fun D σ H ⟨kp, m, ρ, S, hS, F, h⟩ =>
  ⟨m, ρ, S, hS, F.rp, AftS.rQ h F fun s S1 m1 H1 v l hS1 r fr h1 => by
    have F1 : RpF G kp m1 H1 ρ σ := ⟨F.rp.lx l, fun a h => l.O2 a (F.sub a h) trivial, F.own⟩
    refine ⟨m1, ρ, S1, hS1, F1.rp, AftS.rQ h1 F1 fun s' S2 m2 H2 v' l2 hS2 r' fr' h2 => ⟨v, v', rfl, h2 m2 H2 _ Lx.refl hS2 ?_⟩⟩
    have F2 : RpF G kp m2 H2 (ρ.set i (some s)) (σ.set i (some v)) := F.take hS (l.trans l2) (l2.rps r) fr i
    refine F2.setS r' j fun ds a e1 e2 => ⟨fun z => hS1.there a (F1.sub a z) (fr' ds a e1 e2), fun k es _ k1 k2 => ?_⟩
    have F3 : RpF G kp m1 H1 (ρ.set i (some s)) (σ.set i (some v)) := F.take hS l r fr i
    obtain ⟨_, _, xs, z, _⟩ := F3.rp.known k1 k2
    exact absurd (nt_of z fun _ z => by cases z) (by rw [fr' ds a e1 e2]; simp)⟩
theorem js_par3 {i j n : Nat} {q q' q'' : DQ} (h : PS X st (tPar3 i j n (tCons (tQ G W q) (tCons (tQ G W q') (tCons (tQ G W q'') tNil))))) : PS X st (tS G W (dPar3 i j n q q' q'')) := ps_imp h fun D σ H ⟨kp, m, ρ, S, hS, F, h⟩ =>
  ⟨m, ρ, S, hS, F.rp, AftS.rQ h F fun s S1 m1 H1 v l hS1 r fr h1 => by
    have F1 : RpF G kp m1 H1 ρ σ := ⟨F.rp.lx l, fun a h => l.O2 a (F.sub a h) trivial, F.own⟩
    refine ⟨m1, ρ, S1, hS1, F1.rp, AftS.rQ h1 F1 fun s' S2 m2 H2 v' l2 hS2 r' fr' h2 => ?_⟩
    have F2 : RpF G kp m2 H2 ρ σ := ⟨F1.rp.lx l2, fun a h => l2.O2 a (F1.sub a h) trivial, F1.own⟩
    refine ⟨m2, ρ, S2, hS2, F2.rp, AftS.rQ h2 F2 fun s'' S3 m3 H3 v'' l3 hS3 r'' fr'' h3 => ⟨v, v', v'', rfl, h3 m3 H3 _ Lx.refl hS3 ?_⟩⟩
    have A1 : RpF G kp m1 H1 (ρ.set i (some s)) (σ.set i (some v)) := F.take hS l r fr i
    have A2 : ∀ (m2 : Mu) (H2 : Hp), Lx G kAll m1 H1 m2 H2 → RpS G m2 H2 s' v' → RpF G kp m2 H2 ((ρ.set i (some s)).set j (some s')) ((σ.set i (some v)).set j (some v')) := fun m2 H2 l2 r' => A1.take hS1 l2 r' fr' j
    exact (A2 m2 H2 l2 r').take hS2 l3 r'' fr'' n⟩
end
end Py

/-! Part 11: lists of one's own, stores, loops, calls, defs. -/
namespace Py
open PySem PySem.Spec PyProof.Rows L2
section
variable {G : Gc} {W : WX} {X : Cx} {e a b c tg : Expr} {m m' : Mu} {H H' : Hp} {S : Store} {σ : Sg} {pos p : Pos} {kp : Addr → Prop} {ρ : Env} {st : Stmt} {rest : List Stmt} {Dn Dn' : Ends} {r : Res}

/-! ### a list of one's own does not change any more -/
def Mu.del (m : Mu) (p : Addr) : Mu := ⟨m.as, fun b => m.O b ∧ b ≠ p⟩
theorem Mu.del_lx {p : Addr} (hk : ¬ kp p) : Lx G kp m H (m.del p) H :=
  ⟨⟨[], by simp [Mu.del], by simp⟩, fun a h => .inl h.1, fun a h k => ⟨h, fun z => hk (z ▸ k)⟩, fun a o h _ _ => h, fun _ _ h => h, fun _ h => h⟩
theorem Holds.del {p : Addr} (h : Holds G m H S) (hk : ¬ kp p) : Holds G (m.del p) H S :=
  ⟨h.len, h.nd, fun n ob a e1 e2 => by
    have l : Lx G kp m H (m.del p) H := Mu.del_lx hk
    exact (h.ob n ob a e1 e2).mono (fun _ _ e => e) fun d v r => l.rp r, fun a q => h.dis a q.1, fun a q => h.there a q.1, h.tabs⟩
theorem RpF.frz {i : Nat} {ds : List D} {a : Addr} (F : RpF G kp m H ρ σ) (h : ρ[i]? = some (some (.own ds))) (h2 : σ[i]? = some (some (.ref a))) : RpF G kp (m.del a) H (ρ.set i (some (.val (.lst ds)))) σ := by
  have hk := F.own i ds a h h2
  have l : Lx G kp m H (m.del a) H := Mu.del_lx hk
  obtain ⟨kO, ka, xs, e, r⟩ := F.rp.known h h2
  refine ⟨⟨fun j s q => ?_, fun j k es fs b q1 q2 q3 q4 => ?_, by simp [F.rp.len]⟩, fun b z => ⟨F.sub b z, fun q => hk (q ▸ z)⟩, fun j es b q1 q2 => ?_⟩
  · rcases set_get q with ⟨e1, hl, e2⟩ | ⟨e1, q⟩
    · subst e1 e2
      exact ⟨_, h2, a, xs, rfl, e, fun z => by
        rcases z with z | z
        · exact ka z
        · exact z.2 rfl, l.rpL r⟩
    · obtain ⟨v, q1, q2⟩ := F.rp.at_ j s q
      refine ⟨v, q1, ?_⟩
      cases s with
      | val d => exact l.rp q2
      | own es =>
        obtain ⟨b, e3, o1, o2, ys, o3, o4⟩ := q2
        subst e3
        exact ⟨b, rfl, ⟨o1, fun z => e1 (F.rp.inj j i es ds a q h (z ▸ q1) h2)⟩, o2, ys, o3, l.rpL o4⟩
  · rcases set_get q1 with ⟨_, _, z⟩ | ⟨e1, q1⟩
    · cases z
    rcases set_get q2 with ⟨_, _, z⟩ | ⟨e2, q2⟩
    · cases z
    exact F.rp.inj j k es fs b q1 q2 q3 q4
  · rcases set_get q1 with ⟨_, _, z⟩ | ⟨e1, q1⟩
    · cases z
    exact F.own j es b q1 q2
theorem AftS.back (l : Lx G kp m H m' H') (h : AftS G W kp m H Dn r) : AftS G W kp m' H' Dn r := AftS.later h l
theorem frz_of {i : Nat} {d : DS} (h : tS G W (dSeq (dFrz i) d) Dn σ H) : tS G W d Dn σ H := by
  obtain ⟨kp, m, ρ, S, hS, F, h⟩ := h
  unfold dSeq dFrz at h
  split at h
  · rename_i ρ' S' e
    split at e
    · rename_i ds hd
      cases e
      obtain ⟨v, q1, a, e, q2, q3, q4⟩ := F.rp.at_ i _ hd
      subst e
      have hk := F.own i ds a hd q1
      exact ⟨kp, m.del a, _, S, hS.del hk, F.frz hd q1, AftS.later h (Mu.del_lx hk)⟩
    · cases e
  · rename_i h2
    revert h
    split at h2
    · exact absurd rfl (h2 _ _)
    · exact fun h => h.elim
theorem jss_frz {i : Nat} {d : DS} {sts : List Stmt} (h : PSs X sts (tS G W d)) : PSs X sts (tS G W (dSeq (dFrz i) d)) := pss_imp h fun _ _ _ q => frz_of q

/-! ### it grows -/
theorem Lx.putK {L : Addr} {ys xs : List V} (hk : ¬ kp L) (hO : m.O L) (h : H L = some (.lst ys)) : Lx G kp m H m (upd H L (.lst xs)) := by
  have l : Lx G (fun a => a ≠ L) m H m (upd H L (.lst xs)) := Lx.put hO h
  exact ⟨l.as, l.O1, fun a q _ => q, fun a o e n k => l.kept a o e n fun z => fun q => hk (q ▸ k z), l.tups, l.there⟩
theorem RpF.upd {i : Nat} {ds ds' : List D} {a : Addr} {xs ys : List V} (F : RpF G kp m H ρ σ) (h : ρ[i]? = some (some (.own ds))) (h2 : σ[i]? = some (some (.ref a))) (e : H a = some (.lst ys)) (r : RpL G m H ds' xs) :
    RpF G kp m (upd H a (.lst xs)) (ρ.set i (some (.own ds'))) σ := by
  obtain ⟨kO, ka, _⟩ := F.rp.known h h2
  have l : Lx G (fun b => b ≠ a) m H m (L2.upd H a (.lst xs)) := Lx.put kO e
  refine ⟨⟨fun j s q => ?_, fun j k es fs b q1 q2 q3 q4 => ?_, by simp [F.rp.len]⟩, F.sub, fun j es b q1 q2 => ?_⟩
  · rcases set_get q with ⟨e1, hl, e2⟩ | ⟨e1, q⟩
    · subst e1 e2
      exact ⟨_, h2, a, rfl, kO, ka, xs, upd_same, l.rpL r⟩
    · obtain ⟨v, q1, q2⟩ := F.rp.at_ j s q
      refine ⟨v, q1, ?_⟩
      cases s with
      | val d => exact l.rp q2
      | own es =>
        obtain ⟨b, e3, o1, o2, zs, o3, o4⟩ := q2
        subst e3
        have ne : b ≠ a := fun z => e1 (F.rp.inj j i es ds a q h (z ▸ q1) h2)
        exact ⟨b, rfl, o1, o2, zs, by rw [upd_ne ne]; exact o3, l.rpL o4⟩
  · rcases set_get q1 with ⟨z1, _, z⟩ | ⟨e1, g1⟩
    · rcases set_get q2 with ⟨z2, _, z'⟩ | ⟨e2, g2⟩
      · exact z1.trans z2.symm
      · exact F.rp.inj j k ds fs b (by rw [z1]; exact h) g2 q3 q4
    · rcases set_get q2 with ⟨z2, _, z'⟩ | ⟨e2, g2⟩
      · exact F.rp.inj j k es ds b g1 (by rw [z2]; exact h) q3 q4
      · exact F.rp.inj j k es fs b g1 g2 q3 q4
  · rcases set_get q1 with ⟨z1, _, z⟩ | ⟨e1, g1⟩
    · exact F.own j ds b (by rw [z1]; exact h) q2
    · exact F.own j es b g1 q2
/-- a method of a list of one's own: what it holds by what it held and a value -/
def dOwn (i : Nat) (f : List D → D → Option (List D)) (d : DE) : DS := fun ρ S => match ρ[i]? with
  | some (some (.own ds)) => rS (d ρ S) ρ fun y S => match f ds y with
    | some ds' => some (.nx (ρ.set i (some (.own ds'))), S)
    | none => none
  | _ => none
def fApp (ds : List D) (y : D) : Option (List D) := if ds.length < sizeLine then some (ds ++ [y]) else none
theorem js_app {i : Nat} {x : Str} {d : DE} {apos cpos : Pos} (hK : X.K = G.K) (hN : X.N[i]? = some x) (hv : Vis X.env.scope x) (hd : (x == ("__debug__" : Str)) = false) (hcd : (x == ("__classdict__" : Str)) = false) (ha : PE X e (tE G W d)) (hs : starB e = false)
    (hbase : attributeBase (.Name x p) "append" X.env (eval (.Name x p) X.env) = eval (.Name x p) X.env)
    (hfew : ((backTo cpos (starEach [e] X.env)).all (fun x => !x.1) && (backToKw cpos (keywordEach [] X.env)).all (fun x => x.1.isSome)
      && decide (([e] : List Expr).length + ([] : List Keyword).length + (if ([] : List Keyword).isEmpty then 0 else 1) < 30)) = true)
    (hline : (apos.endLine == cpos.line) = true) (hsw : swapsWith (.Call (.Attribute (.Name x p) "append" apos) [e] [] cpos) none pos.line X.env = pure false) :
    PS X (.Expr (.Call (.Attribute (.Name x p) "append" apos) [e] [] cpos) pos) (tS G W (dOwn i fApp d)) := by
  refine ps_imp (ps_expr (pe_bm F.plainAttrs_list F.slot_list_append F.type_list_append mt_append (pe_var hN hv hd hcd) (pa_cons ha pa_nil (starEach_plain hs)) hbase hfew hline (starEach_plain hs) (by rfl)) hsw) fun D σ H ⟨kp, m, ρ, S, hS, F, h⟩ => ?_
  unfold dOwn at h
  split at h
  · rename_i ds hd
    obtain ⟨v, q1, a, e, q2, q3, q4⟩ := F.rp.at_ i _ hd
    subst e
    have hk := F.own i ds a hd q1
    obtain ⟨xs0, e0, r0⟩ := id q4
    refine ⟨.ref a, q1, .inl ⟨rfl, xs0, by rw [hK]; exact SqL.of e0⟩, m, ρ, S, hS, F.rp, (AftS.rS h F).imp fun y S1 m1 H1 l1 hS1 h1 v rv => ?_⟩
    unfold fApp at h1
    by_cases hz : ds.length < sizeLine
    · rw [if_pos hz] at h1
      have F1 := F.le l1
      obtain ⟨kO, ka, xs, e, rx⟩ := F1.rp.known hd q1
      exact ⟨a, xs, v, rfl, rfl, e, by rw [rx.length]; exact hz, h1 m1 _ σ (Lx.putK hk kO e) (hS1.put kO e) (F1.upd hd q1 e (rx.append ⟨v, [], rfl, rv, rfl⟩))⟩
    · rw [if_neg hz] at h1; exact h1.elim
  · exact h.elim

/-! ### a list of the store is written -/
theorem Lx.sto {L : Addr} {ys xs : List V} (hO : L ∈ m.as) (h : H L = some (.lst ys)) : Lx G kp m H m (upd H L (.lst xs)) :=
  ⟨⟨[], by simp, by simp⟩, fun a q => .inl q, fun a q _ => q, fun a o e n k => by
    by_cases z : a = L
    · exact absurd (z ▸ hO) n
    · rw [nt_ne z]; exact e, fun a xs t => tq_put h notT_lst t, fun a q => by
    by_cases z : a = L
    · subst z; rw [nt_of upd_same fun _ z => by cases z]; simp
    · rw [nt_ne z]; exact q⟩
theorem nodup_at {α : Type} {l : List α} (h : l.Nodup) {i j : Nat} {x : α} (h1 : l[i]? = some x) (h2 : l[j]? = some x) : i = j := by
  obtain ⟨a1, a2⟩ := List.getElem?_eq_some_iff.mp h1
  obtain ⟨b1, b2⟩ := List.getElem?_eq_some_iff.mp h2
  exact (List.getElem?_inj a1 h).mp (h1.trans h2.symm)
theorem Holds.sto {n : Nat} {L : Addr} {ds : List D} {ys xs : List V} (hS : Holds G m H S) (hn : m.as[n]? = some L) (h : H L = some (.lst ys)) (r : RpL G m H ds xs) : Holds G m (upd H L (.lst xs)) (S.set n (.lst ds)) := by
  have hO : L ∈ m.as := List.mem_of_getElem? hn
  have l : Lx G kAll m H m (L2.upd H L (.lst xs)) := Lx.sto hO h
  refine ⟨by simp [hS.len], hS.nd, fun k ob a e1 e2 => ?_, hS.dis, fun a q => l.there a (hS.there a q), tabs_upd hS.tabs h (fun _ z => by cases z) fun _ _ z => by unfold LamX.CodeO at z; cases z⟩
  rw [List.getElem?_set] at e1
  split at e1
  · rename_i e
    subst e
    split at e1
    · cases e1
      rw [hn] at e2
      cases e2
      exact ⟨xs, upd_same, l.rpL r⟩
    · cases e1
  · rename_i ne
    have na : a ≠ L := fun z => ne (nodup_at hS.nd hn (z ▸ e2))
    exact (hS.ob k ob a e1 e2).mono (fun o _ e => by rw [upd_ne na]; exact e) fun d v r => l.rp r
theorem RpF.sto {L : Addr} {ys xs : List V} (F : RpF G kp m H ρ σ) (hO : L ∈ m.as) (h : H L = some (.lst ys)) : RpF G kp m (L2.upd H L (.lst xs)) ρ σ := by
  have l : Lx G kp m H m (L2.upd H L (.lst xs)) := Lx.sto hO h
  refine ⟨⟨fun j s q => ?_, F.rp.inj, F.rp.len⟩, F.sub, F.own⟩
  obtain ⟨v, q1, q2⟩ := F.rp.at_ j s q
  refine ⟨v, q1, ?_⟩
  cases s with
  | val d => exact l.rp q2
  | own es =>
    obtain ⟨b, e3, o1, o2, zs, o3, o4⟩ := q2
    have nb : b ≠ L := fun z => o2 (by rw [z]; exact hO)
    exact ⟨b, e3, o1, o2, zs, by rw [L2.upd_ne nb]; exact o3, l.rpL o4⟩
theorem js_sto {o i : Expr} {dv di do_ : DE} {tp : Pos} (hK : X.K = G.K) (hv : PE X e (tE G W dv)) (ho : PE X o (tE G W do_)) (hi : PE X i (tE G W di)) (hs : swapsWithSole [.Subscript o i tp] e pos.line X.env = pure false) (hw : swappedStores [.Subscript o i tp] e X.env = pure none)
    (h1 : (assignEach [.Subscript o i tp] X.env).map (·.2) = [assign (.Subscript o i tp) X.env])
    (ha : ∀ v, assign (.Subscript o i tp) X.env v = (do
      let ov ← holding [v] (eval o X.env)
      let iv ← holding [v, ov] (eval i X.env)
      standAt tp
      holding [v, ov, iv] (setItem ov iv v)
      release [v, ov, iv] [])) : PS X (.Assign [.Subscript o i tp] e pos) (tS G W (dSto dv do_ di)) := by
  refine ps_imp (ps_asg hv (pg_sub ho hi set_list ha) hs hw h1) fun D σ H ⟨kp, m, ρ, S, hS, F, h⟩ => ?_
  refine ⟨m, ρ, S, hS, F.rp, (AftS.rS h F).imp fun x S1 m1 H1 l1 hS1 h1 v rv => ?_⟩
  have F1 := F.le l1
  refine ⟨m1, ρ, S1, hS1, F1.rp, (AftS.rS h1 F1).imp fun y S2 m2 H2 l2 hS2 h2 u ru => ?_⟩
  have F2 := F1.le l2
  refine ⟨m2, ρ, S2, hS2, F2.rp, (AftS.rS h2 F2).imp fun z S3 m3 H3 l3 hS3 h3 t rt => ?_⟩
  have F3 := F2.le l3
  have rv3 := (l2.trans l3).rp rv
  have ru3 := l3.rp ru
  unfold stSet at h3
  split at h3
  · rename_i S' e
    split at e
    · rename_i n k
      split at e
      · rename_i ds hn
        obtain ⟨j, ej, rfl⟩ := Option.map_eq_some_iff.mp e
        obtain ⟨L, rfl, hL⟩ := ru3
        obtain ⟨xs, q1, q2⟩ := hS3.ob n _ L hn hL
        refine ⟨L, xs, k, j, rfl, rt, q1, by rw [q2.length]; exact ej, ?_⟩
        exact h3 m3 _ σ (Lx.sto (List.mem_of_getElem? hL) q1) (hS3.sto hL q1 (q2.set rv3)) (F3.sto (List.mem_of_getElem? hL) q1)
      · cases e
    · cases e
  · exact h3.elim

/-! ### loops -/
theorem js_for {iter : Expr} {body : List Stmt} {di : DI} {g : DG} {d : DS} {vs : List Nat} (hp : PassesOwn (model X.prog X.w) X.A X.env X.xe) (hc : X.calm = true) (hi : PI X tg iter (tI G W di)) (hg : PG X tg (tG G vs g)) (hb : PSs X body (tS G W d))
    (hs : ∀ x, foldedSetIterable iter X.env x = pure x) : PS X (.For tg iter body [] pos) (tS G W (dFor di g d)) := by
  refine ps_imp (ps_for hp hc hi hg hb hs) fun Dn σ H ⟨kp, m, ρ, S, hS, F, h⟩ => ?_
  refine ⟨kp, m, ρ, S, hS, F.rp, (AftS.rS h F).imp fun ds S1 m1 H1 l1 hS1 h1 J sv => ?_⟩
  obtain ⟨Gd, Y, wk, hGd, hY⟩ := sv
  refine for_it wk (fun i σ H => ∃ m2 ρ2 S2, Lx G kp m1 H1 m2 H ∧ Holds G m2 H S2 ∧ RpF G kp m2 H ρ2 σ ∧ AftS G W kp m2 H Dn (forRun g d (ds.drop i) ρ2 S2)) ?_ ?_ ?_ ?_
  · exact ⟨m1, ρ, S1, Lx.refl, hS1, F.le l1, h1⟩
  · rintro i σ H hi ⟨m2, ρ2, S2, l2, _⟩
    exact hGd _ H l2
  · rintro i x σ2 H2 H3 hi ⟨m2, ρ2, S2, l2, hS2, F2, h2⟩ y
    obtain ⟨s3, dd, hd, rd⟩ := hY _ H2 i x H3 l2 hi y
    rw [getElem_split hd] at h2
    have F3 : RpF G kp m2 H3 ρ2 σ2 := F2.le (Le.same s3)
    have hS3 : Holds G m2 H3 S2 := hS2.same s3
    have l3 : Lx G kp m1 H1 m2 H3 := l2.trans (Le.same s3).lx
    have h3 := AftS.later h2 (Le.same (G := G) s3).lx
    unfold forRun at h3
    cases hgd : g dd ρ2 with
    | none => rw [hgd] at h3; exact h3.elim
    | some ρ' =>
      rw [hgd] at h3
      refine ⟨m2, ρ2, S2, dd, hS3, F3.rp, rd _ l2, ρ', hgd, fun σ' bn => ?_⟩
      have F4 : RpF G kp m2 H3 ρ' σ' := ⟨bn.rp, F3.sub, fun i ds a e1 e2 => by
        obtain ⟨k1, k2⟩ := bn.own i ds e1
        exact F3.own i ds a k1 (by rw [← k2]; exact e2)⟩
      refine ⟨kp, m2, ρ', S2, hS3, F4, ?_⟩
      dsimp only at h3
      cases hr : d ρ' S2 with
      | none => rw [hr] at h3; exact h3
      | some o =>
        obtain ⟨o, S5⟩ := o
        rw [hr] at h3
        cases o with
        | nx ρ5 => exact fun m' H' σ5 l5 hS5 F5 => ⟨m', ρ5, S5, l3.trans l5, hS5, F5, AftS.later h3 l5⟩
        | ct ρ5 => exact fun m' H' σ5 l5 hS5 F5 => ⟨m', ρ5, S5, l3.trans l5, hS5, F5, AftS.later h3 l5⟩
        | br ρ5 => exact h3
        | rt v => exact h3
        | ex c ρ5 => exact h3
  · rintro σ H ⟨m2, ρ2, S2, l2, hS2, F2, h2⟩
    rw [show ds.drop ds.length = [] by simp] at h2
    exact h2 m2 H σ Lx.refl hS2 F2
theorem js_while {body : List Stmt} {t : DT} {d : DS} {n : Nat} (hp : PassesOwn (model X.prog X.w) X.A X.env X.xe) (hc : PT X c (tT G W t)) (hb : PSs X body (tS G W d)) : PS X (.While c body [] pos) (tS G W (whRun t d n)) := by
  refine ps_imp (ps_while hp hc hb) fun Dn σ H0 ⟨kp, m, ρ, S, hS, F, h⟩ => ?_
  refine ⟨fun k σ H => ∃ m2 ρ2 S2, Lx G kp m H0 m2 H ∧ Holds G m2 H S2 ∧ RpF G kp m2 H ρ2 σ ∧ AftS G W kp m2 H Dn (whRun t d k ρ2 S2), ⟨n, m, ρ, S, Lx.refl, hS, F, h⟩, ?_⟩
  rintro k σ2 H2 ⟨m2, ρ2, S2, l2, hS2, F2, h2⟩
  cases k with
  | zero => exact h2.elim
  | succ k =>
    refine ⟨m2, ρ2, S2, hS2, F2.rp, (AftS.rS h2 F2).imp fun c S3 m3 H3 l3 hS3 h3 => ?_⟩
    cases c with
    | false => exact iteF (h3 m3 H3 σ2 Lx.refl hS3 (F2.le l3))
    | true =>
      refine iteT ⟨fun σ H => ∃ m2 ρ2 S2, Lx G kp m H0 m2 H ∧ Holds G m2 H S2 ∧ RpF G kp m2 H ρ2 σ ∧ AftS G W kp m2 H Dn (whRun t d k ρ2 S2), fun σ' H' q => ⟨k, Nat.lt_succ_self k, q⟩, kp, m3, ρ2, S3, hS3, F2.le l3, ?_⟩
      have h3 : AftS G W kp m3 H3 Dn (match d ρ2 S3 with
        | some (.nx ρ2, S2) => whRun t d k ρ2 S2
        | some (.ct ρ2, S2) => whRun t d k ρ2 S2
        | some (.br ρ2, S2) => some (.nx ρ2, S2)
        | r => r) := h3
      have l23 := l2.trans l3.lx
      cases hr : d ρ2 S3 with
      | none => rw [hr] at h3; exact h3
      | some o =>
        obtain ⟨o, S5⟩ := o
        rw [hr] at h3
        cases o with
        | nx ρ5 => exact fun m' H' σ5 l5 hS5 F5 => ⟨m', ρ5, S5, l23.trans l5, hS5, F5, AftS.later h3 l5⟩
        | ct ρ5 => exact fun m' H' σ5 l5 hS5 F5 => ⟨m', ρ5, S5, l23.trans l5, hS5, F5, AftS.later h3 l5⟩
        | br ρ5 => exact h3
        | rt v => exact h3
        | ex c ρ5 => exact h3
end
end Py

/-! Part 12: calls, defs. -/
namespace Py
open PySem PySem.Spec PyProof.Rows L2
/-- a def's promise: what run does -/
def spF (G : Gc) (n : Nat) (run : List D → M D) : Sp := fun vs H Q E => ∃ m S ds, ds.length = n ∧ Holds G m H S ∧ RpL G m H ds vs ∧ Aft G m H E (run ds S) fun r _ m' H' => ∀ v, Rp G m' H' r v → Q v H'
def fnEnv (N : Nat) (ds : List D) : Env := ds.map (fun d => some (Sl.val d)) ++ List.replicate (N - ds.length) none
def endR : Res → R D
  | some (.nx _, S) => .ok .non S
  | some (.rt d, S) => .ok d S
  | some (.ex c _, S) => .exc c S
  | _ => .bad
def dFn (n N : Nat) (b : DS) : List D → M D := fun ds S => if ds.length = n then endR (b (fnEnv N ds) S) else .bad
def dCall (n : Nat) (run : List D → M D) (r : DA) : DE := fun ρ S => (r ρ S).bind fun xs S => if xs.length = n then run xs S else .bad
section
variable {G : Gc} {W : WX} {X : Cx} {e a b c tg : Expr} {m m' : Mu} {H H' : Hp} {S : Store} {σ : Sg} {pos p : Pos} {kp : Addr → Prop} {ρ : Env}
theorem RpL.start : ∀ {ds : List D} {vs : List V}, RpL G m H ds vs → ∀ (k : Nat) (i : Nat) (s : Sl), (ds.map (fun d => some (Sl.val d)) ++ List.replicate k none)[i]? = some (some s) → ∃ d v, s = .val d ∧ (vs.map some ++ List.replicate k none)[i]? = some (some v) ∧ Rp G m H d v
  | [], vs, h, k, i, s, e => by
    have e : (List.replicate k (none : Option Sl))[i]? = some (some s) := e
    rw [List.getElem?_replicate] at e
    split at e <;> cases e
  | d :: ds, vs, h, k, i, s, e => by
    obtain ⟨v, r, rfl, h1, h2⟩ := h
    cases i with
    | zero =>
      cases e
      exact ⟨d, v, rfl, rfl, h1⟩
    | succ i => exact RpL.start h2 k i s e
theorem fn_start {N : List Str} {ds : List D} {vs : List V} (hS : Holds G m H S) (r : RpL G m H ds vs) : RpF G m.O m H (fnEnv N.length ds) (L2.start N vs) := by
  have hl := r.length
  refine ⟨⟨fun i s e => ?_, fun i j es fs b e1 e2 => ?_, ?_⟩, fun a h => h, fun i es b e1 => ?_⟩
  · obtain ⟨d, v, rfl, q1, q2⟩ := r.start (N.length - ds.length) i s e
    refine ⟨v, ?_, q2⟩
    unfold L2.start
    rw [hl]
    exact q1
  · obtain ⟨d, v, z, _⟩ := r.start (N.length - ds.length) i _ e1
    cases z
  · unfold fnEnv L2.start
    simp [hl]
  · obtain ⟨d, v, z, _⟩ := r.start (N.length - ds.length) i _ e1
    cases z
/-- behind a def's body -/
theorem fn_end {r : Res} {E : XK} {Q : VK} (h : Aft G m H E (endR r) fun r _ m' H' => ∀ v, Rp G m' H' r v → Q v H') :
    AftS G (fun c x _ H' => E c x H') m.O m H { nx := fun _ H' => Q .non H', rt := Q } r := by
  have lw : ∀ {m' : Mu} {H' : Hp}, Lx G m.O m H m' H' → Le G m H ⟨m'.as, m.O⟩ H' := fun l => ⟨l.as, rfl, fun a o h n => l.kept a o h n id, l.tups, l.there⟩
  have rw' : ∀ {m' : Mu} {H' : Hp}, (∀ a, m.O a → m'.O a) → Lx G m.O m' H' ⟨m'.as, m.O⟩ H' := fun hO => ⟨⟨[], by simp, by simp⟩, fun a q => .inl (hO a q), fun a _ k => k, fun a o h _ _ => h, fun _ _ h => h, fun _ h => h⟩
  have hw : ∀ {m' : Mu} {H' : Hp} {S : Store}, (∀ a, m.O a → m'.O a) → Holds G m' H' S → Holds G ⟨m'.as, m.O⟩ H' S := fun {m' H' S} hO h => ⟨h.len, h.nd, fun n ob a e1 e2 => by
    have l := rw' (H' := H') hO
    exact (h.ob n ob a e1 e2).mono (fun _ _ e => e) fun d v r => l.rp r, fun a q => h.dis a (hO a q), fun a q => h.there a (hO a q), h.tabs⟩
  cases r with
  | none => exact h
  | some x =>
    obtain ⟨o, S⟩ := x
    cases o with
    | nx ρ => exact fun m' H' σ' l hS F => h _ H' (lw l) (hw F.sub hS) .non rfl
    | br ρ => exact h.elim
    | ct ρ => exact h.elim
    | rt d => exact fun m' H' v l hO hS rv => h _ H' (lw l) (hw hO hS) v ((rw' hO).rp rv)
    | ex c ρ => exact fun m' H' σ' l hS F ca e => h _ H' (lw l) (hw F.sub hS) ca e
variable {P : Program} {w : World} {mg : Str → Option Value} {base : Heap}
/-- THE RULE for a def -/
theorem fn_ok {x qual : Str} {params : Arguments} {body : List Stmt} {scope : Scope} {dvs : List V} {kws : List (Str × V)} {f : Addr} {fd : FuncData} {N ps : List Str} {k n : Nat} {d : DS} (F : FunD G.K x qual params body scope dvs kws f fd) (Sc : FnScope N ps scope) (hn : ps.length = n)
    (hb : ∀ (cdv : Value) (A : Around) (outer : List PySem.Env) (s : Shared) (H : Hp) (E : XK), Room k (A.deeper (envOfC qual scope s.heap.objs.size f cdv)) →
      PSs (cxOf (L2.CX P w) P w G.K mg base N qual scope f cdv A outer s H E) body (tS G (fun c x _ H' => E c x H') d)) :
    FnOk P w G.K mg base (L2.CX P w) (k + 1) f fd ps (spF G n (dFn n N.length d)) := by
  refine F.ok Sc (fun vs H Q E ⟨m, S, ds, hl, hS, r, h⟩ => by rw [r.length, hl, hn]) fun cdv A outer s H vs Q E hr ⟨m, S, ds, hl, hS, r, h⟩ => ?_
  refine ⟨tS G (fun c x _ H' => E c x H') d, hb cdv A outer s H E hr, m.O, m, fnEnv N.length ds, S, hS, fn_start hS r, ?_⟩
  unfold dFn at h
  rw [if_pos hl] at h
  exact fn_end h
theorem je_call {f : Addr} {fd : FuncData} {ps : List Str} {n k j : Nat} {run : List D → M D} {x : Str} {es : List Expr} {r : DA} (Fn : FnOk X.prog X.w X.K X.mg X.base (L2.CX X.prog X.w) j f fd ps (spF G n run)) (hr : Room k X.A) (hj : j ≤ k) (hg : Gl X x) (hm : X.mg x = some (.ref f)) (hk : PySem.W.keepIn X.K (.ref f) = true)
    (hb : Binds X.K fd ps []) (tk : Takes X W) (ha : PA X (e :: es) (tA G W r)) (hs : (e :: es).any starB = false) (hdb : (x == ("__debug__" : Str)) = false := by decide) : PE X (.Call (.Name x p) (e :: es) [] pos) (tE G W (dCall n run r)) := by
  rw [List.any_cons, Bool.or_eq_false_iff] at hs
  refine pe_imp (pe_callS Fn (hr.mono hj) hg hm hk hb (passAt tk) ha hdb (starEach_plain hs.1) (backTo_plain hs.2)) fun σ H Q ⟨m, ρ, S, hS, hE, h⟩ => ?_
  refine ⟨m, ρ, S, hS, hE, (Aft.bind h).imp fun xs S1 m1 H1 l1 hS1 h1 vs rvs => ?_⟩
  by_cases hl : xs.length = n
  · rw [if_pos hl] at h1
    exact ⟨m1, S1, xs, hl, hS1, rvs, h1⟩
  · rw [if_neg hl] at h1; exact h1.elim
theorem je_int {x : Str} {i : Int} {t : Tok} (hg : Gl X x) (hm : X.mg x = some (.int i t)) (hd : (x == ("__debug__" : Str)) = false) : PE X (.Name x pos) (tE G W (dCst (.int i))) := je_c (pe_glob (v := .int i) hg hm ⟨t, rfl⟩ hd) fun _ _ => rfl
theorem je_str {x z : Str} {t : Tok} (hg : Gl X x) (hm : X.mg x = some (.str z t)) (hd : (x == ("__debug__" : Str)) = false) : PE X (.Name x pos) (tE G W (dCst (.str z))) := je_c (pe_glob (v := .str z) hg hm ⟨t, rfl⟩ hd) fun _ _ => rfl
theorem je_ty {x : Str} {n : String} (hg : Gl X x) (hm : X.mg x = none) (hv : bootBuiltins x = some (.type n)) (hn : x ≠ "__name__") (hd : (x == ("__debug__" : Str)) = false) : PE X (.Name x pos) (tE G W (dCst (.ty n))) := je_c (pe_bltn (v := .ty n) hg hm hv rfl hn hd) fun _ _ => rfl
end
end Py

/-! Part 13: a text's defs, by tables of facts. -/
namespace Py
open PySem PySem.Spec PyProof.Rows L2
/-- what the head's facts tell -/
def keyDv : L2.Key → He.Dv
  | .inl i => .int i
  | .inr x => .str x
structure Zf (G : Gc) (mg : Str → Option Value) (fa : List He.Fa) (fn : List He.DefD) (tl : List (Str × List L2.Key) := []) (cl : List Str := []) : Prop where
  says : He.SaysD fa fn G.K
  tups : ∀ q ∈ tl, He.tupB G.K q.1 (q.2.map keyDv) = true
  lits : G.lits = tl.map Prod.snd
  ads : ∀ (c : Nat) (x : Str), cl[c]? = some x → G.ad c = some (He.ga G.K x)
  inn : ∃ h : Heap, G.K.In h ∧ h.Ns mainGlobals mg
section
variable {G : Gc} {W : WX} {X : Cx} {e a b c tg : Expr} {m m' : Mu} {H H' : Hp} {S : Store} {σ : Sg} {pos p : Pos} {kp : Addr → Prop} {ρ : Env} {mg : Str → Option Value} {fa : List He.Fa} {fn : List He.DefD} {tl : List (Str × List L2.Key)} {cl : List Str} {P : Program} {w : World} {base : Heap}
theorem Zf.glo (Z : Zf G mg fa fn tl cl) (i : Nat) {x : Str} (h : fa[i]? = some (.glo x)) : mg x = some (.ref (He.ga G.K x)) := let ⟨_, h1, h2⟩ := Z.inn; He.glo_ok h1 h2 (Z.says.fact i h)
theorem Zf.free (Z : Zf G mg fa fn tl cl) (i : Nat) {x : Str} (h : fa[i]? = some (.free x)) : mg x = none := let ⟨_, h1, h2⟩ := Z.inn; He.free_ok h1 h2 (Z.says.fact i h)
theorem Zf.int (Z : Zf G mg fa fn tl cl) (i : Nat) {x : Str} {z : Int} (h : fa[i]? = some (.int x z)) : ∃ t, mg x = some (.int z t) := let ⟨_, h1, h2⟩ := Z.inn; He.int_ok h1 h2 (Z.says.fact i h)
theorem Zf.str (Z : Zf G mg fa fn tl cl) (i : Nat) {x z : Str} (h : fa[i]? = some (.str x z)) : ∃ t, mg x = some (.str z t) := let ⟨_, h1, h2⟩ := Z.inn; He.str_ok h1 h2 (Z.says.fact i h)
def Callee (P : Program) (w : World) (G : Gc) (mg : Str → Option Value) (base : Heap) (x : Str) (k n : Nat) (ps : List Str) (run : List D → M D) : Prop :=
  ∃ f fd, mg x = some (.ref f) ∧ PySem.W.keepIn G.K (.ref f) = true ∧ Binds G.K fd ps [] ∧ FnOk P w G.K mg base (L2.CX P w) k f fd ps (spF G n run) ∧
    (∀ (s : Shared) (us : List Value), us.length = ps.length → BindsTo s fd ⟨us, []⟩ (ps.zip us)) ∧ ∃ oc od osl, G.K.lookup f = some ⟨oc, od, .func fd, osl⟩
def dfD (x : Str) (st : Stmt) : He.DefD := ⟨(x, none), x, x, defArgs st, defBody st, defScope st, [], []⟩
theorem callee_of (Z : Zf G mg fa fn tl cl) (i j : Nat) {x : Str} {st : Stmt} {N ps : List Str} {k n : Nat} {d : DS} (hi : fn[i]? = some (dfD x st)) (hj : fa[j]? = some (.glo x)) (Sc : FnScope N ps (defScope st)) (hn : ps.length = n)
    (hbd : ∀ (kV doc pm : Value) (an : Option Addr) (cdv ct : Value) (us : List Value), us.length = ps.length → bindArgs (PySem.W.fnOf x x (defArgs st) (defBody st) (defScope st) .none kV doc pm an cdv ct) ⟨us, []⟩ = pure (ps.zip us))
    (hb : ∀ (f : Addr) (cdv : Value) (A : Around) (outer : List PySem.Env) (s : Shared) (H : Hp) (E : XK), Room k (A.deeper (envOfC x (defScope st) s.heap.objs.size f cdv)) →
      PSs (cxOf (L2.CX P w) P w G.K mg base N x (defScope st) f cdv A outer s H E) (defBody st) (tS G (fun c x _ H' => E c x H') d)) : Callee P w G mg base x (k + 1) n ps (dFn n N.length d) := by
  obtain ⟨fd, F⟩ := Z.says.def_ i hi
  have F : FunD G.K x x (defArgs st) (defBody st) (defScope st) [] [] (He.ga G.K x) fd := F
  obtain ⟨oc, od, dV, kV, doc, pm, an, cdv, ct, osl, e, lk, _⟩ := F.ex
  exact ⟨_, fd, Z.glo j hj, F.kp, F.bindsN hbd, fn_ok F Sc hn (hb _), F.bindsA hbd, oc, od, osl, lk⟩
theorem je_cal {ps : List Str} {n k j : Nat} {run : List D → M D} {x : Str} {es : List Expr} {r : DA} (Fn : Callee X.prog X.w G X.mg X.base x j n ps run) (hK : X.K = G.K) (hr : Room k X.A) (hj : j ≤ k) (hg : Gl X x)
    (tk : Takes X W) (ha : PA X (e :: es) (tA G W r)) (hs : (e :: es).any starB = false) (hdb : (x == ("__debug__" : Str)) = false := by decide) : PE X (.Call (.Name x p) (e :: es) [] pos) (tE G W (dCall n run r)) := by
  obtain ⟨f, fd, h1, h2, h3, h4, _⟩ := Fn
  rw [← hK] at h2 h3 h4
  exact je_call h4 hr hj hg h1 h2 h3 tk ha hs hdb
theorem je_gint {x : Str} {i : Int} (hg : Gl X x) (hm : ∃ t, X.mg x = some (.int i t)) (hd : (x == ("__debug__" : Str)) = false := by decide) : PE X (.Name x pos) (tE G W (dCst (.int i))) := let ⟨_, h⟩ := hm; je_int hg h hd
theorem je_gstr {x z : Str} (hg : Gl X x) (hm : ∃ t, X.mg x = some (.str z t)) (hd : (x == ("__debug__" : Str)) = false := by decide) : PE X (.Name x pos) (tE G W (dCst (.str z))) := let ⟨_, h⟩ := hm; je_str hg h hd
theorem cst_int {i : Int} {j : Nat} : PE X (.Constant (.int i) j pos) (tE G W (dCst (.int i))) := je_c pe_int fun _ _ => rfl
theorem cst_bl {i : Bool} {j : Nat} : PE X (.Constant (.bool i) j pos) (tE G W (dCst (.bl i))) := je_c pe_bl fun _ _ => rfl
theorem cst_str {i : Str} {j : Nat} : PE X (.Constant (.str i) j pos) (tE G W (dCst (.str i))) := je_c pe_str fun _ _ => rfl
theorem cst_non {j : Nat} : PE X (.Constant .none j pos) (tE G W (dCst .non)) := je_c pe_non fun _ _ => rfl
def dYes : DT := fun _ S => .ok true S
theorem jts_nil : PTs X [] (tT G W dYes) := ⟨fun pins s σ H Q I ⟨m, ρ, S, hS, hE, h⟩ => pts_nil.run pins s σ H Q I (h.ok hS)⟩
theorem jts_one {t : DT} (h : PT X c (tT G W t)) : PTs X [c] (tT G W t) := pts_one h
theorem jw1_and {t : DT} (h : PT X a (tT G W t)) : PW X (.BoolOp .And [a] pos) (tT G W t) := pw_and1 h
theorem jw1_or {t : DT} (h : PT X a (tT G W t)) : PW X (.BoolOp .Or [a] pos) (tT G W t) := pw_or1 h
theorem lc_of {di : DI} {g : DG} {t : DT} {de : DE} {vs : List Nat} {Q : VK} (h : tL G W (dLc di g t de vs) σ H Q) : tLc (tIw G W di) (tG G vs g) (tT G WN t) (tE G WN de) vs σ H Q :=
  let ⟨_, _, _, hS, hE, h⟩ := h; lcT vs hS hE h
theorem huR {k : Nat} {A : Around} (hr : Room k A) : A.units + 200 < cLine := by have := hr.un; omega
theorem js_setV {i : Nat} {d : DE} {st : Stmt} (h : PS X st (tAsg (tE G W d) (gName i))) : PS X st (tS G W (dSet i (qV d))) := js_set (asg_imp h fun _ _ _ q => tE_of q)
theorem js_setO {i : Nat} {d : DA} {st : Stmt} (h : PS X st (tAsg (tL G W d) (gName i))) : PS X st (tS G W (dSet i (qO d))) := js_set (asg_imp h fun _ _ _ q => tL_of q)
theorem js_lcV {i : Nat} {di : DI} {g : DG} {t : DT} {de : DE} {vs : List Nat} {st : Stmt} (h : PS X st (tAsg (tLc (tIw G W di) (tG G vs g) (tT G WN t) (tE G WN de) vs) (gName i))) : PS X st (tS G W (dSet i (qV (dLst (dLc di g t de vs))))) :=
  js_set (asg_imp h fun _ _ _ q => lc_of (tL_frz (tE_of q)))
theorem js_lcO {i : Nat} {di : DI} {g : DG} {t : DT} {de : DE} {vs : List Nat} {st : Stmt} (h : PS X st (tAsg (tLc (tIw G W di) (tG G vs g) (tT G WN t) (tE G WN de) vs) (gName i))) : PS X st (tS G W (dSet i (qO (dLc di g t de vs)))) :=
  js_set (asg_imp h fun _ _ _ q => lc_of (tL_of q))
theorem qV_of {d : DE} (h : PE X e (tE G W d)) : PE X e (tQ G W (qV d)) := pe_imp h fun _ _ _ q => tE_of q
theorem qO_of {d : DA} (h : PE X e (tL G W d)) : PE X e (tQ G W (qO d)) := pe_imp h fun _ _ _ q => tL_of q
end
end Py

/-! Part 14: pairs of values bound to names one after the other. -/
namespace Py
open PySem PySem.Spec PyProof.Rows L2
section
variable {G : Gc} {W : WX} {X : Cx} {e a b c tg : Expr} {m m' : Mu} {H H' : Hp} {S : Store} {σ : Sg} {pos p : Pos} {kp : Addr → Prop} {ρ : Env} {st : Stmt} {Dn : Ends}
def dDisp (r : DA) : DA := fun ρ S => (r ρ S).bind fun xs S => if xs.length ≤ sizeLine then .ok xs S else .bad
theorem jl_disp {es : List Expr} {r : DA} (ha : PA X es (tA G W r)) : PE X (.List es pos) (tL G W (dDisp r)) := jl_lst (k := 0) ha
/-- a new tuple of what was just made -/
theorem RpF.laid {q : Addr} {o : HO} (F : RpF G kp m H ρ σ) (hp : H q = none) : RpF G kp m (L2.upd H q o) ρ σ := F.le (Le.same (Same.new hp))
theorem js_tup2 {i j : Nat} {q q' : DQ} (hK : X.K = G.K) (h : PS X st (tAsg (tTup (tCons (tQ G W q) (tCons (tQ G W q') tNil))) (gTup X.K 2 (gCons (gName i) (gCons (gName j) gNil))))) : PS X st (tS G W (dPar2 i j q q')) := ps_imp h fun D σ H ⟨kp, m, ρ, S, hS, F, h⟩ =>
  ⟨m, ρ, S, hS, F.rp, AftS.rQ h F fun s S1 m1 H1 v l hS1 r fr h1 => by
    have F1 : RpF G kp m1 H1 ρ σ := ⟨F.rp.lx l, fun a h => l.O2 a (F.sub a h) trivial, F.own⟩
    refine ⟨m1, ρ, S1, hS1, F1.rp, AftS.rQ h1 F1 fun s' S2 m2 H2 v' l2 hS2 r' fr' h2 => ⟨by show 2 ≤ sizeLine; decide, fun T hT => ?_⟩⟩
    have F2 : RpF G kp m2 H2 (ρ.set i (some s)) (σ.set i (some v)) := F.take hS (l.trans l2) (l2.rps r) fr i
    have F4 : RpF G kp m2 H2 ((ρ.set i (some s)).set j (some s')) ((σ.set i (some v)).set j (some v')) := by
      refine F2.setS r' j fun ds a e1 e2 => ⟨fun z => hS1.there a (F1.sub a z) (fr' ds a e1 e2), fun k es _ k1 k2 => ?_⟩
      have F3 : RpF G kp m1 H1 (ρ.set i (some s)) (σ.set i (some v)) := F.take hS l r fr i
      obtain ⟨_, _, xs, z, _⟩ := F3.rp.known k1 k2
      exact absurd (nt_of z fun _ z => by cases z) (by rw [fr' ds a e1 e2]; simp)
    exact ⟨T, [v, v'], rfl, SqT.of upd_same, rfl, v, [v'], rfl, v', [], rfl, rfl, h2 m2 _ _ (Le.same (Same.new hT)).lx (hS2.laid hT) (F4.laid hT)⟩⟩
theorem js_tup3 {i j n : Nat} {q q' q'' : DQ} (hK : X.K = G.K) (h : PS X st (tAsg (tTup (tCons (tQ G W q) (tCons (tQ G W q') (tCons (tQ G W q'') tNil)))) (gTup X.K 3 (gCons (gName i) (gCons (gName j) (gCons (gName n) gNil)))))) : PS X st (tS G W (dPar3 i j n q q' q'')) := ps_imp h fun D σ H ⟨kp, m, ρ, S, hS, F, h⟩ =>
  ⟨m, ρ, S, hS, F.rp, AftS.rQ h F fun s S1 m1 H1 v l hS1 r fr h1 => by
    have F1 : RpF G kp m1 H1 ρ σ := ⟨F.rp.lx l, fun a h => l.O2 a (F.sub a h) trivial, F.own⟩
    refine ⟨m1, ρ, S1, hS1, F1.rp, AftS.rQ h1 F1 fun s' S2 m2 H2 v' l2 hS2 r' fr' h2 => ?_⟩
    have F2 : RpF G kp m2 H2 ρ σ := ⟨F1.rp.lx l2, fun a h => l2.O2 a (F1.sub a h) trivial, F1.own⟩
    refine ⟨m2, ρ, S2, hS2, F2.rp, AftS.rQ h2 F2 fun s'' S3 m3 H3 v'' l3 hS3 r'' fr'' h3 => ⟨by show 3 ≤ sizeLine; decide, fun T hT => ?_⟩⟩
    have A1 : RpF G kp m1 H1 (ρ.set i (some s)) (σ.set i (some v)) := F.take hS l r fr i
    have A2 : RpF G kp m2 H2 ((ρ.set i (some s)).set j (some s')) ((σ.set i (some v)).set j (some v')) := A1.take hS1 l2 r' fr' j
    have A3 := A2.take hS2 l3 r'' fr'' n
    exact ⟨T, [v, v', v''], rfl, SqT.of upd_same, rfl, v, [v', v''], rfl, v', [v''], rfl, v'', [], rfl, rfl, h3 m3 _ _ (Le.same (Same.new hT)).lx (hS3.laid hT) (A3.laid hT)⟩⟩
end
end Py

/-! Part 15: the law's end. -/
namespace Py
open PySem PySem.Spec PyProof.Rows L2
/-- no list among the text's own objects -/
def noL (K : PySem.W.Frag) : Bool := K.all fun x => match x.2.cls with
  | .type c => c != "list"
  | _ => true
theorem mem_lk {a : Addr} {o : Obj} : ∀ {K : PySem.W.Frag}, K.lookup a = some o → (a, o) ∈ K
  | [], e => nomatch (show (none : Option Obj) = some o from e)
  | (b, u) :: r, e => by
    have e2 : (match a == b with | true => some u | false => List.lookup a r) = some o := e
    cases q : (a == b) with
    | true =>
      rw [q] at e2
      rw [beq_iff_eq.mp q, Option.some.inj e2]
      exact List.mem_cons_self
    | false =>
      rw [q] at e2
      exact List.mem_cons_of_mem _ (mem_lk e2)
theorem noL_ok {K : PySem.W.Frag} {a : Addr} {o : Obj} (h : noL K = true) (e : K.lookup a = some o) (c : o.cls = .type "list") : False := by
  have hm : (a, o) ∈ K := mem_lk e
  have := List.all_eq_true.mp h _ hm
  rw [c] at this
  exact absurd this (by decide)
def tlB (tl : List (Str × List L2.Key)) (K : PySem.W.Frag) : Bool := tl.all fun q => He.tupB K q.1 (q.2.map keyDv)
def obN (n : Nat) (fa : List He.Fa) (fn : List He.DefD) (g : Addr → Option Obj) (tl : List (Str × List L2.Key) := []) : Bool × He.AlD := (noL (He.frG g (He.asD g n)) && tlB tl (He.frG g (He.asD g n)), He.obsD fa fn (He.frG g (He.asD g n)))
def hookN (n : Nat) (fa : List He.Fa) (fn : List He.DefD) (tl : List (Str × List L2.Key) := []) : PySem.W.Hook where
  α := Bool × He.AlD
  obs := fun s => obN n fa fn s.heap.get? tl
  val := fun _ => (true, He.valD fn)
  says := fun _ h => ∃ K : PySem.W.Frag, K.In h ∧ He.SaysD fa fn K ∧ (noL K && tlB tl K) = true
  of := fun _ _ e => ⟨_, He.frG_in, congrArg Prod.snd e, congrArg Prod.fst e⟩
  keeps := fun _ _ _ ⟨K, hK, c⟩ k => ⟨K, PySem.W.Frag.In.keeps hK k, c⟩
theorem obN_eq {n : Nat} {fa : List He.Fa} {fn : List He.DefD} {tl : List (Str × List L2.Key)} {g : Addr → Option Obj} {s : Shared} (h : ∀ a, g a = s.heap.get? a) : obN n fa fn g tl = (hookN n fa fn tl).obs s := by
  have e : g = s.heap.get? := funext h
  rw [e] <;> rfl
/-- a law: as walk_ofE, the bits told, no list in the text -/
theorem walk_N {l : PySem.W.OpenLaw} {n k : Nat} {q : Program} {loose : List Str} {XP : (Str → Option Value) → Heap → Prop} {YP : World → Heap → Prop} {d : DefRec} {CX : Program → World → CXT} {x : Str}
    (hn : l.most = some n) (hn2 : n ≤ sizeLine) (hdf : d.params.defaults = []) (hr : Room k callerA)
    (F : ∀ (w : World) (mg : Str → Option Value) (fa : Addr) (h : Heap), YP w h → h.Ns mainGlobals mg → mg d.name = some (.ref fa) →
      ∃ (K : PySem.W.Frag) (fd : FuncData) (sp : Sp), K.In h ∧ (∀ (s : Shared) (u : Value), BindsTo s fd ⟨[u], []⟩ [(x, u)]) ∧
        (∀ (H : Hp) (a : Addr) (ns : List Int), ns.length ≤ n → (∀ z ∈ ns, Builtin.Int.intBits z ≤ 1048576) → Only H → SqL K H a (ns.map V.int) → sp [.ref a] H (fun v _ => v = .bl true) fun _ _ _ => False) ∧
        ∀ base : Heap, K.In base → base.Ns mainGlobals mg → FnOk l.prog w K mg base (CX l.prog w) k fa fd [x] sp)
    (hCX : ∀ (w : World) (H : Hp) (s : Shared) (e : Value) (s' : Shared), CX l.prog w [] H s (fun _ _ _ => False) e s' → False) :
    PySem.W.WalkO q loose XP YP l.row.toRowW d [] (fun f vs => PySem.call f vs) := by
  refine Att.attach_callB hn hdf fun w s₀ s₁ mg mb fa o pm cd doc a vs ns G Y ho hd hcd hmg hobj hints hlen hbits hg => ?_
  obtain ⟨K, fd, sp, KX, hb, hsp, hF⟩ := F w mg fa _ Y G.T.g hmg
  exact law_call KX G.T.g G.T.b G.T.builtins G.T.nolimit hg hobj hints (Nat.le_trans hlen hn2) hr hF hb (fun H hO hS => hsp H a ns hlen hbits hO hS) fun H e s' => hCX w H s₁ e s'
/-- the law's def on the script gives True -/
theorem sp_law {G : Gc} {run : List D → M D} {H : Hp} {a : Addr} {ns : List Int} (nl : noL G.K = true) (ht : LamX.Tabs G.tabs H) (hO : Only H) (hS : SqL G.K H a (ns.map V.int)) (h : ∃ S', run [.ref 0] [.frz (ns.map D.int)] = .ok (.bl true) S') :
    spF G 1 run [.ref a] H (fun v _ => v = .bl true) fun _ _ _ => False := by
  obtain ⟨o, hf⟩ : ∃ o, H a = some (.frz o (.lst (ns.map V.int))) := by
    rcases hS with (q | ⟨o, q⟩) | ⟨o, its, n, q1, q2, _⟩
    · rcases hO a with z | ⟨o, xs, z⟩
      · rw [q] at z; cases z
      · rw [q] at z; cases z
    · exact ⟨o, q⟩
    · exact (noL_ok nl q1 q2).elim
  obtain ⟨S', hr⟩ := h
  refine ⟨⟨[a], fun _ => False⟩, [.frz (ns.map D.int)], [.ref 0], rfl, ⟨rfl, by simp, fun n ob b e1 e2 => ?_, fun _ z => z.elim, fun _ z => z.elim, ht⟩, ⟨.ref a, [], rfl, ⟨a, rfl, rfl⟩, rfl⟩, ?_⟩
  · cases n with
    | zero =>
      cases e1
      cases e2
      exact ⟨o, ns.map V.int, hf, RpL.ofInts ns⟩
    | succ n => cases e1
  · rw [hr]
    exact fun m' H' l hS v rv => rv
theorem cx_none {P : Program} {w : World} {outer : List PySem.Env} {H : Hp} {s : Shared} {e : Value} {s' : Shared} (h : L2.CX P w outer H s (fun _ _ _ => False) e s') : False := by
  obtain ⟨_, _, _, _, _, _, _, _, _, _, _, _, z⟩ := h
  exact z
/-- the end, from the law's def as one of the text's -/
theorem end_of {P : Program} {w : World} {mg : Str → Option Value} {fa : Addr} {h : Heap} {fas : List He.Fa} {fn : List He.DefD} {tl : List (Str × List L2.Key)} {cl : List Str} {k : Nat} {run : List D → M D} {n : Nat}
    (ok : ∀ (G : Gc) (base : Heap), Zf G mg fas fn tl cl → Callee P w G mg base "law" k 1 ["script"] run)
    (Y : ∃ K : PySem.W.Frag, K.In h ∧ He.SaysD fas fn K ∧ (noL K && tlB tl K) = true) (G : h.Ns mainGlobals mg) (hmg : mg "law" = some (.ref fa))
    (hl : ∀ ns : List Int, ns.length ≤ n → (∀ z ∈ ns, Builtin.Int.intBits z ≤ 1048576) → ∃ S', run [.ref 0] [.frz (ns.map D.int)] = .ok (.bl true) S') :
    ∃ (K : PySem.W.Frag) (fd : FuncData) (sp : Sp), K.In h ∧ (∀ (s : Shared) (u : Value), BindsTo s fd ⟨[u], []⟩ [("script", u)]) ∧
        (∀ (H : Hp) (a : Addr) (ns : List Int), ns.length ≤ n → (∀ z ∈ ns, Builtin.Int.intBits z ≤ 1048576) → Only H → SqL K H a (ns.map V.int) → sp [.ref a] H (fun v _ => v = .bl true) fun _ _ _ => False) ∧
        ∀ base : Heap, K.In base → base.Ns mainGlobals mg → FnOk P w K mg base (L2.CX P w) k fa fd ["script"] sp := by
  obtain ⟨K, KX, c, nl⟩ := Y
  rw [Bool.and_eq_true] at nl
  obtain ⟨nl, tb⟩ := nl
  have Z : Zf ⟨K, fun n => (cl[n]?).map (He.ga K), tl.map Prod.snd, [], w⟩ mg fas fn tl cl := ⟨c, fun q hq => List.all_eq_true.mp tb q hq, rfl, fun n x e => by show (cl[n]?).map (He.ga K) = _; rw [e]; rfl, h, KX, G⟩
  obtain ⟨f, fd, h1, h2, h3, _, h5, oc, od, osl, h6⟩ := ok ⟨K, fun n => (cl[n]?).map (He.ga K), tl.map Prod.snd, [], w⟩ h Z
  rw [hmg] at h1
  cases h1
  refine ⟨K, fd, spF ⟨K, fun n => (cl[n]?).map (He.ga K), tl.map Prod.snd, [], w⟩ 1 run, KX, fun s u => h5 s [u] rfl, fun H a ns hlen hb hO hS => sp_law (G := ⟨K, fun n => (cl[n]?).map (He.ga K), tl.map Prod.snd, [], w⟩) nl (fun _ z => by cases z) hO hS (hl ns hlen hb), fun base _ _ => ?_⟩
  obtain ⟨f', fd', k1, k2, k3, k4, k5, oc', od', osl', k6⟩ := ok ⟨K, fun n => (cl[n]?).map (He.ga K), tl.map Prod.snd, [], w⟩ base Z
  rw [hmg] at k1
  cases k1
  have e : some (⟨oc, od, .func fd, osl⟩ : Obj) = some ⟨oc', od', .func fd', osl'⟩ := h6.symm.trans k6
  cases e
  exact k4
end Py

set_option maxHeartbeats 4000000
/-! Part 16: an empty dict, slices with a step, a list that is a sum, == of tuples of anything and (). -/
namespace Py
open PySem PySem.Spec PyProof.Rows L2
section
variable {G : Gc} {X : Cx} {W : WX} {m : Mu} {H : Hp} {S : Store} {e a b : Expr} {pos : Pos}
/-- {} -/
theorem je_emp : PE X (.Dict [] [] pos) (tE G W (dCst .emp)) :=
  pe_imp pe_dnewK fun σ H Q ⟨m, ρ, S, hS, hE, h⟩ => fun p hp => h m _ (Le.same (Same.new hp)) (hS.same (Same.new hp)) (.ref p) ⟨p, rfl, upd_same, hS.fresh hp⟩
/-- xs + ys, a list of its own -/
def dCatL (a b : DE) : DA := fun ρ S => (a ρ S).bind fun x S => (b ρ S).bind fun y S => match x, y with
  | .lst ds, .lst es => if ds.length + es.length ≤ sizeLine then .ok (ds ++ es) S else .bad
  | _, _ => .bad
theorem jl_cat {da db : DE} (ha : PE X a (tR G W da)) (hb : PE X b (tR G W db)) : PE X (.BinOp a .Add b pos) (tL G W (dCatL da db)) :=
  pe_imp (pe_op op_cat ha hb) fun σ H Q ⟨m, ρ, S, hS, hE, h⟩ => ⟨m, ρ, S, hS, hE, (AftL.of h).imp fun x S1 m1 H1 l1 hS1 h1 v rv => ⟨m1, ρ, S1, hS1, hE.le l1, (AftL.of h1).imp fun y S2 m2 H2 l2 hS2 h2 u ru => by
    cases x with
    | lst ds =>
      cases y with
      | lst es =>
        have h2 : AftL G m2 H2 (fun c x H' => W c x σ H') (if ds.length + es.length ≤ sizeLine then R.ok (ds ++ es) S2 else R.bad) Q := h2
        by_cases hz : ds.length + es.length ≤ sizeLine
        · rw [if_pos hz] at h2
          have rv := l2.rt rv
          obtain ⟨p, xs, rfl, q1, _, q2⟩ := rv
          obtain ⟨p', ys, rfl, q3, _, q4⟩ := ru
          exact ⟨p, p', xs, ys, rfl, rfl, q1, q3, by rw [q2.length, q4.length]; exact hz, fun l hl => AftL.new h2 hS2 (q2.append q4) hl⟩
        · rw [if_neg hz] at h2; exact h2.elim
      | _ => exact h2.elim
    | _ => exact h2.elim⟩⟩
/-! ### slices with a step -/
theorem Vals.pick {xs : List V} {us : List Value} (r : Vals xs us) : ∀ l : List Nat, Vals (l.filterMap (xs[·]?)) (l.filterMap (us[·]?))
  | [] => .nil
  | i :: l => by
    cases e : xs[i]? with
    | none =>
      have e2 := r.none_of e
      rw [List.filterMap_cons_none e, List.filterMap_cons_none e2]
      exact Vals.pick r l
    | some x =>
      obtain ⟨u, e2, q⟩ := r.get e
      rw [List.filterMap_cons_some e, List.filterMap_cons_some e2]
      exact .cons q (Vals.pick r l)
theorem RpL.pick {ds : List D} {xs : List V} (r : RpL G m H ds xs) : ∀ l : List Nat, RpL G m H (l.filterMap (ds[·]?)) (l.filterMap (xs[·]?))
  | [] => rfl
  | i :: l => by
    cases e : ds[i]? with
    | none =>
      have e2 : xs[i]? = none := by
        rw [List.getElem?_eq_none_iff] at e ⊢
        rw [r.length]; exact e
      rw [List.filterMap_cons_none e, List.filterMap_cons_none e2]
      exact RpL.pick r l
    | some x =>
      obtain ⟨u, e2, q⟩ := r.get e
      rw [List.filterMap_cons_some e, List.filterMap_cons_some e2]
      exact ⟨u, _, rfl, q, RpL.pick r l⟩
theorem RpL.rev : ∀ {ds : List D} {xs : List V}, RpL G m H ds xs → RpL G m H ds.reverse xs.reverse
  | [], _, h => by
    have h : _ = [] := h
    rw [h]; rfl
  | d :: ds, _, ⟨v, r, e, h1, h⟩ => by
    subst e
    rw [List.reverse_cons, List.reverse_cons]
    exact (RpL.rev h).append ⟨v, [], rfl, h1, rfl⟩
/-- the places of [::k] -/
def stepIx (n : Nat) (k : Int) : List Nat := sliceRange (sliceBounds none none (some k) n).1 (sliceBounds none none (some k) n).2.1 (sliceBounds none none (some k) n).2.2
def stepD (ds : List D) (k : Int) : List D := (stepIx ds.length k).filterMap (ds[·]?)
/-- xs[::k], a list | t[::-1] -/
def dStepL (k : Int) (a : DE) : DE := fun ρ S => (a ρ S).bind fun x S => match x with
  | .lst ds => .ok (.lst (stepD ds k)) S
  | _ => .bad
def dRevT (a : DE) : DE := fun ρ S => (a ρ S).bind fun x S => match x with
  | .tup ds => .ok (.tup ds.reverse) S
  | _ => .bad
theorem pe_stepL {te : TE} {i : Nat} {k : Nat} {p1 p3 : Pos} (hi : i ≠ 0) (he : PE X e te) : PE X (.Subscript e (.Slice none none (some (.Constant (.int (i : Nat)) k p1)) p3) pos)
    (fun σ H Q => te σ H fun x H1 => ∃ a xs, x = .ref a ∧ SqL X.K H1 a xs ∧ ∀ p, H1 p = none → Q (.ref p) (upd H1 p (.lst ((stepIx xs.length (i : Nat)).filterMap (xs[·]?))))) := by
  refine ⟨fun pins s σ H Q I h => ?_⟩
  refine Subscript_ (thn (he.run pins s σ H _ I h) fun v s1 ⟨x, H1, I1, r1, q1⟩ => ?_)
  obtain ⟨a, xs, ex, hx, q⟩ := q1
  subst ex
  cases r1
  have hst : PO X (some (.Constant (.int (i : Nat)) k p1)) (tPart (tC (.int (i : Nat)))) := po_some pe_int
  refine wpAny_Slice (thn (po_none.run pins s1 σ H1 (fun o H2 => o = none ∧ H2 = H1) I1 ⟨rfl, rfl⟩) fun vl s2 ⟨l, H2, I2, pl, el, e2⟩ => ?_)
  subst el e2
  refine thn (po_none.run pins s2 σ H2 (fun o H3 => o = none ∧ H3 = H2) I2 ⟨rfl, rfl⟩) fun vu s3 ⟨u, H3, I3, pu, eu, e3⟩ => ?_
  subst eu e3
  refine thn (hst.run pins s3 σ H3 (fun o H4 => o = some ((i : Nat) : Int) ∧ H4 = H3) I3 ⟨_, rfl, rfl, rfl⟩) fun vs s4 ⟨o, H4, I4, ps, eo, e4⟩ => ?_
  subst eo e4
  have I5 : Inv X pins σ H4 { s4 with heap := s4.heap.push { cls := .type "slice", data := .fields #[vl, vu, vs] } } := I4.kept (t' := s4.toks) fun b ob q => Heap.get?_push_of_some _ q
  obtain ⟨its, r, ht, hz⟩ := I5.list hx
  have hlen := r.length
  show wpAny (model X.prog X.w) X.A (subscriptTail e (.Slice none none (some (.Constant (.int (i : Nat)) k p1)) p3) (.ref a) (.ref s4.heap.objs.size)) (EP X pins σ Q) X.xe { s4 with heap := s4.heap.push { cls := .type "slice", data := .fields #[vl, vu, vs] } }
  refine tail_any (ops := [.ref a, .ref s4.heap.objs.size]) ht.isList.typeIs (PySem.slot_list_getitem.lookup) ?_ (by with_unfolding_all rfl)
  refine wpAny_getItem_list_slice ht.isList (Heap.IsSliceOf.new _ vl vu vs) pl pu ps (by simp; omega) ?_ (by rw [List.size_toArray]; omega)
  have ep : slicePick its.toArray none none (some ((i : Nat) : Int)) = ((stepIx xs.length (i : Nat)).filterMap (its[·]?)).toArray := by
    unfold slicePick stepIx
    rw [List.size_toArray, hlen]
    simp
  rw [ep]
  refine ⟨.ref _, _, I5.laid (t' := s4.toks) (o := .lst ((stepIx xs.length (i : Nat)).filterMap (xs[·]?))) (fun b ob q => Heap.get?_push_of_some _ q) (Nat.le_refl _) ?_, rfl, q _ (I5.hok.fresh (Nat.le_refl _))⟩
  refine ⟨?_, _, 0, Vals.pick r _, Heap.get?_push_size _ rfl⟩
  have h1 := slicePick_size_le its.toArray none none (some ((i : Nat) : Int))
  rw [ep, List.size_toArray, List.size_toArray] at h1
  rw [(Vals.pick r _).length]
  omega
theorem je_stepL {d : DE} {i : Nat} {k : Nat} {p1 p3 : Pos} (hK : X.K = G.K) (hi : i ≠ 0) (h : PE X e (tR G W d)) : PE X (.Subscript e (.Slice none none (some (.Constant (.int (i : Nat)) k p1)) p3) pos) (tE G W (dStepL (i : Nat) d)) :=
  pe_imp (pe_stepL hi h) fun σ H Q ⟨m, ρ, S, hS, hE, h⟩ => ⟨m, ρ, S, hS, hE, (Aft.bind h).imp fun x S1 m1 H1 l1 hS1 h1 v rv => by
    cases x with
    | lst ds =>
      obtain ⟨p, xs, rfl, q1, _, q2⟩ := rv
      have h1 : rRes G m1 H1 S1 (.lst (stepD ds (i : Nat))) Q := h1
      refine ⟨p, xs, rfl, by rw [hK]; exact SqL.of q1, fun l hl => h1.lst hS1 hl ?_⟩
      unfold stepD
      rw [← q2.length]
      exact q2.pick _
    | _ => exact h1.elim⟩
theorem sliceApplied_rev {s : Shared} {A : Around} {prog : Program} {w : World} {E : Value → Shared → Prop} {sl : Addr} {vl vu vs : Value} {n : Nat} {Q : Int × Int × Nat → Shared → Prop} (hs : s.heap.IsSliceOf sl vl vu vs) (pl : IsPart vl none) (pu : IsPart vu none) (ps : IsPart vs (some (-1)))
    (h : Q ((n : Int) - 1, -1, n) s) : wpAny (model prog w) A (Builtin.Slice.sliceApplied (.ref sl) (pure (n : Int))) Q E s := by
  obtain ⟨os, hos, hcs, hds⟩ := id hs
  unfold Builtin.Slice.sliceApplied Builtin.Slice.sliceFields
  refine wpAny_bind (wpAny_bind (wpAny_field hos hds (x := vl) rfl (wpAny_bind (wpAny_field hos hds (x := vu) rfl (wpAny_bind (wpAny_field hos hds (x := vs) rfl (wpAny_pure ?_)))))))
  refine wpAny_bind (HT.slicePart_ ps ?_)
  show wpAny _ _ (if ((-1 : Int) == 0) = true then _ else _) _ _ s
  rw [if_neg (by decide)]
  refine wpAny_bind (HT.slicePart_ pl (wpAny_bind (HT.slicePart_ pu (wpAny_bind (wpAny_pure ?_)))))
  show wpAny _ _ (match Builtin.Slice.sliceAdjust none none (-1) (n : Int) with | (lo, hi) => pure (lo, (-1 : Int), Builtin.Slice.slicePlaces lo hi (-1))) _ _ s
  have e1 : Builtin.Slice.sliceAdjust none none (-1) (n : Int) = ((n : Int) - 1, -1) := rfl
  rw [e1]
  show wpAny _ _ (pure ((n : Int) - 1, (-1 : Int), Builtin.Slice.slicePlaces ((n : Int) - 1) (-1) (-1))) _ _ s
  have e2 : Builtin.Slice.slicePlaces ((n : Int) - 1) (-1) (-1) = n := by
    unfold Builtin.Slice.slicePlaces
    rw [if_neg (by decide)]
    by_cases hn : n = 0
    · subst hn; rfl
    · rw [if_pos (by omega)]
      have : ((n : Int) - 1 - -1 - 1) / (- -1) + 1 = n := by
        rw [show (- -1 : Int) = 1 by decide, Int.ediv_one]; omega
      rw [this]; simp
  rw [e2]
  exact wpAny_pure h
theorem fm_congr {α β : Type} {f g : α → Option β} : ∀ l : List α, (∀ x ∈ l, f x = g x) → l.filterMap f = l.filterMap g
  | [], _ => rfl
  | x :: l, h => by
    have h1 := h x List.mem_cons_self
    have h2 := fm_congr l fun y hy => h y (List.mem_cons_of_mem _ hy)
    cases e : f x with
    | none => rw [List.filterMap_cons_none e, List.filterMap_cons_none (h1 ▸ e), h2]
    | some y => rw [List.filterMap_cons_some e, List.filterMap_cons_some (h1 ▸ e), h2]
theorem pick_rev (xs : Array Value) : ((List.range xs.size).filterMap fun (m : Nat) => xs[(((xs.size : Int) - 1) + (m : Int) * (-1)).toNat]?).toArray = xs.toList.reverse.toArray := by
  have e : ∀ m ∈ List.range xs.size, xs[(((xs.size : Int) - 1) + (m : Int) * (-1)).toNat]? = xs.toList.reverse[m]? := fun m hm => by
    have hm := List.mem_range.mp hm
    have : (((xs.size : Int) - 1) + (m : Int) * (-1)).toNat = xs.size - 1 - m := by omega
    rw [this, List.getElem?_reverse (by simpa using hm)]
    simp
  have e2 : (List.range xs.size).filterMap (fun (m : Nat) => xs[(((xs.size : Int) - 1) + (m : Int) * (-1)).toNat]?) = (List.range xs.size).filterMap fun m => xs.toList.reverse[m]? := by
    exact fm_congr _ e
  rw [e2]
  have := PySem.W.krv_all xs.toList.reverse.toArray
  simp only [List.size_toArray, List.length_reverse, Array.length_toList, List.getElem?_toArray] at this
  rw [this]
theorem getItem_tuple_rev {s : Shared} {A : Around} {prog : Program} {w : World} {E : Value → Shared → Prop} {t sl : Addr} {items : Array Value} {vl vu vs : Value} {Q : Value → Shared → Prop} (ht : IsTup s.heap t items) (hs : s.heap.IsSliceOf sl vl vu vs) (pl : IsPart vl none) (pu : IsPart vu none) (ps : IsPart vs (some (-1)))
    (h : Q (.ref s.heap.objs.size) { s with heap := s.heap.push { cls := .type "tuple", data := .seq items.toList.reverse.toArray } })
    (hsz : items.size ≤ sizeLine) : wpAny (model prog w) A (getItem (.ref t) (.ref sl)) Q E s := by
  have htake : sizeOk (.seq items.toList.reverse.toArray) := by
    show items.toList.reverse.toArray.size ≤ sizeLine
    simpa using hsz
  obtain ⟨os, hos, hcs, hds⟩ := id hs
  have hTs : s.TypeIs (.ref sl) "slice" := ⟨os, hos, hcs⟩
  unfold getItem
  try with_reducible refine wpAny_holding ?_
  first | refine wpAny_bind (wpAny_pure ?_) | skip
  refine wpAny_bind (wpAny_sequenceKey ht.typeIs (by decide) ?_)
  refine wpAny_bind (wpAny_callSpecial?_slot (name := Str.ofString "__getitem__") ht.typeIs PyProof.Rows.slot_tuple_getitem
    (wpAny_call_entry PyProof.Rows.slot_tuple_getitem ht.typeIs entry_tuple_getitem ?_ (args_tuple_getitem _ _)))
  show wpAny _ _ (Builtin.Tuple.tupleItemsOf (.ref t) >>= _) _ _ s
  refine wpAny_bind (PyProof.Rows.tupleItemsOf_ ht ?_)
  refine wpAny_bind (wpAny_typeOf hTs ?_)
  rw [if_pos (by decide)]
  refine wpAny_bind (sliceApplied_rev hs pl pu ps ?_)
  have hno : ¬ ((((items.size : Int) - 1) == 0 && (-1 : Int) == 1 && items.size == items.size) = true) := by
    intro q
    rw [Bool.and_eq_true, Bool.and_eq_true] at q
    exact absurd q.1.2 (by decide)
  show wpAny _ _ (if (((items.size : Int) - 1) == 0 && (-1 : Int) == 1 && items.size == items.size) = true then _ else _) _ _ s
  rw [if_neg hno, pick_rev]
  first
    | exact wpAny_bind (m := Builtin.Tuple.tupleExact _) (wpAny_newObj_type (wpAny_pure ⟨_, rfl, wpAny_pure h⟩) htake)
    | exact wpAny_bind (m := Builtin.Tuple.tupleExact _) (wpAny_newObj_type (wpAny_bind (wpAny_pure (wpAny_pure ⟨_, rfl, wpAny_pure h⟩))) htake)
    | exact wpAny_bind (wpAny_bind (m := Builtin.Tuple.tupleExact _) (wpAny_newObj_type (wpAny_pure (wpAny_pure ⟨_, rfl, wpAny_pure h⟩)) htake))
    | exact wpAny_bind (wpAny_bind (m := Builtin.Tuple.tupleExact _) (wpAny_newObj_type (wpAny_pure ⟨_, rfl, wpAny_pure h⟩) htake))
theorem pe_revT {te : TE} {k : Nat} {p1 p2 p3 : Pos} (he : PE X e te) : PE X (.Subscript e (.Slice none none (some (.UnaryOp .USub (.Constant (.int 1) k p1) p2)) p3) pos)
    (fun σ H Q => te σ H fun x H1 => ∃ a xs, x = .ref a ∧ SqT X.K H1 a xs ∧ ∀ p, H1 p = none → Q (.ref p) (upd H1 p (.tup xs.reverse))) := by
  refine ⟨fun pins s σ H Q I h => ?_⟩
  refine Subscript_ (thn (he.run pins s σ H _ I h) fun v s1 ⟨x, H1, I1, r1, q1⟩ => ?_)
  obtain ⟨a, xs, ex, hx, q⟩ := q1
  subst ex
  cases r1
  have hst : PO X (some (.UnaryOp .USub (.Constant (.int 1) k p1) p2)) (tPart (tUn (rU fun i => .int (-i)) (tC (.int 1)))) := po_some (pe_un un_neg pe_int)
  refine wpAny_Slice (thn (po_none.run pins s1 σ H1 (fun o H2 => o = none ∧ H2 = H1) I1 ⟨rfl, rfl⟩) fun vl s2 ⟨l, H2, I2, pl, el, e2⟩ => ?_)
  subst el e2
  refine thn (po_none.run pins s2 σ H2 (fun o H3 => o = none ∧ H3 = H2) I2 ⟨rfl, rfl⟩) fun vu s3 ⟨u, H3, I3, pu, eu, e3⟩ => ?_
  subst eu e3
  refine thn (hst.run pins s3 σ H3 (fun o H4 => o = some (-1) ∧ H4 = H3) I3 ⟨1, rfl, -1, rfl, rfl, rfl⟩) fun vs s4 ⟨o, H4, I4, ps, eo, e4⟩ => ?_
  subst eo e4
  have I5 : Inv X pins σ H4 { s4 with heap := s4.heap.push { cls := .type "slice", data := .fields #[vl, vu, vs] } } := I4.kept (t' := s4.toks) fun b ob q => Heap.get?_push_of_some _ q
  obtain ⟨its, r, ht, hz⟩ := I5.tuple hx
  have hlen := r.length
  show wpAny (model X.prog X.w) X.A (subscriptTail e (.Slice none none (some (.UnaryOp .USub (.Constant (.int 1) k p1) p2)) p3) (.ref a) (.ref s4.heap.objs.size)) (EP X pins σ Q) X.xe { s4 with heap := s4.heap.push { cls := .type "slice", data := .fields #[vl, vu, vs] } }
  refine tail_any (ops := [.ref a, .ref s4.heap.objs.size]) ht.typeIs (PyProof.Rows.slot_tuple_getitem.lookup) ?_ (by with_unfolding_all rfl)
  refine getItem_tuple_rev ht (Heap.IsSliceOf.new _ vl vu vs) pl pu ps ?_ (by rw [List.size_toArray]; omega)
  refine ⟨.ref _, _, I5.laid (t' := s4.toks) (o := .tup xs.reverse) (fun b ob q => Heap.get?_push_of_some _ q) (Nat.le_refl _) ?_, rfl, q _ (I5.hok.fresh (Nat.le_refl _))⟩
  exact ⟨by rw [List.length_reverse]; exact hz, _, r.reverse, IsTup.new _ _⟩
theorem je_revT {d : DE} {k : Nat} {p1 p2 p3 : Pos} (hK : X.K = G.K) (h : PE X e (tR G W d)) : PE X (.Subscript e (.Slice none none (some (.UnaryOp .USub (.Constant (.int 1) k p1) p2)) p3) pos) (tE G W (dRevT d)) :=
  pe_imp (pe_revT h) fun σ H Q ⟨m, ρ, S, hS, hE, h⟩ => ⟨m, ρ, S, hS, hE, (Aft.bind h).imp fun x S1 m1 H1 l1 hS1 h1 v rv => by
    cases x with
    | tup ds =>
      obtain ⟨p, xs, rfl, q1, q2⟩ := rv
      have h1 : rRes G m1 H1 S1 (.tup ds.reverse) Q := h1
      exact ⟨p, xs, rfl, by rw [hK]; exact q1.sq, fun l hl => h1.tup hS1 hl q2.rev⟩
    | _ => exact h1.elim⟩
/-! ### == () -/
def pEqT (S : Store) (d e : D) : Option D := match d, e with
  | .tup ds, .tup [] => some (.bl ds.isEmpty)
  | d, e => pEq S d e
theorem o_eqT0 (hK : X.K = G.K) (hu : X.A.units + 200 < cLine) : OpR X (compareOp .Eq) (fun x y H Q => ∃ (a b : Addr) (xs : List V), x = .ref a ∧ y = .ref b ∧ SqT G.K H a xs ∧ SqT G.K H b [] ∧ Q (.bl xs.isEmpty) H) := by
  intro pins s σ H x y v u Q I rx ry h
  obtain ⟨a, b, xs, rfl, rfl, h1, h2, q⟩ := h
  cases rx
  cases ry
  rw [← hK] at h1 h2
  obtain ⟨its, r, ht, hz⟩ := I.tuple h1
  obtain ⟨its2, r2, ht2, hz2⟩ := I.tuple h2
  have e2 : its2 = [] := r2.zero
  subst e2
  refine PySem.W.eq_tuplesT (n := 0) (e := fun _ => true) (vs := its.toArray) (vs' := #[]) ht ht2 (fun j h1 h2 => by simp at h2) (by omega) ⟨.bl xs.isEmpty, H, I, ?_, q⟩
  have : ((List.range (min its.toArray.size (#[] : Array Value).size)).all (fun _ => true) && its.toArray.size == (#[] : Array Value).size) = xs.isEmpty := by
    have := r.length
    cases xs with
    | nil => simp at this; simp [this.symm]
    | cons x xs =>
      cases its with
      | nil => simp at this
      | cons y ys => simp
  rw [this]; rfl
theorem o_eqT (hK : X.K = G.K) (hu : X.A.units + 200 < cLine) : OpR X (compareOp .Eq) (rO G pEqT) := by
  refine opr_imp (OpR.or (o_eq hK hu) (o_eqT0 hK hu)) fun x y H Q ⟨m, S, d, e, r, hS, hx, hy, hf, k⟩ => ?_
  unfold pEqT at hf
  split at hf
  · cases hf
    rename_i ds
    obtain ⟨a, xs, rfl, q1, q2⟩ := hx
    obtain ⟨b, ys, rfl, q3, q4⟩ := hy
    have e : ys = [] := q4
    subst e
    refine .inr ⟨a, b, xs, rfl, rfl, q1.sq, q3.sq, ?_⟩
    have : xs.isEmpty = ds.isEmpty := by
      have := q2.length
      cases xs <;> cases ds <;> simp at this <;> rfl
    rw [this]
    exact k.here hS (v := .bl _) rfl
  · exact .inl ⟨m, S, _, _, r, hS, hx, hy, hf, k⟩
/-! ### is True, is not True -/
def pIsB (_ : Store) : D → D → Option D
  | .bl a, .bl b => some (.bl (decide (a = b)))
  | _, _ => none
def pIsNotB (_ : Store) : D → D → Option D
  | .bl a, .bl b => some (.bl (!decide (a = b)))
  | _, _ => none
theorem o_isB : OpR X (compareOp .Is) (rO G pIsB) := by
  refine opr_imp op_isBl fun x y H Q ⟨m, S, d, e, r, hS, hx, hy, hf, k⟩ => ?_
  cases d <;> cases e <;> simp only [pIsB] at hf <;> first | cases hf; done | skip
  obtain rfl := Option.some.inj hf
  have hx : x = V.bl _ := hx
  have hy : y = V.bl _ := hy
  exact ⟨_, _, hx, hy, k.here hS (v := .bl _) rfl⟩
theorem o_isNotB : OpR X (compareOp .IsNot) (rO G pIsNotB) := by
  refine opr_imp op_notBl fun x y H Q ⟨m, S, d, e, r, hS, hx, hy, hf, k⟩ => ?_
  cases d <;> cases e <;> simp only [pIsNotB] at hf <;> first | cases hf; done | skip
  obtain rfl := Option.some.inj hf
  have hx : x = V.bl _ := hx
  have hy : y = V.bl _ := hy
  exact ⟨_, _, hx, hy, k.here hS (v := .bl _) rfl⟩
end
end Py

/-! Part 17: sorted(..) of data, empty tuples among them too. -/
namespace PySem.W
open PySem PySem.Calls PyProof.Rows PySem.SeqAt
section
variable {prog : Program} {w : World} {A : Around} {E : Value → Shared → Prop} {s : Shared}
theorem call_tuple_ltX {Q : Value → Shared → Prop} {l b : Addr} {items items2 : Array Value} {e r : Nat → Bool} (hl : s.heap.IsTuple l items) (hb : s.heap.IsTuple b items2)
    (he : ∀ j (h1 : j < items.size) (h2 : j < items2.size), EqAt A.in1 s items[j] items2[j] (e j)) (hr : ∀ j (h1 : j < items.size) (h2 : j < items2.size), e j = false → RcLt A.in1 s items[j] items2[j] (r j))
    (h : Q (.bool (firstLt e r (decide (items.size < items2.size)) (List.range (min items.size items2.size)))) s) : wpAny (model prog w) A (call (.builtin "tuple.__lt__") [.ref l, .ref b]) Q E s := by
  obtain ⟨⟨cls, dd, data, sl⟩, ho, hc, n, hd⟩ := id hl
  obtain ⟨⟨cls2, dd2, data2, sl2⟩, ho2, hc2, n2, hd2⟩ := id hb
  simp only at hc hd hc2 hd2
  subst hc hd hc2 hd2
  exact call_meets F.slot_tuple_lt ⟨_, ho, rfl⟩ F.entry_tuple_lt (F.args_tuple_lt_2 _ _) (tuple_ltAt l b items items2 n n2 dd dd2 sl sl2 e r) ⟨ho, ho2, he, hr, h⟩
theorem oneLt_tuplesX {f : Bool} {xs ys : List PyData} {a b : Value} {as bs : List Addr} {Q : Bool → Shared → Prop} (ra : Reads s.heap a (.tuple xs) as) (rb : Reads s.heap b (.tuple ys) bs) (h : alike (.tuple xs) (.tuple ys) = true)
    (hu : A.units + min (PyData.tuple xs).depth (PyData.tuple ys).depth < cLine) (hq : Q (dataLt (.tuple xs) (.tuple ys)) s) : wpAny (model prog w) A (oneLt' f a b) Q E s := by
  cases f with
  | false => exact oneLt_alike (fun z => by cases z) ra rb h (fun z => by cases z) hu hq
  | true =>
    have hal : alikeAll xs ys = true := by simpa [alike] using h
    cases ra with
    | @tuple l o vs n _ as₁ h1 h2 h3 h4 =>
      cases rb with
      | @tuple l' o' vs' n' _ bs₁ k1 k2 k3 k4 =>
        have n1 : vs.size = xs.length := by simpa using SeqAt.ReadsAll.length _ _ _ h4
        have n2 : vs'.size = ys.length := by simpa using SeqAt.ReadsAll.length _ _ _ k4
        rw [dataLt_tuple, ← firstLt_toks xs ys hal, ← n1, ← n2] at hq
        rw [oneLt'_eq]
        simp only [if_true]
        refine wpAny_bind (wpAny_cRoomFor (SeqAt.room_here hu) ?_)
        refine wpAny_bind (wpAny_callSpecialIfBound?_slot (T := "tuple") ⟨_, h1, h2⟩ F.slot_tuple_lt (call_tuple_ltX (e := pairEq xs ys) (r := fun j => dataLt (xs.getD j .none) (ys.getD j .none)) ⟨_, h1, h2, _, h3⟩ ⟨_, k1, k2, _, k3⟩ (fun j j1 j2 => ?_) (fun j j1 j2 hj => ?_) ?_))
        · have := eqAt_alikeAll xs ys A.in1 s vs.toList vs'.toList _ _ h4 k4 hal (SeqAt.room_in hu) j (by simpa using j1) (by simpa using j2)
          simpa using this
        · have := rcLt_alikeAll xs ys A.in1 s vs.toList vs'.toList _ _ h4 k4 hal (SeqAt.room_in hu) j (by simpa using j1) (by simpa using j2) hj
          simpa using this
        · exact wpAny_truthy_bool hq
end
section
variable {M : Model} {A : Around} {s : Shared}
theorem firstsX : ∀ {vs : List Value} {ds : List PyData}, EachIs (fun v d => ∃ as, Reads s.heap v d as) vs ds → (∀ d ∈ ds, ∃ xs, d = .tuple xs) →
    ∃ fs : List (Option Value), fs.length = ds.length ∧ (∀ i : Nat, ∀ f, fs[i]? = some f → ∀ xs, ds[i]? = some (.tuple xs) → f.isSome = !xs.isEmpty) ∧ ∀ (E : Value → Shared → Prop) (Q : List (Option Value) → Shared → Prop), Q fs s → wpAny M A (vs.mapM firstOfTuple') Q E s
  | _, _, .nil, _ => ⟨[], rfl, fun i f h => by simp at h, fun E Q h => by rw [List.mapM_nil]; exact wpAny_pure h⟩
  | _, _, .cons (b := d) ⟨as, r⟩ t, ht => by
    obtain ⟨fs, h1, h2, h3⟩ := firstsX t fun d hd => ht d (List.mem_cons_of_mem _ hd)
    obtain ⟨ys, rfl⟩ := ht d List.mem_cons_self
    cases r with
    | @tuple a o xs n _ _ ho hc hd hr =>
      refine ⟨xs[0]? :: fs, by simp [h1], fun i f e zs e2 => ?_, fun E Q h => ?_⟩
      · cases i with
        | zero =>
          simp only [List.getElem?_cons_zero, Option.some.injEq, PyData.tuple.injEq] at e e2
          subst e e2
          have := SeqAt.ReadsAll.length _ _ _ hr
          cases ys with
          | nil =>
            have hz : xs.size = 0 := by simpa using this
            simp [hz]
          | cons y ys =>
            have hz : 0 < xs.size := by simp at this; omega
            simp [hz]
        | succ i =>
          simp only [List.getElem?_cons_succ] at e e2
          exact h2 i f e zs e2
      · rw [List.mapM_cons]
        refine wpAny_bind ?_
        rw [kas_first_eq]
        refine wpAny_bind (Looks.here (show Looks M s.heap (typeOf (.ref a)) o.cls from (Looks.ld ho).andThen .now) ?_)
        rw [hc, if_neg (by first | decide | simp)]
        refine wpAny_bind (listItems_at ho hd (wpAny_pure ?_))
        exact wpAny_bind (h3 E (fun bs s' => wpAny M A (pure (xs[0]? :: bs)) Q E s') (wpAny_pure h))
end
section
variable {prog : Program} {w : World} {A : Around} {s : Shared}
theorem SortsAt.dataT {vs : List Value} {ds : List PyData} (e : EachIs (fun v d => ∃ as, Reads s.heap v d as) vs ds) (hal : AllAlike ds) (hk : ∀ d ∈ ds, ∃ xs, d = .tuple xs) (hu : ∀ d, d ∈ ds → A.units + d.depth < cLine) : SortsAt prog w A s (dataKind s.heap ds) vs := by
  by_cases hne : ∀ d, d ∈ ds → ∃ x r, d = .tuple (x :: r)
  · exact SortsAt.data e hal (.inl hne) hu
  have room : ∀ {d d' : PyData}, d ∈ ds → A.units + min d.depth d'.depth < cLine := fun {d d'} hd => Nat.lt_of_le_of_lt (Nat.add_le_add_left (Nat.min_le_left _ _) _) (hu d hd)
  have keys : ∀ v, v ∈ vs → ∃ a, (dataKind s.heap ds).keyOf v = some a := fun v hv => by
    obtain ⟨d, hd, as, r⟩ := e.left v hv
    exact ⟨_, dataKind_some hal hd r⟩
  have lt : ∀ f : Bool, ∀ (E : Value → Shared → Prop) (x y : Value) (a b : List (Int ⊕ List Nat)) (Q : Bool → Shared → Prop), (dataKind s.heap ds).keyOf x = some a → (dataKind s.heap ds).keyOf y = some b → Q (PyProof.Rows.lexLt itemOrd a b) s → wpAny (model prog w) A (oneLt' f x y) Q E s := fun f E x y a b Q ha hb hq => by
    obtain ⟨d, as, hd, ra, rfl⟩ := dataKind_inv ha
    obtain ⟨d', as', hd', rb, rfl⟩ := dataKind_inv hb
    obtain ⟨xs, rfl⟩ := hk d hd
    obtain ⟨ys, rfl⟩ := hk d' hd'
    exact oneLt_tuplesX ra rb (hal _ hd _ hd') (room hd) hq
  obtain ⟨fs, h1, h2, h3⟩ := firstsX (M := model prog w) (A := A) e hk
  have hlen := e.length
  -- not all are some
  have hnall : (fs.toArray.all fun x => x.isSome) = false := by
    rw [Bool.eq_false_iff]
    intro z
    apply hne
    intro d hd
    obtain ⟨xs, rfl⟩ := hk d hd
    obtain ⟨i, hi⟩ := List.getElem?_of_mem hd
    have hil : i < fs.length := by rw [h1]; exact (List.getElem?_eq_some_iff.mp hi).1
    have hf := h2 i fs[i] (by simp [hil]) xs hi
    simp only [List.all_toArray, List.all_eq_true] at z
    rw [z _ (List.getElem_mem hil)] at hf
    cases xs with
    | nil => simp at hf
    | cons x r => exact ⟨x, r, rfl⟩
  refine ⟨keys, if (fs[0]?.bind id).isSome then general' else oneType', fun E x y a b Q ha hb hq => ?_, fun hl2 E Q hq => ?_⟩
  · split
    · exact lt false E x y a b Q ha hb hq
    · exact lt true E x y a b Q ha hb hq
  · rw [keyKind'_eq, List.mapM_toArray, map_eq_pure_bind]
    refine wpAny_bind (wpAny_bind (h3 E _ (wpAny_pure ?_)))
    rw [if_neg (by rw [hnall]; exact Bool.false_ne_true)]
    have e0 : (fs.toArray[0]?.bind id) = (fs[0]?.bind id) := by simp
    rw [e0]
    by_cases h0 : (fs[0]?.bind id).isSome = true
    · rw [if_pos h0]
      rw [if_pos h0] at hq
      exact wpAny_pure hq
    · rw [if_neg h0]
      rw [if_neg h0] at hq
      rw [oneTypeOnly'_eq, List.mapM_toArray, map_eq_pure_bind]
      refine wpAny_bind (wpAny_bind (wpAny_bind (kas_mapM (r := Value.type "tuple") _ (fun v hv Q' hq' => ?_) (wpAny_pure ?_))))
      · obtain ⟨d, hd, as, r⟩ := e.left v hv
        obtain ⟨xs, rfl⟩ := hk d hd
        exact (looks_reads (M := model prog w) r).here hq'
      · have hall2 : ((List.map (fun _ => Value.type "tuple") vs).toArray.all fun x => x == Value.type "tuple") = true := by
          simp only [List.all_toArray, List.all_map, List.all_eq_true]
          intro _ _
          exact beq_self_eq_true _
        have h00 : (List.map (fun _ => Value.type "tuple") vs).toArray[0]? = some (Value.type "tuple") := by
          cases vs with
          | nil => simp at hl2
          | cons v r => simp
        rw [h00]
        simp only [hall2, if_true]
        exact wpAny_pure (wpAny_pure hq)
end
end PySem.W

/-! Part 18: sorted, texts, extend. -/
namespace PySem.W
open PySem PySem.Calls PyProof.Rows
theorem sorted_dataX {prog : Program} {w : World} {A : Around} {E : Value → Shared → Prop} {s : Shared} {β : Type} {vs : List Value} {bs : List β} {enc : β → PyData} {R : Value → β → Prop} {l : Addr} {Q : Value → Shared → Prop} (hl : s.heap.IsList l vs.toArray) (e : EachIs R vs bs) (er : EachIs (fun v b => ∃ as, Reads s.heap v (enc b) as) vs bs) (hal : AllAlike (bs.map enc))
    (hk : Sortable (bs.map enc) ∨ ∀ d ∈ bs.map enc, ∃ xs, d = .tuple xs) (hL : bs.length ≤ sizeLine) (hu : ∀ b, b ∈ bs → A.units + 2 + (enc b).depth < cLine)
    (h : ∀ out, out.length = bs.length → EachIs R out (bs.mergeSort (dataLe false enc)) → Q (.ref (s.heap.objs.size + 1)) { s with heap := sortedAll s.heap vs (List.toArray out) }) :
    wpAny (model prog w) A (call (.builtin "sorted") [.ref l]) Q E s := by
  have er' : EachIs (fun v b => ∃ as, Reads (sortingHeap (copyHeap s.heap vs) (s.heap.objs.size + 1) vs) v (enc b) as) vs bs := er.mono fun _ _ ⟨as, r⟩ => ⟨as, PyProof.Rows.Reads.keeps (fun _ _ => sorting_copy_old) r⟩
  have em := each_map (R := fun v d => ∃ as, Reads (sortingHeap (copyHeap s.heap vs) (s.heap.objs.size + 1) vs) v d as) enc er'
  refine sorted_vals hl ?_ (by rw [e.length]; exact hL) (h _ (by rw [sortVals_length false rfl]; exact e.length) (sortVals_data false e er' hal))
  rcases hk with hk | hk
  · exact SortsAt.data (s := { s with heap := sortingHeap (copyHeap s.heap vs) (s.heap.objs.size + 1) vs }) em hal hk (bound_map hu)
  · exact SortsAt.dataT (s := { s with heap := sortingHeap (copyHeap s.heap vs) (s.heap.objs.size + 1) vs }) em hal hk (bound_map hu)
end PySem.W
namespace Py
open PySem PySem.Spec PyProof.Rows L2
def lstOf (S : Store) : D → Option (List D)
  | .lst ds => some ds
  | .ref n => match S[n]? with
    | some (.lst ds) => some ds
    | some (.frz ds) => some ds
    | _ => none
  | _ => none
def mgF {α : Type} (le : α → α → Bool) : Nat → List α → List α → List α
  | 0, _, _ => []
  | _ + 1, [], ys => ys
  | _ + 1, xs, [] => xs
  | n + 1, x :: xs, y :: ys => if le x y = true then x :: mgF le n xs (y :: ys) else y :: mgF le n (x :: xs) ys
theorem mgF_eq {α : Type} (le : α → α → Bool) : ∀ (n : Nat) (xs ys : List α), xs.length + ys.length < n → mgF le n xs ys = xs.merge ys le
  | 0, _, _, h => absurd h (Nat.not_lt_zero _)
  | n + 1, [], ys, _ => by simp [mgF]
  | n + 1, x :: xs, [], _ => by simp [mgF]
  | n + 1, x :: xs, y :: ys, h => by
    simp only [List.length_cons] at h
    rw [mgF, List.cons_merge_cons, mgF_eq le n xs (y :: ys) (by simp only [List.length_cons]; omega), mgF_eq le n (x :: xs) ys (by simp only [List.length_cons]; omega)]
def msF {α : Type} (le : α → α → Bool) : Nat → List α → List α
  | 0, xs => xs
  | _ + 1, [] => []
  | _ + 1, [a] => [a]
  | n + 1, a :: b :: xs =>
    let r := List.splitAt (((a :: b :: xs).length + 1) / 2) (a :: b :: xs)
    mgF le ((a :: b :: xs).length + 1) (msF le n r.1) (msF le n r.2)
theorem msF_eq {α : Type} (le : α → α → Bool) : ∀ (n : Nat) (xs : List α), xs.length ≤ n → msF le n xs = xs.mergeSort le
  | 0, [], _ => by simp [msF]
  | n + 1, [], _ => by simp [msF]
  | n + 1, [a], _ => by simp [msF]
  | n + 1, a :: b :: xs, h => by
    rw [List.mergeSort]
    simp only [List.length_cons] at h
    have e1 : ((List.splitAt (((a :: b :: xs).length + 1) / 2) (a :: b :: xs)).1).length = (xs.length + 3) / 2 := by
      rw [List.splitAt_eq]
      simp only [List.length_take, List.length_cons]
      first | done | omega
    have e2 : ((List.splitAt (((a :: b :: xs).length + 1) / 2) (a :: b :: xs)).2).length = xs.length + 2 - (xs.length + 3) / 2 := by
      rw [List.splitAt_eq]
      simp only [List.length_drop, List.length_cons]
    show mgF le ((a :: b :: xs).length + 1) (msF le n (List.splitAt (((a :: b :: xs).length + 1) / 2) (a :: b :: xs)).1) (msF le n (List.splitAt (((a :: b :: xs).length + 1) / 2) (a :: b :: xs)).2) = _
    rw [msF_eq le n _ (by rw [e1]; omega), msF_eq le n _ (by rw [e2]; omega), mgF_eq le _ _ _ (Nat.lt_succ_of_le (Nat.le_of_eq (by
      rw [List.length_mergeSort, List.length_mergeSort, e1, e2, List.length_cons, List.length_cons]
      omega)))]
    rfl
def sortD (ds : List D) : List D := msF (PySem.W.dataLe false D.py) ds.length ds
theorem sortD_eq (ds : List D) : sortD ds = ds.mergeSort (PySem.W.dataLe false D.py) := msF_eq _ _ _ (Nat.le_refl _)
def isTupP : D → Bool
  | .tup _ => true
  | _ => false
def sortOk (ds : List D) : Bool := ds.all shal && (ds.all fun a => ds.all fun b => PySem.W.alike a.py b.py) && (ds.all isTupP || ds.all fun d => !isTupP d && !isNonD d) && decide (ds.length ≤ 1000000)
def qSort (S : Store) : List D → Option (List D)
  | [d] => (lstOf S d).bind fun ds => if sortOk ds = true then some (sortD ds) else none
  | _ => none
section
variable {G : Gc} {W : WX} {X : Cx} {e a b c tg : Expr} {m m' : Mu} {H H' : Hp} {S : Store} {σ : Sg} {pos p : Pos}
theorem lst_ok {d : D} {ds : List D} {v : V} (hS : Holds G m H S) (h : lstOf S d = some ds) (r : Rt G m H d v) : ∃ p xs, v = .ref p ∧ SqL G.K H p xs ∧ RpL G m H ds xs := by
  cases d <;> simp only [lstOf] at h <;> first | cases h; done | skip
  · rename_i n
    obtain ⟨p, rfl, hp⟩ := r
    split at h
    · rename_i es he
      cases h
      obtain ⟨xs, q1, q2⟩ := hS.ob n _ p he hp
      exact ⟨p, xs, rfl, SqL.of q1, q2⟩
    · rename_i es he
      cases h
      obtain ⟨o, xs, q1, q2⟩ := hS.ob n _ p he hp
      exact ⟨p, xs, rfl, .inl (.inr ⟨o, q1⟩), q2⟩
    · cases h
  · cases h
    obtain ⟨p, xs, rfl, q1, _, q2⟩ := r
    exact ⟨p, xs, rfl, SqL.of q1, q2⟩
theorem each_rp : ∀ {ds : List D} {xs : List V} {us : List Value}, RpL G m H ds xs → Vals xs us → PySem.W.EachIs (fun (u : Value) (d : D) => ∃ x, RelV x u ∧ Rp G m H d x) us ds
  | [], _, _, h, r => by
    have h : _ = [] := h
    subst h; cases r; exact .nil
  | d :: ds, _, _, ⟨v, t, e, h1, h2⟩, r => by
    subst e
    cases r with
    | cons r1 r2 => exact .cons ⟨v, r1, h1⟩ (each_rp h2 r2)
theorem rp_each : ∀ {ds : List D} {us : List Value}, PySem.W.EachIs (fun (u : Value) (d : D) => ∃ x, RelV x u ∧ Rp G m H d x) us ds → ∃ xs, Vals xs us ∧ RpL G m H ds xs
  | _, _, .nil => ⟨[], .nil, rfl⟩
  | _, _, .cons ⟨x, r, h⟩ t => by
    obtain ⟨xs, r2, h2⟩ := rp_each t
    exact ⟨x :: xs, .cons r r2, x, xs, rfl, h, h2⟩
theorem each_reads {pins : List (Addr × Obj)} {s : Shared} (I : Inv X pins σ H s) (hK : X.K = G.K) : ∀ {ds : List D} {us : List Value}, (∀ d ∈ ds, d.okd = true) → PySem.W.EachIs (fun (u : Value) (d : D) => ∃ x, RelV x u ∧ Rp G m H d x) us ds → PySem.W.EachIs (fun v (b : D) => ∃ as, Reads s.heap v (D.py b) as) us ds
  | _, _, _, .nil => .nil
  | _, _, ho, .cons ⟨x, r, h⟩ t => .cons (Rp.reads I hK _ _ _ (ho _ List.mem_cons_self) h r) (each_reads I hK (fun d hd => ho d (List.mem_cons_of_mem _ hd)) t)
theorem tup_py {d : D} (h : isTupP d = true) : ∃ xs, d.py = .tuple xs := by
  cases d <;> simp [isTupP] at h
  exact ⟨_, by rw [D.py]⟩
theorem sortable_of {ds : List D} (h : sortOk ds = true) : (∀ d ∈ ds, d.okd = true ∧ d.py.depth ≤ 100) ∧ PySem.W.AllAlike (ds.map D.py) ∧ (PySem.W.Sortable (ds.map D.py) ∨ ∀ d ∈ ds.map D.py, ∃ xs, d = .tuple xs) ∧ ds.length ≤ 1000000 := by
  unfold sortOk at h
  simp only [Bool.and_eq_true, Bool.or_eq_true, List.all_eq_true, decide_eq_true_eq] at h
  obtain ⟨⟨⟨h1, h2⟩, h3⟩, h4⟩ := h
  refine ⟨fun d hd => shal_ok (h1 d hd), fun x hx y hy => ?_, ?_, h4⟩
  · obtain ⟨d, hd, rfl⟩ := List.mem_map.mp hx
    obtain ⟨e, he, rfl⟩ := List.mem_map.mp hy
    exact h2 d hd e he
  · rcases h3 with h3 | h3
    · exact .inr fun x hx => by
        obtain ⟨d, hd, rfl⟩ := List.mem_map.mp hx
        exact tup_py (h3 d hd)
    · refine .inl (.inr fun x hx => ?_)
      obtain ⟨d, hd, rfl⟩ := List.mem_map.mp hx
      have k := (shal_ok (h1 d hd)).1
      have k2 := h3 d hd
      cases d <;> simp_all [D.py, isNonD, D.okd, isTupP]
/-- sorted(xs), data -/
def rSD (G : Gc) : List V → Hp → VK → Prop := fun vs H Q => ∃ m S d ds v, Holds G m H S ∧ vs = [v] ∧ Rt G m H d v ∧ lstOf S d = some ds ∧ sortOk ds = true ∧ ∀ p xs, H p = none → RpL G m H (sortD ds) xs → Q (.ref p) (upd H p (.lst xs))
theorem cr_sortD (hK : X.K = G.K) (hu : X.A.units + 200 < cLine) : CallR X (.builtin "sorted") (rSD G) := by
  intro pins s σ H vs us Q I r h
  obtain ⟨m, S, d, ds, v, hS, rfl, rv, h1, h2, q⟩ := h
  obtain ⟨p, xs, rfl, q1, q2⟩ := lst_ok hS h1 rv
  obtain ⟨k1, k2, k3, k4⟩ := sortable_of h2
  rw [← hK] at q1
  obtain ⟨its, ri, hl, hz⟩ := I.list q1
  rw [Vals.ref1 r]
  have e := each_rp q2 ri
  have er := each_reads I hK (fun d hd => (k1 d hd).1) e
  refine PySem.W.sorted_dataX hl.isList e er k2 k3 (by rw [sizeLine_eq]; omega) (fun d hd => by have := (k1 d hd).2; omega) fun out ho eo => ?_
  rw [← sortD_eq] at eo
  obtain ⟨ys, r2, rp⟩ := rp_each eo
  obtain ⟨ep, he'⟩ := PyProof.Rows.sortedAll_at s.heap its out.toArray
  have hlen : ys.length ≤ sizeLine := by rw [r2.length, ho, sizeLine_eq]; omega
  exact ⟨.ref _, upd H (s.heap.objs.size + 1) (.lst ys), I.laid (t' := s.toks) (fun _ _ => PyProof.Rows.sortedAll_old) (Nat.le_succ _) ⟨hlen, out, ep, r2, he'⟩, rfl, q _ _ (I.hok.fresh (Nat.le_succ _)) rp⟩
theorem jl_sort {r : DA} (hK : X.K = G.K) (hu : X.A.units + 200 < cLine) (hg : Gl X "sorted") (hm : X.mg "sorted" = none) (ha : PA X [e] (tB G W r)) (hs : starB e = false) : PE X (.Call (.Name "sorted" p) [e] [] pos) (tL G W (dPrL qSort r)) :=
  pe_imp (pe_callB (cr_sortD hK hu) hg hm PyProof.Rows.boot_sorted ha (by decide) (by decide) (starEach_plain hs) (by rfl)) fun σ H Q ⟨m, ρ, S, hS, hE, h⟩ => ⟨m, ρ, S, hS, hE, (AftL.of h).imp fun xs S1 m1 H1 l1 hS1 h1 vs rvs => by
    obtain ⟨ds, e, h1⟩ := aftL_opt h1
    unfold qSort at e
    split at e
    · obtain ⟨es, e1, e2⟩ := Option.bind_eq_some_iff.mp e
      obtain ⟨hc, rfl⟩ := some_ifp e2
      obtain ⟨v, rfl, rv⟩ := rvs.one
      exact ⟨m1, S1, _, es, v, hS1, rfl, rv, e1, hc, fun p xs hp rp => AftL.new h1 hS1 rp hp⟩
    · cases e⟩
end
end Py

/-! Part 19: join, split, extend, dicts of tuples, keyword calls, named tuples, a def that is never entered. -/
namespace Py
open PySem PySem.Spec PyProof.Rows L2
def strsD : List D → Option (List Str)
  | [] => some []
  | .str z :: r => (strsD r).map (z :: ·)
  | _ => none
section
variable {G : Gc} {W : WX} {X : Cx} {e a b c tg o : Expr} {m m' : Mu} {H H' : Hp} {S : Store} {σ : Sg} {pos p : Pos} {kp : Addr → Prop} {ρ : Env}
theorem strsD_map : ∀ {ds : List D} {ns : List Str}, strsD ds = some ns → ds = ns.map D.str
  | [], ns, h => by cases h; rfl
  | d :: ds, ns, h => by
    cases d <;> simp only [strsD] at h <;> first | cases h; done | skip
    obtain ⟨r, e, e2⟩ := Option.map_eq_some_iff.mp h
    subst e2
    rw [strsD_map e]; rfl
theorem RpL.strs : ∀ {ns : List Str} {xs : List V}, RpL G m H (ns.map D.str) xs → xs = ns.map V.str
  | [], _, h => h
  | n :: ns, _, ⟨v, r, e, h1, h2⟩ => by
    subst e
    obtain rfl : v = V.str n := h1
    rw [RpL.strs h2]; rfl
theorem RpL.ofStrs : ∀ (ns : List Str), RpL G m H (ns.map D.str) (ns.map V.str)
  | [] => rfl
  | n :: ns => ⟨_, _, rfl, rfl, RpL.ofStrs ns⟩
/-- sep.join(xs) -/
def pJoin (S : Store) (a : Str) (y : D) : Option D := ((seqOf S y).bind strsD).bind fun ys => if (ys.map (·.length)).sum + ys.length * a.length ≤ 16777216 then some (.str (Txt.join a ys)) else none
def dJoin (d : DE) (x : DE) : DE := fun ρ S => (d ρ S).bind fun s S => match s with
  | .str a => (x ρ S).bind fun y S => optM (pJoin S a y) S
  | _ => .bad
theorem je_join {ds dx : DE} {apos : Pos} (hK : X.K = G.K) (ho : PE X o (tE G W ds)) (he : PE X e (tR G W dx)) (hs : starB e = false) (hbase : attributeBase o "join" X.env (eval o X.env) = eval o X.env) (hline : (apos.endLine == pos.line) = true) :
    PE X (.Call (.Attribute o "join" apos) [e] [] pos) (tE G W (dJoin ds dx)) :=
  pe_imp (pe_join ho he (starEach_plain hs) hbase hline) fun σ H Q ⟨m, ρ, S, hS, hE, h⟩ => ⟨m, ρ, S, hS, hE, (Aft.bind h).imp fun x S1 m1 H1 l1 hS1 h1 v rv => by
    cases x with
    | str a =>
      obtain rfl : v = V.str a := rv
      refine ⟨⟨a, rfl⟩, m1, ρ, S1, hS1, hE.le l1, (Aft.bind h1).imp fun y S2 m2 H2 l2 hS2 h2 u ru => ?_⟩
      obtain ⟨r, e, k⟩ := aft_opt h2
      unfold pJoin at e
      obtain ⟨ys, e1, e2⟩ := Option.bind_eq_some_iff.mp e
      obtain ⟨es, e3, e4⟩ := Option.bind_eq_some_iff.mp e1
      obtain ⟨hz, rfl⟩ := some_ifp e2
      obtain ⟨q, xs, rfl, q1, q2⟩ := seq_ok hS2 e3 ru
      rw [strsD_map e4] at q2
      obtain rfl := q2.strs
      exact ⟨a, q, ys, rfl, rfl, by rw [hK]; exact q1, hz, k m2 H2 Le.refl hS2 _ rfl⟩
    | _ => exact h1.elim⟩
/-- s.split(sep), a new list -/
def dSplit (d : DE) (x : DE) : DA := fun ρ S => (d ρ S).bind fun s S => match s with
  | .str a => (x ρ S).bind fun y S => (match y with
    | .str b => if (b.length == 0) = false ∧ a.length + 2 ≤ sizeLine then .ok ((Txt.split a b).map D.str) S else .bad
    | _ => .bad)
  | _ => .bad
theorem jl_split {ds dx : DE} {apos : Pos} (ho : PE X o (tE G W ds)) (he : PE X e (tE G W dx)) (hs : starB e = false) (hbase : attributeBase o "split" X.env (eval o X.env) = eval o X.env) (hline : (apos.endLine == pos.line) = true) :
    PE X (.Call (.Attribute o "split" apos) [e] [] pos) (tL G W (dSplit ds dx)) :=
  pe_imp (pe_split ho he (starEach_plain hs) hbase hline) fun σ H Q ⟨m, ρ, S, hS, hE, h⟩ => ⟨m, ρ, S, hS, hE, (AftL.of h).imp fun x S1 m1 H1 l1 hS1 h1 v rv => by
    cases x with
    | str a =>
      obtain rfl : v = V.str a := rv
      refine ⟨⟨a, rfl⟩, m1, ρ, S1, hS1, hE.le l1, (AftL.of h1).imp fun y S2 m2 H2 l2 hS2 h2 u ru => ?_⟩
      cases y with
      | str b =>
        have h2 : AftL G m2 H2 (fun c x H' => W c x σ H') (if (b.length == 0) = false ∧ a.length + 2 ≤ sizeLine then .ok ((Txt.split a b).map D.str) S2 else .bad) Q := h2
        by_cases hc : (b.length == 0) = false ∧ a.length + 2 ≤ sizeLine
        · rw [if_pos hc] at h2
          exact ⟨a, b, rfl, by rw [show u = V.str b from ru], hc.1, hc.2, fun q hq => AftL.new h2 hS2 (RpL.ofStrs _) hq⟩
        · rw [if_neg hc] at h2; exact h2.elim
      | _ => exact h2.elim
    | _ => exact h1.elim⟩
/-! ### xs.extend(ys), xs a list of one's own -/
def fExt (ds : List D) (y : D) : Option (List D) := match y with
  | .lst es => if ds.length + es.length ≤ sizeLine then some (ds ++ es) else none
  | _ => none
theorem js_ext {i : Nat} {x : Str} {d : DE} {apos cpos : Pos} (hK : X.K = G.K) (hN : X.N[i]? = some x) (hv : Vis X.env.scope x) (hd : (x == ("__debug__" : Str)) = false) (hcd : (x == ("__classdict__" : Str)) = false) (ha : PE X e (tE G W d)) (hs : starB e = false)
    (hbase : attributeBase (.Name x p) "extend" X.env (eval (.Name x p) X.env) = eval (.Name x p) X.env)
    (hfew : ((backTo cpos (starEach [e] X.env)).all (fun x => !x.1) && (backToKw cpos (keywordEach [] X.env)).all (fun x => x.1.isSome)
      && decide (([e] : List Expr).length + ([] : List Keyword).length + (if ([] : List Keyword).isEmpty then 0 else 1) < 30)) = true)
    (hline : (apos.endLine == cpos.line) = true) (hsw : swapsWith (.Call (.Attribute (.Name x p) "extend" apos) [e] [] cpos) none pos.line X.env = pure false) :
    PS X (.Expr (.Call (.Attribute (.Name x p) "extend" apos) [e] [] cpos) pos) (tS G W (dOwn i fExt d)) := by
  refine ps_imp (ps_expr (pe_bm F.plainAttrs_list F.slot_list_extend F.type_list_extend mt_extend (pe_var hN hv hd hcd) (pa_cons ha pa_nil (starEach_plain hs)) hbase hfew hline (starEach_plain hs) (by rfl)) hsw) fun D σ H ⟨kp, m, ρ, S, hS, F, h⟩ => ?_
  unfold dOwn at h
  split at h
  · rename_i ds hd
    obtain ⟨v, q1, a, e, q2, q3, q4⟩ := F.rp.at_ i _ hd
    subst e
    have hk := F.own i ds a hd q1
    obtain ⟨xs0, e0, r0⟩ := id q4
    refine ⟨.ref a, q1, .inl ⟨rfl, xs0, by rw [hK]; exact SqL.of e0⟩, m, ρ, S, hS, F.rp, (AftS.rS h F).imp fun y S1 m1 H1 l1 hS1 h1 v rv => ?_⟩
    cases y with
    | lst es =>
      obtain ⟨b, zs, rfl, g1, g2, g3⟩ := rv
      have h1 : AftS G W kp m1 H1 D (match (if ds.length + es.length ≤ sizeLine then some (ds ++ es) else none) with
        | some ds' => some (.nx (ρ.set i (some (.own ds'))), S1)
        | none => none) := h1
      by_cases hz : ds.length + es.length ≤ sizeLine
      · rw [if_pos hz] at h1
        have F1 := F.le l1
        obtain ⟨kO, ka, xs, e, rx⟩ := F1.rp.known hd q1
        exact ⟨a, b, xs, zs, rfl, rfl, e, g1, by rw [rx.length, g3.length]; exact hz, h1 m1 _ σ (Lx.putK hk kO e) (hS1.put kO e) (F1.upd hd q1 e (rx.append g3))⟩
      · rw [if_neg hz] at h1; exact h1.elim
    | _ => exact h1.elim
  · exact h.elim
/-! ### objects of the store -/
/-- a new object of the store -/
theorem Le.growO {p : Addr} {o : HO} (hp : H p = none) : Le G m H ⟨m.as ++ [p], m.O⟩ (upd H p o) := (Le.same (Same.new hp)).grow (nt_none hp)
theorem rp_growO {p : Addr} {o : HO} {d : D} {v : V} (hp : H p = none) (h : Rp G m H d v) : Rp G ⟨m.as ++ [p], m.O⟩ (upd H p o) d v := (Le.growO hp).rp h
theorem Holds.growO {p : Addr} {o : HO} {ob : Ob} (hS : Holds G m H S) (hp : H p = none) (r : RpO G ⟨m.as ++ [p], m.O⟩ (upd H p o) ob p) : Holds G ⟨m.as ++ [p], m.O⟩ (upd H p o) (S ++ [ob]) := by
  have pn : p ∉ m.as := fun z => hS.fresh hp (.inl z)
  have hl : m.as.length = S.length := hS.len
  refine ⟨by simp [hl], ?_, fun n ob' a e1 e2 => ?_, fun a q z => ?_, fun a q => (Le.same (G := G) (m := m) (Same.new hp)).there a (hS.there a q), hS.tabs.ext (Same.new hp)⟩
  · show (m.as ++ [p]).Nodup
    rw [List.nodup_append]
    exact ⟨hS.nd, by simp, fun a ha b hb => by
      rw [List.mem_singleton.mp hb]
      exact fun z => pn (z ▸ ha)⟩
  · have e2 : (m.as ++ [p])[n]? = some a := e2
    by_cases hn : n < S.length
    · rw [List.getElem?_append_left hn] at e1
      rw [List.getElem?_append_left (by rw [hl]; exact hn)] at e2
      exact (hS.ob n ob' a e1 e2).mono (fun o' _ e => Same.new hp a o' e) fun d v r => rp_growO hp r
    · rw [List.getElem?_append_right (by omega)] at e1
      rw [List.getElem?_append_right (by rw [hl]; omega)] at e2
      have hn2 : n - S.length = 0 := by
        have := (List.getElem?_eq_some_iff.mp e1).1
        simp at this
        omega
      rw [hn2] at e1
      rw [hl, hn2] at e2
      cases e1
      cases e2
      exact r
  · have z : a ∈ m.as ++ [p] := z
    rcases List.mem_append.mp z with z | z
    · exact hS.dis a q z
    · rw [List.mem_singleton.mp z] at q
      exact hS.there p q (nt_none hp)
def dNewO (ob : Ob) : DE := fun _ S => .ok (.ref S.length) (S ++ [ob])
theorem ref_new {m : Mu} {p : Addr} (hl : m.as.length = S.length) : (m.as ++ [p])[S.length]? = some p := by
  rw [← hl]; simp
/-- {} whose keys are tuples | ints and texts -/
theorem je_dT : PE X (.Dict [] [] pos) (tE G W (dNewO (.dT []))) :=
  pe_imp pe_dnewT fun σ H Q ⟨m, ρ, S, hS, hE, h⟩ => fun p hp => h ⟨m.as ++ [p], m.O⟩ _ (Le.growO hp) (hS.growO (ob := .dT []) hp ⟨[], upd_same, rfl⟩) (.ref p) ⟨p, rfl, ref_new hS.len⟩
theorem je_dK : PE X (.Dict [] [] pos) (tE G W (dNewO (.dK []))) :=
  pe_imp pe_dnewK fun σ H Q ⟨m, ρ, S, hS, hE, h⟩ => fun p hp => h ⟨m.as ++ [p], m.O⟩ _ (Le.growO hp) (hS.growO (ob := .dK []) hp ⟨[], upd_same, rfl⟩) (.ref p) ⟨p, rfl, ref_new hS.len⟩
/-- an object of the store is written -/
theorem Lx.stoO {L : Addr} {u o : HO} (hO : L ∈ m.as) (h : H L = some u) (hn : NotT u) (ho : NotT o) : Lx G kp m H m (upd H L o) :=
  ⟨⟨[], by simp, by simp⟩, fun a q => .inl q, fun a q _ => q, fun a o e n k => by
    by_cases z : a = L
    · exact absurd (z ▸ hO) n
    · rw [nt_ne z]; exact e, fun a xs t => tq_put h hn t, fun a q => by
    by_cases z : a = L
    · subst z; rw [nt_of upd_same ho.tbl]; simp
    · rw [nt_ne z]; exact q⟩
theorem Holds.stoO {n : Nat} {L : Addr} {u o : HO} {ob : Ob} (hS : Holds G m H S) (hn : m.as[n]? = some L) (h : H L = some u) (nt : NotT u) (no : NotT o) (r : RpO G m (upd H L o) ob L) : Holds G m (upd H L o) (S.set n ob) := by
  have hO : L ∈ m.as := List.mem_of_getElem? hn
  have l : Lx G kAll m H m (L2.upd H L o) := Lx.stoO hO h nt no
  refine ⟨by simp [hS.len], hS.nd, fun k ob' a e1 e2 => ?_, hS.dis, fun a q => l.there a (hS.there a q), tabs_upd hS.tabs h nt.tbl nt.ext⟩
  rw [List.getElem?_set] at e1
  split at e1
  · rename_i e
    subst e
    split at e1
    · cases e1
      rw [hn] at e2
      cases e2
      exact r
    · cases e1
  · rename_i ne
    have na : a ≠ L := fun z => ne (nodup_at hS.nd hn (z ▸ e2))
    exact (hS.ob k ob' a e1 e2).mono (fun o' _ e => by rw [upd_ne na]; exact e) fun d v r => l.rp r
theorem RpF.stoO {L : Addr} {u o : HO} (F : RpF G kp m H ρ σ) (hO : L ∈ m.as) (h : H L = some u) (nt : NotT u) (no : NotT o) : RpF G kp m (L2.upd H L o) ρ σ := by
  have l : Lx G kp m H m (L2.upd H L o) := Lx.stoO hO h nt no
  refine ⟨⟨fun j s q => ?_, F.rp.inj, F.rp.len⟩, F.sub, F.own⟩
  obtain ⟨v, q1, q2⟩ := F.rp.at_ j s q
  refine ⟨v, q1, ?_⟩
  cases s with
  | val d => exact l.rp q2
  | own es =>
    obtain ⟨b, e3, o1, o2, zs, o3, o4⟩ := q2
    have nb : b ≠ L := fun z => o2 (by rw [z]; exact hO)
    exact ⟨b, e3, o1, o2, zs, by rw [L2.upd_ne nb]; exact o3, l.rpL o4⟩
theorem nt_dK {κ : List (L2.Key × V)} : NotT (.dK κ) := ⟨(fun _ z => by cases z), (fun _ _ z => by cases z), (fun _ z => by cases z), (fun _ _ z => by unfold LamX.CodeO at z; cases z)⟩
theorem nt_dT {κ : List (List L2.Key × V)} : NotT (.dT κ) := ⟨(fun _ z => by cases z), (fun _ _ z => by cases z), (fun _ z => by cases z), (fun _ _ z => by unfold LamX.CodeO at z; cases z)⟩
theorem nt_ins {C dx : Addr} {fs : List (Str × V)} : NotT (.ins C dx fs) := ⟨(fun _ z => by cases z), (fun _ _ z => by cases z), (fun _ z => by cases z), (fun _ _ z => by unfold LamX.CodeO at z; cases z)⟩
/-! ### dicts -/
def keyK : D → Option L2.Key
  | .int i => some (.inl i)
  | .str z => some (.inr z)
  | _ => none
def keyL : List D → Option (List L2.Key)
  | [] => some []
  | d :: ds => (keyK d).bind fun k => (keyL ds).map (k :: ·)
def kD : L2.Key → D
  | .inl i => .int i
  | .inr z => .str z
theorem keyK_ok {d : D} {k : L2.Key} (h : keyK d = some k) : d = kD k := by
  cases d <;> simp only [keyK] at h <;> first | cases h; done | (cases h; rfl)
theorem keyL_ok : ∀ {ds : List D} {k : List L2.Key}, keyL ds = some k → ds = k.map kD
  | [], k, h => by cases h; rfl
  | d :: ds, k, h => by
    obtain ⟨a, e1, e2⟩ := Option.bind_eq_some_iff.mp h
    obtain ⟨r, e3, rfl⟩ := Option.map_eq_some_iff.mp e2
    rw [keyK_ok e1, keyL_ok e3]; rfl
theorem Rp.key {k : L2.Key} {v : V} (h : Rp G m H (kD k) v) : v = kV k := by
  cases k with
  | inl i => exact h
  | inr z => exact h
theorem RpL.keys : ∀ {ks : List L2.Key} {xs : List V}, RpL G m H (ks.map kD) xs → xs = ks.map kV
  | [], _, h => h
  | k :: ks, _, ⟨v, r, e, h1, h2⟩ => by
    subst e
    rw [Rp.key h1, RpL.keys h2]; rfl
theorem RpL.ofKeys : ∀ (ks : List L2.Key), RpL G m H (ks.map kD) (ks.map kV)
  | [] => rfl
  | k :: ks => ⟨kV k, ks.map kV, rfl, by cases k <;> exact rfl, RpL.ofKeys ks⟩
theorem kV_inj {a b : L2.Key} (h : kV a = kV b) : a = b := by
  cases a <;> cases b <;> simp [kV] at h <;> simp [h]
theorem kVs_inj : ∀ {a b : List L2.Key}, a.map kV = b.map kV → a = b
  | [], [], _ => rfl
  | [], _ :: _, h => by cases h
  | _ :: _, [], h => by cases h
  | x :: a, y :: b, h => by
    simp only [List.map_cons, List.cons.injEq] at h
    rw [kV_inj h.1, kVs_inj h.2]
/-- in its place, or at the end -/
def putD {κ : Type} [DecidableEq κ] (kvs : List (κ × D)) (k : κ) (v : D) : List (κ × D) :=
  if (kvs.any fun kv => decide (kv.1 = k)) = true then kvs.map (fun kv => if kv.1 = k then (kv.1, v) else kv) else kvs ++ [(k, v)]
def getD_ {κ : Type} [DecidableEq κ] (kvs : List (κ × D)) (k : κ) : Option D := (kvs.find? fun kv => decide (kv.1 = k)).map (·.2)
theorem RpKV.any {κ : Type} [DecidableEq κ] {k : κ} : ∀ {kvs : List (κ × D)} {xs : List (κ × V)}, RpKV G m H kvs xs → (xs.any fun kv => decide (kv.1 = k)) = kvs.any fun kv => decide (kv.1 = k)
  | [], _, h => by
    have h : _ = [] := h
    rw [h]; rfl
  | p :: r, _, ⟨v, s, e, h1, h2⟩ => by
    subst e
    rw [List.any_cons, List.any_cons, RpKV.any h2]
theorem RpKV.len {κ : Type} : ∀ {kvs : List (κ × D)} {xs : List (κ × V)}, RpKV G m H kvs xs → xs.length = kvs.length
  | [], _, h => by
    have h : _ = [] := h
    rw [h]; rfl
  | p :: r, _, ⟨v, s, e, h1, h2⟩ => by
    subst e
    rw [List.length_cons, List.length_cons, RpKV.len h2]
theorem RpKV.app {κ : Type} : ∀ {kvs ks : List (κ × D)} {xs ys : List (κ × V)}, RpKV G m H kvs xs → RpKV G m H ks ys → RpKV G m H (kvs ++ ks) (xs ++ ys)
  | [], _, _, _, h, k => by
    have h : _ = [] := h
    rw [h]; exact k
  | p :: r, ks, _, ys, ⟨v, s, e, h1, h2⟩, k => ⟨v, s ++ ys, by rw [e]; rfl, h1, RpKV.app h2 k⟩
theorem RpKV.over {κ : Type} [DecidableEq κ] {k : κ} {d : D} {v : V} (r : Rp G m H d v) : ∀ {kvs : List (κ × D)} {xs : List (κ × V)}, RpKV G m H kvs xs → RpKV G m H (kvs.map fun kv => if kv.1 = k then (kv.1, d) else kv) (xs.map fun kv => if kv.1 = k then (kv.1, v) else kv)
  | [], _, h => by
    have h : _ = [] := h
    rw [h]; exact rfl
  | p :: t, _, ⟨u, s, e, h1, h2⟩ => by
    subst e
    rw [List.map_cons, List.map_cons]
    by_cases q : p.1 = k
    · rw [if_pos q, if_pos (show (p.1, u).1 = k from q)]
      exact ⟨v, _, rfl, r, RpKV.over r h2⟩
    · rw [if_neg q, if_neg (show ¬ (p.1, u).1 = k from q)]
      exact ⟨u, _, rfl, h1, RpKV.over r h2⟩
theorem RpKV.put {κ : Type} [DecidableEq κ] {k : κ} {d : D} {v : V} {kvs : List (κ × D)} {xs : List (κ × V)} (h : RpKV G m H kvs xs) (r : Rp G m H d v) : RpKV G m H (putD kvs k d) (putK xs k v) := by
  unfold putD putK
  rw [h.any]
  split
  · exact h.over r
  · exact h.app ⟨v, [], rfl, r, rfl⟩
theorem RpKV.get {κ : Type} [DecidableEq κ] {k : κ} : ∀ {kvs : List (κ × D)} {xs : List (κ × V)}, RpKV G m H kvs xs → (getD_ kvs k = none ∧ valV xs k = none) ∨ ∃ d v, getD_ kvs k = some d ∧ valV xs k = some v ∧ Rp G m H d v
  | [], _, h => by
    have h : _ = [] := h
    rw [h]; exact .inl ⟨rfl, rfl⟩
  | p :: t, _, ⟨u, s, e, h1, h2⟩ => by
    subst e
    by_cases q : p.1 = k
    · exact .inr ⟨p.2, u, by simp [getD_, List.find?_cons, q], valV_pos (p := (p.1, u)) q, h1⟩
    · rcases RpKV.get (k := k) h2 with ⟨a1, a2⟩ | ⟨d, v, a1, a2, a3⟩
      · exact .inl ⟨by simpa [getD_, List.find?_cons, q] using a1, (valV_neg (p := (p.1, u)) q).trans a2⟩
      · exact .inr ⟨d, v, by simpa [getD_, List.find?_cons, q] using a1, (valV_neg (p := (p.1, u)) q).trans a2, a3⟩
end
end Py

/-! Part 20: dicts of tuples, keyword calls, named tuples, a def that is never entered, recursion. -/
namespace Py
open PySem PySem.Spec PyProof.Rows L2
section
variable {G : Gc} {W : WX} {X : Cx} {e a b c tg o i : Expr} {m m' : Mu} {H H' : Hp} {S : Store} {σ : Sg} {pos p : Pos} {kp : Addr → Prop} {ρ : Env}
/-! ### d[k] = v -/
def stPut (nl : List (List L2.Key)) (S : Store) (o k v : D) : Option Store := match o with
  | .ref n => match S[n]? with
    | some (.dT kvs) => match k with
      | .tup ds => (keyL ds).bind fun q => if kvs.length < 1000000 ∧ (nl.any fun k => decide (k = q)) = false then some (S.set n (.dT (putD kvs q v))) else none
      | _ => none
    | some (.dK kvs) => (keyK k).bind fun q => if kvs.length < 1000000 then some (S.set n (.dK (putD kvs q v))) else none
    | _ => none
  | _ => none
def dPut (nl : List (List L2.Key)) (dv do_ di : DE) : DS := fun ρ S => rS (dv ρ S) ρ fun v S => rS (do_ ρ S) ρ fun y S => rS (di ρ S) ρ fun z S => match stPut nl S y z v with
  | some S' => some (.nx ρ, S')
  | none => none
theorem js_dput {dv di do_ : DE} {tp : Pos} {nl : List (List L2.Key)} (hN : G.lits = nl) (hu : X.A.units + 200 < cLine) (hv : PE X e (tE G W dv)) (ho : PE X o (tE G W do_)) (hi : PE X i (tE G W di))
    (hs : swapsWith e (some (.Subscript o i tp)) pos.line X.env = pure false) : PS X (.Assign [.Subscript o i tp] e pos) (tS G W (dPut nl dv do_ di)) := by
  refine ps_imp (ps_dput (by omega) ho hi hv hs) fun D σ H ⟨kp, m, ρ, S, hS, F, h⟩ => ?_
  refine ⟨m, ρ, S, hS, F.rp, (AftS.rS h F).imp fun x S1 m1 H1 l1 hS1 h1 v rv => ?_⟩
  have F1 := F.le l1
  refine ⟨m1, ρ, S1, hS1, F1.rp, (AftS.rS h1 F1).imp fun y S2 m2 H2 l2 hS2 h2 u ru => ?_⟩
  have F2 := F1.le l2
  refine ⟨m2, ρ, S2, hS2, F2.rp, (AftS.rS h2 F2).imp fun z S3 m3 H3 l3 hS3 h3 t rt => ?_⟩
  have F3 := F2.le l3
  have rv3 := (l2.trans l3).rp rv
  have ru3 := l3.rp ru
  unfold stPut at h3
  split at h3
  · rename_i S' e
    split at e
    · rename_i n
      obtain ⟨L, rfl, hL⟩ := ru3
      split at e
      · rename_i kvs hn
        split at e
        · rename_i ds
          obtain ⟨q, e1, e2⟩ := Option.bind_eq_some_iff.mp e
          obtain ⟨⟨hz, hq⟩, rfl⟩ := some_ifp e2
          obtain ⟨b, ys, rfl, q1, q2⟩ := rt
          rw [keyL_ok e1] at q2
          obtain rfl := q2.keys
          have hb : H3 b = some (.tup (q.map kV)) := by
            rcases q1 with q1 | ⟨_, k, hk, hq2⟩
            · exact q1
            · rw [← hN, List.any_eq_false] at hq
              exact absurd (kVs_inj hq2).symm (by simpa using hq k hk)
          obtain ⟨xs, g1, g2⟩ := hS3.ob n _ L hn hL
          have hO : L ∈ m3.as := List.mem_of_getElem? hL
          refine ⟨L, _, rfl, DPut.t g1 hb (by rw [g2.len, sizeLine_eq]; omega), ?_⟩
          have l : Lx G kAll m3 H3 m3 (L2.upd H3 L (.dT (putK xs q v))) := Lx.stoO hO g1 nt_dT nt_dT
          exact h3 m3 _ σ (Lx.stoO hO g1 nt_dT nt_dT) (hS3.stoO hL g1 nt_dT nt_dT ⟨_, upd_same, RpKV.imp (fun _ _ r => l.rp r) (g2.put rv3)⟩) (F3.stoO hO g1 nt_dT nt_dT)
        · cases e
      · rename_i kvs hn
        obtain ⟨q, e1, e2⟩ := Option.bind_eq_some_iff.mp e
        obtain ⟨hz, rfl⟩ := some_ifp e2
        rw [keyK_ok e1] at rt
        obtain rfl := Rp.key rt
        obtain ⟨xs, g1, g2⟩ := hS3.ob n _ L hn hL
        have hO : L ∈ m3.as := List.mem_of_getElem? hL
        refine ⟨L, _, rfl, DPut.k g1 (by rw [g2.len, sizeLine_eq]; omega), ?_⟩
        have l : Lx G kAll m3 H3 m3 (L2.upd H3 L (.dK (putK xs q v))) := Lx.stoO hO g1 nt_dK nt_dK
        exact h3 m3 _ σ (Lx.stoO hO g1 nt_dK nt_dK) (hS3.stoO hL g1 nt_dK nt_dK ⟨_, upd_same, RpKV.imp (fun _ _ r => l.rp r) (g2.put rv3)⟩) (F3.stoO hO g1 nt_dK nt_dK)
      · cases e
    · cases e
  · exact h3.elim
theorem c_str : CallR X (.type "str") (rC G pStr) := callr_imp (CallR.or call_str_int SkE.call_str_str) fun vs H Q ⟨m, S, ds, r, hS, hr, hf, k⟩ => by
  unfold pStr at hf
  split at hf
  · obtain ⟨hz, rfl⟩ := some_ifp hf
    obtain ⟨v, rfl, rv⟩ := hr.one
    obtain rfl : v = V.int _ := rv
    exact .inl ⟨_, rfl, hz, k.here hS (v := .str _) rfl⟩
  · cases hf
    obtain ⟨v, rfl, rv⟩ := hr.one
    obtain rfl : v = V.str _ := rv
    exact .inr ⟨_, rfl, k.here hS (v := .str _) rfl⟩
  · cases hf
/-! ### list(d), d keyed by tuples -/
def qListD (S : Store) : List D → Option (List D)
  | [.ref n] => match S[n]? with
    | some (.dT kvs) => some (kvs.map fun kv => .tup (kv.1.map kD))
    | _ => none
  | _ => none
theorem rpl_isKeys : ∀ {kvs : List (List L2.Key × D)} {xs : List (List L2.Key × V)} {bs : List Addr}, RpKV G m H kvs xs → IsKeys H xs bs → RpL G m H (kvs.map fun kv => .tup (kv.1.map kD)) (bs.map V.ref)
  | [], _, _, h, k => by
    have h : _ = [] := h
    subst h; cases k; rfl
  | p :: t, _, _, ⟨v, s, e, h1, h2⟩, k => by
    subst e
    cases k with
    | cons k1 k2 => exact ⟨_, _, rfl, ⟨_, _, rfl, Tq.of k1, RpL.ofKeys _⟩, rpl_isKeys h2 k2⟩
theorem jl_listD {r : DA} {es : List Expr} (hc : X.calm = true) (hg : Gl X "list") (hm : X.mg "list" = none) (ha : PA X (e :: es) (tB G W r)) (hs : (e :: es).any starB = false) : PE X (.Call (.Name "list" p) (e :: es) [] pos) (tL G W (dPrL qListD r)) := by
  rw [List.any_cons, Bool.or_eq_false_iff] at hs
  exact pe_imp (pe_callTy (call_list_dT hc) hg hm PyProof.Rows.boot_list ha (by decide) (by decide) (starEach_plain hs.1) (backTo_plain hs.2)) fun σ H Q ⟨m, ρ, S, hS, hE, h⟩ => ⟨m, ρ, S, hS, hE, (AftL.of h).imp fun xs S1 m1 H1 l1 hS1 h1 vs rvs => by
    obtain ⟨ds, e, h1⟩ := aftL_opt h1
    unfold qListD at e
    split at e
    · obtain ⟨v, rfl, rv⟩ := rvs.one
      obtain ⟨a, rfl, ha⟩ := rv
      split at e
      · rename_i n kvs hn
        cases e
        obtain ⟨xs, g1, g2⟩ := hS1.ob _ _ a hn ha
        exact ⟨a, xs, rfl, .inl g1, fun l bs hl hk => AftL.new h1 hS1 (rpl_isKeys g2 hk) hl⟩
      · cases e
    · cases e⟩
/-! ### a call by keywords alone -/
theorem jk_nil : PK X [] (tA G W dNil) := ⟨fun pos pins s σ H Q I ⟨m, ρ, S, hS, hE, h⟩ => pk_nil.run pos pins s σ H Q I (h.ok hS [] rfl)⟩
theorem jk_cons {nm : Option Str} {kpos : Pos} {kws : List Keyword} {da : DE} {dr : DA} (ha : PE X e (tE G W da)) (hr : PK X kws (tA G W dr)) : PK X (⟨nm, e, kpos⟩ :: kws) (tA G W (dCons da dr)) :=
  ⟨fun pos pins s σ H Q I ⟨m, ρ, S, hS, hE, h⟩ => (pk_cons ha hr).run pos pins s σ H Q I
    ⟨m, ρ, S, hS, hE, (Aft.bind h).imp fun x S1 m1 H1 l1 hS1 h1 v rv => ⟨m1, ρ, S1, hS1, hE.le l1, (Aft.bind h1).imp fun xs S2 m2 H2 l2 hS2 h2 vs rvs => h2.ok hS2 (v :: vs) ⟨v, vs, rfl, l2.rp rv, rvs⟩⟩⟩⟩
variable {mg : Str → Option Value} {fa : List He.Fa} {fn : List He.DefD} {tl : List (Str × List L2.Key)} {cl : List Str} {P : Program} {w : World} {base : Heap}
def KwOk (G : Gc) (mg : Str → Option Value) (x : Str) (ps : List Str) : Prop := ∀ f fd, mg x = some (.ref f) → (∃ oc od osl, G.K.lookup f = some ⟨oc, od, .func fd, osl⟩) →
  ∀ (s : Shared) (us : List Value), us.length = ps.length → BindsTo s fd ⟨[], ps.zip us⟩ (ps.zip us)
theorem kw_of (Z : Zf G mg fa fn tl cl) (i j : Nat) {x : Str} {st : Stmt} {ps : List Str} (hi : fn[i]? = some (dfD x st)) (hj : fa[j]? = some (.glo x))
    (hbd : ∀ (kV doc pm : Value) (an : Option Addr) (cdv ct : Value) (us : List Value), us.length = ps.length → bindArgs (PySem.W.fnOf x x (defArgs st) (defBody st) (defScope st) .none kV doc pm an cdv ct) ⟨[], ps.zip us⟩ = pure (ps.zip us)) : KwOk G mg x ps := by
  intro f fd h1 ⟨oc, od, osl, h2⟩ s us hl
  obtain ⟨fd', F⟩ := Z.says.def_ i hi
  have F : FunD G.K x x (defArgs st) (defBody st) (defScope st) [] [] (He.ga G.K x) fd' := F
  obtain ⟨oc', od', dV, kV, doc, pm, an, cdv, ct, osl', e, lk, hcd, hD, hK⟩ := F.ex
  rw [Z.glo j hj] at h1
  cases h1
  have e3 := h2.symm.trans lk
  cases e3
  subst e
  rcases hD with ⟨_, rfl⟩ | ⟨e, _⟩
  · exact .of_eq (hbd kV doc pm an cdv ct us hl)
  · exact absurd rfl e
theorem je_calK {ps : List Str} {n k j : Nat} {run : List D → M D} {x : Str} {kws : List Keyword} {r : DA} (Fn : Callee X.prog X.w G X.mg X.base x j n ps run) (kw : KwOk G X.mg x ps) (hn : ps.length = n) (hK : X.K = G.K) (hr : Room k X.A) (hj : j ≤ k) (hg : Gl X x)
    (tk : Takes X W) (hkw : PK X kws (tA G W r)) (hall : (backToKw pos (keywordEach kws X.env)).all (·.1.isSome) = true) (hks : (backToKw pos (keywordEach kws X.env)).filterMap (·.1) = ps)
    (hpl : ((backTo pos (starEach [] X.env)).any (·.1) || (backToKw pos (keywordEach kws X.env)).any (·.1.isNone)) = false) (hdb : (x == ("__debug__" : Str)) = false := by decide) : PE X (.Call (.Name x p) [] kws pos) (tE G W (dCall n run r)) := by
  obtain ⟨f, fd, h1, h2, h3, h4, _, oc, od, osl, h6⟩ := Fn
  have kb := kw f fd h1 ⟨oc, od, osl, h6⟩
  rw [← hK] at h2 h3 h4
  refine ⟨fun pins s σ H Q I h => ?_⟩
  refine wpAny_Call_Name_kw (ld_glob I hg h1 ?_ hdb)
  obtain ⟨m, ρ, S, hS, hE, h⟩ := h
  refine PySem.W.callWith_KW0 (h₀ := X.base) I.ok.mod.kin h2 hall (thn (hkw.run pos pins s σ H (fun vs H' => spF G n run vs H' Q fun c x H' => W c x σ H') I ⟨m, ρ, S, hS, hE, (Aft.bind h).imp fun xs S1 m1 H1 l1 hS1 h1 vs rvs => ?_⟩) fun ws s2 ⟨zs, H2, I2, rz, q2⟩ => ⟨I2.kIn, ?_⟩) hpl
  · by_cases hl : xs.length = n
    · rw [if_pos hl] at h1
      exact ⟨m1, S1, xs, hl, hS1, rvs, h1⟩
    · rw [if_neg hl] at h1; exact h1.elim
  · rw [hks]
    have hl : ws.length = ps.length := by
      obtain ⟨m2, S2, ds, hl, hS2, r2, _⟩ := q2
      rw [← rz.length, r2.length, hl, hn]
    refine wpAny_call (codeAny_mono (h4.run X.A X.stack s2 H2 ⟨[], ps.zip ws⟩ ws zs Q _ (hr.mono hj) I2.env0 (kb s2 ws hl) rz q2) fun r s' hq => ?_)
    cases r with
    | error e => exact passAt tk σ pins H2 s2 e s' I2 hq
    | ok fl =>
      cases fl with
      | ret u => exact I2.after hq
      | next => exact False.elim hq
      | brk => exact False.elim hq
      | cont => exact False.elim hq
/-! ### tuples of the text that are named -/
theorem keyDv_v (K : PySem.W.Frag) : ∀ ks : List L2.Key, (ks.map keyDv).map (He.Dv.v K) = ks.map kV
  | [] => rfl
  | k :: ks => by
    rw [List.map_cons, List.map_cons, List.map_cons, keyDv_v K ks]
    cases k <;> rfl
theorem je_gtup {X : Cx} (Z : Zf G X.mg fa fn tl cl) (i j : Nat) {x : Str} {ks : List L2.Key} (hg : Gl X x) (hi : fa[i]? = some (.glo x)) (hj : tl[j]? = some (x, ks)) (hd : (x == ("__debug__" : Str)) = false := by decide) : PE X (.Name x pos) (tE G W (dCst (.tup (ks.map kD)))) :=
  je_c (pe_glob (v := .ref (He.ga G.K x)) hg (Z.glo i hi) rfl hd) fun m H => ⟨_, _, rfl, .inr ⟨by
    have := He.tupB_ok (Z.tups _ (List.mem_of_getElem? hj)) H
    rw [keyDv_v] at this
    exact this, ks, by
    rw [Z.lits]
    exact List.mem_map.mpr ⟨_, List.mem_of_getElem? hj, rfl⟩, rfl⟩, RpL.ofKeys ks⟩
/-! ### a def that is never entered; recursion -/
theorem callee_bad (Z : Zf G mg fa fn tl cl) (i j : Nat) {x : Str} {st : Stmt} {N ps : List Str} {k n : Nat} (hi : fn[i]? = some (dfD x st)) (hj : fa[j]? = some (.glo x)) (Sc : FnScope N ps (defScope st)) (hn : ps.length = n)
    (hbd : ∀ (kV doc pm : Value) (an : Option Addr) (cdv ct : Value) (us : List Value), us.length = ps.length → bindArgs (PySem.W.fnOf x x (defArgs st) (defBody st) (defScope st) .none kV doc pm an cdv ct) ⟨us, []⟩ = pure (ps.zip us)) : Callee P w G mg base x (k + 1) n ps (fun _ _ => .bad) := by
  obtain ⟨fd, F⟩ := Z.says.def_ i hi
  have F : FunD G.K x x (defArgs st) (defBody st) (defScope st) [] [] (He.ga G.K x) fd := F
  obtain ⟨oc, od, dV, kV, doc, pm, an, cdv, ct, osl, e, lk, _⟩ := F.ex
  refine ⟨_, fd, Z.glo j hj, F.kp, F.bindsN hbd, ?_, F.bindsA hbd, oc, od, osl, lk⟩
  exact F.ok Sc (fun vs H Q E ⟨m, S, ds, hl, hS, r, h⟩ => h.elim) fun cdv A outer s H vs Q E hr ⟨m, S, ds, hl, hS, r, h⟩ => h.elim
end
end Py

/-! Part 21: instances of the text's classes. -/
namespace Py
open PySem PySem.Spec PyProof.Rows L2
def putFD (f : Str) (v : D) : List (Str × D) → List (Str × D)
  | [] => [(f, v)]
  | (g, x) :: r => if g = f then (g, v) :: r else (g, x) :: putFD f v r
/-- the classes cs have no f of their own -/
def AtOk (G : Gc) (cs : List Nat) (f : Str) : Prop := ∀ c ∈ cs, ∀ C, G.ad c = some C → Cls G.K C ∧ NoAttr G.K C f
def pFld (cs : List Nat) (f : Str) (S : Store) : D → Option D
  | .ref n => match S[n]? with
    | some (.ins c fs) => if c ∈ cs then fs.lookup f else none
    | _ => none
  | _ => none
def dFld (cs : List Nat) (f : Str) (d : DE) : DE := fun ρ S => (d ρ S).bind fun x S => optM (pFld cs f S x) S
def stFld (cs : List Nat) (f : Str) (S : Store) (x v : D) : Option Store := match x with
  | .ref n => match S[n]? with
    | some (.ins c fs) => if c ∈ cs ∧ fs.length < 1000 then some (S.set n (.ins c (putFD f v fs))) else none
    | _ => none
  | _ => none
def dSetF (cs : List Nat) (f : Str) (dv do_ : DE) : DS := fun ρ S => rS (dv ρ S) ρ fun v S => rS (do_ ρ S) ρ fun x S => match stFld cs f S x v with
  | some S' => some (.nx ρ, S')
  | none => none
/-- a method's promise -/
def MCal (P : Program) (w : World) (G : Gc) (mg : Str → Option Value) (base : Heap) (c : Nat) (mn : Str) (k n : Nat) (ps : List Str) (run : List D → M D) : Prop :=
  ∃ C f fd, G.ad c = some C ∧ Cls G.K C ∧ Meth G.K C mn f ∧ Binds G.K fd ps [] ∧ FnOk P w G.K mg base (L2.CX P w) k f fd ps (spF G n run)
def insAt (S : Store) (c : Nat) (mn : Str) (i : Nat) : Bool := match S[i]? with
  | some (.ins c' fs) => decide (c' = c) && (fs.lookup mn).isNone
  | _ => false
def dMeth (c : Nat) (mn : Str) (n : Nat) (run : List D → M D) (do_ : DE) (r : DA) : DE := fun ρ S => (do_ ρ S).bind fun x S => match x with
  | .ref i => if insAt S c mn i = true then (r ρ S).bind fun xs S => if xs.length + 1 = n then run (.ref i :: xs) S else .bad else .bad
  | _ => .bad
/-- a new instance -/
def dMake (c n : Nat) (run : List D → M D) (r : DA) : DE := fun ρ S => (r ρ S).bind fun xs S => if xs.length + 1 = n then (run (.ref S.length :: xs) (S ++ [.ins c []])).bind fun y S' => match y with
  | .non => .ok (.ref S.length) S'
  | _ => .bad
  else .bad
section
variable {G : Gc} {W : WX} {X : Cx} {e a b c tg o i : Expr} {m m' : Mu} {H H' : Hp} {S : Store} {σ : Sg} {pos p apos : Pos} {kp : Addr → Prop} {ρ : Env} {cs : List Nat} {f : Str}
theorem RpKV.lk {f : Str} : ∀ {fs : List (Str × D)} {xs : List (Str × V)}, RpKV G m H fs xs → (∀ d, fs.lookup f = some d → ∃ v, xs.lookup f = some v ∧ Rp G m H d v) ∧ (fs.lookup f = none → xs.lookup f = none)
  | [], _, h => by
    have h : _ = [] := h
    rw [h]; exact ⟨(fun d z => by cases z), fun _ => rfl⟩
  | (g, d0) :: r, _, ⟨v, s, e, h1, h2⟩ => by
    subst e
    obtain ⟨i1, i2⟩ := RpKV.lk (f := f) h2
    by_cases q : (f == g) = true
    · simp only [List.lookup, q]
      exact ⟨(fun d z => by cases z; exact ⟨v, rfl, h1⟩), (fun z => by cases z)⟩
    · have q : (f == g) = false := by simpa using q
      simp only [List.lookup, q]
      exact ⟨i1, i2⟩
theorem RpKV.putF {d : D} {v : V} (r : Rp G m H d v) : ∀ {fs : List (Str × D)} {xs : List (Str × V)}, RpKV G m H fs xs → RpKV G m H (putFD f d fs) (L2.putF f v xs)
  | [], _, h => by
    have h : _ = [] := h
    rw [h]; exact ⟨v, [], rfl, r, rfl⟩
  | (g, d0) :: t, _, ⟨u, s, e, h1, h2⟩ => by
    subst e
    by_cases q : g = f
    · simp only [putFD, L2.putF, if_pos q]
      exact ⟨v, s, rfl, r, h2⟩
    · simp only [putFD, L2.putF, if_neg q]
      exact ⟨u, _, rfl, h1, RpKV.putF r h2⟩
theorem je_fld {d : DE} (hA : AtOk G cs f) (hK : X.K = G.K) (he : PE X e (tR G W d)) (hb : attributeBase e f X.env (eval e X.env) = eval e X.env) : PE X (.Attribute e f pos) (tE G W (dFld cs f d)) :=
  pe_imp (pe_fld he hb) fun σ H Q ⟨m, ρ, S, hS, hE, h⟩ => ⟨m, ρ, S, hS, hE, (Aft.bind h).imp fun x S1 m1 H1 l1 hS1 h1 v rv => by
    obtain ⟨r, e, k⟩ := aft_opt h1
    unfold pFld at e
    split at e
    · split at e
      · rename_i n c fs hn
        by_cases hc : c ∈ cs
        · rw [if_pos hc] at e
          obtain ⟨a, rfl, ha⟩ := rv
          obtain ⟨C, dx, xs, e1, e2, r2⟩ := hS1.ob _ _ a hn ha
          obtain ⟨c1, c2⟩ := hA c hc C e1
          obtain ⟨u, e3, r3⟩ := r2.lk.1 r e
          exact ⟨a, C, dx, xs, u, rfl, e2, by rw [hK]; exact c1, by rw [hK]; exact c2, e3, k.here hS1 r3⟩
        · rw [if_neg hc] at e; cases e
      · cases e
    · cases e⟩
theorem js_fld {dv do_ : DE} {st_pos : Pos} (hA : AtOk G cs f) (hK : X.K = G.K) (hv : PE X e (tE G W dv)) (ho : PE X o (tE G W do_)) (hs : swapsWith e (some (.Attribute o f p)) pos.line X.env = pure false) :
    PS X (.Assign [.Attribute o f p] e pos) (tS G W (dSetF cs f dv do_)) := by
  refine ps_imp (ps_fld ho hv hs) fun D σ H ⟨kp, m, ρ, S, hS, F, h⟩ => ?_
  refine ⟨m, ρ, S, hS, F.rp, (AftS.rS h F).imp fun x S1 m1 H1 l1 hS1 h1 v rv => ?_⟩
  have F1 := F.le l1
  refine ⟨m1, ρ, S1, hS1, F1.rp, (AftS.rS h1 F1).imp fun y S2 m2 H2 l2 hS2 h2 u ru => ?_⟩
  have F2 := F1.le l2
  have rv2 := l2.rp rv
  unfold stFld at h2
  split at h2
  · rename_i S' e
    split at e
    · rename_i n
      split at e
      · rename_i c fs hn
        obtain ⟨⟨hc, hz⟩, rfl⟩ := some_ifp e
        obtain ⟨L, rfl, hL⟩ := ru
        obtain ⟨C, dx, xs, e1, g1, g2⟩ := hS2.ob n _ L hn hL
        obtain ⟨c1, c2⟩ := hA c hc C e1
        have hO : L ∈ m2.as := List.mem_of_getElem? hL
        refine ⟨L, C, dx, xs, rfl, g1, by rw [hK]; exact c1, by rw [hK]; exact c2, by rw [g2.len]; exact hz, ?_⟩
        have l : Lx G kAll m2 H2 m2 (L2.upd H2 L (.ins C dx (L2.putF f v xs))) := Lx.stoO hO g1 nt_ins nt_ins
        exact h2 m2 _ σ (Lx.stoO hO g1 nt_ins nt_ins) (hS2.stoO hL g1 nt_ins nt_ins ⟨C, dx, _, e1, upd_same, RpKV.imp (fun _ _ r => l.rp r) (g2.putF rv2)⟩) (F2.stoO hO g1 nt_ins nt_ins)
      · cases e
    · cases e
  · exact h2.elim
/-! ### methods, instances made -/
theorem meth_go {n k j : Nat} {ps : List Str} {run : List D → M D} {g : Addr} {fd : FuncData} {pins : List (Addr × Obj)} {s : Shared} {Q : VK} {us : List Value} {vs : List V} {ds : List D} {a : Addr} {q : Nat}
    (Fn : FnOk X.prog X.w X.K X.mg X.base (L2.CX X.prog X.w) j g fd ps (spF G n run)) (hr : Room k X.A) (hj : j ≤ k) (hb : Binds X.K fd ps []) (tk : Takes X W) (I : Inv X pins σ H s) (r : Vals vs us) (hS : Holds G m H S) (ha : m.as[q]? = some a) (rp : RpL G m H ds vs)
    (hn : ds.length + 1 = n) (h : Aft G m H (fun c x H' => W c x σ H') (run (.ref q :: ds) S) fun r _ m' H' => ∀ v, Rp G m' H' r v → Q v H') : wpAny (model X.prog X.w) X.A (call (.ref g) (.ref a :: us)) (EP X pins σ Q) X.xe s :=
  run_fnS (E := WE W) (us := .ref a :: us) (vs := .ref a :: vs) Fn (hr.mono hj) hb (passAt tk σ) I (.cons rfl r) ⟨m, S, .ref q :: ds, hn, hS, ⟨.ref a, vs, rfl, ⟨a, rfl, ha⟩, rp⟩, h⟩
theorem je_meth {c n k j : Nat} {mn : Str} {ps : List Str} {run : List D → M D} {es : List Expr} {do_ : DE} {r : DA} {pl : Sem Bool} (M : MCal X.prog X.w G X.mg X.base c mn j n ps run) (hK : X.K = G.K) (hr : Room k X.A) (hj : j ≤ k) (tk : Takes X W) (he : PE X o (tE G W do_)) (hA : PA X (e :: es) (tA G W r)) (hs : (e :: es).any starB = false)
    (ht : eval (.Call (.Attribute o mn apos) (e :: es) [] pos) X.env = (do
      let ov ← eval o X.env
      standAt apos.atName
      let (f, first) ← holding [ov] (getMethod ov mn pl)
      callWith pos f first (backTo pos (starEach (e :: es) X.env)) (backToKw pos (keywordEach [] X.env)))) :
    PE X (.Call (.Attribute o mn apos) (e :: es) [] pos) (tE G W (dMeth c mn n run do_ r)) := by
  rw [List.any_cons, Bool.or_eq_false_iff] at hs
  obtain ⟨C, g, fd, hC, c1, hm, hb, Fn⟩ := M
  rw [← hK] at c1 hm hb Fn
  refine ⟨fun pins s σ H Q I ⟨m, ρ, S, hS, hE, h⟩ => ?_⟩
  refine PySem.W.methodCall_KW (pl := pl) (thn (he.run pins s σ H (fun x H1 => ∃ m1 S1 i, Le G m H m1 H1 ∧ Holds G m1 H1 S1 ∧ Rp G m1 H1 (.ref i) x ∧ insAt S1 c mn i = true ∧ Aft G m1 H1 (fun c x H' => W c x σ H') ((r ρ S1).bind fun xs S => if xs.length + 1 = n then run (.ref i :: xs) S else .bad) fun r _ m' H' => ∀ v, Rp G m' H' r v → Q v H') I ⟨m, ρ, S, hS, hE, (Aft.bind h).imp fun x S1 m1 H1 l1 hS1 h1 v rv => ?_⟩) fun u s1 ⟨x, H1, I1, rx, m1, S1, i, l1, hS1, rp1, hi, h1⟩ => ?_) ht
  · cases x with
    | ref i =>
      have h1 : Aft G m1 H1 (fun c x H' => W c x σ H') (if insAt S1 c mn i = true then (r ρ S1).bind fun xs S => if xs.length + 1 = n then run (.ref i :: xs) S else .bad else .bad) (fun r _ m' H' => ∀ v, Rp G m' H' r v → Q v H') := h1
      by_cases hi : insAt S1 c mn i = true
      · rw [if_pos hi] at h1
        exact ⟨m1, S1, i, l1, hS1, rv, hi, h1⟩
      · rw [if_neg hi] at h1; exact h1.elim
    | _ => exact h1.elim
  · obtain ⟨a, rfl, ha⟩ := rp1
    obtain rfl : u = Value.ref a := rx
    unfold insAt at hi
    split at hi
    · rename_i c' fs hn
      rw [Bool.and_eq_true, decide_eq_true_eq] at hi
      obtain ⟨rfl, hf⟩ := hi
      obtain ⟨C', dx, xs, e1, g1, g2⟩ := hS1.ob i _ a hn ha
      rw [hC] at e1
      cases e1
      have hl := g2.lk.2 (Option.isNone_iff_eq_none.mp hf)
      refine getmeth_ok I1 g1 c1 hm hl ?_
      refine PySem.W.callWith_K (first := [.ref a]) (h₀ := X.base) I1.ok.mod.kin hm.kp (thn (hA.run pos pins s1 σ H1 (fun vs H2 => ∃ m2 S2 ds, Holds G m2 H2 S2 ∧ RpL G m2 H2 ds vs ∧ ds.length + 1 = n ∧ m2.as[i]? = some a ∧ Aft G m2 H2 (fun c x H' => W c x σ H') (run (.ref i :: ds) S2) fun r _ m' H' => ∀ v, Rp G m' H' r v → Q v H') I1
        ⟨m1, ρ, S1, hS1, hE.le l1, (Aft.bind h1).imp fun ds S2 m2 H2 l2 hS2 h2 vs rvs => ?_⟩) fun us s2 ⟨vs, H2, I2, rr, m2, S2, ds, hS2, rp2, hn2, ha2, h2⟩ => ⟨I2.kIn, ?_⟩) (starEach_plain hs.1) (backTo_plain hs.2)
      · by_cases hl2 : ds.length + 1 = n
        · rw [if_pos hl2] at h2
          exact ⟨m2, S2, ds, hS2, rvs, hl2, l2.ix ha, h2⟩
        · rw [if_neg hl2] at h2; exact h2.elim
      · exact meth_go Fn hr hj hb tk I2 rr hS2 ha2 rp2 hn2 h2
    · cases hi
theorem je_meth0 {c n k j : Nat} {mn : Str} {ps : List Str} {run : List D → M D} {do_ : DE} {pl : Sem Bool} (M : MCal X.prog X.w G X.mg X.base c mn j n ps run) (hK : X.K = G.K) (hr : Room k X.A) (hj : j ≤ k) (tk : Takes X W) (he : PE X o (tE G W do_))
    (ht : eval (.Call (.Attribute o mn apos) [] [] pos) X.env = (do
      let ov ← eval o X.env
      standAt apos.atName
      let (f, first) ← holding [ov] (getMethod ov mn pl)
      callWith pos f first (backTo pos (starEach [] X.env)) (backToKw pos (keywordEach [] X.env)))) :
    PE X (.Call (.Attribute o mn apos) [] [] pos) (tE G W (dMeth c mn n run do_ dNil)) := by
  obtain ⟨C, g, fd, hC, c1, hm, hb, Fn⟩ := M
  rw [← hK] at c1 hm hb Fn
  refine ⟨fun pins s σ H Q I ⟨m, ρ, S, hS, hE, h⟩ => ?_⟩
  refine PySem.W.methodCall_KW (pl := pl) (thn (he.run pins s σ H (fun x H1 => ∃ m1 S1 i, Holds G m1 H1 S1 ∧ Rp G m1 H1 (.ref i) x ∧ insAt S1 c mn i = true ∧ 0 + 1 = n ∧ Aft G m1 H1 (fun c x H' => W c x σ H') (run [.ref i] S1) fun r _ m' H' => ∀ v, Rp G m' H' r v → Q v H') I ⟨m, ρ, S, hS, hE, (Aft.bind h).imp fun x S1 m1 H1 l1 hS1 h1 v rv => ?_⟩) fun u s1 ⟨x, H1, I1, rx, m1, S1, i, hS1, rp1, hi, hn1, h1⟩ => ?_) ht
  · cases x with
    | ref i =>
      have h1 : Aft G m1 H1 (fun c x H' => W c x σ H') (if insAt S1 c mn i = true then if 0 + 1 = n then run [.ref i] S1 else .bad else .bad) (fun r _ m' H' => ∀ v, Rp G m' H' r v → Q v H') := h1
      by_cases hi : insAt S1 c mn i = true
      · rw [if_pos hi] at h1
        by_cases hn : 0 + 1 = n
        · rw [if_pos hn] at h1
          exact ⟨m1, S1, i, hS1, rv, hi, hn, h1⟩
        · rw [if_neg hn] at h1; exact h1.elim
      · rw [if_neg hi] at h1; exact h1.elim
    | _ => exact h1.elim
  · obtain ⟨a, rfl, ha⟩ := rp1
    obtain rfl : u = Value.ref a := rx
    unfold insAt at hi
    split at hi
    · rename_i c' fs hn
      rw [Bool.and_eq_true, decide_eq_true_eq] at hi
      obtain ⟨rfl, hf⟩ := hi
      obtain ⟨C', dx, xs, e1, g1, g2⟩ := hS1.ob i _ a hn ha
      rw [hC] at e1
      cases e1
      have hl := g2.lk.2 (Option.isNone_iff_eq_none.mp hf)
      refine getmeth_ok I1 g1 c1 hm hl ?_
      exact PySem.W.callWith_K0 (first := [.ref a]) I1.kIn hm.kp (meth_go (ds := []) (vs := []) Fn hr hj hb tk I1 .nil hS1 ha rfl hn1 h1)
    · cases hi
/-- a class's promise: what __init__ does -/
def KCal (P : Program) (w : World) (G : Gc) (mg : Str → Option Value) (base : Heap) (c : Nat) (x : Str) (k n : Nat) (ps : List Str) (run : List D → M D) : Prop :=
  ∃ C f fd, G.ad c = some C ∧ mg x = some (.ref C) ∧ Mk G.K C f ∧ Binds G.K fd ps [] ∧ FnOk P w G.K mg base (L2.CX P w) k f fd ps (spF G n run)
theorem make_go {c n k j : Nat} {ps : List Str} {run : List D → M D} {C g : Addr} {fd : FuncData} {pins : List (Addr × Obj)} {s : Shared} {Q : VK} {us : List Value} {vs : List V} {ds : List D} (hK : X.K = G.K) (hC : G.ad c = some C)
    (M : Mk X.K C g) (Fn : FnOk X.prog X.w X.K X.mg X.base (L2.CX X.prog X.w) j g fd ps (spF G n run)) (hr : Room (k + 1) X.A) (hj : j ≤ k) (hb : Binds X.K fd ps []) (tk : Takes X W) (I : Inv X pins σ H s) (r : Vals vs us) (hS : Holds G m H S) (rp : RpL G m H ds vs)
    (hn : ds.length + 1 = n) (h : Aft G m H (fun c x H' => W c x σ H') ((run (.ref S.length :: ds) (S ++ [.ins c []])).bind fun y S' => match y with | .non => .ok (.ref S.length) S' | _ => .bad) fun r _ m' H' => ∀ v, Rp G m' H' r v → Q v H') :
    wpAny (model X.prog X.w) X.A (call (.ref C) us) (EP X pins σ Q) X.xe s := by
  have hx : H (s.heap.objs.size + 1) = none := I.hok.fresh (Nat.le_succ _)
  have hdx : H s.heap.objs.size = none := I.hok.fresh (Nat.le_refl _)
  have hne : s.heap.objs.size ≠ s.heap.objs.size + 1 := Nat.ne_of_lt (Nat.lt_succ_self _)
  have I2 := Inv.made (C := C) I
  have sN : Same H (L2.upd H s.heap.objs.size (.own (s.heap.objs.size + 1))) := Same.new hdx
  have hx1 : L2.upd H s.heap.objs.size (.own (s.heap.objs.size + 1)) (s.heap.objs.size + 1) = none := by rw [upd_ne (fun z => hne z.symm)]; exact hx
  have hS1 := (hS.same sN).growO (o := .ins C s.heap.objs.size []) (ob := .ins c []) hx1 ⟨C, _, [], hC, upd_same, rfl⟩
  have l0 : Le G m H ⟨m.as ++ [s.heap.objs.size + 1], m.O⟩ (L2.upd (L2.upd H s.heap.objs.size (.own (s.heap.objs.size + 1))) (s.heap.objs.size + 1) (.ins C s.heap.objs.size [])) := (Le.same sN).trans (Le.growO hx1)
  have r2 : Vals (V.ref (s.heap.objs.size + 1) :: vs) (Value.ref (s.heap.objs.size + 1) :: us) := .cons rfl r
  have hnew : (m.as ++ [s.heap.objs.size + 1])[S.length]? = some (s.heap.objs.size + 1) := ref_new hS.len
  have hq : spF G n run (V.ref (s.heap.objs.size + 1) :: vs) (L2.upd (L2.upd H s.heap.objs.size (.own (s.heap.objs.size + 1))) (s.heap.objs.size + 1) (.ins C s.heap.objs.size [])) (fun v H2 => v = .non ∧ Q (.ref (s.heap.objs.size + 1)) H2) (WE W σ) := by
    refine ⟨_, _, .ref S.length :: ds, hn, hS1, ⟨_, vs, rfl, ⟨_, rfl, hnew⟩, l0.rpL rp⟩, ((Aft.bind h).later l0).imp fun y S2 m2 H2 l2 hS2 h2 v rv => ?_⟩
    cases y with
    | non => exact ⟨rv, h2 m2 H2 Le.refl hS2 _ ⟨_, rfl, l2.ix hnew⟩⟩
    | _ => exact h2.elim
  have hl : (Value.ref (s.heap.objs.size + 1) :: us).length = ps.length := by
    have e := r2.length
    rw [Fn.len _ _ _ _ hq] at e
    exact e.symm
  have hb2 : ∀ s2 : Shared, X.K.In s2.heap → BindsTo s2 fd ⟨Value.ref (s.heap.objs.size + 1) :: us, []⟩ (ps.zip (Value.ref (s.heap.objs.size + 1) :: us)) := fun s2 k2 => by
    have := hb s2 (Value.ref (s.heap.objs.size + 1) :: us) k2 (by rw [List.append_nil]; exact hl)
    rwa [List.append_nil] at this
  refine wpAny_call (make_map (f := g) I.kIn M.makes M.init (beq_iff_eq.mp M.fn) (codeAny_mono (Fn.run _ X.stack _ _ ⟨Value.ref (s.heap.objs.size + 1) :: us, []⟩ (Value.ref (s.heap.objs.size + 1) :: us) _ _ (WE W σ) ((hr.make C us []).mono hj)
    (I2.env0.make C us []) (hb2 _ I2.kIn) r2 hq) fun r s' hq' => ?_))
  cases r with
  | error e => exact passAt tk σ pins _ _ e s' I2 hq'
  | ok fl =>
    cases fl with
    | ret u =>
      obtain ⟨v, H', I3, rv, ev, q3⟩ := I2.after hq'
      subst ev
      exact ⟨rv, ⟨V.ref (s.heap.objs.size + 1), H', I3, rfl, q3⟩⟩
    | next => exact False.elim hq'
    | brk => exact False.elim hq'
    | cont => exact False.elim hq'
theorem je_make {c n k j : Nat} {x : Str} {ps : List Str} {run : List D → M D} {es : List Expr} {r : DA} (M : KCal X.prog X.w G X.mg X.base c x j n ps run) (hK : X.K = G.K) (hr : Room (k + 1) X.A) (hj : j ≤ k) (hg : Gl X x) (tk : Takes X W) (hA : PA X (e :: es) (tA G W r)) (hs : (e :: es).any starB = false)
    (hdb : (x == ("__debug__" : Str)) = false := by decide) : PE X (.Call (.Name x p) (e :: es) [] pos) (tE G W (dMake c n run r)) := by
  rw [List.any_cons, Bool.or_eq_false_iff] at hs
  obtain ⟨C, g, fd, hC, hm, mk, hb, Fn⟩ := M
  rw [← hK] at mk hb Fn
  refine ⟨fun pins s σ H Q I ⟨m, ρ, S, hS, hE, h⟩ => ?_⟩
  refine wpAny_Call_Name_kw (ld_glob I hg hm ?_ hdb)
  refine PySem.W.callWith_K (h₀ := X.base) I.ok.mod.kin mk.kp (thn (hA.run pos pins s σ H (fun vs H2 => ∃ m2 S2 ds, Holds G m2 H2 S2 ∧ RpL G m2 H2 ds vs ∧ ds.length + 1 = n ∧ Aft G m2 H2 (fun c x H' => W c x σ H') ((run (.ref S2.length :: ds) (S2 ++ [.ins c []])).bind fun y S' => match y with | .non => .ok (.ref S2.length) S' | _ => .bad) fun r _ m' H' => ∀ v, Rp G m' H' r v → Q v H') I
    ⟨m, ρ, S, hS, hE, (Aft.bind h).imp fun ds S2 m2 H2 l2 hS2 h2 vs rvs => ?_⟩) fun us s2 ⟨vs, H2, I2, rr, m2, S2, ds, hS2, rp2, hn2, h2⟩ => ⟨I2.kIn, ?_⟩) (starEach_plain hs.1) (backTo_plain hs.2)
  · by_cases hl2 : ds.length + 1 = n
    · rw [if_pos hl2] at h2
      exact ⟨m2, S2, ds, hS2, rvs, hl2, h2⟩
    · rw [if_neg hl2] at h2; exact h2.elim
  · exact make_go hK hC mk Fn hr hj hb tk I2 rr hS2 rp2 hn2 h2
/-! ### raise C('..') -/
def dRaise (c : Nat) : DS := fun ρ S => some (.ex c ρ, S)
end
end Py

/-! Part 22: exceptions. -/
namespace Py
open PySem PySem.Spec PyProof.Rows L2
/-- an exception class of the text -/
def XcOk (G : Gc) (mg : Str → Option Value) (c : Nat) (x : Str) : Prop := ∃ C, G.ad c = some C ∧ mg x = some (.ref C) ∧ PySem.W.excIn G.K C He.veBase "ValueError.__new__" = true ∧ PySem.W.keepIn G.K (.ref C) = true ∧ PySem.W.subIn G.K (.ref C) (.type "BaseException") = some true ∧ PySem.W.typeIn G.K (.ref C) = some (.type "type")
/-- which exceptions a clause catches -/
def EmOk (G : Gc) (em : List ((Nat × Nat) × Bool)) : Prop := ∀ q ∈ em, ∀ C C', G.ad q.1.1 = some C → G.ad q.1.2 = some C' → PySem.W.exmOne G.K (.ref C) (.ref C') = some q.2
def emAt (em : List ((Nat × Nat) × Bool)) (c h : Nat) : Option Bool := (em.find? fun q => decide (q.1 = (c, h))).map (·.2)
def exAt (em : List ((Nat × Nat) × Bool)) (c : Nat) : List (Nat × Str) → Option (Option Str)
  | [] => some none
  | (h, s) :: r => match emAt em c h with
    | some true => some (some s)
    | some false => exAt em c r
    | none => none
def dTry (em : List ((Nat × Nat) × Bool)) (hs : List (Nat × Str)) (d : DS) : DS := fun ρ S => match d ρ S with
  | some (.ex c ρ', S') => (match exAt em c hs with
    | some (some s) => some (.rt (.str s), S')
    | some none => some (.ex c ρ', S')
    | none => none)
  | r => r
section
variable {G : Gc} {W : WX} {X : Cx} {e a b c tg o i : Expr} {m m' : Mu} {H H' : Hp} {S : Store} {σ : Sg} {pos p p2 p3 apos : Pos} {kp : Addr → Prop} {ρ : Env} {mg : Str → Option Value} {fa : List He.Fa} {fn : List He.DefD} {tl : List (Str × List L2.Key)} {cl : List Str}
theorem xc_of (Z : Zf G mg fa fn tl cl) (i j : Nat) {c : Nat} {x : Str} (hc : cl[c]? = some x) (hi : fa[i]? = some (.exc x)) (hj : fa[j]? = some (.glo x)) : XcOk G mg c x := by
  obtain ⟨h1, h2, h3, h4⟩ := He.exc_ok (Z.says.fact i hi)
  exact ⟨_, Z.ads c x hc, Z.glo j hj, h1, h2, h3, h4⟩
theorem em_nil : EmOk G [] := fun q h => by cases h
theorem em_cons (Z : Zf G mg fa fn tl cl) (i : Nat) {c h : Nat} {x y : Str} {b : Bool} {em : List ((Nat × Nat) × Bool)} (hc : cl[c]? = some x) (hh : cl[h]? = some y) (hi : fa[i]? = some (.exm x y b)) (r : EmOk G em) : EmOk G (((c, h), b) :: em) := fun q hq => by
  rcases List.mem_cons.mp hq with rfl | hq
  · intro C C' e1 e2
    rw [Z.ads c x hc] at e1
    rw [Z.ads h y hh] at e2
    cases e1; cases e2
    exact He.exm_ok (Z.says.fact i hi)
  · exact r q hq
theorem js_raise {x m : Str} {c j : Nat} (hc : X.calm = true) (tk : Takes X W) (E : XcOk G X.mg c x) (hK : X.K = G.K) (hg : Gl X x) (hdb : (x == ("__debug__" : Str)) = false := by decide) :
    PS X (.Raise (some (.Call (.Name x p) [.Constant (.str m) j p2] [] pos)) none p3) (tS G W (dRaise c)) := by
  obtain ⟨C, h1, h2, h3, h4, h5, h6⟩ := E
  rw [← hK] at h3 h4 h5 h6
  exact ps_imp (ps_raise hc tk (pmk_own PySem.F.excBase_ValueError h3 h2 h4 (raises_own h5 h6) hg hdb)) fun D σ H ⟨kp, m, ρ, S, hS, F, h⟩ => h m H σ Lx.refl hS F C h1
/-- clauses that hand on a text -/
inductive HdO (G : Gc) (X : Cx) : List ExceptHandler → List (Nat × Str) → List (Value × (Addr → Value → Option Addr → TS)) → Prop
  | nil : HdO G X [] [] []
  | cons {x s : Str} {h j : Nat} {C : Addr} {np p5 p6 p7 : Pos} {hds : List ExceptHandler} {hs : List (Nat × Str)} {l : List (Value × (Addr → Value → Option Addr → TS))} (hC : G.ad h = some C) (hm : X.mg x = some (.ref C)) (hg : Gl X x) (hdb : (x == ("__debug__" : Str)) = false) (r : HdO G X hds hs l) :
      HdO G X (.ExceptHandler (some (.Name x np)) none [.Return (some (.Constant (.str s) j p5)) p6] p7 :: hds) ((h, s) :: hs) ((.ref C, fun _ _ _ D _ H => D.rt (.str s) H) :: l)
theorem HdO.ok {hds : List ExceptHandler} {hs : List (Nat × Str)} {l : List (Value × (Addr → Value → Option Addr → TS))} (h : HdO G X hds hs l) : HdsOk X hds l := by
  induction h with
  | nil => exact .nil
  | cons hC hm hg hdb r ih => exact .cons ⟨hg, hdb, .inl hm⟩ (fun a oe cls d pn _ _ => pss_imp (pss_one (ps_ret pe_str)) fun D σ H h => h) ih
theorem emAt_ok {em : List ((Nat × Nat) × Bool)} (hE : EmOk G em) {c h : Nat} {b : Bool} (e : emAt em c h = some b) {C C' : Addr} (h1 : G.ad c = some C) (h2 : G.ad h = some C') : PySem.W.exmOne G.K (.ref C) (.ref C') = some b := by
  unfold emAt at e
  obtain ⟨q, hq, rfl⟩ := Option.map_eq_some_iff.mp e
  have h3 := List.find?_some hq
  have h4 := of_decide_eq_true h3
  exact hE q (List.mem_of_find?_eq_some hq) C C' (by rw [h4]; exact h1) (by rw [h4]; exact h2)
theorem many_of {Wout : WX} {D : Ends} {em : List ((Nat × Nat) × Bool)} (hK : X.K = G.K) (hE : EmOk G em) {c : Nat} {C : Addr} (hc : G.ad c = some C) {hds : List ExceptHandler} {hs : List (Nat × Str)} {l : List (Value × (Addr → Value → Option Addr → TS))} (h : HdO G X hds hs l) :
    ∀ r, exAt em c hs = some r → (match r with | some s => D.rt (.str s) H | none => Wout (.ref C) none σ H) → wMany X.K Wout D l (.ref C) none σ H := by
  induction h with
  | nil =>
    intro r e k
    cases e
    exact k
  | cons hC hm hg hdb r ih =>
    intro r e k
    rename_i x s h j C' np p5 p6 p7 hds hs l r0
    unfold exAt at e
    cases q : emAt em c h with
    | none => rw [q] at e; cases e
    | some b =>
      rw [q] at e
      refine ⟨b, by rw [hK]; exact emAt_ok hE q hc hC, fun hb a ha => ?_, fun hb => ?_⟩
      · subst hb; cases e; exact k
      · subst hb; exact ih r e k
theorem js_try {body : List Stmt} {h₀ : ExceptHandler} {hds : List ExceptHandler} {hs : List (Nat × Str)} {l : List (Value × (Addr → Value → Option Addr → TS))} {em : List ((Nat × Nat) × Bool)} {d : DS} (hK : X.K = G.K) (h1 : X.stack = X.env :: X.outer) (h2 : X.env.frame = some X.env.locals) (tk : Takes X W) (hE : EmOk G em) (hh : HdO G X (h₀ :: hds) hs l)
    (hb : ∀ (W : WX) (pn : List (Addr × Obj)) (xe : Value → Shared → Prop), Takes (X.tr pn xe) W → PassesOwn (model X.prog X.w) X.A X.env xe → PSs (X.tr pn xe) body (tS G W d)) : PS X (.Try body (h₀ :: hds) [] [] pos) (tS G W (dTry em hs d)) := by
  refine ps_imp (ps_try_many h1 h2 tk hb hh.ok) fun D σ H ⟨kp, m, ρ, S, hS, F, h⟩ => ⟨kp, m, ρ, S, hS, F, ?_⟩
  unfold dTry at h
  cases q : d ρ S with
  | none => rw [q] at h; exact h
  | some z =>
    obtain ⟨o, S1⟩ := z
    rw [q] at h
    cases o with
    | nx ρ1 => exact h
    | br ρ1 => exact h
    | ct ρ1 => exact h
    | rt d => exact h
    | ex c ρ1 =>
      dsimp only at h
      intro m' H' σ' l2 hS2 F2 ca hca
      cases q2 : exAt em c hs with
      | none => rw [q2] at h; exact h.elim
      | some r =>
        rw [q2] at h
        refine many_of hK hE hca hh r q2 ?_
        cases r with
        | none => exact h m' H' σ' l2 hS2 F2 ca hca
        | some s => exact h m' H' _ l2 F2.sub hS2 rfl
end
end Py

/-! Part 23: a lambda handed to a def that tries it. -/
namespace Py
open PySem PySem.Spec PyProof.Rows L2
/-- try: return (w, call()) with clauses that hand on texts -/
def dTold (em : List ((Nat × Nat) × Bool)) (hs : List (Nat × Str)) (w : Str) (d : DE) : DE := fun ρ S => match d ρ S with
  | .ok x S' => .ok (.tup [.str w, x]) S'
  | .exc c S' => (match exAt em c hs with
    | some (some s) => .ok (.str s) S'
    | _ => .bad)
  | .bad => .bad
section
variable {G : Gc} {W : WX} {X : Cx} {e a b c tg o i : Expr} {m m' : Mu} {H H' H1 : Hp} {S : Store} {σ : Sg} {pos p p2 p3 apos lpos : Pos} {kp : Addr → Prop} {ρ : Env} {mg : Str → Option Value}
theorem Le.extN (x : LamX.ExtN H H1) : Le G m H m H1 := by
  have kp : ∀ a o, nt H a = some o → nt H1 a = some o := fun a o h => nt_of (x a o (nt_some h).1 (nt_some h).2) (nt_some h).2
  refine ⟨⟨[], by simp, by simp⟩, rfl, fun a o h _ => kp a o h, fun a xs h => ?_, fun a h => ?_⟩
  · rcases h with h | ⟨(h | ⟨o, h⟩) | h, hk⟩
    · exact .inl (x _ _ h fun _ z => by cases z)
    · exact .inl (x _ _ h fun _ z => by cases z)
    · exact .inr ⟨.inl (.inr ⟨o, x _ _ h fun _ z => by cases z⟩), hk⟩
    · exact .inr ⟨.inr h, hk⟩
  · cases e : nt H a with
    | none => exact absurd e h
    | some o => rw [kp a o e]; simp
theorem Holds.extN (h : Holds G m H S) (x : LamX.ExtN H H1) (t : LamX.Tabs G.tabs H1) : Holds G m H1 S :=
  ⟨h.len, h.nd, fun n ob a e1 e2 => (h.ob n ob a e1 e2).mono (fun o n e => x a o e n) fun d v r => (Le.extN (m := m) x).rp r, h.dis, fun a q => (Le.extN (G := G) (m := m) x).there a (h.there a q), t⟩
abbrev noW : WX := fun _ _ _ _ => False
/-- what the def makes of the lambda's reading -/
def TTm (K : PySem.W.Frag) (l : List (Value × (Addr → Value → Option Addr → TS))) (w : Str) : (XK → Hp → VK → Prop) → Hp → VK → Prop := fun tl H Q =>
  tl (fun cls d H' => ∀ σ', wMany K noW { nx := fun _ H' => Q .non H', rt := Q } l cls d σ' H') H fun v H' => ([V.str w, v]).length ≤ sizeLine ∧ ∀ q, H' q = none → Q (.ref q) (upd H' q (.tup [.str w, v]))
theorem told_gives {Ng : List Str} {x a q w : Str} {sg : Scope} {g : Addr} {cdg : Value} {j kt : Nat} {p1 p2 p3 p4 p5 p8 : Pos} {h₀ : ExceptHandler} {hds : List ExceptHandler} {hs : List (Nat × Str)} {l : List (Value × (Addr → Value → Option Addr → TS))}
    (hh : ∀ Y : Cx, Y.env.scope = sg → Y.mg = X.mg → HdO G Y (h₀ :: hds) hs l) (h0 : ∀ f : Addr, (L2.start Ng [V.ref f])[0]? = some (some (V.ref f))) :
    LamX.GivesTo X Ng x sg g cdg [.Try [.Return (some (.Tuple [.Constant (.str w) j p4, .Call (.Name a p1) [] [] p2] kt p5)) p3] (h₀ :: hds) [] [] p8] a q (TTm X.K l w) := by
  intro f c' s H Q tl act hc h
  refine ⟨_, pss_one (ps_try_many (X := (cxOf C8.CX0 X.prog X.w X.K X.mg X.base Ng x sg g cdg X.A X.stack s H C8.E0).nox) (l := l) (Wout := noW)
      (tb := fun W D σ H => ∃ Ech : XK, (∀ cls d σ' H', Ech cls d H' → W cls d σ' H') ∧ σ[0]? = some (some (.ref f)) ∧ H c' = some (LamX.CodeO c' q) ∧ tl Ech H fun v H' => ([V.str w, v]).length ≤ sizeLine ∧ ∀ q, H' q = none → D.rt (.ref q) (upd H' q (.tup [.str w, v])))
      rfl rfl LamX.takes0 (fun W pn xe tk _ => ?_) (hh (cxOf C8.CX0 X.prog X.w X.K X.mg X.base Ng x sg g cdg X.A X.stack s H C8.E0).nox rfl rfl).ok), ?_⟩
  · refine ⟨fun pins s' σ H' D I h' => ?_⟩
    obtain ⟨Ech, hW, h1, h2, h3⟩ := h'
    have hp := act W pn xe Ech p1 p2 tk hW
    have hq := pss_one (ps_ret (pos := p3) (pe_tup (x1 := kt) (pos := p5) (pa_cons (pe_str (pos := p4) (j := j) (x := w)) (pa_cons hp pa_nil))))
    exact hq.run pins s' σ H' D I ⟨h1, h2, h3⟩
  · exact ⟨_, fun cls d σ' H' k => k σ', h0 f, hc, h⟩
/-- the def that tries what it gets, as one of the text's -/
def TdOk (G : Gc) (mg : Str → Option Value) (x a : Str) (bg : List Stmt) (sg : Scope) : Prop := ∃ (g : Addr) (pg : Arguments) (dV kV doc pm cdv ct oc : Value) (an od : Option Addr) (osl : Array (Option Value)), mg x = some (.ref g) ∧ PySem.W.keepIn G.K (.ref g) = true ∧
  G.K.lookup g = some ⟨oc, od, .func (PySem.W.fnOf x x pg bg sg dV kV doc pm an cdv ct), osl⟩ ∧ PySem.W.codeIn G.K cdv x = true ∧ L2.Binds G.K (PySem.W.fnOf x x pg bg sg dV kV doc pm an cdv ct) [a] []
theorem je_told {Ng : List Str} {x a w : Str} {sg scope : Scope} {bg : List Stmt} {c P : Addr} {k k' : Nat} {j kt : Nat} {p1 p4 p5 p8 : Pos} {h₀ : ExceptHandler} {hds : List ExceptHandler} {hs : List (Nat × Str)} {l : List (Value × (Addr → Value → Option Addr → TS))} {em : List ((Nat × Nat) × Bool)} {de : DE} {params : Arguments} {body : Expr}
    (Td : TdOk G X.mg x a bg sg) (ebg : bg = [.Try [.Return (some (.Tuple [.Constant (.str w) j p4, .Call (.Name a p1) [] [] p2] kt p5)) p3] (h₀ :: hds) [] [] p8]) (Sg : FnScope Ng [a] sg) (hNg : Ng[0]? = some a) (hva : Vis sg a) (hK : X.K = G.K) (hr : Room k' X.A) (hk : k + 2 ≤ k') (hg : Gl X x) (hE : EmOk G em)
    (hh : ∀ Y : Cx, Y.env.scope = sg → Y.mg = X.mg → HdO G Y (h₀ :: hds) hs l) (h0 : ∀ f : Addr, (L2.start Ng [V.ref f])[0]? = some (some (V.ref f)))
    (TB : LamX.TabB X.base X.mg c P) (hcode : X.env.code = .ref c) (hmT : (P, X.env.qual ++ "<lambda>") ∈ G.tabs) (hu : ∀ p ∈ G.tabs, p.1 = P → p.2 = X.env.qual ++ "<lambda>") (L : LamX.LamS X.env.scope scope) (hdef : defaultsOf params X.env = ([], []))
    (hbind : ∀ (q : Str) (cl : List (Str × Addr)) (pm cv ctv : Value), bindArgs (PySem.W.kla_fn "<lambda>" q params body scope cl pm cv ctv) ⟨[], []⟩ = pure [])
    (hbody : ∀ (A : Around) (outer : List PySem.Env) (s : Shared) (H : Hp) (E : XK) (f c' : Addr), Room k (A.deeper (LamX.lamEnv X scope s.heap.objs.size f c')) → PE (LamX.lamCx X A outer s H E scope f c') body (tE G (fun c x _ H' => E c x H') de))
    (hdb : (x == ("__debug__" : Str)) = false := by decide) (hd : (a == ("__debug__" : Str)) = false := by decide) (hcd : (a == ("__classdict__" : Str)) = false := by decide) :
    PE X (.Call (.Name x p) [.Lambda params body scope lpos] [] pos) (tE G W (dTold em hs w de)) := by
  subst ebg
  obtain ⟨g, pg, dV, kV, doc, pm, cdv, ct, oc, an, od, osl, hm, kp, lk, hcg, hb⟩ := Td
  rw [← hK] at kp lk hcg hb
  refine pe_imp (LamX.pe_lamcall (T := G.tabs) (TT := TTm X.K l w) (t := fun E => tE G (fun c x _ H' => E c x H') de) hg hm kp lk hcg hb Sg hNg hva (told_gives hh h0) TB hcode hmT hu (hr.mono hk) L hdef hbind hbody hdb hd hcd) fun σ H Q ⟨m, ρ, S, hS, hE', h⟩ => ⟨hS.tabs, fun H1 x1 t1 => ?_⟩
  have l1 : Le G m H m H1 := Le.extN x1
  refine ⟨m, ρ, S, hS.extN x1 t1, hE'.le l1, ?_⟩
  have h : Aft G m H (fun c x H' => W c x σ H') (dTold em hs w de ρ S) fun r _ m' H' => ∀ v, Rp G m' H' r v → Q v H' := h
  unfold dTold at h
  show Aft G m H1 _ (de ρ S) _
  cases q : de ρ S with
  | bad => rw [q] at h; exact h
  | ok d S1 =>
    rw [q] at h
    intro m' H' l2 hS2 v rv
    refine ⟨by show 2 ≤ sizeLine; decide, fun q hq => ?_⟩
    have sm : Same H' (upd H' q (.tup [.str w, v])) := Same.new hq
    exact h m' _ ((l1.trans l2).trans (Le.same sm)) (hS2.same sm) _ ⟨q, _, rfl, Tq.of upd_same, .str w, [v], rfl, rfl, v, [], rfl, (Le.same sm).rp rv, rfl⟩
  | exc cx S1 =>
    rw [q] at h
    dsimp only at h
    intro m' H' l2 hS2 ca hca σ'
    cases q2 : exAt em cx hs with
    | none => rw [q2] at h; exact h.elim
    | some r =>
      rw [q2] at h
      cases r with
      | none => exact h.elim
      | some s =>
        have hh' := hh { X with env := { X.env with scope := sg } } rfl rfl
        exact many_of (X := { X with env := { X.env with scope := sg } }) hK hE hca hh' (some s) q2 (h m' H' (l1.trans l2) hS2 _ rfl)
theorem td_of {fa : List He.Fa} {fn : List He.DefD} {tl : List (Str × List L2.Key)} {cl : List Str} (Z : Zf G mg fa fn tl cl) (i j : Nat) {x a : Str} {st : Stmt} (hi : fn[i]? = some (dfD x st)) (hj : fa[j]? = some (.glo x))
    (hbd : ∀ (kV doc pm : Value) (an : Option Addr) (cdv ct : Value) (us : List Value), us.length = 1 → bindArgs (PySem.W.fnOf x x (defArgs st) (defBody st) (defScope st) .none kV doc pm an cdv ct) ⟨us, []⟩ = pure ([a].zip us)) : TdOk G mg x a (defBody st) (defScope st) := by
  obtain ⟨fd, F⟩ := Z.says.def_ i hi
  have F : FunD G.K x x (defArgs st) (defBody st) (defScope st) [] [] (He.ga G.K x) fd := F
  have b := F.bindsN (ps := [a]) hbd
  obtain ⟨oc, od, dV, kV, doc, pm, an, cdv, ct, osl, e, lk, hcd, _⟩ := F.ex
  subst e
  exact ⟨_, _, dV, kV, doc, pm, cdv, ct, oc, an, od, osl, Z.glo j hj, F.kp, lk, hcd, b⟩
end
end Py

/-! Part 24: methods and classes of the text; functions as values; dicts read. -/
namespace Py
open PySem PySem.Spec PyProof.Rows L2
def dfM (x m : Str) (st : Stmt) : He.DefD := ⟨(x, some m), m, x ++ "." ++ m, defArgs st, defBody st, defScope st, [], []⟩
section
variable {G : Gc} {W : WX} {X : Cx} {e a b c tg o i : Expr} {m m' : Mu} {H H' : Hp} {S : Store} {σ : Sg} {pos p apos : Pos} {kp : Addr → Prop} {ρ : Env} {mg : Str → Option Value} {fa : List He.Fa} {fn : List He.DefD} {tl : List (Str × List L2.Key)} {cl : List Str} {P : Program} {w : World} {base : Heap} {cs : List Nat} {f : Str}
theorem atOk_nil : AtOk G [] f := fun c h => by cases h
theorem atOk_cons (Z : Zf G mg fa fn tl cl) (i j : Nat) {c : Nat} {x : Str} (hc : cl[c]? = some x) (hi : fa[i]? = some (.cls x)) (hj : fa[j]? = some (.noat x f)) (r : AtOk G cs f) : AtOk G (c :: cs) f := fun c' h C hC => by
  rcases List.mem_cons.mp h with rfl | h
  · rw [Z.ads _ x hc] at hC
    cases hC
    exact ⟨He.cls_ok (Z.says.fact i hi), He.noat_ok (Z.says.fact j hj)⟩
  · exact r c' h C hC
theorem mcal_of (Z : Zf G mg fa fn tl cl) (i j jc : Nat) {c : Nat} {x mn : Str} {st : Stmt} {N ps : List Str} {k n : Nat} {d : DS} (hc : cl[c]? = some x) (hi : fn[i]? = some (dfM x mn st)) (hj : fa[j]? = some (.meth x mn)) (hk : fa[jc]? = some (.cls x)) (Sc : FnScope N ps (defScope st)) (hn : ps.length = n)
    (hbd : ∀ (kV doc pm : Value) (an : Option Addr) (cdv ct : Value) (us : List Value), us.length = ps.length → bindArgs (PySem.W.fnOf mn (x ++ "." ++ mn) (defArgs st) (defBody st) (defScope st) .none kV doc pm an cdv ct) ⟨us, []⟩ = pure (ps.zip us))
    (hb : ∀ (f : Addr) (cdv : Value) (A : Around) (outer : List PySem.Env) (s : Shared) (H : Hp) (E : XK), Room k (A.deeper (envOfC (x ++ "." ++ mn) (defScope st) s.heap.objs.size f cdv)) →
      PSs (cxOf (L2.CX P w) P w G.K mg base N (x ++ "." ++ mn) (defScope st) f cdv A outer s H E) (defBody st) (tS G (fun c x _ H' => E c x H') d)) : MCal P w G mg base c mn (k + 1) n ps (dFn n N.length d) := by
  obtain ⟨fd, F⟩ := Z.says.def_ i hi
  have F : FunD G.K mn (x ++ "." ++ mn) (defArgs st) (defBody st) (defScope st) [] [] (He.ma G.K (He.ga G.K x) mn) fd := F
  exact ⟨_, _, fd, Z.ads c x hc, He.cls_ok (Z.says.fact jc hk), He.meth_ok (Z.says.fact j hj), F.bindsN hbd, fn_ok F Sc hn (hb _)⟩
theorem kcal_of (Z : Zf G mg fa fn tl cl) (i j jg : Nat) {c : Nat} {x : Str} {st : Stmt} {N ps : List Str} {k n : Nat} {d : DS} (hc : cl[c]? = some x) (hi : fn[i]? = some (dfM x "__init__" st)) (hj : fa[j]? = some (.mkr x)) (hg : fa[jg]? = some (.glo x)) (Sc : FnScope N ps (defScope st)) (hn : ps.length = n)
    (hbd : ∀ (kV doc pm : Value) (an : Option Addr) (cdv ct : Value) (us : List Value), us.length = ps.length → bindArgs (PySem.W.fnOf "__init__" (x ++ "." ++ "__init__") (defArgs st) (defBody st) (defScope st) .none kV doc pm an cdv ct) ⟨us, []⟩ = pure (ps.zip us))
    (hb : ∀ (f : Addr) (cdv : Value) (A : Around) (outer : List PySem.Env) (s : Shared) (H : Hp) (E : XK), Room k (A.deeper (envOfC (x ++ "." ++ "__init__") (defScope st) s.heap.objs.size f cdv)) →
      PSs (cxOf (L2.CX P w) P w G.K mg base N (x ++ "." ++ "__init__") (defScope st) f cdv A outer s H E) (defBody st) (tS G (fun c x _ H' => E c x H') d)) : KCal P w G mg base c x (k + 1) n ps (dFn n N.length d) := by
  obtain ⟨fd, F⟩ := Z.says.def_ i hi
  have F : FunD G.K "__init__" (x ++ "." ++ "__init__") (defArgs st) (defBody st) (defScope st) [] [] (He.ma G.K (He.ga G.K x) "__init__") fd := F
  exact ⟨_, _, fd, Z.ads c x hc, Z.glo jg hg, He.mkr_ok (Z.says.fact j hj), F.bindsN hbd, fn_ok F Sc hn (hb _)⟩
/-! ### dicts read -/
def dictAt (S : Store) (d k : D) : Option (Option D) := match d with
  | .ref n => match S[n]? with
    | some (.dT kvs) => (match k with
      | .tup ds => (keyL ds).map fun q => getD_ kvs q
      | _ => none)
    | some (.dK kvs) => (keyK k).map fun q => getD_ kvs q
    | _ => none
  | _ => none
/-- a key that is a named tuple of the text is told by no rule -/
def keyFree (nl : List (List L2.Key)) : D → Bool
  | .tup ds => match keyL ds with
    | some q => !(nl.any fun k => decide (k = q))
    | none => false
  | _ => true
def pGet (nl : List (List L2.Key)) (S : Store) (d k : D) : Option D := if keyFree nl k = true then (dictAt S d k).bind fun o => o else none
def pInD (nl : List (List L2.Key)) (S : Store) (k d : D) : Option D := if keyFree nl k = true then (dictAt S d k).map fun o => .bl o.isSome else none
def pNotInD (nl : List (List L2.Key)) (S : Store) (k d : D) : Option D := if keyFree nl k = true then (dictAt S d k).map fun o => .bl (!o.isSome) else none
theorem dget_of {nl : List (List L2.Key)} (hN : G.lits = nl) {d k : D} {v u : V} {r : Option D} (hS : Holds G m H S) (hk : keyFree nl k = true) (e : dictAt S d k = some r) (rd : Rp G m H d v) (rk : Rp G m H k u) :
    ∃ (L : Addr) (ov : Option V), v = .ref L ∧ DGet H L u ov ∧ ((r = none ∧ ov = none) ∨ ∃ x y, r = some x ∧ ov = some y ∧ Rp G m H x y) := by
  unfold dictAt at e
  split at e
  · rename_i n
    obtain ⟨L, rfl, hL⟩ := rd
    split at e
    · rename_i kvs hn
      split at e
      · rename_i ds
        obtain ⟨q, e1, e2⟩ := Option.map_eq_some_iff.mp e
        obtain ⟨b, ys, rfl, q1, q2⟩ := rk
        rw [keyL_ok e1] at q2
        obtain rfl := q2.keys
        have hq : (nl.any fun k => decide (k = q)) = false := by
          simp only [keyFree, e1] at hk
          simpa using hk
        have hb : H b = some (.tup (q.map kV)) := by
          rcases q1 with q1 | ⟨_, k, hk, hq2⟩
          · exact q1
          · rw [← hN, List.any_eq_false] at hq
            exact absurd (kVs_inj hq2).symm (by simpa using hq k hk)
        obtain ⟨xs, g1, g2⟩ := hS.ob n _ L hn hL
        refine ⟨L, _, rfl, DGet.t g1 hb, ?_⟩
        subst e2
        rcases RpKV.get (k := q) g2 with ⟨a1, a2⟩ | ⟨x, y, a1, a2, a3⟩
        · exact .inl ⟨a1, a2⟩
        · exact .inr ⟨x, y, a1, a2, a3⟩
      · cases e
    · rename_i kvs hn
      obtain ⟨q, e1, e2⟩ := Option.map_eq_some_iff.mp e
      rw [keyK_ok e1] at rk
      obtain rfl := Rp.key rk
      obtain ⟨xs, g1, g2⟩ := hS.ob n _ L hn hL
      refine ⟨L, _, rfl, DGet.k g1, ?_⟩
      subst e2
      rcases RpKV.get (k := q) g2 with ⟨a1, a2⟩ | ⟨x, y, a1, a2, a3⟩
      · exact .inl ⟨a1, a2⟩
      · exact .inr ⟨x, y, a1, a2, a3⟩
    · cases e
  · cases e
theorem je_dget {nl : List (List L2.Key)} {dd dk : DE} (hN : G.lits = nl) (hu : X.A.units + 200 < cLine) (ho : PE X o (tE G W dd)) (hi : PE X i (tE G W dk)) (hs : NoSl i) : PE X (.Subscript o i pos) (tE G W (dOp (pGet nl) dd dk)) :=
  pe_imp (pe_dget (by omega) ho hi hs) fun σ H Q ⟨m, ρ, S, hS, hE, h⟩ => ⟨m, ρ, S, hS, hE, (Aft.bind h).imp fun x S1 m1 H1 l1 hS1 h1 v rv => ⟨m1, ρ, S1, hS1, hE.le l1, (Aft.bind h1).imp fun y S2 m2 H2 l2 hS2 h2 u ru => by
    obtain ⟨r, e, k⟩ := aft_opt h2
    unfold pGet at e
    by_cases hk : keyFree nl y = true
    · rw [if_pos hk] at e
      obtain ⟨o', e1, e2⟩ := Option.bind_eq_some_iff.mp e
      subst e2
      obtain ⟨L, ov, rfl, g, hr⟩ := dget_of hN hS2 hk e1 (l2.rp rv) ru
      rcases hr with ⟨z, _⟩ | ⟨x', y', z1, z2, z3⟩
      · cases z
      · cases z1
        subst z2
        exact ⟨L, y', rfl, g, k.here hS2 z3⟩
    · rw [if_neg hk] at e; cases e⟩⟩
theorem tInD_of {nl : List (List L2.Key)} {dd dk : DE} {Q : VK} (hN : G.lits = nl) (h : tE G W (dOp (pInD nl) dk dd) σ H Q) : tDIn (tE G W dk) (tE G W dd) σ H Q := by
  obtain ⟨m, ρ, S, hS, hE, h⟩ := h
  exact ⟨m, ρ, S, hS, hE, (Aft.bind h).imp fun x S1 m1 H1 l1 hS1 h1 v rv => ⟨m1, ρ, S1, hS1, hE.le l1, (Aft.bind h1).imp fun y S2 m2 H2 l2 hS2 h2 u ru => by
    obtain ⟨r, e, k⟩ := aft_opt h2
    unfold pInD at e
    by_cases hk : keyFree nl x = true
    · rw [if_pos hk] at e
      obtain ⟨o', e1, rfl⟩ := Option.map_eq_some_iff.mp e
      obtain ⟨L, ov, rfl, g, hr⟩ := dget_of hN hS2 hk e1 ru (l2.rp rv)
      have he : ov.isSome = o'.isSome := by
        rcases hr with ⟨rfl, rfl⟩ | ⟨x', y', rfl, rfl, _⟩ <;> rfl
      exact ⟨L, ov, rfl, g, k.here hS2 (v := .bl ov.isSome) (by rw [he]; rfl)⟩
    · rw [if_neg hk] at e; cases e⟩⟩
theorem tNotInD_of {nl : List (List L2.Key)} {dd dk : DE} {Q : VK} (hN : G.lits = nl) (h : tE G W (dOp (pNotInD nl) dk dd) σ H Q) : tDNotIn (tE G W dk) (tE G W dd) σ H Q := by
  obtain ⟨m, ρ, S, hS, hE, h⟩ := h
  exact ⟨m, ρ, S, hS, hE, (Aft.bind h).imp fun x S1 m1 H1 l1 hS1 h1 v rv => ⟨m1, ρ, S1, hS1, hE.le l1, (Aft.bind h1).imp fun y S2 m2 H2 l2 hS2 h2 u ru => by
    obtain ⟨r, e, k⟩ := aft_opt h2
    unfold pNotInD at e
    by_cases hk : keyFree nl x = true
    · rw [if_pos hk] at e
      obtain ⟨o', e1, rfl⟩ := Option.map_eq_some_iff.mp e
      obtain ⟨L, ov, rfl, g, hr⟩ := dget_of hN hS2 hk e1 ru (l2.rp rv)
      have he : ov.isSome = o'.isSome := by
        rcases hr with ⟨rfl, rfl⟩ | ⟨x', y', rfl, rfl, _⟩ <;> rfl
      exact ⟨L, ov, rfl, g, k.here hS2 (v := .bl (!ov.isSome)) (by rw [he]; rfl)⟩
    · rw [if_neg hk] at e; cases e⟩⟩
theorem je_din {nl : List (List L2.Key)} {dd dk : DE} (hN : G.lits = nl) (hu : X.A.units + 200 < cLine) (hi : PE X i (tE G W dk)) (ho : PE X o (tE G W dd)) (hm : behindInMarks .In o = false) : PE X (.Compare i [.In] [o] pos) (tE G W (dOp (pInD nl) dk dd)) :=
  pe_imp (pe_cmp (pc_din (by omega) hi ho) hm) fun _ _ _ h => tInD_of hN h
theorem jt_din {nl : List (List L2.Key)} {dd dk : DE} (hN : G.lits = nl) (hu : X.A.units + 200 < cLine) (hi : PE X i (tE G W dk)) (ho : PE X o (tE G W dd)) (hm : behindInMarks .In o = false) : PT X (.Compare i [.In] [o] pos) (tT G W (dTest (dOp (pInD nl) dk dd))) :=
  pt_imp (pt_cmp (pc_din (by omega) hi ho) hm) fun _ _ _ h => tInD_of hN (tE_test h)
theorem je_dnotin {nl : List (List L2.Key)} {dd dk : DE} (hN : G.lits = nl) (hu : X.A.units + 200 < cLine) (hi : PE X i (tE G W dk)) (ho : PE X o (tE G W dd)) (hm : behindInMarks .NotIn o = false) : PE X (.Compare i [.NotIn] [o] pos) (tE G W (dOp (pNotInD nl) dk dd)) :=
  pe_imp (pe_cmp (pc_dnotin (by omega) hi ho) hm) fun _ _ _ h => tNotInD_of hN h
theorem jt_dnotin {nl : List (List L2.Key)} {dd dk : DE} (hN : G.lits = nl) (hu : X.A.units + 200 < cLine) (hi : PE X i (tE G W dk)) (ho : PE X o (tE G W dd)) (hm : behindInMarks .NotIn o = false) : PT X (.Compare i [.NotIn] [o] pos) (tT G W (dTest (dOp (pNotInD nl) dk dd))) :=
  pt_imp (pt_cmp (pc_dnotin (by omega) hi ho) hm) fun _ _ _ h => tNotInD_of hN (tE_test h)
/-! ### o.append(x), o a list of the store -/
def lstAt (S : Store) : D → Bool
  | .ref n => match S[n]? with
    | some (.lst _) => true
    | _ => false
  | _ => false
def stApp (S : Store) (x y : D) : Option Store := match x with
  | .ref n => match S[n]? with
    | some (.lst ds) => if ds.length < 1000000 then some (S.set n (.lst (ds ++ [y]))) else none
    | _ => none
  | _ => none
def dAppR (do_ d : DE) : DS := fun ρ S => rS (do_ ρ S) ρ fun x S1 => if lstAt S1 x = true then rS (d ρ S1) ρ fun y S2 => match stApp S2 x y with
  | some S' => some (.nx ρ, S')
  | none => none
  else none
theorem js_appR {do_ d : DE} {cpos : Pos} (hK : X.K = G.K) (ho : PE X o (tE G W do_)) (ha : PE X e (tE G W d)) (hs : starB e = false)
    (hbase : attributeBase o "append" X.env (eval o X.env) = eval o X.env)
    (hfew : ((backTo cpos (starEach [e] X.env)).all (fun x => !x.1) && (backToKw cpos (keywordEach [] X.env)).all (fun x => x.1.isSome)
      && decide (([e] : List Expr).length + ([] : List Keyword).length + (if ([] : List Keyword).isEmpty then 0 else 1) < 30)) = true)
    (hline : (apos.endLine == cpos.line) = true) (hsw : swapsWith (.Call (.Attribute o "append" apos) [e] [] cpos) none pos.line X.env = pure false) :
    PS X (.Expr (.Call (.Attribute o "append" apos) [e] [] cpos) pos) (tS G W (dAppR do_ d)) := by
  refine ps_imp (ps_expr (pe_bm F.plainAttrs_list F.slot_list_append F.type_list_append mt_append ho (pa_cons ha pa_nil (starEach_plain hs)) hbase hfew hline (starEach_plain hs) (by rfl)) hsw) fun D σ H ⟨kp, m, ρ, S, hS, F, h⟩ => ?_
  refine ⟨m, ρ, S, hS, F.rp, (AftS.rS h F).imp fun x S1 m1 H1 l1 hS1 h1 v rv => ?_⟩
  have F1 := F.le l1
  by_cases hL : lstAt S1 x = true
  · rw [if_pos hL] at h1
    unfold lstAt at hL
    split at hL
    · rename_i n
      obtain ⟨a, rfl, ha1⟩ := rv
      split at hL
      · rename_i ds hn
        obtain ⟨xs, g1, g2⟩ := hS1.ob n _ a hn ha1
        refine ⟨.inl ⟨rfl, xs, by rw [hK]; exact SqL.of g1⟩, m1, ρ, S1, hS1, F1.rp, (AftS.rS h1 F1).imp fun y S2 m2 H2 l2 hS2 h2 u ru => ?_⟩
        have F2 := F1.le l2
        have ha2 := l2.ix ha1
        cases q0 : stApp S2 (.ref n) y with
        | none => rw [q0] at h2; exact h2.elim
        | some S' =>
          rw [q0] at h2
          simp only [stApp] at q0
          split at q0
          · rename_i ds2 q
            by_cases hz : ds2.length < 1000000
            · rw [if_pos hz] at q0
              cases q0
              obtain ⟨xs2, k1, k2⟩ := hS2.ob n _ a q ha2
              exact ⟨a, xs2, u, rfl, rfl, k1, by rw [k2.length, sizeLine_eq]; omega, h2 m2 _ σ (Lx.sto (List.mem_of_getElem? ha2) k1) (hS2.sto ha2 k1 (k2.append ⟨u, [], rfl, ru, rfl⟩)) (F2.sto (List.mem_of_getElem? ha2) k1)⟩
            · rw [if_neg hz] at q0; cases q0
          · cases q0
      · cases hL
    · cases hL
  · rw [if_neg hL] at h1; exact h1.elim
end
end Py

/-! Part 25: functions as values; what is never come to; defs by other names; methods never entered; tuple(xs) of the store. -/
namespace Py
open PySem PySem.Spec PyProof.Rows L2
def dBadE : DE := fun _ _ => .bad
def dBadT : DT := fun _ _ => .bad
def dfA (x y : Str) (st : Stmt) : He.DefD := ⟨(x, none), y, y, defArgs st, defBody st, defScope st, [], []⟩
/-- a call of a value: which def it is -/
def runAt (tb : List (Nat × (List D → M D))) (g : Nat) : Option (List D → M D) := (tb.find? fun q => decide (q.1 = g)).map (·.2)
def dCallV (n i : Nat) (tb : List (Nat × (List D → M D))) (r : DA) : DE := fun ρ S => match slV ρ i with
  | some (.glo g) => (match runAt tb g with
    | some run => (r ρ S).bind fun xs S => if xs.length = n then run xs S else .bad
    | none => .bad)
  | _ => .bad
def pTupR (S : Store) : List D → Option D
  | [d] => match d with
    | .tup ds => some (.tup ds)
    | d => (lstOf S d).map D.tup
  | _ => none
section
variable {G : Gc} {W : WX} {X : Cx} {e a b c tg o i : Expr} {m m' : Mu} {H H' : Hp} {S : Store} {σ : Sg} {pos p apos : Pos} {kp : Addr → Prop} {ρ : Env} {mg : Str → Option Value} {fa : List He.Fa} {fn : List He.DefD} {tl : List (Str × List L2.Key)} {cl : List Str} {P : Program} {w : World} {base : Heap} {cs : List Nat} {f : Str}
theorem je_bad : PE X e (tE G W dBadE) := ⟨fun pins s σ H Q I ⟨m, ρ, S, hS, hE, h⟩ => h.elim⟩
theorem jt_bad : PT X e (tT G W dBadT) := ⟨fun pins s σ H Q I ⟨m, ρ, S, hS, hE, h⟩ => h.elim⟩
theorem je_gfun {X : Cx} {x : Str} {g : Nat} (Z : Zf G X.mg fa fn tl cl) (j : Nat) (hc : cl[g]? = some x) (hj : fa[j]? = some (.glo x)) (hg : Gl X x) (hd : (x == ("__debug__" : Str)) = false := by decide) : PE X (.Name x pos) (tE G W (dCst (.glo g))) :=
  je_c (pe_glob (v := .ref (He.ga G.K x)) hg (Z.glo j hj) rfl hd) fun m H => ⟨_, rfl, Z.ads g x hc⟩
theorem c_tupR (hK : X.K = G.K) : CallR X (.type "tuple") (rC G pTupR) := callr_imp call_tuple_of fun vs H Q ⟨m, S, ds, r, hS, hr, hf, k⟩ => by
  unfold pTupR at hf
  split at hf
  · rename_i d
    obtain ⟨v, rfl, rv⟩ := hr.one
    split at hf
    · cases hf
      obtain ⟨a, xs, rfl, q1, q2⟩ := rv
      exact ⟨a, xs, rfl, .inr ⟨by rw [hK]; exact q1.sq, k.here hS (v := .ref a) ⟨a, xs, rfl, q1, q2⟩⟩⟩
    · obtain ⟨es, e1, rfl⟩ := Option.map_eq_some_iff.mp hf
      obtain ⟨a, xs, rfl, q1, q2⟩ := lst_ok hS e1 rv
      exact ⟨a, xs, rfl, .inl ⟨by rw [hK]; exact q1, fun l hl => k.new hS hl ⟨l, xs, rfl, Tq.of upd_same, (Le.same (Same.new hl)).rpL q2⟩⟩⟩
  · cases hf
theorem callee_ofA (Z : Zf G mg fa fn tl cl) (i j : Nat) {x y : Str} {st : Stmt} {N ps : List Str} {k n : Nat} {d : DS} (hi : fn[i]? = some (dfA x y st)) (hj : fa[j]? = some (.glo x)) (Sc : FnScope N ps (defScope st)) (hn : ps.length = n)
    (hbd : ∀ (kV doc pm : Value) (an : Option Addr) (cdv ct : Value) (us : List Value), us.length = ps.length → bindArgs (PySem.W.fnOf y y (defArgs st) (defBody st) (defScope st) .none kV doc pm an cdv ct) ⟨us, []⟩ = pure (ps.zip us))
    (hb : ∀ (f : Addr) (cdv : Value) (A : Around) (outer : List PySem.Env) (s : Shared) (H : Hp) (E : XK), Room k (A.deeper (envOfC y (defScope st) s.heap.objs.size f cdv)) →
      PSs (cxOf (L2.CX P w) P w G.K mg base N y (defScope st) f cdv A outer s H E) (defBody st) (tS G (fun c x _ H' => E c x H') d)) : Callee P w G mg base x (k + 1) n ps (dFn n N.length d) := by
  obtain ⟨fd, F⟩ := Z.says.def_ i hi
  have F : FunD G.K y y (defArgs st) (defBody st) (defScope st) [] [] (He.ga G.K x) fd := F
  obtain ⟨oc, od, dV, kV, doc, pm, an, cdv, ct, osl, e, lk, _⟩ := F.ex
  exact ⟨_, fd, Z.glo j hj, F.kp, F.bindsN hbd, fn_ok F Sc hn (hb _), F.bindsA hbd, oc, od, osl, lk⟩
theorem callee_badA (Z : Zf G mg fa fn tl cl) (i j : Nat) {x y : Str} {st : Stmt} {N ps : List Str} {k n : Nat} (hi : fn[i]? = some (dfA x y st)) (hj : fa[j]? = some (.glo x)) (Sc : FnScope N ps (defScope st)) (hn : ps.length = n)
    (hbd : ∀ (kV doc pm : Value) (an : Option Addr) (cdv ct : Value) (us : List Value), us.length = ps.length → bindArgs (PySem.W.fnOf y y (defArgs st) (defBody st) (defScope st) .none kV doc pm an cdv ct) ⟨us, []⟩ = pure (ps.zip us)) : Callee P w G mg base x (k + 1) n ps (fun _ _ => .bad) := by
  obtain ⟨fd, F⟩ := Z.says.def_ i hi
  have F : FunD G.K y y (defArgs st) (defBody st) (defScope st) [] [] (He.ga G.K x) fd := F
  obtain ⟨oc, od, dV, kV, doc, pm, an, cdv, ct, osl, e, lk, _⟩ := F.ex
  refine ⟨_, fd, Z.glo j hj, F.kp, F.bindsN hbd, ?_, F.bindsA hbd, oc, od, osl, lk⟩
  exact F.ok Sc (fun vs H Q E ⟨m, S, ds, hl, hS, r, h⟩ => h.elim) fun cdv A outer s H vs Q E hr ⟨m, S, ds, hl, hS, r, h⟩ => h.elim
theorem mcal_bad (Z : Zf G mg fa fn tl cl) (i j jc : Nat) {c : Nat} {x mn : Str} {st : Stmt} {N ps : List Str} {k n : Nat} (hc : cl[c]? = some x) (hi : fn[i]? = some (dfM x mn st)) (hj : fa[j]? = some (.meth x mn)) (hk : fa[jc]? = some (.cls x)) (Sc : FnScope N ps (defScope st)) (hn : ps.length = n)
    (hbd : ∀ (kV doc pm : Value) (an : Option Addr) (cdv ct : Value) (us : List Value), us.length = ps.length → bindArgs (PySem.W.fnOf mn (x ++ "." ++ mn) (defArgs st) (defBody st) (defScope st) .none kV doc pm an cdv ct) ⟨us, []⟩ = pure (ps.zip us)) : MCal P w G mg base c mn (k + 1) n ps (fun _ _ => .bad) := by
  obtain ⟨fd, F⟩ := Z.says.def_ i hi
  have F : FunD G.K mn (x ++ "." ++ mn) (defArgs st) (defBody st) (defScope st) [] [] (He.ma G.K (He.ga G.K x) mn) fd := F
  exact ⟨_, _, fd, Z.ads c x hc, He.cls_ok (Z.says.fact jc hk), He.meth_ok (Z.says.fact j hj), F.bindsN hbd, F.ok Sc (fun vs H Q E ⟨m, S, ds, hl, hS, r, h⟩ => h.elim) fun cdv A outer s H vs Q E hr ⟨m, S, ds, hl, hS, r, h⟩ => h.elim⟩
end
end Py

/-! Part 26: defs that make lambdas. -/
namespace Py
open PySem PySem.Spec PyProof.Rows L2
/-- the lambdas' name in a def of the top -/
def lamQ (x : Str) : Str := (envOfC x { kind := .function, names := [], isGenerator := false, isCoroutine := false } 0 0 .none).qual ++ "<lambda>"
/-- the makers' code objects and their tables -/
def Tbs (G : Gc) (mg : Str → Option Value) (base : Heap) (tf : List Str) : Prop := ∀ x ∈ tf, ∀ (oc : Value) (od : Option Addr) (fd : FuncData) (osl : Array (Option Value)), G.K.lookup (He.ga G.K x) = some ⟨oc, od, .func fd, osl⟩ →
  ∃ c P, fd.code = .ref c ∧ LamX.TabB base mg c P ∧ (P, lamQ x) ∈ G.tabs ∧ ∀ p ∈ G.tabs, p.1 = P → p.2 = lamQ x
theorem gl_sc {Y : Cx} {sg : Scope} {x : Str} (hs : Y.env.scope = sg) (h : sg.names.lookup x = some .globalImplicit) : Gl Y x := by
  subst hs
  exact h
section
variable {G : Gc} {mg : Str → Option Value} {fa : List He.Fa} {fn : List He.DefD} {tl : List (Str × List L2.Key)} {cl tf : List Str} {P : Program} {w : World} {base : Heap}
theorem callee_ofL (Z : Zf G mg fa fn tl cl) (B : Tbs G mg base tf) (i j : Nat) {x : Str} {st : Stmt} {N ps : List Str} {k n : Nat} {d : DS} (hx : x ∈ tf) (hi : fn[i]? = some (dfA x x st)) (hj : fa[j]? = some (.glo x)) (Sc : FnScope N ps (defScope st)) (hn : ps.length = n)
    (hbd : ∀ (kV doc pm : Value) (an : Option Addr) (cdv ct : Value) (us : List Value), us.length = ps.length → bindArgs (PySem.W.fnOf x x (defArgs st) (defBody st) (defScope st) .none kV doc pm an cdv ct) ⟨us, []⟩ = pure (ps.zip us))
    (hb : ∀ (f : Addr) (cdv : Value) (c T : Addr), cdv = .ref c → LamX.TabB base mg c T → (T, lamQ x) ∈ G.tabs → (∀ p ∈ G.tabs, p.1 = T → p.2 = lamQ x) → ∀ (A : Around) (outer : List PySem.Env) (s : Shared) (H : Hp) (E : XK), Room k (A.deeper (envOfC x (defScope st) s.heap.objs.size f cdv)) →
      PSs (cxOf (L2.CX P w) P w G.K mg base N x (defScope st) f cdv A outer s H E) (defBody st) (tS G (fun c x _ H' => E c x H') d)) : Callee P w G mg base x (k + 1) n ps (dFn n N.length d) := by
  obtain ⟨fd, F⟩ := Z.says.def_ i hi
  have F : FunD G.K x x (defArgs st) (defBody st) (defScope st) [] [] (He.ga G.K x) fd := F
  have b1 := F.bindsN hbd
  have b2 := F.bindsA hbd
  obtain ⟨oc, od, dV, kV, doc, pm, an, cdv, ct, osl, e, lk, hcd, _⟩ := F.ex
  obtain ⟨c, T, e1, tb, h1, h2⟩ := B x hx oc od fd osl lk
  subst e
  refine ⟨_, _, Z.glo j hj, F.kp, b1, ?_, b2, oc, od, osl, lk⟩
  refine fn_of lk hcd Sc (fun vs H Q E ⟨m, S, ds, hl, hS, r, h⟩ => by rw [r.length, hl, hn]) fun A outer s H vs Q E hr ⟨m, S, ds, hl, hS, r, h⟩ => ?_
  refine ⟨tS G (fun c x _ H' => E c x H') d, hb _ cdv c T e1 tb h1 h2 A outer s H E hr, m.O, m, fnEnv N.length ds, S, hS, fn_start hS r, ?_⟩
  unfold dFn at h
  rw [if_pos hl] at h
  exact fn_end h
/-- a call of a local name's value -/
def CvOk (P : Program) (w : World) (G : Gc) (mg : Str → Option Value) (base : Heap) (k n : Nat) (tb : List (Nat × (List D → M D))) : Prop := ∀ q ∈ tb, ∃ x ps F, G.ad q.1 = some F ∧ mg x = some (.ref F) ∧ Callee P w G mg base x k n ps q.2
theorem cv_nil {k n : Nat} : CvOk P w G mg base k n [] := fun q h => by cases h
theorem cv_cons (Z : Zf G mg fa fn tl cl) (i : Nat) {k j n g : Nat} {x : Str} {ps : List Str} {run : List D → M D} {tb : List (Nat × (List D → M D))} (hc : cl[g]? = some x) (hi : fa[i]? = some (.glo x)) (F : Callee P w G mg base x j n ps run) (hj : j ≤ k) (r : CvOk P w G mg base k n tb) : CvOk P w G mg base k n ((g, run) :: tb) := fun q h => by
  rcases List.mem_cons.mp h with rfl | h
  · obtain ⟨f, fd, h1, h2, h3, h4, h5⟩ := F
    exact ⟨x, ps, _, Z.ads g x hc, Z.glo i hi, f, fd, h1, h2, h3, h4.mono hj, h5⟩
  · exact r q h
theorem je_callV {W : WX} {X : Cx} {n i k k' : Nat} {v : Str} {p pos : Pos} {tb : List (Nat × (List D → M D))} {e : Expr} {es : List Expr} {r : DA} (hT : CvOk X.prog X.w G X.mg X.base k n tb) (hK : X.K = G.K) (hr : Room k' X.A) (hk : k ≤ k') (tk : Takes X W) (hN : X.N[i]? = some v) (hv : Vis X.env.scope v) (hd : (v == ("__debug__" : Str)) = false) (hcd : (v == ("__classdict__" : Str)) = false)
    (ha : PA X (e :: es) (tA G W r)) (hs : (e :: es).any starB = false) : PE X (.Call (.Name v p) (e :: es) [] pos) (tE G W (dCallV n i tb r)) := by
  rw [List.any_cons, Bool.or_eq_false_iff] at hs
  refine ⟨fun pins s σ H Q I ⟨m, ρ, S, hS, hE, h⟩ => ?_⟩
  have h : Aft G m H (fun c x H' => W c x σ H') (dCallV n i tb r ρ S) fun r _ m' H' => ∀ v, Rp G m' H' r v → Q v H' := h
  unfold dCallV at h
  cases q : slV ρ i with
  | none => rw [q] at h; exact h.elim
  | some d =>
    rw [q] at h
    cases d with
    | glo g =>
      cases q2 : runAt tb g with
      | none => simp only [q2] at h; exact h.elim
      | some run =>
        simp only [q2] at h
        obtain ⟨u0, e1, a, rfl, e2⟩ := hE.rp q
        unfold runAt at q2
        obtain ⟨t, ht, rfl⟩ := Option.map_eq_some_iff.mp q2
        have hg0 := List.find?_some ht
        have hg : t.1 = g := of_decide_eq_true hg0
        obtain ⟨x, ps, F, hF, hm, f, fd, h1, h2, h3, h4, _⟩ := hT t (List.mem_of_find?_eq_some ht)
        rw [hg, e2] at hF
        cases hF
        rw [hm] at h1
        cases h1
        rw [← hK] at h2 h3 h4
        refine wpAny_Call_Name_kw (thn ((pe_var (pos := p) (i := i) hN hv hd hcd).run pins s σ H (fun v H1 => v = .ref a ∧ H1 = H) I ⟨_, e1, rfl, rfl⟩) fun u s1 ⟨v1, H1, I1, r1, ev, eH⟩ => ?_)
        subst ev
        subst eH
        obtain rfl : u = Value.ref a := r1
        refine PySem.W.callWith_K (h₀ := X.base) I1.ok.mod.kin h2 (thn (ha.run pos pins s1 σ H1 (fun vs H2 => ∃ m2 S2 ds, ds.length = n ∧ Holds G m2 H2 S2 ∧ RpL G m2 H2 ds vs ∧ Aft G m2 H2 (fun c x H' => W c x σ H') (t.2 ds S2) fun r _ m' H' => ∀ v, Rp G m' H' r v → Q v H') I1
          ⟨m, ρ, S, hS, hE, (Aft.bind h).imp fun ds S2 m2 H2 l2 hS2 h2 vs rvs => ?_⟩) fun us s2 ⟨vs, H2, I2, rr, q3⟩ => ⟨I2.kIn, ?_⟩) (starEach_plain hs.1) (backTo_plain hs.2)
        · by_cases hl2 : ds.length = n
          · rw [if_pos hl2] at h2
            exact ⟨m2, S2, ds, hl2, hS2, rvs, h2⟩
          · rw [if_neg hl2] at h2; exact h2.elim
        · exact run_fnS (E := WE W) h4 (hr.mono hk) h3 (passAt tk σ) I2 rr q3
    | _ => exact h.elim
end
end Py

/-! Part 27: dict() of no pairs, ranges with a step. -/
namespace Py
open PySem PySem.Spec PyProof.Rows L2
/-- tuple(xs): of no items an object that is known -/
def pTupP (S : Store) : List D → Option D
  | [.lst []] => some .pt0
  | xs => pTupR S xs
def dDict0 (d : DE) : DE := fun ρ S => (d ρ S).bind fun x S => match x with
  | .pt0 => .ok (.ref S.length) (S ++ [.dT []])
  | _ => .bad
def rg3 : List D → Option (List D)
  | [.int i, .int j, .int c] => if c ≠ 0 ∧ c.natAbs < 1073741824 ∧ Builtin.Range.small i j c = true ∧ Builtin.Range.rangeSize i j c = ((Builtin.Range.rangeSize i j c).toNat : Int) then some ((List.range (Builtin.Range.rangeSize i j c).toNat).map fun k : Nat => D.int (i + (k : Nat) * c)) else none
  | _ => none
section
variable {G : Gc} {W : WX} {X : Cx} {e a b c tg o i : Expr} {m m' : Mu} {H H' : Hp} {S : Store} {σ : Sg} {pos p apos : Pos} {kp : Addr → Prop} {ρ : Env}
theorem call_tuple0 : CallR X (.type "tuple") (fun xs H Q => ∃ p, xs = [.ref p] ∧ SqL X.K H p [] ∧ ∀ l, H l = none → Q (.ref l) (upd H l (.frz pt0O (.tup [])))) := by
  intro pins s σ H xs us Q I r h
  obtain ⟨p, rfl, hq, q⟩ := h
  obtain ⟨u, rfl, rx⟩ := vals1 r
  cases rx
  obtain ⟨its, r', pl, hz⟩ := I.list hq
  cases r'
  refine call_tuple_list pl.isList (fun h' kp => ?_) (by simp)
  have I1 : Inv X pins σ H { s with heap := h' } := I.kept (t' := s.toks) kp
  have I2 : Inv X pins σ (upd H h'.objs.size (.frz pt0O (.tup []))) { s with heap := h'.push pt0O } :=
    I1.laid (t' := s.toks) (fun b o e => Heap.get?_push_of_some _ e) (Nat.le_refl _) ⟨Heap.get?_push_size _ rfl, Nat.zero_le _, [], .nil, ⟨_, Heap.get?_push_size _ rfl, rfl, _, rfl⟩⟩
  exact ⟨.ref h'.objs.size, _, I2, rfl, q _ (I1.hok.fresh (Nat.le_refl _))⟩
theorem c_tupP (hK : X.K = G.K) : CallR X (.type "tuple") (rC G pTupP) := callr_imp (CallR.or call_tuple0 (c_tupR hK)) fun vs H Q ⟨m, S, ds, r, hS, hr, hf, k⟩ => by
  unfold pTupP at hf
  split at hf
  · cases hf
    obtain ⟨v, rfl, rv⟩ := hr.one
    obtain ⟨a, xs, rfl, q1, _, q2⟩ := rv
    have q2 : xs = [] := q2
    subst q2
    exact .inl ⟨a, rfl, by rw [hK]; exact SqL.of q1, fun l hl => k.new hS hl ⟨l, rfl, upd_same, hS.fresh hl⟩⟩
  · exact .inr ⟨m, S, _, r, hS, hr, hf, k⟩
theorem cr_dict0 (hc : X.calm = true) (hu : X.A.units + 200 < cLine) : CallR X (.type "dict") (fun xs H Q => ∃ a, xs = [.ref a] ∧ H a = some (.frz pt0O (.tup [])) ∧ ∀ p, H p = none → Q (.ref p) (upd H p (.dT []))) := by
  intro pins s σ H xs us Q I r h
  obtain ⟨a, rfl, ha, q⟩ := h
  obtain ⟨u, rfl, rx⟩ := vals1 r
  cases rx
  obtain ⟨ho, _⟩ := I.hok a _ ha
  refine PySem.call_dict_pairsH (knd := tupleKind (mixKind X.prog X.w)) (ps := []) (PairArg.tuple a (#[] : Array Value) (fun _ => 0) []) (I.ok.hd hc) (show X.A.in1.in1.units < cLine from ?_) ⟨⟨pt0O, _, ho, rfl, rfl, rfl⟩, rfl, fun j k v e => by simp at e⟩ ⟨rfl, fun i k v e => by cases e⟩ (fun h' hk x hx => by cases hx) (Nat.zero_le _) fun h' tk hd kp => ?_
  · simp [Around.in1]; omega
  · obtain ⟨o, es, ep, e1, e2, e3, e4, _, e5⟩ := hd
    exact ⟨.ref _, upd H s.heap.objs.size (.dT []), I.laid (t' := tk) (fun b o e => kp b o (by intro z; cases z) e) (Nat.le_refl _) ⟨Nat.zero_le _, beq_eq_false_iff_ne.mpr (Ne.symm (Nat.ne_of_lt I.big)), [], .nil, o, es, ep, e1, e2, e3, e4, e5⟩, rfl, q _ (I.hok.fresh (Nat.le_refl _))⟩
theorem je_dict0 {d : DE} (hc : X.calm = true) (hu : X.A.units + 200 < cLine) (hg : Gl X "dict") (hm : X.mg "dict" = none) (ha : PE X e (tE G W d)) (hs : starB e = false) : PE X (.Call (.Name "dict" p) [e] [] pos) (tE G W (dDict0 d)) :=
  pe_imp (pe_callTy (cr_dict0 hc hu) hg hm PyProof.Rows.boot_dict (pa_cons ha pa_nil (starEach_plain hs)) (by decide) (by decide) (starEach_plain hs) (by rfl)) fun σ H Q ⟨m, ρ, S, hS, hE, h⟩ => ⟨m, ρ, S, hS, hE, (Aft.bind h).imp fun x S1 m1 H1 l1 hS1 h1 v rv => by
    cases x with
    | pt0 =>
      obtain ⟨a, rfl, e1, _⟩ := rv
      exact ⟨a, rfl, e1, fun p hp => h1 ⟨m1.as ++ [p], m1.O⟩ _ (Le.growO hp) (hS1.growO (ob := .dT []) hp ⟨[], upd_same, rfl⟩) (.ref p) ⟨p, rfl, ref_new hS1.len⟩⟩
    | _ => exact h1.elim⟩
theorem serv_rangeC {lo c : Int} {n : Nat} : Serv G kp m H ((List.range n).map fun (i : Nat) => D.int (lo + (i : Nat) * c)) (Itc lo c n) := by
  refine ⟨fun _ => True, YFn fun i => .int (lo + (i : Nat) * c), ?_, fun _ _ _ => trivial, fun m' H' i x H'' l hi y => ?_⟩
  · have e : ((List.range n).map fun (i : Nat) => D.int (lo + (i : Nat) * c)).length = n := by simp
    rw [e]
    exact walk_rangeC
  · obtain ⟨e, y⟩ := y
    subst e
    have hi : i < n := by simpa using hi
    refine ⟨fun _ _ z => z, .int (lo + (i : Nat) * c), by simp [hi], fun _ _ => y⟩
theorem ji_rg3 {r : DA} (hg : Gl X "range") (hm : X.mg "range" = none) (ha : PA X [a, b, o] (tA G W r)) (hs : starB a = false) (hs2 : starB b = false) (hs3 : starB o = false) : PI X tg (.Call (.Name "range" p) [a, b, o] [] pos) (tI G W (dRg rg3 r)) :=
  pi_imp (pi_range3 hg hm ha (starEach_plain hs) (by rw [(starEach_plain hs2).trans (congrArg _ (starEach_plain hs3))]; rfl)) fun σ H R ⟨kp, m, ρ, S, hS, hE, h⟩ => ⟨m, ρ, S, hS, hE, (Aft.bind h).imp fun x S1 m1 H1 l1 hS1 h1 vs rvs => by
    obtain ⟨ds, e, k⟩ := aft_optG h1 hS1
    unfold rg3 at e
    split at e
    · obtain ⟨b, e⟩ := some_ifp e
      obtain ⟨v, r, rfl, q, v2, r2, rfl, q2, v3, r3, rfl, q3, r0⟩ := rvs
      obtain rfl : v = .int _ := q
      obtain rfl : v2 = .int _ := q2
      obtain rfl : v3 = .int _ := q3
      obtain rfl : r3 = [] := r0
      exact ⟨_, _, _, _, rfl, ⟨b.1, b.2.1, b.2.2.1, b.2.2.2⟩, k _ (e ▸ serv_rangeC)⟩
    · cases e⟩
end
end Py

/-! Part 28: sorted(set(a list of texts)). -/
namespace Py
open PySem PySem.Spec PyProof.Rows L2
/-- the set of the texts l at a -/
def TxR (P : Program) (w : World) (h : Heap) (a : Addr) (l : List Str) : Prop :=
  ∃ D : Froz.SD, h.get? a = some (Froz.sObj "set" D) ∧ Froz.TxOk P w D l ∧ l.Nodup ∧ Ris D.2.2.place.toList ∧ (w.params.followText "set-order" = true ∨ D.2.2.led = true)
section
variable {P : Program} {w : World} {A : Around} {E : Value → Shared → Prop} {s : Shared} {a : Addr} {l : List Str}
theorem TxR.at {h h' : Heap} (R : TxR P w h a l) (k : ∀ o, h.get? a = some o → h'.get? a = some o) : TxR P w h' a l := by
  obtain ⟨D, ho, r⟩ := R
  exact ⟨D, k _ ho, r⟩
theorem tail_ris {ep : Nat} {es1 : Array (Int × Value)} {t2 : SetTable} {wd : Bool} (r : Ris t2.place.toList) : Ris (Froz.tailTx ep es1 t2 wd).2.2.place.toList := by
  unfold Froz.tailTx
  by_cases c : (!wd && t2.tooFull) = true
  · rw [if_pos c]; exact relayAll_ris _ _ _
  · rw [if_neg c]; exact r
theorem tail_led {ep : Nat} {es1 : Array (Int × Value)} {t2 : SetTable} {wd : Bool} : (Froz.tailTx ep es1 t2 wd).2.2.led = t2.led := by
  unfold Froz.tailTx
  by_cases c : (!wd && t2.tooFull) = true
  · rw [if_pos c]; exact relayAll_led _ _ _
  · rw [if_neg c]
theorem addTx_ris {h : Int} {v : Value} {D : Froz.SD} (r : Ris D.2.2.place.toList) : Ris (Froz.addTx h v D).2.2.place.toList := by
  have r1 := layNew_ris D.2.2 D.1 h v r
  refine tail_ris ?_
  by_cases c : (layNew D.2.2 D.1 h v).2.1.plain = true
  · rw [if_pos c]; exact r1
  · rw [if_neg c]; exact r1
theorem addTx_led {h : Int} {v : Value} {D : Froz.SD} : (Froz.addTx h v D).2.2.led = D.2.2.led := by
  have r1 := layNew_led D.2.2 D.1 h v
  refine tail_led.trans ?_
  by_cases c : (layNew D.2.2 D.1 h v).2.1.plain = true
  · rw [if_pos c]; exact r1
  · rw [if_neg c]; exact r1
theorem txr_add {k : Str} {u : Tok} {Q : Bool → Shared → Prop} (R : TxR P w s.heap a l) (hb : l.length + 1 < scanBound)
    (hQ : ∀ b h', Heap.SameBut a s.heap h' → TxR P w h' a (if k ∈ l then l else k :: l) → Q b { s with heap := h' }) : wpAny (model P w) A (setAddHashed a (.str k u) (hashStr w k)) Q E s := by
  obtain ⟨D, ho, F, nd, r, hl⟩ := R
  by_cases hk : k ∈ l
  · obtain ⟨es, ep, t⟩ := D
    have hd : (Froz.sObj "set" (es, ep, t)).data = .set es ep t := rfl
    have hf : t.fits es.size = true := F.fit
    have hel : ElemsOf (strKind P w) es.toList := F.el
    have hsz : es.size = l.length := F.sz
    have hb0 : es.size < scanBound := by omega
    have hkey : (strKind P w).is k (.str k u) = true := Froz.is_str k u
    obtain ⟨e, he, q⟩ := (F.mem k).mp hk
    unfold setAddHashed setAddHashedIn
    refine wpAny_holding (wpAny_bind (wpAny_setState_of ho hd hf ?_))
    dsimp only
    rw [byScan_of rfl hb0 hel]
    simp only [↓reduceIte]
    unfold setAddByScan
    refine wpAny_bind ?_
    refine wpAny_bind (wpAny_rule ?_)
    refine wpAny_bind (wpAny_setScan_of (knd := strKind P w) (k := k) hkey ho hd hf hel ?_)
    cases hfi : List.findIdx? (fun e => (strKind P w).is k e.2) es.toList with
    | none =>
      have c := List.findIdx?_eq_none_iff.mp hfi e he
      rw [q] at c
      cases c
    | some j =>
      dsimp only
      refine wpAny_pure (wpAny_pure ?_)
      have q2 := hQ false s.heap (Heap.SameBut.refl a s.heap) (by rw [if_pos hk]; exact ⟨(es, ep, t), ho, F, nd, r, hl⟩)
      exact q2
  · refine Froz.add_x ho F hk hb (hQ true _ (Heap.SameBut.update _ a _) ?_)
    rw [if_neg hk]
    exact ⟨_, Froz.get_upd _ ho rfl, Froz.add_ok u F, List.nodup_cons.mpr ⟨hk, nd⟩, addTx_ris r, hl.imp id fun z => by rw [addTx_led]; exact z⟩
theorem txr_new_at {h : Heap} (ho : h.get? a = some { cls := .type "set", dict := none, data := .set #[] 0 (.fresh 0 0 (!w.params.followText "set-order")) }) : TxR P w h a [] :=
  ⟨(#[], 0, .fresh 0 0 (!w.params.followText "set-order")), ho, Froz.TxOk.nil (by rfl), List.nodup_nil, List.Pairwise.nil, by
    show _ ∨ (!w.params.followText "set-order") = true
    cases w.params.followText "set-order"
    · exact .inr rfl
    · exact .inl rfl⟩
/-- what has been put in -/
def Put (ns l : List Str) : Prop := l.length ≤ ns.length ∧ ∀ k, k ∈ l ↔ k ∈ ns
theorem put_step {ns l : List Str} {z : Str} (p : Put ns l) : Put (ns ++ [z]) (if z ∈ l then l else z :: l) := by
  obtain ⟨p1, p2⟩ := p
  by_cases h : z ∈ l
  · rw [if_pos h]
    exact ⟨by simp; omega, fun k => by
      rw [List.mem_append, List.mem_singleton, ← p2 k]
      exact ⟨.inl, fun q => q.elim id fun e => e ▸ h⟩⟩
  · rw [if_neg h]
    exact ⟨by simp; omega, fun k => by
      rw [List.mem_append, List.mem_singleton, List.mem_cons, ← p2 k]
      exact Or.comm⟩
theorem set_update_texts {I : Addr} {fp wr : List Addr} {G : Array GenState → Array GenState → Prop} {n : Nat} {Pv : Nat → Value → Prop} {St : Nat → Shared → Prop} {R : Result → Shared → Prop}
    (W : WalksS P w A.in1 I fp wr G n Pv St) (S : Addr) (hSf : S ∉ fp) (ns : List Str) (hn : n = ns.length) (hb : ns.length + 1 < scanBound) (hval : ∀ i v, Pv i v → ∃ k t, ns[i]? = some k ∧ v = .str k t) :
    ∀ (k i : Nat) (s : Shared), n - i = k → i ≤ n → St i s → (∃ l, Put (ns.take i) l ∧ TxR P w s.heap S l) →
      (∀ s' l, Moved (S :: wr) G s s' → Put ns l → TxR P w s'.heap S l → R (.ok (.ret .none)) s') →
      codeAny (model P w) A (.builtin "set.update.loop" ⟨[.ref S, .ref I], []⟩) R s := by
  have hSw : S ∉ wr := fun h => hSf (W.sub _ h)
  have hsub : ∀ b ∈ wr, b ∈ S :: wr := fun b hb => List.mem_cons_of_mem _ hb
  intro k
  induction k with
  | zero =>
    intro i s hk' hi hst ⟨l, hc, hS⟩ hR
    have hin : i = n := by omega
    subst hin
    refine codeAny_builtin F.entry_set_update_loop ?_
    rw [Around.under_plainId F.plain_set_update_loop _]
    show wpAny _ A.in1 (pyNext (.ref I) >>= _) _ _ s
    refine wpAny_bind (W.done s _ _ hst fun s' hm => ?_)
    show wpAny _ A.in1 (ret Value.none) _ _ s'
    have e : ns.take i = ns := List.take_of_length_le (by omega)
    rw [e] at hc
    exact wpAny_pure (hR s' l (hm.mono hsub) hc (hS.at fun o e => hm.heap S o hSw e))
  | succ k ih =>
    intro i s hk' hi hst ⟨l, hc, hS⟩ hR
    have hlt : i < n := by omega
    refine codeAny_builtin F.entry_set_update_loop ?_
    rw [Around.under_plainId F.plain_set_update_loop _]
    show wpAny _ A.in1 (pyNext (.ref I) >>= _) _ _ s
    refine wpAny_bind (W.item i s _ _ hlt hst fun v s' hP hst' hm => ?_)
    obtain ⟨z, t, hz, rfl⟩ := hval i v hP
    have hS' : TxR P w s'.heap S l := hS.at fun o e => hm.heap S o hSw e
    have hll : l.length ≤ i := Nat.le_trans hc.1 (by rw [List.length_take]; omega)
    show wpAny _ A.in1 (holding [Value.str z t] (setAdd S (.str z t)) >>= _) _ _ s'
    refine wpAny_bind (wpAny_holding ?_)
    unfold setAdd
    refine wpAny_holding ?_
    refine wpAny_bind ((strKind P w).pyHash (k := z) (strKind_is _ _ _ _) ?_)
    refine txr_add (s := { s' with toks := s'.toks + 1 }) hS' (by omega) fun b h' hsb hS2 => ?_
    have hS3 : Put (ns.take (i + 1)) (if z ∈ l then l else z :: l) := by
      rw [List.take_add_one, hz]
      exact put_step hc
    refine wpAny_pure ⟨plainId_quiet F.plain_set_update_loop _, ih (i + 1) _ (by omega) hlt (W.frame _ s' _ _ hst' (Nat.le_succ _) fun b hb o e => ?_) ⟨_, hS3, hS2⟩ fun s'' c2 hm'' hc'' hS'' => ?_⟩
    · rw [hsb.2 b (fun h : b = S => hSf (by rw [← h]; exact hb))]; exact e
    · refine hR s'' c2 (Moved.trans W.gtrans ((hm.mono hsub).then_heap (Nat.le_succ _) fun b o hb e => ?_) hm'') hc'' hS''
      rw [hsb.2 b (fun h : b = S => hb (by rw [h]; exact List.mem_cons_self))]; exact e

abbrev freshSetO (w : World) : Obj := { cls := .type "set", dict := none, data := .set #[] 0 (.fresh 0 0 (!w.params.followText "set-order")) }
theorem call_set_texts {p : Addr} {items : Array Value} (ns : List Str) {Q : Value → Shared → Prop} (hh : A.handled = none) (hl : s.heap.IsList p items) (hit : StrsAre items.toList ns) (hb : ns.length + 1 < scanBound)
    (h : ∀ (h' : Heap) (tk : Nat) (l : List Str), TxR P w h' s.heap.objs.size l → Put ns l → (∀ b o, s.heap.get? b = some o → h'.get? b = some o) → Q (.ref s.heap.objs.size) { s with heap := h', toks := tk }) :
    wpAny (model P w) A (call (.type "set") [.ref p]) Q E s := by
  have hisz : items.size = ns.length := by rw [← Array.length_toList]; exact StrsAre.len_eq hit
  obtain ⟨c, tl, hmro⟩ := F.called_set.mro
  have hmade := F.called_set.made
  have hsub := F.called_set.sub
  refine wpAny_call (codeAny_of_tree ?_)
  show wpAny _ _ (callAny (.type "set") _) _ _ _
  refine wpAny_pure ⟨Code.quiet_builtin _ (by decide +kernel), codeAny_builtin F.entry_type_call ?_⟩
  rw [Around.under_plain (weight_type_call_type "set" [.ref p] []) rfl]
  have h1 := F.called_set.notType
  have h2 := F.called_set.canCreate
  have hct := F.typeCall_set_1 (.ref p)
  repeat (any_goals (first | assumption | wp_step))
  refine codeAny_mono (code_set_led1 (.ref p) (E := E) (Q₁ := fun obj s₁ => obj = .ref s.heap.objs.size ∧ s₁ = { s with heap := s.heap.push (freshSetO w) }) ⟨rfl, rfl⟩) fun r s₁ hr => ?_
  cases r with
  | error e => exact hr
  | ok fl =>
    cases fl with
    | ret obj =>
      obtain ⟨rfl, rfl⟩ := hr
      have hS : (s.heap.push (freshSetO w)).get? s.heap.objs.size = some (freshSetO w) := Heap.get?_push_size _ rfl
      have hT : Shared.TypeIs { s with heap := s.heap.push (freshSetO w) } (.ref s.heap.objs.size) "set" := ⟨_, hS, rfl⟩
      have hli := F.called_set.init.lookup
      have hbi := F.called_set.init.bind (.ref s.heap.objs.size)
      repeat (any_goals (first | assumption | wp_step))
      refine codeAny_mono (codeAny_call_builtin (R := wants (fun r s₂ => r = .none ∧ ∃ h' tk l, s₂ = { s with heap := h', toks := tk } ∧ TxR P w h' s.heap.objs.size l ∧ Put ns l ∧
          (∀ b o, s.heap.get? b = some o → h'.get? b = some o)) E) F.called_set.init.plain F.entry_set_init (check_set_init_1 hT ?_)) fun r₂ s₂ hr₂ => ?_
      · obtain ⟨ol, hol, hcl, nl, hdl⟩ := hl
        obtain ⟨ocls, odict, odata, oslots⟩ := ol
        simp only at hcl hdl
        subst hcl; subst hdl
        have hol' : (s.heap.push (freshSetO w)).get? p = some { cls := .type "list", dict := odict, data := .seq items nl, slots := oslots } := Heap.get?_push_of_some _ hol
        have hsls := PySem.F.sub_list_set
        have hslf := PySem.F.sub_list_frozenset
        have hne : (Value.type "list" == Value.type "dict") = false := by decide
        have hl1 : (s.heap.push (freshSetO w)).IsList p items := ⟨_, hol', rfl, nl, rfl⟩
        unfold Builtin.«set.__init__» noKeywords Builtin.Frozenset.updateFrom
        generalize hPI : pyIter = PI
        wp_walk
        subst hPI
        refine wpAny_pyIter_list hl1 ?_
        refine wpAny_bind (wpAny_runValue ?_)
        have hlS : p < s.heap.objs.size := Heap.lt_size hol
        have hh3 : A.in1.in1.in1.handled = none := by simp [hh]
        have hneI : p ≠ (s.heap.push (freshSetO w)).objs.size := by
          rw [Heap.size_push]; exact Nat.ne_of_lt (Nat.lt_succ_of_lt hlS)
        have hSf : s.heap.objs.size ∉ [(s.heap.push (freshSetO w)).objs.size, p] := by
          rw [Heap.size_push]; simp only [List.mem_cons, List.mem_singleton, List.not_mem_nil, or_false, not_or]
          exact ⟨Nat.ne_of_lt (Nat.lt_succ_self _), Nat.ne_of_gt hlS⟩
        have hval : ∀ (i : Nat) (v : Value), items[i]? = some v → ∃ k t, ns[i]? = some k ∧ v = .str k t := fun i v hv => by
          have hi : i < ns.length := by rw [← hisz]; exact (Array.getElem?_eq_some_iff.mp hv).1
          obtain ⟨t, e⟩ := SS.strs_at hit i v (by rw [Array.getElem?_toList]; exact hv)
          refine ⟨ns[i], t, List.getElem?_eq_getElem hi, ?_⟩
          rw [e, List.getD_eq_getElem?_getD, List.getElem?_eq_getElem hi] <;> rfl
        refine set_update_texts ((Walks.list hh3 _ p hneI items).toS) s.heap.objs.size
          hSf ns hisz hb hval (items.size - 0) 0 _ (by omega) (Nat.zero_le _)
          ⟨⟨_, Heap.get?_push_size _ rfl, rfl, rfl⟩, (hl1.push _)⟩ ?hS0 ?hR
        case hS0 =>
          exact ⟨[], ⟨Nat.zero_le _, fun k => by simp⟩, txr_new_at (Heap.get?_push_of_some _ hS)⟩
        case hR =>
          intro s' l' hm hc' hS'
          obtain ⟨h', g2, d', tk', os'⟩ := s'
          have eg : g2 = s.gens := hm.gens
          have ed : d' = s.drawn := hm.drawn
          have eo : os' = s.os := hm.os
          subst eg; subst ed; subst eo
          show wpAny _ _ _ _ _ _
          refine wpAny_pure ?_
          show wpAny _ _ (ret Value.none) _ _ _
          refine wpAny_pure ⟨rfl, h', tk', l', rfl, hS', hc', fun b o e => ?_⟩
          have hb0 : b < s.heap.objs.size := Heap.lt_size e
          have hb1 : b ≠ s.heap.objs.size := Nat.ne_of_lt hb0
          have hb2 : b ≠ (s.heap.push (freshSetO w)).objs.size := by
            rw [Heap.size_push]; exact Nat.ne_of_lt (Nat.lt_succ_of_lt hb0)
          exact hm.heap b o (by simp only [List.mem_cons, List.mem_singleton, List.not_mem_nil, or_false, not_or]; exact ⟨hb1, hb2⟩) (Heap.get?_push_of_some _ (Heap.get?_push_of_some _ e))
      · cases r₂ with
        | error e => exact hr₂
        | ok fl₂ =>
          cases fl₂ with
          | ret r =>
            obtain ⟨rfl, h', tk, l', rfl, hS', hc', hk'⟩ := hr₂
            repeat (any_goals (first | assumption | wp_step))
            exact h _ _ _ hS' hc' hk'
          | _ => exact hr₂.elim
    | _ => exact hr.elim
theorem perm_of_sub : ∀ {l m : List Str}, l.Nodup → (∀ k ∈ l, k ∈ m) → m.length = l.length → m.Perm l
  | [], [], _, _, _ => .nil
  | [], x :: m, _, _, h => by cases h
  | x :: l, m, nd, hs, hl => by
    obtain ⟨n1, n2⟩ := List.nodup_cons.mp nd
    have hx : x ∈ m := hs x List.mem_cons_self
    refine (List.perm_cons_erase hx).trans (.cons x (perm_of_sub n2 (fun k hk => ?_) ?_))
    · have hne : k ≠ x := fun e => n1 (e ▸ hk)
      exact (List.mem_erase_of_ne hne).mpr (hs k (List.mem_cons_of_mem _ hk))
    · rw [List.length_erase_of_mem hx, hl]; rfl
theorem txr_values {D : Froz.SD} (F : Froz.TxOk P w D l) (nd : l.Nodup) : ∃ ys : List Str, StrsAre (D.1.toList.map (·.2)) ys ∧ ys.Perm l := by
  obtain ⟨es, ep, t⟩ := D
  have each : ∀ e ∈ es.toList, ∃ x t, e.2 = Value.str x t ∧ x ∈ l := fun e he => by
    obtain ⟨⟨x, hx, _⟩, _⟩ := F.el e he
    obtain ⟨t, ht⟩ := Value.isStrOf_shape (x := x) (v := e.2) hx
    exact ⟨x, t, ht, (F.mem x).mpr ⟨e, he, hx⟩⟩
  have hS := strsAre_map (es.toList.map (·.2)) fun v hv => by
    obtain ⟨e, he, rfl⟩ := List.mem_map.mp hv
    obtain ⟨x, t, q, _⟩ := each e he
    exact ⟨x, t, q⟩
  refine ⟨_, hS, ?_⟩
  have hlen : ((es.toList.map (·.2)).map strOf).length = l.length := by
    rw [List.length_map, List.length_map, Array.length_toList]; exact F.sz
  have hsub : ∀ k ∈ l, k ∈ (es.toList.map (·.2)).map strOf := fun k hk => by
    obtain ⟨e, he, q⟩ := (F.mem k).mp hk
    obtain ⟨t, ht⟩ := Value.isStrOf_shape (x := k) (v := e.2) q
    exact List.mem_map.mpr ⟨e.2, List.mem_map.mpr ⟨e, he, rfl⟩, by rw [ht]; rfl⟩
  exact perm_of_sub nd hsub hlen
end
/-- as an object that is known -/
def SetTx (P : Program) (w : World) (a : Addr) (l : List Str) : HO := .ext fun h => TxR P w h a l
section
variable {G : Gc} {W : WX} {X : Cx} {e a b c tg o i : Expr} {m m' : Mu} {H H' : Hp} {S : Store} {σ : Sg} {pos p apos : Pos} {kp : Addr → Prop} {ρ : Env}
theorem setTx_new {w : World} {P : Program} {H : Hp} {h : Heap} {a : Addr} {l : List Str} (R : TxR P w h a l) : ObjOk P w H h a (SetTx P w a l) := by
  have ⟨D, ho, _⟩ := R
  exact ⟨R, ⟨_, ho⟩, fun h1 h2 p k => TxR.at p k⟩
theorem cr_setTx (hc : X.calm = true) : CallR X (.type "set") (fun xs H Q => ∃ l, ∃ zs : List Str, xs = [.ref l] ∧ SqL X.K H l (zs.map V.str) ∧ zs.length + 1 < scanBound ∧ ∀ a ks, H a = none → Put zs ks → ks.Nodup → Q (.ref a) (upd H a (SetTx X.prog X.w a ks))) := by
  intro pins s σ H xs us Q I r h
  obtain ⟨p, zs, rfl, hq, hl, q⟩ := h
  rw [Vals.ref1 r]
  obtain ⟨its, rv, pl, hz⟩ := I.list hq
  refine call_set_texts zs (I.ok.hd hc) pl.isList (by simpa using strsAre_of rv) hl fun h' tk ks R hp k => ?_
  exact ⟨.ref s.heap.objs.size, upd H s.heap.objs.size (SetTx X.prog X.w s.heap.objs.size ks), I.laid (t' := tk) k (Nat.le_refl _) (setTx_new R), rfl, q _ _ (I.hok.fresh (Nat.le_refl _)) hp (by obtain ⟨D, _, _, nd, _⟩ := R; exact nd)⟩
theorem cr_sortedTx (hc : X.calm = true) : CallR X (.builtin "sorted") (fun vs H Q => ∃ a, ∃ ks : List Str, vs = [.ref a] ∧ H a = some (SetTx X.prog X.w a ks) ∧ ks.length < 64 ∧ ∀ ys p, ys.Perm ks → sortedS ys = true → H p = none → Q (.ref p) (upd H p (.lst (ys.map V.str)))) := by
  intro pins s σ H vs us Q I r h
  obtain ⟨a, ks, rfl, ha, h64, q⟩ := h
  obtain ⟨D, ho, F, nd, rs, hl⟩ : TxR X.prog X.w s.heap a ks := (I.hok a _ ha).1
  obtain ⟨ys0, hys, hpm⟩ := txr_values F nd
  have hsz : D.1.size = ks.length := F.sz
  rw [Vals.ref1 r]
  refine Calls.call_function_entry kind_sorted plain_sorted entry_sorted (args_sorted1 _) ?_
  unfold Builtin.«sorted»
  refine wpAny_bind (m := checkCount "sorted" 1 1 _) (wpAny_pure ?_)
  refine wpAny_bind (collect_set (A := X.A.in1) (I.ok.hd hc) ⟨_, ho, rfl, rfl⟩ F.fit (by unfold scanBound; omega) rs hl fun s1 vs k1 hz g1 o1 pm => ?_)
  have hvl : vs.length = ks.length := by rw [pm.length_eq, List.length_map, Array.length_toList]; exact hsz
  have hI : StrsAre vs (vs.map strOf) := strsAre_map vs fun v hv => hys.all v (pm.mem_iff.mp hv)
  have pk : (vs.map strOf).Perm ks := by
    refine (pm.map strOf).trans ?_
    rw [hys.strs]
    exact hpm
  refine wpAny_bind (wpAny_newList ?_ (by rw [hvl, sizeLine_eq]; omega))
  have hoL : (s1.heap.push (seqObj "list" vs.toArray 0)).get? s1.heap.objs.size = some (seqObj "list" vs.toArray 0) := Heap.get?_push_size _ rfl
  refine wpAny_bind (wpAny_holding (wpAny_call_entry slot_list_sort ⟨_, hoL, rfl⟩ entry_list_sort
    (list_sort_treeK strKind_oneLt hoL hI.keysOf (fun v₁ v₂ rest e => keyKind_strs (by rw [← e]; exact hI)) (by rw [hvl]; exact h64) fun st' hp hs => ⟨_, rfl, ?_⟩) (args_list_sort _)))
  obtain ⟨ys, y1, y2, y3⟩ := sorted_out_str hI hp hs
  obtain ⟨c, hcc⟩ := sortedHeap_at (vs := vs) (out := (arrOf st').map (·.2)) hoL
  have old : ∀ b u, s.heap.get? b = some u → (sortedHeap (s1.heap.push (seqObj "list" vs.toArray 0)) s1.heap.objs.size vs ((arrOf st').map (·.2))).get? b = some u := fun b u e => by
    have q := k1 b u e
    have hlt := Heap.lt_size q
    rw [sortedHeap_old (Nat.ne_of_lt hlt) (by rw [size_push']; exact Nat.lt_succ_of_lt hlt)]
    exact Heap.get?_push_of_some _ q
  have hn : H s1.heap.objs.size = none := I.hok.fresh hz
  have hlen : (ys.map V.str).length ≤ sizeLine := by rw [List.length_map, y2.length_eq, List.length_map, hvl, sizeLine_eq]; omega
  have J : Inv X pins σ (upd H s1.heap.objs.size (.lst (ys.map V.str))) { s with heap := sortedHeap (s1.heap.push (seqObj "list" vs.toArray 0)) s1.heap.objs.size vs ((arrOf st').map (·.2)), gens := s1.gens, drawn := s1.drawn, toks := s1.toks } :=
    I.call (ch := []) (Un.laid old hz hn) (I.hok.laid old hz ⟨hlen, ((arrOf st').map (·.2)).toList, c, vals_of_strs y1, by rw [Array.toArray_toList]; exact hcc⟩) (by rw [g1]; exact I.bare) (fun _ z => nomatch z)
  refine wpAny_pure ⟨_, rfl, .ref s1.heap.objs.size, _, ?_, rfl, q ys _ (y2.trans pk) y3 hn⟩
  have e : ({ s1 with heap := sortedHeap (s1.heap.push (seqObj "list" vs.toArray 0)) s1.heap.objs.size vs ((arrOf st').map (·.2)) } : Shared) = { s with heap := sortedHeap (s1.heap.push (seqObj "list" vs.toArray 0)) s1.heap.objs.size vs ((arrOf st').map (·.2)), gens := s1.gens, drawn := s1.drawn, toks := s1.toks } := by
    cases s1
    cases s
    cases o1
    rfl
  rw [e]
  exact J
/-- texts that are all one -/
def oneS : List Str → Option (List Str)
  | [] => some []
  | x :: r => if r.all (· == x) = true then some [x] else none
theorem oneS_eq {zs ks ys : List Str} {rs : List Str} (e : oneS zs = some rs) (p : Put zs ks) (nd : ks.Nodup) (q : ys.Perm ks) : ys = rs := by
  cases zs with
  | nil =>
    cases e
    have h : ks = [] := List.eq_nil_iff_forall_not_mem.mpr fun k hk => by
      have z := (p.2 k).mp hk
      cases z
    subst h
    exact q.eq_nil
  | cons x r =>
    unfold oneS at e
    obtain ⟨h, rfl⟩ := some_ifp e
    have all : ∀ k, k ∈ ks → k = x := fun k hk => by
      rcases List.mem_cons.mp ((p.2 k).mp hk) with z | z
      · exact z
      · exact beq_iff_eq.mp (List.all_eq_true.mp h k z)
    have hx : x ∈ ks := (p.2 x).mpr List.mem_cons_self
    have hk : ks = [x] := by
      cases ks with
      | nil => cases hx
      | cons y t =>
        obtain rfl := all y List.mem_cons_self
        cases t with
        | nil => rfl
        | cons z t2 =>
          have hz := all z (List.mem_cons_of_mem _ List.mem_cons_self)
          exact absurd (hz ▸ List.mem_cons_self) (List.nodup_cons.mp nd).1
    subst hk
    exact List.perm_singleton.mp q
def qSortSetS (d : D) : Option (List D) := match d with
  | .lst ds => (strsD ds).bind fun zs => if zs.length < 64 then (oneS zs).bind fun rs => some (rs.map D.str) else none
  | _ => none
def dSortSetS (d : DE) : DA := fun ρ S => (d ρ S).bind fun x S => optM (qSortSetS x) S
theorem jl_sortSetS {d : DE} {p2 q : Pos} (hc : X.calm = true) (hK : X.K = G.K) (hg : Gl X "sorted") (hm : X.mg "sorted" = none) (hg2 : Gl X "set") (hm2 : X.mg "set" = none) (ha : PE X a (tE G W d)) (hs : starB a = false) :
    PE X (.Call (.Name "sorted" p) [.Call (.Name "set" p2) [a] [] q] [] pos) (tL G W (dSortSetS d)) :=
  pe_imp (pe_callB (cr_sortedTx hc) hg hm PyProof.Rows.boot_sorted (pa_cons (pe_callTy (cr_setTx hc) hg2 hm2 PyProof.Rows.boot_set (pa_cons ha pa_nil (starEach_plain hs)) (by decide) (by decide) (starEach_plain hs) (by rfl)) pa_nil (by rfl)) (by decide) (by decide) (by rfl) (by rfl))
    fun σ H Q ⟨m, ρ, S, hS, hE, h⟩ => ⟨m, ρ, S, hS, hE, (AftL.of h).imp fun x S1 m1 H1 l1 hS1 h1 v rv => by
    obtain ⟨ds, e, h1⟩ := aftL_opt h1
    unfold qSortSetS at e
    split at e
    · obtain ⟨zs, e0, e⟩ := Option.bind_eq_some_iff.mp e
      have hl : zs.length < 64 := by
        by_cases c : zs.length < 64
        · exact c
        · rw [if_neg c] at e; cases e
      rw [if_pos hl] at e
      obtain ⟨rs, e1, e⟩ := Option.bind_eq_some_iff.mp e
      cases e
      obtain ⟨a, xs, rfl, q1, _, q2⟩ := rv
      rw [strsD_map e0] at q2
      obtain rfl := q2.strs
      refine ⟨a, zs, rfl, by rw [hK]; exact SqL.of q1, by unfold scanBound; omega, fun b ks hb hp nd => ⟨b, ks, rfl, upd_same, by have := hp.1; omega, fun ys p hy _ hpn => ?_⟩⟩
      have sm : Same H1 (upd H1 b (SetTx X.prog X.w b ks)) := Same.new hb
      obtain rfl := oneS_eq e1 hp nd hy
      have h2 : AftL G m1 (upd H1 b (SetTx X.prog X.w b ks)) (fun c x H' => W c x σ H') (.ok (ys.map D.str) S1) Q := fun m' H' p' l hp' => h1 m' H' p' ((Le.same sm).trans l) (by
        cases z : nt H1 p' with
        | none => rfl
        | some o => rw [nt_same sm z] at hp'; cases hp')
      exact AftL.new h2 (hS1.same sm) (RpL.ofStrs _) hpn
    · cases e⟩
end
end Py

/-! Part 29: len of a dict. -/
namespace Py
open PySem PySem.Spec PyProof.Rows L2
def pLenD (S : Store) : List D → Option D
  | [.ref n] => match S[n]? with
    | some (.dK kvs) => some (.int (kvs.length : Nat))
    | some (.dT kvs) => some (.int (kvs.length : Nat))
    | _ => none
  | _ => none
section
variable {G : Gc} {W : WX} {X : Cx} {m m' : Mu} {H H' : Hp} {S : Store}
theorem c_lenD : CallR X (.builtin "len") (rC G pLenD) := callr_imp (CallR.or L2.call_lenD L2.call_len_dT) fun vs H Q ⟨m, S, ds, r, hS, hr, hf, k⟩ => by
  unfold pLenD at hf
  split at hf
  · rename_i n
    obtain ⟨v, rfl, rv⟩ := hr.one
    obtain ⟨a, rfl, ha⟩ := rv
    split at hf
    · rename_i kvs hn
      cases hf
      obtain ⟨xs, g1, g2⟩ := hS.ob n _ a hn ha
      exact .inl ⟨a, xs, rfl, g1, k.here hS (v := .int _) (by rw [g2.len]; rfl)⟩
    · rename_i kvs hn
      cases hf
      obtain ⟨xs, g1, g2⟩ := hS.ob n _ a hn ha
      exact .inr ⟨a, xs, rfl, g1, k.here hS (v := .int _) (by rw [g2.len]; rfl)⟩
    · cases hf
  · cases hf
end
end Py

/-! Part 30: index in a list of data. -/
namespace Py
open PySem PySem.Spec PyProof.Rows L2
def listOf (S : Store) : D → Option (List D)
  | .lst ds => some ds
  | .ref n => match S[n]? with
    | some (.lst ds) => some ds
    | some (.frz ds) => some ds
    | _ => none
  | _ => none
def pIndex (S : Store) (x y : D) : Option D := (listOf S x).bind fun ds =>
  if (okdL ds && SeqAt.shaped (.list (pyL ds)) && y.okd && SeqAt.shaped y.py) = true then ((pyL ds).findIdx? fun z => PyData.eqv z y.py).map fun j => .int (j : Nat) else none
def dIndex (a b : DE) : DE := fun ρ S => (a ρ S).bind fun x S => match listOf S x with
  | some _ => (b ρ S).bind fun y S => optM (pIndex S x y) S
  | none => .bad
section
variable {G : Gc} {W : WX} {X : Cx} {e a b c tg o i : Expr} {m m' : Mu} {H H' : Hp} {S : Store} {σ : Sg} {pos p apos : Pos} {kp : Addr → Prop} {ρ : Env}
mutual
theorem Rp.dp : ∀ (d : D) (v : V), d.okd = true → Rp G m H d v → Dp G.K H v d.py
  | .non, _, _, h => by cases h; exact .non
  | .bl b, _, _, h => by cases h; exact .bl b
  | .int i, _, _, h => by cases h; exact .int i
  | .str x, _, _, h => by cases h; exact .str x
  | .ty _, _, k, _ => by cases k
  | .ref _, _, k, _ => by cases k
  | .glo _, _, k, _ => by cases k
  | .tup ds, _, k, ⟨a, xs, e, h1, h2⟩ => by subst e; exact .tup h1.sq (RpL.dp ds xs k h2)
  | .lst ds, _, k, ⟨a, xs, e, h1, _, h2⟩ => by subst e; exact .lst (SqL.of h1) (RpL.dp ds xs k h2)
  | .emp, _, k, _ => by cases k
  | .pt0, _, k, _ => by cases k
theorem RpL.dp : ∀ (ds : List D) (xs : List V), okdL ds = true → RpL G m H ds xs → DpAll G.K H xs (pyL ds)
  | [], _, _, h => by cases h; exact .nil
  | d :: ds, _, k, ⟨v, r, e, h1, h2⟩ => by
    subst e
    have k' : (d.okd && okdL ds) = true := k
    rw [Bool.and_eq_true] at k'
    exact .cons (Rp.dp d v k'.1 h1) (RpL.dp ds r k'.2 h2)
end
theorem list_ok {d : D} {ds : List D} {v : V} (hS : Holds G m H S) (h : listOf S d = some ds) (r : Rp G m H d v) : ∃ p xs, v = .ref p ∧ SqL G.K H p xs ∧ RpL G m H ds xs := by
  cases d <;> simp only [listOf] at h <;> first | cases h; done | skip
  · rename_i n
    obtain ⟨p, rfl, hp⟩ := r
    split at h
    · rename_i es he
      cases h
      obtain ⟨xs, q1, q2⟩ := hS.ob n _ p he hp
      exact ⟨p, xs, rfl, SqL.of q1, q2⟩
    · rename_i es he
      cases h
      obtain ⟨o, xs, q1, q2⟩ := hS.ob n _ p he hp
      exact ⟨p, xs, rfl, .inl (.inr ⟨o, q1⟩), q2⟩
    · cases h
  · cases h
    obtain ⟨a, xs, rfl, h1, _, h2⟩ := r
    exact ⟨a, xs, rfl, SqL.of h1, h2⟩
theorem je_index {dx dy : DE} (hK : X.K = G.K) (hu : X.A.units + 200 < cLine) (ho : PE X o (tE G W dx)) (he : PE X e (tE G W dy)) (hs : starB e = false)
    (hbase : attributeBase o "index" X.env (eval o X.env) = eval o X.env) (hline : (apos.endLine == pos.line) = true) :
    PE X (.Call (.Attribute o "index" apos) [e] [] pos) (tE G W (dIndex dx dy)) :=
  pe_imp (pe_bm PySem.F.plainAttrs_list PySem.F.slot_list_index PySem.F.type_list_index (mt_indexD (by omega)) ho (pa_cons he pa_nil (starEach_plain hs)) hbase (by rw [starEach_plain hs]; rfl) hline (starEach_plain hs) (by rfl))
    fun σ H Q ⟨m, ρ, S, hS, hE, h⟩ => ⟨m, ρ, S, hS, hE, (Aft.bind h).imp fun x S1 m1 H1 l1 hS1 h1 v rv => by
    cases hl : listOf S1 x with
    | none => rw [hl] at h1; exact h1.elim
    | some ds0 =>
      rw [hl] at h1
      obtain ⟨p, xs, rfl, q1, _⟩ := list_ok hS1 hl rv
      refine ⟨by rw [hK]; exact .inl ⟨rfl, xs, q1⟩, m1, ρ, S1, hS1, hE.le l1, (Aft.bind h1).imp fun y S2 m2 H2 l2 hS2 h2 u ru => ?_⟩
      obtain ⟨r, e, k⟩ := aft_opt h2
      unfold pIndex at e
      obtain ⟨ds, e1, e2⟩ := Option.bind_eq_some_iff.mp e
      obtain ⟨c, e2⟩ : (okdL ds && SeqAt.shaped (.list (pyL ds)) && y.okd && SeqAt.shaped y.py) = true ∧ ((pyL ds).findIdx? fun z => PyData.eqv z y.py).map (fun j => D.int (j : Nat)) = some r := by
        by_cases c : (okdL ds && SeqAt.shaped (.list (pyL ds)) && y.okd && SeqAt.shaped y.py) = true
        · rw [if_pos c] at e2; exact ⟨c, e2⟩
        · rw [if_neg c] at e2; cases e2
      simp only [Bool.and_eq_true] at c
      obtain ⟨⟨⟨c1, c2⟩, c3⟩, c4⟩ := c
      obtain ⟨j, hj, rfl⟩ := Option.map_eq_some_iff.mp e2
      obtain ⟨p', xs', ep, g1, g2⟩ := list_ok hS2 e1 (l2.rp rv)
      cases ep
      obtain ⟨k1, k2, k3⟩ := List.findIdx?_eq_some_iff_getElem.mp hj
      refine ⟨p, u, y.py, pyL ds, j, (pyL ds)[j], rfl, rfl, by rw [hK]; exact .lst g1 (RpL.dp ds xs' c1 g2), by rw [hK]; exact Rp.dp y u c3 ru, c2, c4, List.getElem?_eq_getElem k1, k2, fun n z' hn hz => ?_, k.here hS2 (v := .int _) rfl⟩
      obtain ⟨w1, w2⟩ := List.getElem?_eq_some_iff.mp hz
      have := k3 n hn
      rw [w2] at this
      simpa using this⟩
end
end Py

/-! Part 31: comprehensions over a list of the store. -/
namespace Py
open PySem PySem.Spec PyProof.Rows L2
def lcRunX (n : Nat) (g : DG) (t : DT) (e : DE) (ρ : Env) : Nat → Nat → List D → M (List D)
  | 0, i, acc => fun S => match S[n]? with
    | some (.lst es) => if es.length = i then .ok acc S else .bad
    | _ => .bad
  | k + 1, i, acc => fun S => match S[n]? with
    | some (.lst es) => if es.length = i + (k + 1) then (match es[i]? with
      | some d => (match g d ρ with
        | none => .bad
        | some ρ' => (t ρ' S).bind fun b S => if b = true then (e ρ' S).bind fun y S => if acc.length < sizeLine then lcRunX n g t e ρ k (i + 1) (acc ++ [y]) S else .bad else lcRunX n g t e ρ k (i + 1) acc S)
      | none => .bad) else .bad
    | _ => .bad
def lenX (S : Store) (n : Nat) : Nat := match S[n]? with
  | some (.lst es) => es.length
  | _ => 0
/-- a list of the store, by its number -/
def dRefL (d : DE) : Env → M Nat := fun ρ S => (d ρ S).bind fun x S => match x with
  | .ref n => match S[n]? with
    | some (.lst _) => .ok n S
    | _ => .bad
  | _ => .bad
def dLcX (d : DE) (g : DG) (t : DT) (e : DE) (vs : List Nat) : DA := fun ρ S => (dRefL d ρ S).bind fun n S => noX (lcRunX n g t e (wipeE ρ vs) (lenX S n) 0 [] S)
section
variable {G : Gc} {W : WX} {X : Cx} {e a b c tg o i : Expr} {m m' : Mu} {H H' : Hp} {S : Store} {σ : Sg} {pos p apos : Pos} {kp : Addr → Prop} {ρ : Env}
/-- the list at a has N items -/
theorem walk_listX {K : PySem.W.Frag} {a : Addr} {N : Nat} : Walk (Itl K a) N (fun H => ∃ xs, SqL K H a xs ∧ xs.length = N) (fun i H x H' => H' = H ∧ ∀ xs, SqL K H a xs → xs[i]? = some x) :=
  ⟨fun i H hi ⟨xs, q, hl⟩ => ⟨xs, xs[i]'(by omega), q, by simp [hl, hi]⟩, fun H ⟨xs, q, hl⟩ => ⟨xs, q, by omega⟩, fun _ _ _ _ _ _ y => y⟩
theorem lcX_at {L : Addr} {m1 : Mu} {H1 : Hp} {n k i : Nat} {g : DG} {t : DT} {de : DE} {acc : List D} {Q : VK} (h : FinL G m1 H1 L (lcRunX n g t de ρ k i acc S) Q) : ∃ es, S[n]? = some (.lst es) ∧ es.length = i + k := by
  cases k with
  | zero =>
    unfold lcRunX at h
    split at h
    · rename_i es he
      by_cases c : es.length = i
      · exact ⟨es, he, c⟩
      · rw [if_neg c] at h; exact h.elim
    · exact h.elim
  | succ k =>
    unfold lcRunX at h
    split at h
    · rename_i es he
      by_cases c : es.length = i + (k + 1)
      · exact ⟨es, he, c⟩
      · rw [if_neg c] at h; exact h.elim
    · exact h.elim
def tIX (G : Gc) (W : WX) (d : DE) : TI := fun σ H R => Inp G σ H fun m ρ S => Aft G m H (fun c x H' => W c x σ H') (dRefL d ρ S) fun n S' m' H' => ∀ a, m'.as[n]? = some a → R (Itl G.K a) H'
theorem ji_X {d : DE} (hK : X.K = G.K) (h : PE X e (tE G W d)) : PI X tg e (tIX G W d) :=
  pi_imp (pi_val h) fun σ H R ⟨m, ρ, S, hS, hE, h⟩ => ⟨m, ρ, S, hS, hE, (Aft.bind h).imp fun x S1 m1 H1 l1 hS1 h1 v rv => by
    rw [hK]
    cases x with
    | ref n =>
      obtain ⟨a, rfl, ha⟩ := rv
      dsimp only at h1
      split at h1
      · rename_i es he
        obtain ⟨xs, q1, q2⟩ := hS1.ob n _ a he ha
        exact .inl ⟨a, rfl, ⟨xs, SqL.of q1⟩, h1 m1 H1 Le.refl hS1 a ha⟩
      · exact h1.elim
    | _ => exact h1.elim⟩
theorem lcTX {d : DE} {g : DG} {t : DT} {de : DE} {ρ : Env} {Q : VK} (vs : List Nat) (hS : Holds G m H S) (hE : RpE G m H ρ σ) (h : AftL G m H (fun c x H' => W c x σ H') (dLcX d g t de vs ρ S) Q) :
    tLc (tIX G W d) (tG G vs g) (tT G WN t) (tE G WN de) vs σ H Q := by
  refine ⟨m, ρ, S, hS, hE, (AftL.of h).imp fun n S1 m1 H1 l1 hS1 h1 a ha => ?_⟩
  intro L hD
  have sD : Same H1 (upd H1 L (.lst [])) := Same.new hD
  have fin : FinL G m1 H1 L (lcRunX n g t de (wipeE ρ vs) (lenX S1 n) 0 [] S1) Q := by
    revert h1
    cases q : lcRunX n g t de (wipeE ρ vs) (lenX S1 n) 0 [] S1 with
    | ok r S2 => exact fun h1 m' H' l hS' ho => h1 m' H' L l (nt_none hD) hS' ho
    | exc c S2 => exact fun h1 => h1.elim
    | bad => exact fun h1 => h1.elim
  generalize lenX S1 n = N at fin
  refine lc_it (walk_listX (N := N)) (fun i H2 => ∃ m2 acc S2, Le G m1 H1 m2 H2 ∧ Holds G (m2.add L) H2 S2 ∧ Ol G (m2.add L) H2 acc L ∧ i ≤ N ∧ FinL G m1 H1 L (lcRunX n g t de (wipeE ρ vs) (N - i) i acc S2) Q) ?_ ?_ ?_ ?_
  · refine ⟨m1, [], S1, Le.same sD, hS1.join Le.refl hD (by rw [nt_of upd_same fun _ z => by cases z]; simp), ⟨[], upd_same, rfl⟩, Nat.zero_le _, fin⟩
  · rintro i H2 hi ⟨m2, acc, S2, l2, hS2, _, hi2, fn⟩
    obtain ⟨es, he, hl⟩ := lcX_at fn
    obtain ⟨xs, q1, q2⟩ := hS2.ob n _ a he (l2.ix ha)
    exact ⟨xs, SqL.of q1, by rw [q2.length, hl]; omega⟩
  · rintro i x H2 H3 hi ⟨m2, acc, S2, l2, hS2, ho, hi2, fn⟩ ⟨rfl, y⟩
    have lx2 : Lx G kAll m1 H1 (m2.add L) H3 := Lx.add l2 (nt_none hD)
    obtain ⟨es, he, hl⟩ := lcX_at fn
    obtain ⟨xs, q1, q2⟩ := hS2.ob n _ a he (l2.ix ha)
    obtain ⟨d, hd, rd⟩ := RpL.getV q2 (y xs (SqL.of q1))
    rw [show N - i = (N - (i + 1)) + 1 by omega] at fn
    have hE3 : RpE G (m2.add L) H3 (wipeE ρ vs) (L2.wipe σ vs) := ((hE.le l1).lx lx2).wipe vs
    unfold lcRunX at fn
    rw [he] at fn
    dsimp only at fn
    rw [if_pos (by rw [hl]; omega), hd] at fn
    dsimp only at fn
    cases hgd : g d (wipeE ρ vs) with
    | none => rw [hgd] at fn; exact fn.elim
    | some ρ' =>
      rw [hgd] at fn
      refine ⟨m2.add L, wipeE ρ vs, S2, d, hS2, hE3, rd, ρ', hgd, fun σ' bn => ⟨bn.wp.trans wipe_wipe, m2.add L, ρ', S2, hS2, bn.rp, ?_⟩⟩
      dsimp only at fn
      cases ht : t ρ' S2 with
      | exc c S => rw [ht] at fn; exact fn.elim
      | bad => rw [ht] at fn; exact fn.elim
      | ok b S4 =>
        rw [ht] at fn ⊢
        intro m4 H4 l4 hS4
        have l34 := Le.del l2 (nt_none hD) l4
        cases b with
        | false =>
          refine iteF ?_
          refine ⟨⟨m4.as, m2.O⟩, acc, S4, l34, by rw [Mu.eta l4.O]; exact hS4, ?_, hi, fn⟩
          rw [Mu.eta l4.O]
          exact l4.ol (hS2.dis L (.inr rfl)) ho
        | true =>
          refine iteT ?_
          have fn : FinL G m1 H1 L ((de ρ' S4).bind fun y S => if acc.length < sizeLine then lcRunX n g t de (wipeE ρ vs) (N - (i + 1)) (i + 1) (acc ++ [y]) S else .bad) Q := fn
          refine ⟨m4, ρ', S4, hS4, bn.rp.le l4, ?_⟩
          cases hd : de ρ' S4 with
          | exc c S => rw [hd] at fn; exact fn.elim
          | bad => rw [hd] at fn; exact fn.elim
          | ok y S5 =>
            rw [hd] at fn ⊢
            have fn : FinL G m1 H1 L (if acc.length < sizeLine then lcRunX n g t de (wipeE ρ vs) (N - (i + 1)) (i + 1) (acc ++ [y]) S5 else .bad) Q := fn
            intro m5 H5 l5 hS5 v rv
            by_cases hz : acc.length < sizeLine
            · rw [if_pos hz] at fn
              have l35 := Le.del l2 (nt_none hD) (l4.trans l5)
              have nD : L ∉ m5.as := hS5.dis L (by rw [l5.O, l4.O]; exact .inr rfl)
              obtain ⟨xs, e, q⟩ := (l4.trans l5).ol (hS2.dis L (.inr rfl)) ho
              refine ⟨xs, e, by rw [q.length]; exact hz, ⟨m5.as, m2.O⟩, acc ++ [y], S5, ?_, ?_, ?_, hi, fn⟩
              · exact l35.put (nt_none hD) e
              · rw [Mu.eta (l5.O.trans l4.O)]
                exact hS5.put (by rw [l5.O, l4.O]; exact .inr rfl) e
              · rw [Mu.eta (l5.O.trans l4.O)]
                exact ⟨xs ++ [v], upd_same, (Lx.put (by rw [l5.O, l4.O]; exact .inr rfl) e).rpL (q.append ⟨v, [], rfl, rv, rfl⟩)⟩
            · rw [if_neg hz] at fn; exact fn.elim
  · rintro H2 ⟨m2, acc, S2, l2, hS2, ho, _, fn⟩
    obtain ⟨es, he, hl⟩ := lcX_at fn
    rw [Nat.sub_self] at fn hl
    unfold lcRunX at fn
    rw [he] at fn
    dsimp only at fn
    rw [if_pos (by omega)] at fn
    exact fn m2 H2 l2 hS2 ho
theorem je_lcX {elt iter : Expr} {scope : Scope} {own : List (Str × Nat)} {ifs : List Expr} {d : DE} {g : DG} {t : DT} {de : DE} (hc : X.calm = true) (hN : X.N.Nodup) (hi : PI X tg iter (tIX G W d)) (ok : BlkOk X.N X.env.scope scope own)
    (hg : ∀ (s : Shared) (H : Hp) (C : Addr) (cl : List (Str × Addr)) (fp : List Addr), PG (X.blk s H scope (compEnvC scope cl C X.env) fp) tg (tG G (own.map (·.2)) g)) (ht : ∀ (s : Shared) (H : Hp) (C : Addr) (cl : List (Str × Addr)) (fp : List Addr), PTs (X.blk s H scope (compEnvC scope cl C X.env) fp) ifs (tT G WN t))
    (he : ∀ (s : Shared) (H : Hp) (C : Addr) (cl : List (Str × Addr)) (fp : List Addr), PE (X.blk s H scope (compEnvC scope cl C X.env) fp) elt (tE G WN de)) (hs : ∀ x, foldedSetIterable iter X.env x = pure x) :
    PE X (.ListComp elt [⟨tg, iter, ifs, 0⟩] scope pos) (tL G W (dLcX d g t de (own.map (·.2)))) := by
  refine pe_imp (pe_lc hc hN hi ok hg ht he hs) fun σ H Q ⟨m, ρ, S, hS, hE, h⟩ => ?_
  exact lcTX (own.map (·.2)) hS hE h
end
end Py

/-! Part 32: zip over lists and tuples, mixed; list(x) of a list of the store. -/
namespace L2
open PySem PySem.Spec PyProof.Rows
/-- a tuple (true) or a list (false) -/
def SqB (b : Bool) (K : PySem.W.Frag) (H : Hp) (a : Addr) (xs : List V) : Prop := if b = true then SqT K H a xs else SqL K H a xs
def IsB (b : Bool) (h : Heap) (a : Addr) (items : Array Value) : Prop := if b = true then h.IsTuple a items else h.IsList a items
def ItB (b : Bool) (h : Heap) (it a : Addr) (i : Nat) : Prop := if b = true then h.IsTupleIter it a i else h.IsListIter it a i
theorem ItB.at {b : Bool} {h h' : Heap} {it a : Addr} {i : Nat} (x : ItB b h it a i) (k : ∀ o, h.get? it = some o → h'.get? it = some o) : ItB b h' it a i := by
  cases b
  · exact Heap.IsListIter.at x k
  · exact Heap.IsTupleIter.at x k
theorem ItB.obj {b : Bool} {h : Heap} {it a : Addr} {i : Nat} (x : ItB b h it a i) : ∃ o, h.get? it = some o ∧ ∀ v, o.data ≠ .cell v := by
  cases b
  · obtain ⟨o, e, _, d⟩ := (show h.IsListIter it a i from x)
    exact ⟨o, e, fun v q => by rw [d] at q; cases q⟩
  · obtain ⟨o, e, _, d⟩ := (show h.IsTupleIter it a i from x)
    exact ⟨o, e, fun v q => by rw [d] at q; cases q⟩
theorem drawsB (b : Bool) {prog : Program} {w : World} {A : Around} (hh : A.handled = none) (it l : Addr) (hne : l ≠ it) (items : Array Value) :
    Draws prog w A it [it, l] items.size (fun i v => items[i]? = some v) (fun i h => ItB b h it l i ∧ IsB b h l items) := by
  cases b
  · exact Draws.list hh it l hne items
  · exact Draws.tuple hh it l hne items
def itO (b : Bool) (l : Addr) : Obj := if b = true then { cls := .type "tuple_iterator", data := .fields #[.ref l, .int 0 0] } else { cls := .type "list_iterator", data := .fields #[.ref l, .int 0 0] }
theorem beginsB (b : Bool) (l : Addr) (items : Array Value) : Begins (.ref l) (itO b l) fun h => IsB b h l items := by
  cases b
  · exact begins_list l items
  · exact begins_tuple l items
theorem itB_new {b : Bool} {h : Heap} {it l : Addr} (e : h.get? it = some (itO b l)) : ItB b h it l 0 := by
  cases b
  · exact ⟨_, e, rfl, rfl⟩
  · exact ⟨_, e, rfl, rfl⟩
theorem isB_lt {b : Bool} {h : Heap} {a : Addr} {items : Array Value} (x : IsB b h a items) : a < h.objs.size := by
  cases b
  · obtain ⟨o, e, _⟩ := (show h.IsList a items from x)
    exact Heap.lt_size e
  · obtain ⟨o, e, _⟩ := (show h.IsTuple a items from x)
    exact Heap.lt_size e
theorem isB_cls {b : Bool} {h : Heap} {a : Addr} {items : Array Value} (x : IsB b h a items) : ∃ o, h.get? a = some o ∧ (o.cls = .type "tuple" ∨ o.cls = .type "list") := by
  cases b
  · obtain ⟨o, e, c, _⟩ := (show h.IsList a items from x)
    exact ⟨o, e, .inr c⟩
  · obtain ⟨o, e, c, _⟩ := (show h.IsTuple a items from x)
    exact ⟨o, e, .inl c⟩
theorem seqB {X : Cx} {pins : List (Addr × Obj)} {σ : St} {H : Hp} {s : Shared} {a : Addr} {xs : List V} {b : Bool} (I : Inv X pins σ H s) (h : SqB b X.K H a xs) : ∃ its : List Value, Vals xs its ∧ IsB b s.heap a its.toArray := by
  cases b
  · obtain ⟨its, r, p, _⟩ := I.list (show SqL X.K H a xs from h)
    exact ⟨its, r, p.isList⟩
  · obtain ⟨its, r, p, _⟩ := I.tuple (show SqT X.K H a xs from h)
    exact ⟨its, r, p⟩
theorem injB {X : Cx} {pins : List (Addr × Obj)} {σ : St} {H : Hp} {s : Shared} {a : Addr} {xs ys : List V} {b : Bool} (I : Inv X pins σ H s) (h : SqB b X.K H a xs) (k : SqB b X.K H a ys) : xs = ys := by
  cases b
  · exact I.list_inj h k
  · exact I.tuple_inj h k
/-- the two as they stand at each turn, the items in new pairs -/
def ItzB (b c : Bool) (K : PySem.W.Frag) (a a' : Addr) : It :=
  ⟨fun i H => ∃ (xs ys : List V) (x y : V), SqB b K H a xs ∧ SqB c K H a' ys ∧ xs[i]? = some x ∧ ys[i]? = some y,
    fun i H v H' => ∃ T x y, v = .ref T ∧ H T = none ∧ H' = upd H T (.tup [x, y]) ∧ (∀ xs, SqB b K H a xs → xs[i]? = some x) ∧ ∀ ys, SqB c K H a' ys → ys[i]? = some y,
    fun i H => ∃ xs ys : List V, SqB b K H a xs ∧ SqB c K H a' ys ∧ i ≤ xs.length ∧ i ≤ ys.length ∧ (i = xs.length ∨ i = ys.length)⟩
theorem zipSep {z TI TO i1 i2 l1 l2 : Addr} (D : ZipApart z TI TO i1 i2 l1 l2) : ZipSep2 z TI TO i1 i2 [i1, l1] [i2, l2] :=
  ⟨D.TIz, D.TOz, D.TITO, D.TIi1, by simp, by simp [D.i1z.symm, D.l1z.symm], by simp [D.TOi1, D.l1TO.symm], D.TIi2, by simp, by simp [D.i2z.symm, D.l2z.symm], by simp [D.TOi2, D.l2TO.symm], by simp [D.i12, D.l2i1.symm], by simp [D.i12.symm, D.l1i2.symm]⟩
theorem turn_zipB {P : Program} {w : World} {K : PySem.W.Frag} {elts : List Expr} {kk : Nat} {tpos : Pos} {b c : Bool} {a a' z TI TO i1 i2 : Addr} (D : ZipApart z TI TO i1 i2 a a') :
    Turn P w K (.Tuple elts kk tpos) (ItzB b c K a a') [z, TI, TO, i1, i2] z (fun i h => IsZip h z TI TO .none ∧ IsPair h TI (.ref i1) (.ref i2) ∧ (∃ x y, IsPair h TO x y) ∧ ItB b h i1 a i ∧ ItB c h i2 a' i) where
  mem := by simp
  obj := fun i h st d hd => by
    obtain ⟨hz, hTI, ⟨x, y, hTO⟩, h1, h2⟩ := st
    have e' : d = z ∨ d = TI ∨ d = TO ∨ d = i1 ∨ d = i2 := by simpa using hd
    rcases e' with q | q | q | q | q
    · rw [q]; exact ⟨_, hz, fun v q => nomatch q⟩
    · rw [q]; exact ⟨_, hTI, fun v q => nomatch q⟩
    · rw [q]; exact ⟨_, hTO, fun v q => nomatch q⟩
    · rw [q]; exact h1.obj
    · rw [q]; exact h2.obj
  keep := fun i h h' st k => by
    obtain ⟨hz, hTI, ⟨x, y, hTO⟩, h1, h2⟩ := st
    exact ⟨k z (by simp) _ hz, k TI (by simp) _ hTI, ⟨x, y, k TO (by simp) _ hTO⟩, h1.at fun o q => k i1 (by simp) o q, h2.at fun o q => k i2 (by simp) o q⟩
  item := by
    intro X hP hw hK hc i pins s σ H E I hf st hg
    subst hP hw hK
    obtain ⟨hz, hTI, ⟨x0, y0, hTO⟩, h1, h2⟩ := st
    obtain ⟨xs, ys, x, y, hqx, hqy, hx, hy⟩ := hg
    obtain ⟨its, rv, p⟩ := seqB I hqx
    obtain ⟨its2, rv2, p2⟩ := seqB I hqy
    obtain ⟨u, hu, ru⟩ := rv.get hx
    obtain ⟨u2, hu2, ru2⟩ := rv2.get hy
    have hzl : z < s.heap.objs.size := Heap.lt_size hz
    have l1 : i < its.toArray.size := by have := (List.getElem?_eq_some_iff.mp hu).1; simpa using this
    have l2 : i < its2.toArray.size := by have := (List.getElem?_eq_some_iff.mp hu2).1; simpa using this
    refine wpAny_pyNext_zipD2_item (zipSep D) (drawsB b (A := X.A.in1) (I.ok.hd hc) i1 a D.l1i1 its.toArray) (drawsB c (A := X.A.in1) (I.ok.hd hc) i2 a' D.l2i2 its2.toArray) hz hTI hTO ⟨h1, p⟩ ⟨h2, p2⟩ l1 l2 fun v1 v2 h' tk hv1 hv2 z' TO' st1 st2 hT hsz hk => ?_
    have e1 : v1 = u := by
      have hv1 : its.toArray[i]? = some v1 := hv1
      rw [List.getElem?_toArray, hu] at hv1
      exact (Option.some.inj hv1).symm
    have e2 : v2 = u2 := by
      have hv2 : its2.toArray[i]? = some v2 := hv2
      rw [List.getElem?_toArray, hu2] at hv2
      exact (Option.some.inj hv2).symm
    subst e1 e2
    refine ⟨_, rfl, wpAny_letOwnedTupleGo_zip (s := { s with heap := h', toks := tk }) z' fun h'' z'' sb => ?_⟩
    have hT2 : h''.get? s.heap.objs.size = some { cls := .type "tuple", data := .seq #[v1, v2] } := (sb.2 _ (Nat.ne_of_gt hzl)).trans hT
    have new : ObjOk X.prog X.w (upd H s.heap.objs.size (.tup [x, y])) h'' s.heap.objs.size (.tup [x, y]) :=
      ⟨by show 2 ≤ sizeLine; decide, [v1, v2], .cons ru (.cons ru2 .nil), ⟨_, hT2, rfl, _, rfl⟩⟩
    have I1 : Inv X pins σ (upd H s.heap.objs.size (.tup [x, y])) { s with heap := h'', toks := tk } :=
      I.turnedNew (t' := tk) (ch := [z, TI, TO, i1, i2]) (fun c o hb q => (sb.2 c (fun q' => hb (by simp [q']))).trans (hk c o (fun q' => hb (by simp [q'])) (fun q' => hb (by simp [q'])) (fun q' => hb (by simp [q'])) (fun q' => hb (by simp [q'])) q)) hf (Nat.le_refl _) new
    refine ⟨.ref s.heap.objs.size, _, I1, rfl, ⟨_, x, y, rfl, I.hok.fresh (Nat.le_refl _), rfl, fun l hl => by rw [injB I hl hqx]; exact hx, fun l hl => by rw [injB I hl hqy]; exact hy⟩, ⟨z'', ?_, ⟨v1, v2, ?_⟩, ?_, ?_⟩, fun c hcm => ?_⟩
    · exact (sb.2 _ D.TIz).trans (hk _ _ D.TIz D.TITO D.TIi1 D.TIi2 hTI)
    · exact (sb.2 _ D.TOz).trans TO'
    · exact st1.1.at fun o q => (sb.2 _ D.i1z).trans q
    · exact st2.1.at fun o q => (sb.2 _ D.i2z).trans q
    · have hlt : c < s.heap.objs.size := by
        have e' : c = z ∨ c = TI ∨ c = TO ∨ c = i1 ∨ c = i2 := by simpa using hcm
        rcases e' with q | q | q | q | q
        · rw [q]; exact hzl
        · rw [q]; exact Heap.lt_size hTI
        · rw [q]; exact Heap.lt_size hTO
        · rw [q]; obtain ⟨_, e1, _⟩ := h1.obj; exact Heap.lt_size e1
        · rw [q]; obtain ⟨_, e2, _⟩ := h2.obj; exact Heap.lt_size e2
      rw [upd_ne (Nat.ne_of_lt hlt)]
      exact (hf c hcm).1
  done := by
    intro X hP hw hK hc i pins s σ H E I hf st hg
    subst hP hw hK
    obtain ⟨hz, hTI, ⟨x0, y0, hTO⟩, h1, h2⟩ := st
    obtain ⟨xs, ys, hqx, hqy, le1, le2, hend⟩ := hg
    obtain ⟨its, rv, p⟩ := seqB I hqx
    obtain ⟨its2, rv2, p2⟩ := seqB I hqy
    have l1 := rv.length
    have l2 := rv2.length
    exact wpAny_pyNext_zipD2_end (zipSep D) (drawsB b (A := X.A.in1) (I.ok.hd hc) i1 a D.l1i1 its.toArray) (drawsB c (A := X.A.in1) (I.ok.hd hc) i2 a' D.l2i2 its2.toArray) hz hTI hTO ⟨h1, p⟩ ⟨h2, p2⟩ (by simp; omega) (by simp; omega) (by simp; omega) fun h' tk hk => ⟨rfl, I.turnedL (t' := tk) (ch := [z, TI, TO, i1, i2]) (fun c o hb q =>
      hk c o (fun q' => hb (by simp [q'])) (fun q' => hb (by simp [q'])) (fun q' => hb (by simp [q'])) (fun q' => hb (by simp [q'])) q) hf⟩
  self := fun A i s Q E st h => wpAny_pyIter_zip st.1 h
def iZipB (K : PySem.W.Frag) (ta : TA) : TI := fun σ H R => ta σ H fun vs H1 => ∃ b c a a' xs ys, vs = [.ref a, .ref a'] ∧ SqB b K H1 a xs ∧ SqB c K H1 a' ys ∧ R (ItzB b c K a a') H1
theorem pi_zipB {X : Cx} {e e2 : Expr} {ta : TA} {p pos tpos : Pos} {elts : List Expr} {kk : Nat} (hg : Gl X "zip") (hm : X.mg "zip" = none) (ha : PA X [e, e2] ta)
    (hs : starEach [e, e2] X.env = (false, eval e X.env) :: starEach [e2] X.env := by rfl) (hpl : (backTo pos (starEach [e2] X.env)).any (·.1) = false := by rfl) :
    PI X (.Tuple elts kk tpos) (.Call (.Name "zip" p) [e, e2] [] pos) (iZipB X.K ta) := by
  refine ⟨fun pins s σ H R I h => ?_⟩
  refine Call_ (ld_blt I hg hm PyProof.Rows.boot_zip (PyProof.Rows.callWith_type1 (thn (ha.run pos pins s σ H _ I h) fun us s1 ⟨vs, H1, I1, r1, q1⟩ => ?_) hs hpl))
  obtain ⟨b, c, a, a', xs, ys, ex, hqx, hqy, q⟩ := q1
  subst ex
  cases r1 with
  | cons r rr =>
    cases rr with
    | cons r' rr =>
      cases rr
      cases r
      cases r'
      have fresh5 : ∀ c, c ∈ [s1.heap.objs.size + 4, s1.heap.objs.size + 2, s1.heap.objs.size + 3, s1.heap.objs.size, s1.heap.objs.size + 1] → FpOk X pins H1 c := fun c hcm => by
        have e' : c = s1.heap.objs.size + 4 ∨ c = s1.heap.objs.size + 2 ∨ c = s1.heap.objs.size + 3 ∨ c = s1.heap.objs.size ∨ c = s1.heap.objs.size + 1 := by simpa using hcm
        have hle : s1.heap.objs.size ≤ c := by
          rcases e' with z | z | z | z | z
          · rw [z]; exact Nat.le_add_right _ _
          · rw [z]; exact Nat.le_add_right _ _
          · rw [z]; exact Nat.le_add_right _ _
          · rw [z]; exact Nat.le_refl _
          · rw [z]; exact Nat.le_add_right _ _
        exact I1.fpOk hle (I1.hok.fresh hle)
      obtain ⟨its, rv, p1⟩ := seqB I1 hqx
      obtain ⟨its2, rv2, p2⟩ := seqB I1 hqy
      refine zip_begins2 (beginsB b a its.toArray) (beginsB c a' its2.toArray) p1 p2 fun h' hz hTI hTO h1 h2 hsz hk => wpAny_pyIter_zip hz ?_
      have I2 : Inv X pins σ H1 { s1 with heap := h' } := I1.kept (t' := s1.toks) hk
      exact ⟨s1.heap.objs.size + 4, [s1.heap.objs.size + 4, s1.heap.objs.size + 2, s1.heap.objs.size + 3, s1.heap.objs.size, s1.heap.objs.size + 1], _, _, H1, rfl, I2, turn_zipB (PySem.W.ktu_apart s1.heap.objs.size a a' (isB_lt p1) (isB_lt p2)), ⟨hz, hTI, ⟨_, _, hTO⟩, itB_new h1, itB_new h2⟩, fresh5, q⟩
theorem walk_zipB {K : PySem.W.Frag} {b c : Bool} {a a' : Addr} {xs ys : List V} {n : Nat} (hn : n = min xs.length ys.length) : Walk (ItzB b c K a a') n (fun H => SqB b K H a xs ∧ SqB c K H a' ys) (YPair (fun i => xs[i]?) (fun i => ys[i]?)) := by
  subst hn
  refine ⟨fun i _ hi q => ?_, fun _ q => ⟨xs, ys, q.1, q.2, by omega, by omega, by omega⟩, fun i H v H' _ q y => ?_⟩
  · have h1 : i < xs.length := by omega
    have h2 : i < ys.length := by omega
    exact ⟨xs, ys, xs[i], ys[i], q.1, q.2, by simp [h1], by simp [h2]⟩
  · obtain ⟨T, x, z, h1, h2, h3, h4, h5⟩ := y
    exact ⟨T, x, z, h1, h2, h3, h4 xs q.1, h5 ys q.2⟩
end L2
namespace Py
open PySem PySem.Spec PyProof.Rows L2
section
variable {G : Gc} {W : WX} {X : Cx} {e a b tg : Expr} {m m' : Mu} {H H' : Hp} {S : Store} {σ : Sg} {pos p : Pos} {kp : Addr → Prop}
def sqD : D → Option (Bool × List D)
  | .tup ds => some (true, ds)
  | .lst ds => some (false, ds)
  | _ => none
def zpB : List D → Option (List D)
  | [d, e] => (sqD d).bind fun x => (sqD e).map fun y => (x.2.zip y.2).map fun x => .tup [x.1, x.2]
  | _ => none
theorem sqD_ok {d : D} {v : V} {b : Bool} {ds : List D} (h : sqD d = some (b, ds)) (r : Rp G m H d v) : ∃ a xs, v = .ref a ∧ RpL G m H ds xs ∧ ∀ m' H', Lx G kp m H m' H' → SqB b G.K H' a xs := by
  unfold sqD at h
  split at h
  · cases h
    obtain ⟨a, xs, rfl, q1, q2⟩ := r
    exact ⟨a, xs, rfl, q2, fun m' H' l => (l.tups a xs q1).sq⟩
  · cases h
    obtain ⟨a, xs, rfl, q1, q3, q2⟩ := r
    exact ⟨a, xs, rfl, q2, fun m' H' l => SqL.of (nt_some (l.lsts a _ (nt_of q1 fun _ z => by cases z) q3).1).1⟩
  · cases h
theorem serv_zipB {d : List D} {ds : List D} {vs : List V} {R : It → Hp → Prop} (h : zpB d = some ds) (r : RpL G m H d vs) (k : ∀ J, Serv G kp m H ds J → R J H) :
    ∃ b c a a' xs ys, vs = [.ref a, .ref a'] ∧ SqB b G.K H a xs ∧ SqB c G.K H a' ys ∧ R (ItzB b c G.K a a') H := by
  unfold zpB at h
  split at h
  · rename_i d e
    obtain ⟨⟨b, ds1⟩, h1, h⟩ := Option.bind_eq_some_iff.mp h
    obtain ⟨⟨c, ds2⟩, h2, rfl⟩ := Option.map_eq_some_iff.mp h
    obtain ⟨v, t, rfl, r1, v', t', rfl, r2, rfl⟩ := r
    obtain ⟨a, xs, rfl, q1, q2⟩ := sqD_ok (kp := kp) h1 r1
    obtain ⟨a', ys, rfl, p1, p2⟩ := sqD_ok (kp := kp) h2 r2
    have l0 : Lx G kp m H m H := Lx.refl
    exact ⟨b, c, a, a', xs, ys, rfl, q2 _ _ l0, p2 _ _ l0, k _ (serv_pair (n := min xs.length ys.length) (by simp [q1.length, p1.length]) (walk_zipB rfl) (fun m' H' l => ⟨q2 m' H' l, p2 m' H' l⟩) fun i x y hi e1 e2 => zip_at q1 p1 i x y e1 e2)⟩
  · cases h
theorem ji_zipB {r : DA} {elts : List Expr} {kk : Nat} {tpos : Pos} (hK : X.K = G.K) (hg : Gl X "zip") (hm : X.mg "zip" = none) (ha : PA X [a, b] (tA G W r)) (hs : starB a = false) (hs2 : starB b = false) : PI X (.Tuple elts kk tpos) (.Call (.Name "zip" p) [a, b] [] pos) (tI G W (dRg zpB r)) :=
  pi_imp (pi_zipB hg hm ha (starEach_plain hs) (backTo_plain (by simp [hs2]))) fun σ H R ⟨kp, m, ρ, S, hS, hE, h⟩ => ⟨m, ρ, S, hS, hE, (Aft.bind h).imp fun x S1 m1 H1 l1 hS1 h1 vs rvs => by
    obtain ⟨ds, e, k⟩ := aft_optG h1 hS1
    rw [hK]
    exact serv_zipB e rvs k⟩
/-- list(x), x also a list of the store -/
def qListS (S : Store) : List D → Option (List D)
  | [.tup ds] => some ds
  | [d] => lstOf S d
  | _ => none
theorem jl_listS {r : DA} {es : List Expr} (hK : X.K = G.K) (hg : Gl X "list") (hm : X.mg "list" = none) (ha : PA X (e :: es) (tB G W r)) (hs : (e :: es).any starB = false) : PE X (.Call (.Name "list" p) (e :: es) [] pos) (tL G W (dPrL qListS r)) := by
  rw [List.any_cons, Bool.or_eq_false_iff] at hs
  exact pe_imp (pe_callTy call_list_of hg hm PyProof.Rows.boot_list ha (by decide) (by decide) (starEach_plain hs.1) (backTo_plain hs.2)) fun σ H Q ⟨m, ρ, S, hS, hE, h⟩ => ⟨m, ρ, S, hS, hE, (AftL.of h).imp fun xs S1 m1 H1 l1 hS1 h1 vs rvs => by
    obtain ⟨ds, e9, h9⟩ := aftL_opt h1
    clear h1
    unfold qListS at e9
    split at e9
    · cases e9
      obtain ⟨v, rfl, rv⟩ := rvs.one
      obtain ⟨a, xs, rfl, q1, q2⟩ := rv
      exact ⟨a, xs, rfl, .inr (by rw [hK]; exact q1.sq), fun l hl => AftL.new h9 hS1 q2 hl⟩
    · obtain ⟨v, rfl, rv⟩ := rvs.one
      obtain ⟨a, xs, rfl, q1, q2⟩ := lst_ok hS1 e9 rv
      exact ⟨a, xs, rfl, .inl (by rw [hK]; exact q1), fun l hl => AftL.new h9 hS1 q2 hl⟩
    · cases e9⟩
end
end Py

/-! Part 33: a call without the store: data in, data out. -/
namespace Py
open PySem PySem.Spec PyProof.Rows L2
mutual
/-- no object of the store within -/
def D.pure : D → Bool
  | .ref _ => false
  | .tup ds => pureL ds
  | .lst ds => pureL ds
  | _ => true
def pureL : List D → Bool
  | [] => true
  | d :: ds => d.pure && pureL ds
end
def iso (run : List D → M D) : List D → M D := fun xs S => if pureL xs = true then (match run xs [] with
  | .ok v _ => if v.pure = true then .ok v S else .bad
  | .exc c _ => .exc c S
  | .bad => .bad) else .bad
section
variable {G : Gc} {m m' : Mu} {H H' : Hp} {S S' : Store}
mutual
theorem Rp.pure (h : ∀ a, m.has a ↔ m'.has a) : ∀ (d : D) (v : V), d.pure = true → Rp G m H d v → Rp G m' H d v
  | .non, _, _, r => r
  | .bl _, _, _, r => r
  | .int _, _, _, r => r
  | .str _, _, _, r => r
  | .ty _, _, _, r => r
  | .ref _, _, e, _ => by cases e
  | .glo _, _, _, r => r
  | .tup ds, _, e, ⟨a, xs, e1, h1, h2⟩ => ⟨a, xs, e1, h1, RpL.pure h ds xs e h2⟩
  | .lst ds, _, e, ⟨a, xs, e1, h1, h2, h3⟩ => ⟨a, xs, e1, h1, fun z => h2 ((h a).mpr z), RpL.pure h ds xs e h3⟩
  | .emp, _, _, ⟨a, e1, h1, h2⟩ => ⟨a, e1, h1, fun z => h2 ((h a).mpr z)⟩
  | .pt0, _, _, ⟨a, e1, h1, h2⟩ => ⟨a, e1, h1, fun z => h2 ((h a).mpr z)⟩
theorem RpL.pure (h : ∀ a, m.has a ↔ m'.has a) : ∀ (ds : List D) (xs : List V), pureL ds = true → RpL G m H ds xs → RpL G m' H ds xs
  | [], _, _, r => r
  | d :: ds, _, e, ⟨v, r, e1, h1, h2⟩ => by
    have e2 : (d.pure && pureL ds) = true := e
    rw [Bool.and_eq_true] at e2
    exact ⟨v, r, e1, Rp.pure h d v e2.1 h1, RpL.pure h ds r e2.2 h2⟩
end
/-- all that is in the store put aside -/
def Mu.aside (m : Mu) : Mu := ⟨[], fun a => m.has a⟩
theorem aside_has {a : Addr} : m.aside.has a ↔ m.has a := by
  constructor
  · rintro (z | z)
    · cases z
    · exact z
  · exact fun z => .inr z
theorem nt_obO {ob : Ob} {a : Addr} (h : RpO G m H ob a) : nt H a ≠ none := by
  cases ob with
  | lst ds => obtain ⟨xs, e, r⟩ := h; rw [nt_of e fun _ z => by cases z]; simp
  | frz ds => obtain ⟨o, xs, e, r⟩ := h; rw [nt_of e fun _ z => by cases z]; simp
  | dK ds => obtain ⟨xs, e, r⟩ := h; rw [nt_of e fun _ z => by cases z]; simp
  | dT ds => obtain ⟨xs, e, r⟩ := h; rw [nt_of e fun _ z => by cases z]; simp
  | ins c ds => obtain ⟨C, dx, xs, e1, e, r⟩ := h; rw [nt_of e fun _ z => by cases z]; simp
  | dN ds => obtain ⟨xs, e, r⟩ := h; rw [nt_of e fun _ z => by unfold DictN at z; cases z]; simp
theorem Holds.aside (h : Holds G m H S) : Holds G m.aside H [] :=
  ⟨rfl, List.nodup_nil, fun n ob a e _ => (by cases e), fun a _ z => (by cases z), fun a q => by
    rcases q with q | q
    · obtain ⟨n, hn, e⟩ := List.mem_iff_getElem.mp q
      have hl := h.len
      exact nt_obO (h.ob n S[n] a (by simp) (by rw [← e]; simp))
    · exact h.there a q, h.tabs⟩
theorem Le.unaside (l : Le G m.aside H m' H') : Le G m H m H' :=
  ⟨⟨[], by simp, by simp⟩, rfl, fun a o h _ => l.kept a o h (by show a ∉ []; simp), l.tups, l.there⟩
theorem Holds.unaside (h : Holds G m H S) (l : Le G m.aside H m' H') (t : LamX.Tabs G.tabs H') : Holds G m H' S :=
  ⟨h.len, h.nd, fun n ob a e1 e2 => (h.ob n ob a e1 e2).mono (fun o no e => (nt_some (l.kept a o (nt_of e no) (by show a ∉ []; simp))).1) fun d v r => l.unaside.rp r, h.dis, fun a q => l.there a (h.there a q), t⟩
theorem unaside_has (l : Le G m.aside H m' H') {a : Addr} (z : m.has a) : m'.has a := .inr (by rw [l.O]; exact z)
mutual
theorem Rp.back (h : ∀ a, m.has a → m'.has a) : ∀ (d : D) (v : V), d.pure = true → Rp G m' H d v → Rp G m H d v
  | .non, _, _, r => r
  | .bl _, _, _, r => r
  | .int _, _, _, r => r
  | .str _, _, _, r => r
  | .ty _, _, _, r => r
  | .ref _, _, e, _ => by cases e
  | .glo _, _, _, r => r
  | .tup ds, _, e, ⟨a, xs, e1, h1, h2⟩ => ⟨a, xs, e1, h1, RpL.back h ds xs e h2⟩
  | .lst ds, _, e, ⟨a, xs, e1, h1, h2, h3⟩ => ⟨a, xs, e1, h1, fun z => h2 (h a z), RpL.back h ds xs e h3⟩
  | .emp, _, _, ⟨a, e1, h1, h2⟩ => ⟨a, e1, h1, fun z => h2 (h a z)⟩
  | .pt0, _, _, ⟨a, e1, h1, h2⟩ => ⟨a, e1, h1, fun z => h2 (h a z)⟩
theorem RpL.back (h : ∀ a, m.has a → m'.has a) : ∀ (ds : List D) (xs : List V), pureL ds = true → RpL G m' H ds xs → RpL G m H ds xs
  | [], _, _, r => r
  | d :: ds, _, e, ⟨v, r, e1, h1, h2⟩ => by
    have e2 : (d.pure && pureL ds) = true := e
    rw [Bool.and_eq_true] at e2
    exact ⟨v, r, e1, Rp.back h d v e2.1 h1, RpL.back h ds r e2.2 h2⟩
end
/-- the promise of a def, of data alone -/
theorem spF_iso {n : Nat} {run : List D → M D} {vs : List V} {Q : VK} {E : XK} (h : spF G n (iso run) vs H Q E) : spF G n run vs H Q E := by
  obtain ⟨m, S, ds, hl, hS, r, h⟩ := h
  unfold iso at h
  by_cases hp : pureL ds = true
  · rw [if_pos hp] at h
    refine ⟨m.aside, [], ds, hl, hS.aside, RpL.pure (fun a => aside_has.symm) ds vs hp r, ?_⟩
    cases q : run ds [] with
    | ok v S1 =>
      rw [q] at h
      by_cases hv : v.pure = true
      · simp only [hv, if_true] at h
        exact fun m' H' l hS' u ru => h m H' l.unaside (hS.unaside l hS'.tabs) u (Rp.back (fun a z => unaside_has l z) v u hv ru)
      · simp only [hv] at h
        exact h.elim
    | exc c S1 =>
      rw [q] at h
      exact fun m' H' l hS' ca e => h m H' l.unaside (hS.unaside l hS'.tabs) ca e
    | bad =>
      rw [q] at h
      exact h.elim
  · rw [if_neg hp] at h
    exact h.elim
theorem callee_iso {P : Program} {w : World} {mg : Str → Option Value} {base : Heap} {x : Str} {k n : Nat} {ps : List Str} {run : List D → M D} (F : Callee P w G mg base x k n ps run) : Callee P w G mg base x k n ps (iso run) := by
  obtain ⟨f, fd, h1, h2, h3, h4, h5⟩ := F
  exact ⟨f, fd, h1, h2, h3, h4.imp fun vs H Q E h => spF_iso h, h5⟩
end
end Py

/-! Part 34: the law's end, with tables of code objects. -/
namespace Py
open PySem PySem.Spec PyProof.Rows L2
/-- the makers' code objects and tables, the lambdas' names -/
def csOf (K : PySem.W.Frag) (tf : List Str) : List (Addr × Addr) := tf.map fun x => He.cT K (x, none)
def tbOf (K : PySem.W.Frag) (tf : List Str) : List (Addr × Str) := tf.map fun x => ((He.cT K (x, none)).2, lamQ x)
def exB (tl : List (Str × List L2.Key)) (tf : List Str) (K : PySem.W.Frag) : Bool := noL K && (tlB tl K && decide ((tf.map fun x => (He.cT K (x, none)).2).Nodup))
def hookL (n : Nat) (fa : List He.Fa) (fn : List He.DefD) (tl : List (Str × List L2.Key)) (tf : List Str) : PySem.W.Hook := He.hookX n fa fn [] (tf.map fun x => (x, none)) (exB tl tf)
def obL (n : Nat) (fa : List He.Fa) (fn : List He.DefD) (tl : List (Str × List L2.Key)) (tf : List Str) (g : Addr → Option Obj) : He.AlX := He.obsX n fa fn [] (tf.map fun x => (x, none)) (exB tl tf) g
theorem obL_eq {n : Nat} {fa : List He.Fa} {fn : List He.DefD} {tl : List (Str × List L2.Key)} {tf : List Str} {g : Addr → Option Obj} {s : Shared} (h : ∀ a, g a = s.heap.get? a) : obL n fa fn tl tf g = (hookL n fa fn tl tf).obs s := He.obsX_eq h
/-- the script: read only, or a list -/
def ScB (ob : Ob) (ns : List Int) : Prop := ob = .frz (ns.map D.int) ∨ ob = .lst (ns.map D.int)
theorem sp_lawT {G : Gc} {run : List D → M D} {H : Hp} {a : Addr} {ns : List Int} (nl : noL G.K = true) (ht : LamX.Tabs G.tabs H) (hS : SqL G.K H a (ns.map V.int)) (h : ∀ ob, ScB ob ns → ∃ S', run [.ref 0] [ob] = .ok (.bl true) S') :
    spF G 1 run [.ref a] H (fun v _ => v = .bl true) fun _ _ _ => False := by
  have key : ∀ ob, ScB ob ns → RpO G ⟨[a], fun _ => False⟩ H ob a → spF G 1 run [.ref a] H (fun v _ => v = .bl true) fun _ _ _ => False := fun ob hb ho => by
    obtain ⟨S', hr⟩ := h ob hb
    refine ⟨⟨[a], fun _ => False⟩, [ob], [.ref 0], rfl, ⟨rfl, by simp, fun n ob' b e1 e2 => ?_, fun _ z => z.elim, fun _ z => z.elim, ht⟩, ⟨.ref a, [], rfl, ⟨a, rfl, rfl⟩, rfl⟩, ?_⟩
    · cases n with
      | zero =>
        cases e1
        cases e2
        exact ho
      | succ n => cases e1
    · rw [hr]
      exact fun m' H' l hS v rv => rv
  rcases hS with (q | ⟨o, q⟩) | ⟨o, its, n, q1, q2, _⟩
  · exact key _ (.inr rfl) ⟨_, q, RpL.ofInts ns⟩
  · exact key _ (.inl rfl) ⟨o, _, q, RpL.ofInts ns⟩
  · exact (noL_ok nl q1 q2).elim
theorem tbs_of {w : World} {K : PySem.W.Frag} {mg : Str → Option Value} {base : Heap} {fa : List He.Fa} {fn : List He.DefD} {tf : List Str} {ad : Nat → Option Addr} {li : List (List L2.Key)} (c : He.SaysD fa fn K) (hf : ∀ x ∈ tf, ∃ (i : Nat) (st : Stmt), fn[i]? = some (dfA x x st)) (nd : (tf.map fun x => (He.cT K (x, none)).2).Nodup)
    (T : ∀ p ∈ csOf K tf, LamX.TabB base mg p.1 p.2) : Tbs ⟨K, ad, li, tbOf K tf, w⟩ mg base tf := fun x hx oc od fd osl lk => by
  obtain ⟨i, st, hi⟩ := hf x hx
  obtain ⟨fd', F⟩ := c.def_ i hi
  have F : FunD K x x (defArgs st) (defBody st) (defScope st) [] [] (He.ga K x) fd' := F
  obtain ⟨oc', od', dV, kV, doc, pm, an, cdv, ct, osl', e, lk', hcd, _⟩ := F.ex
  have e0 : some (⟨oc, od, .func fd, osl⟩ : Obj) = some ⟨oc', od', .func fd', osl'⟩ := lk.symm.trans lk'
  cases e0
  subst e
  obtain ⟨cc, e1⟩ := He.codeIn_ref hcd
  have e2 : He.codeOf K (x, none) = cc := He.codeOf_eq (p := (x, none)) lk (show cdv = .ref cc from e1)
  have hm : He.cT K (x, none) ∈ csOf K tf := List.mem_map.mpr ⟨x, hx, rfl⟩
  refine ⟨cc, (He.cT K (x, none)).2, e1, ?_, List.mem_map.mpr ⟨x, hx, rfl⟩, fun p hp h1 => ?_⟩
  · have := T _ hm
    have e3 : (He.cT K (x, none)).1 = cc := e2
    rw [e3] at this
    exact this
  · obtain ⟨y, hy, rfl⟩ := List.mem_map.mp hp
    have h1 : (He.cT K (y, none)).2 = (He.cT K (x, none)).2 := h1
    have : y = x := by
      have key : ∀ {l : List Str}, (l.map fun x => (He.cT K (x, none)).2).Nodup → x ∈ l → y ∈ l → y = x := by
        intro l
        induction l with
        | nil => intro _ h; cases h
        | cons z r ih =>
          intro n h2 h3
          rw [List.map_cons, List.nodup_cons] at n
          rcases List.mem_cons.mp h2 with h2 | h2
          · rcases List.mem_cons.mp h3 with h3 | h3
            · exact h3.trans h2.symm
            · rw [← h2] at n
              exact (n.1 (List.mem_map.mpr ⟨y, h3, h1⟩)).elim
          · rcases List.mem_cons.mp h3 with h3 | h3
            · rw [← h3] at n
              exact (n.1 (List.mem_map.mpr ⟨x, h2, h1.symm⟩)).elim
            · exact ih n.2 h2 h3
      exact key nd hx hy
    rw [this]
/-- the end -/
theorem end_ofT {l : PySem.W.OpenLaw} {w : World} {mg : Str → Option Value} {fa : Addr} {h : Heap} {fas : List He.Fa} {fn : List He.DefD} {tl : List (Str × List L2.Key)} {cl tf : List Str} {k : Nat} {run : List D → M D} {n : Nat}
    (ok : ∀ (G : Gc) (base : Heap), G.w = w → Zf G mg fas fn tl cl → Tbs G mg base tf → Callee l.prog w G mg base "law" k 1 ["script"] run)
    (hf : ∀ x ∈ tf, ∃ (i : Nat) (st : Stmt), fn[i]? = some (dfA x x st))
    (hlaw : ∃ (i j : Nat) (st : Stmt), fn[i]? = some (dfA "law" "law" st) ∧ fas[j]? = some (.glo "law") ∧ ∀ (kV doc pm : Value) (an : Option Addr) (cdv ct : Value) (us : List Value), us.length = (["script"] : List Str).length → bindArgs (PySem.W.fnOf "law" "law" (defArgs st) (defBody st) (defScope st) .none kV doc pm an cdv ct) ⟨us, []⟩ = pure ((["script"] : List Str).zip us))
    (Y : ∃ K : PySem.W.Frag, K.In h ∧ He.SaysX fas fn [] (tf.map fun x => (x, none)) (exB tl tf) w h K) (G : h.Ns mainGlobals mg) (hmg : mg "law" = some (.ref fa))
    (hl : ∀ ns : List Int, ns.length ≤ n → (∀ z ∈ ns, Builtin.Int.intBits z ≤ 1048576) → ∀ ob, ScB ob ns → ∃ S', run [.ref 0] [ob] = .ok (.bl true) S') :
    ∃ K : PySem.W.Frag, K.In h ∧ LamX.LawAtS l w K (L2.CX l.prog w) k n "script" mg fa h := by
  obtain ⟨K, KX, c⟩ := Y
  have cD : He.SaysD fas fn K := congrArg (fun z : He.AlT => z.1) c.t
  have hx := c.more
  unfold exB at hx
  rw [Bool.and_eq_true, Bool.and_eq_true] at hx
  obtain ⟨nl, tb, nd⟩ := hx
  have nd := of_decide_eq_true nd
  have Z : Zf ⟨K, fun n => (cl[n]?).map (He.ga K), tl.map Prod.snd, tbOf K tf, w⟩ mg fas fn tl cl := ⟨cD, fun q hq => List.all_eq_true.mp tb q hq, rfl, fun n x e => by show (cl[n]?).map (He.ga K) = _; rw [e]; rfl, h, KX, G⟩
  obtain ⟨il, jl, st, hi, hj, hbd⟩ := hlaw
  obtain ⟨fd, F⟩ := cD.def_ il hi
  have F : FunD K "law" "law" (defArgs st) (defBody st) (defScope st) [] [] (He.ga K "law") fd := F
  have b2 := F.bindsA hbd
  obtain ⟨oc, od, dV, kV, doc, pm, an, cdv, ct, osl, e, lk, hcd, _⟩ := id F.ex
  have hg := Z.glo jl hj
  rw [hmg] at hg
  cases hg
  have cs_mem : ∀ p ∈ csOf K tf, ∃ x ∈ tf, p = He.cT K (x, none) := fun p hp => by
    obtain ⟨x, hx, rfl⟩ := List.mem_map.mp hp
    exact ⟨x, hx, rfl⟩
  refine ⟨K, KX, fd, csOf K tf, spF ⟨K, fun n => (cl[n]?).map (He.ga K), tl.map Prod.snd, tbOf K tf, w⟩ 1 run, fun p hp => ?_, fun p hp => ?_, fun p hp => ?_, fun s u => b2 s [u] rfl, fun H a ns hlen hb hT hS => ?_, fun base hK hN T => ?_⟩
  · obtain ⟨x, hx, rfl⟩ := cs_mem p hp
    exact c.empty _ (List.mem_map.mpr ⟨x, hx, rfl⟩)
  · obtain ⟨x, hx, rfl⟩ := cs_mem p hp
    exact c.out _ (List.mem_map.mpr ⟨x, hx, rfl⟩)
  · obtain ⟨x, hx, rfl⟩ := cs_mem p hp
    exact PySem.W.codeHd_of_K KX (c.hd _ (List.mem_map.mpr ⟨x, hx, rfl⟩))
  · refine sp_lawT nl (fun p hp => ?_) hS (hl ns hlen hb)
    obtain ⟨x, hx, rfl⟩ := List.mem_map.mp hp
    exact LamX.TabS.nil (hT (He.cT K (x, none)) (List.mem_map.mpr ⟨x, hx, rfl⟩))
  · obtain ⟨f', fd', k1, k2, k3, k4, k5, oc', od', osl', k6⟩ := ok ⟨K, fun n => (cl[n]?).map (He.ga K), tl.map Prod.snd, tbOf K tf, w⟩ base rfl Z (tbs_of cD hf nd T)
    rw [hmg] at k1
    cases k1
    have e0 : some (⟨oc, od, .func fd, osl⟩ : Obj) = some ⟨oc', od', .func fd', osl'⟩ := lk.symm.trans k6
    cases e0
    exact k4
end Py
namespace Py
open PySem PySem.Spec PyProof.Rows L2
/-- the head's run, looked at in parts -/
noncomputable def endL (r : PySem.W.OpenRow) (M : Nat) (w : World) (os : OsState) : Option PySem.W.SharedT := HandSHeadRun.endF (HandSHeadRun.stepQ (HandSHeadRun.denQ HandSHeadRun.tabQ) r.prog w) M r.prog w os
def frL (n : Nat) (s : PySem.W.SharedT) : PySem.W.Frag := He.frT (HandSHeadRun.getT s) (He.asD (HandSHeadRun.getT s) n)
theorem runL_of {r : PySem.W.OpenRow} {q : Program} {n : Nat} {fa : List He.Fa} {fn : List He.DefD} {tl : List (Str × List L2.Key)} {tf : List Str} {M : Nat} {loose : List Str} {w : World} (fas : List (List He.Fa)) (fns : List (List He.DefD)) (ef : fas.flatten = fa) (en : fns.flatten = fn)
    (A : ∀ os, (endL r M w os).map (fun s => (HandSHeadRun.looksF r.prog (PySem.W.boot_heap w.params) s.abs, HandSHeadRun.seenQ q loose (importedModules r.prog.main.body) (fun s => PySem.W.xlAt q [] s && PySem.W.recOk r.toRowW.records s) s.abs, exB tl tf (frL n s) && He.tabsB (HandSHeadRun.getT s) (tf.map fun x => (x, none)) (frL n s))) = some (true, PySem.W.openGood q loose, true))
    (B : ∀ c ∈ fas, ∀ os, (endL r M w os).map (fun s => c.all fun f => f.ok (frL n s)) = some true)
    (C : ∀ c ∈ fns, ∀ os, (endL r M w os).map (fun s => (c.all (fun d => d.ok (frL n s)), c.map fun d => He.fnW (frL n s) d.at_)) = some (true, c.map He.DefD.val)) :
    HandSHeadRun.RunEq r q (hookL n fa fn tl tf) (fun s => obL n fa fn tl tf (HandSHeadRun.getT s)) M loose w := by
  intro os
  have A := A os
  have B : ∀ c ∈ fas, (endL r M w os).map (fun s => c.all fun f => f.ok (frL n s)) = some true := fun c hc => B c hc os
  have C : ∀ c ∈ fns, (endL r M w os).map (fun s => (c.all (fun d => d.ok (frL n s)), c.map fun d => He.fnW (frL n s) d.at_)) = some (true, c.map He.DefD.val) := fun c hc => C c hc os
  show (endL r M w os).map _ = _
  cases e : endL r M w os with
  | none =>
    rw [e] at A
    cases A
  | some s =>
    rw [e] at A B C
    have A := Option.some.inj A
    injection A with A1 A2
    injection A2 with A2 A3
    have hfa : (fa.all fun f => f.ok (frL n s)) = true := by
      rw [← ef, List.all_flatten, List.all_eq_true]
      exact fun c hc => Option.some.inj (B c hc)
    have hfn : (fn.all fun f => f.ok (frL n s)) = true := by
      rw [← en, List.all_flatten, List.all_eq_true]
      intro c hc
      have := Option.some.inj (C c hc)
      injection this
    have hfw : (fn.map fun d => He.fnW (frL n s) d.at_) = fn.map He.DefD.val := by
      rw [← en, List.map_flatten, List.map_flatten]
      congr 1
      apply List.map_congr_left
      intro c hc
      have := Option.some.inj (C c hc)
      injection this
    have e1 : obL n fa fn tl tf (HandSHeadRun.getT s) = (hookL n fa fn tl tf).val w := by
      show ((((fa.all fun f => f.ok (frL n s)) && fn.all fun d => d.ok (frL n s), fn.map fun d => He.fnW (frL n s) d.at_), _), exB tl tf (frL n s) && He.tabsB (HandSHeadRun.getT s) (tf.map fun x => (x, none)) (frL n s)) = _
      rw [hfa, hfn, hfw, A3]
      rfl
    show some (_, _, obL n fa fn tl tf (HandSHeadRun.getT s)) = _
    rw [e1, A1, A2]
    rfl
end Py

/-! Part 35: dicts whose keys are tuples of any depth. -/
namespace Py
open PySem PySem.Spec PyProof.Rows L2
/-! ### a dict's object is no code object -/
theorem dictN_ne {w : World} {a c : Addr} {q : Str} {xs : List (NestedKey × Addr × V)} : DictN w a xs ≠ LamX.CodeO c q := fun z => by
  unfold DictN LamX.CodeO at z
  injection z with z
  by_cases e : a = c
  · subst e
    let ob : Obj := { cls := .none, data := .fields #[.none, .str q 0] }
    let h : Heap := ⟨(List.replicate (a + 1) ob).toArray, {}⟩
    have hg : h.get? a = some ob := by
      have : h.objs[a]? = some ob := by simp [h]
      unfold Heap.get?
      rw [this]
    have hp := congrFun z h
    have : (∃ (oc : Obj) (vs : Array Value) (t : Tok), h.get? a = some oc ∧ oc.data = .fields vs ∧ vs[1]? = some (.str q t)) := ⟨ob, _, 0, hg, rfl, rfl⟩
    rw [← hp] at this
    obtain ⟨_, _, ys, _, o, es, ep, e1, _, e2, _⟩ := this
    rw [hg] at e1
    cases e1
    cases e2
  · let ob : Obj := { cls := .none, data := .fields #[.none, .str q 0] }
    let h : Heap := ⟨(List.replicate (c + 1) ob).toArray, {}⟩
    have hg : h.get? c = some ob := by
      have : h.objs[c]? = some ob := by simp [h]
      unfold Heap.get?
      rw [this]
    have hp := congrFun z h
    have : (∃ (oc : Obj) (vs : Array Value) (t : Tok), h.get? c = some oc ∧ oc.data = .fields vs ∧ vs[1]? = some (.str q t)) := ⟨ob, _, 0, hg, rfl, rfl⟩
    rw [← hp] at this
    obtain ⟨_, _, ys, _, o, es, ep, e1, _, e2, _⟩ := this
    have e1 : h.get? a = some o := e1
    by_cases l : a < c + 1
    · have : h.get? a = some ob := by
        have : h.objs[a]? = some ob := by simp [h, l]
        unfold Heap.get?
        rw [this]
      rw [this] at e1
      cases e1
      cases e2
    · have : h.get? a = none := by
        have : h.objs[a]? = none := by simp [h, l]
        unfold Heap.get?
        rw [this]
      rw [this] at e1
      cases e1
theorem nt_dN {w : World} {a : Addr} {xs : List (NestedKey × Addr × V)} : NotT (DictN w a xs) := ⟨(fun _ z => by unfold DictN at z; cases z), (fun _ _ z => by unfold DictN at z; cases z), (fun _ z => by unfold DictN at z; cases z), fun _ _ => dictN_ne⟩
/-! ### keys and values -/
section
variable {G : Gc} {X : Cx} {m m' : Mu} {H H' : Hp} {S : Store} {σ : Sg} {s : Shared} {pins : List (Addr × Obj)}
mutual
theorem nested_of (I : Inv X pins σ H s) (hK : X.K = G.K) : ∀ (d : D) (v : V) (u : Value) (k : NestedKey), nkOf d = some k → Rp G m H d v → RelV v u → NestedIs s.heap k u
  | .non, v, u, k, e, r, ru => by
    cases e
    obtain rfl : v = .non := r
    obtain rfl : u = Value.none := ru
    exact .none
  | .bl b, v, u, k, e, r, ru => by
    cases e
    obtain rfl : v = .bl b := r
    obtain rfl : u = Value.bool b := ru
    exact .bool rfl
  | .int i, v, u, k, e, r, ru => by
    cases e
    obtain rfl : v = .int i := r
    obtain ⟨t, rfl⟩ := (show ∃ t, u = Value.int i t from ru)
    exact .int i t
  | .str x, v, u, k, e, r, ru => by
    cases e
    obtain rfl : v = .str x := r
    obtain ⟨t, rfl⟩ := (show ∃ t, u = Value.str x t from ru)
    exact .text x t
  | .tup ds, v, u, k, e, r, ru => by
    obtain ⟨ks, e1, rfl⟩ := Option.map_eq_some_iff.mp (show (nkL ds).map NestedKey.tup = some k from e)
    obtain ⟨a, xs, rfl, q1, q2⟩ := r
    obtain rfl : u = Value.ref a := ru
    have q1 := q1.sq
    rw [← hK] at q1
    obtain ⟨its, rv, ⟨o, ho, hc, n, hd⟩, hz⟩ := I.tuple q1
    refine .tup ho hc hd ?_
    simpa using nestedL_of I hK ds xs its ks e1 q2 rv
  | .ty _, _, _, _, e, _, _ => by cases e
  | .ref _, _, _, _, e, _, _ => by cases e
  | .glo _, _, _, _, e, _, _ => by cases e
  | .lst _, _, _, _, e, _, _ => by cases e
  | .emp, _, _, _, e, _, _ => by cases e
  | .pt0, _, _, _, e, _, _ => by cases e
theorem nestedL_of (I : Inv X pins σ H s) (hK : X.K = G.K) : ∀ (ds : List D) (xs : List V) (us : List Value) (ks : List NestedKey), nkL ds = some ks → RpL G m H ds xs → Vals xs us → NestedAll s.heap ks us
  | [], xs, us, ks, e, r, rv => by
    cases e
    obtain rfl : xs = [] := r
    cases rv
    exact .nil
  | d :: ds, xs, us, ks, e, ⟨v, t, e1, r1, r2⟩, rv => by
    subst e1
    obtain ⟨k, f1, f2⟩ := Option.bind_eq_some_iff.mp (show ((nkOf d).bind fun k => (nkL ds).map (k :: ·)) = some ks from e)
    obtain ⟨kr, f3, rfl⟩ := Option.map_eq_some_iff.mp f2
    cases rv with
    | cons ru rr => exact .cons (nested_of I hK d v _ k f1 r1 ru) (nestedL_of I hK ds t _ kr f3 r2 rr)
end
theorem PrN.len : ∀ {xs : List (NestedKey × Addr × V)} {ys : List (NestedKey × Addr × Value)}, PrN xs ys → ys.length = xs.length
  | _, _, .nil => rfl
  | _, _, .cons _ t => by rw [List.length_cons, List.length_cons, PrN.len t]
theorem RpN.len : ∀ {ks : List (D × D)} {xs : List (NestedKey × Addr × V)}, RpN G m H ks xs → xs.length = ks.length
  | [], _, h => by
    have h : _ = [] := h
    rw [h]; rfl
  | _ :: _, _, ⟨q, b, v, t, e, _, _, _, _, r⟩ => by rw [e, List.length_cons, List.length_cons, RpN.len r]
theorem nested_keys (I : Inv X pins σ H s) (hK : X.K = G.K) : ∀ {kvs : List (D × D)} {xs : List (NestedKey × Addr × V)} {ys : List (NestedKey × Addr × Value)}, RpN G m H kvs xs → PrN xs ys → ∀ y ∈ ys, (nestedKind X.prog X.w).is s.heap y.1 y.2.1
  | [], _, _, h, p => by
    have h : _ = [] := h
    rw [h] at p
    cases p
    intro y hy
    cases hy
  | k :: kvs, _, _, ⟨q, b, v, t, e, h1, h2, h3, h4, r⟩, p => by
    subst e
    cases p with
    | cons ru p =>
      intro y hy
      rcases List.mem_cons.mp hy with rfl | hy
      · exact ⟨nested_of I hK _ _ _ _ h1 h3 rfl, h2⟩
      · exact nested_keys I hK r p y hy
/-- the dict as the library has it -/
theorem dictN_at (I : Inv X pins σ H s) (hK : X.K = G.K) {L : Addr} {kvs : List (D × D)} {xs : List (NestedKey × Addr × V)} (e : H L = some (DictN X.w L xs)) (r : RpN G m H kvs xs) :
    ∃ ys : List (NestedKey × Addr × Value), PrN xs ys ∧ s.heap.DictOfH (nestedKind X.prog X.w) L ys ∧ (L == sysModules) = false ∧ xs.length ≤ sizeLine := by
  obtain ⟨⟨hz, hd, ys, p, o, es, ep, h1, h2, h3, h4, h5⟩, _, _⟩ := I.hok L _ e
  exact ⟨ys, p, ⟨o, es, ep, h1, h2, h3, h4, nested_keys I hK r p, h5⟩, hd, hz⟩
def eqN (q : NestedKey) (k : D) : Bool := match nkOf k with
  | some q' => NestedKey.beq q' q
  | none => false
def getN (kvs : List (D × D)) (q : NestedKey) : Option D := (kvs.find? fun kv => eqN q kv.1).map (·.2)
def putN (kvs : List (D × D)) (q : NestedKey) (k v : D) : List (D × D) :=
  if (kvs.any fun kv => eqN q kv.1) = true then kvs.map (fun kv => if eqN q kv.1 = true then (kv.1, v) else kv) else kvs ++ [(k, v)]
theorem eqN_iff {q q' : NestedKey} {k : D} (h : nkOf k = some q') : eqN q k = decide (q' = q) := by
  unfold eqN
  rw [h, NestedKey.decide_eq]
theorem getN_rel {q : NestedKey} : ∀ {kvs : List (D × D)} {xs : List (NestedKey × Addr × V)} {ys : List (NestedKey × Addr × Value)}, RpN G m H kvs xs → PrN xs ys →
    (getN kvs q = none ∧ atKey ys q = none) ∨ ∃ d v b u, getN kvs q = some d ∧ atKey ys q = some (b, u) ∧ RelV v u ∧ Rp G m H d v
  | [], _, _, h, p => by
    have h : _ = [] := h
    rw [h] at p
    cases p
    exact .inl ⟨rfl, rfl⟩
  | k :: kvs, _, _, ⟨q', b, v, t, e, h1, h2, h3, h4, r⟩, p => by
    subst e
    cases p with
    | cons ru p =>
      rename_i u ys
      by_cases hq : q' = q
      · exact .inr ⟨k.2, v, b, u, by simp [getN, List.find?_cons, eqN_iff h1, hq], by simp [atKey, List.find?_cons, hq], ru, h4⟩
      · rcases getN_rel (q := q) r p with ⟨a1, a2⟩ | ⟨d, v', b', u', a1, a2, a3, a4⟩
        · exact .inl ⟨by simpa [getN, List.find?_cons, eqN_iff h1, hq] using a1, by simpa [atKey, List.find?_cons, hq] using a2⟩
        · exact .inr ⟨d, v', b', u', by simpa [getN, List.find?_cons, eqN_iff h1, hq] using a1, by simpa [atKey, List.find?_cons, hq] using a2, a3, a4⟩
theorem putN_rel {q : NestedKey} {kd vd : D} {b : Addr} {v : V} {u : Value} (hq : nkOf kd = some q) (hdp : q.depth ≤ 8) (rk : Rp G m H kd (.ref b)) (rv : Rp G m H vd v) (ru : RelV v u) {kvs : List (D × D)} {xs : List (NestedKey × Addr × V)} {ys : List (NestedKey × Addr × Value)} (r : RpN G m H kvs xs) (p : PrN xs ys) :
    ∃ xs' : List (NestedKey × Addr × V), RpN G m H (putN kvs q kd vd) xs' ∧ PrN xs' (storedH ys q b u) ∧ xs'.length ≤ xs.length + 1 := by
  have any_eq : ∀ {kvs : List (D × D)} {xs : List (NestedKey × Addr × V)} {ys : List (NestedKey × Addr × Value)}, RpN G m H kvs xs → PrN xs ys → (kvs.any fun kv => eqN q kv.1) = (atKey ys q).isSome := by
    intro kvs
    induction kvs with
    | nil =>
      intro xs ys h p
      have h : xs = [] := h
      rw [h] at p
      cases p
      rfl
    | cons k kvs ih =>
      rintro _ _ ⟨q', b, v, t, rfl, h1, h2, h3, h4, r⟩ (_ | ⟨ru, p⟩)
      rw [List.any_cons, eqN_iff h1, ih r p]
      by_cases hq : q' = q
      · simp [atKey, List.find?_cons, hq]
      · simp [atKey, List.find?_cons, hq]
  have over : ∀ {kvs : List (D × D)} {xs : List (NestedKey × Addr × V)} {ys : List (NestedKey × Addr × Value)}, RpN G m H kvs xs → PrN xs ys → ∃ xs' : List (NestedKey × Addr × V), RpN G m H (kvs.map fun kv => if eqN q kv.1 = true then (kv.1, vd) else kv) xs' ∧ PrN xs' (ys.map (putAt q u)) ∧ xs'.length = xs.length := by
    intro kvs
    induction kvs with
    | nil =>
      intro xs ys h p
      have h : xs = [] := h
      rw [h] at p
      cases p
      exact ⟨[], rfl, .nil, by rw [h]⟩
    | cons k kvs ih =>
      rintro _ _ ⟨q', b, v0, t, rfl, h1, h2, h3, h4, r⟩ (_ | ⟨ru0, p⟩)
      obtain ⟨xs', r', p', l'⟩ := ih r p
      by_cases hq : q' = q
      · refine ⟨(q', b, v) :: xs', ?_, ?_, by simp [l']⟩
        · rw [List.map_cons, if_pos (by rw [eqN_iff h1]; exact decide_eq_true hq)]
          exact ⟨q', b, v, xs', rfl, h1, h2, h3, rv, r'⟩
        · rw [List.map_cons, putAt, if_pos hq]
          exact .cons ru p'
      · refine ⟨(q', b, v0) :: xs', ?_, ?_, by simp [l']⟩
        · rw [List.map_cons, if_neg (by rw [eqN_iff h1, decide_eq_false hq]; exact Bool.false_ne_true)]
          exact ⟨q', b, v0, xs', rfl, h1, h2, h3, h4, r'⟩
        · rw [List.map_cons, putAt, if_neg hq]
          exact .cons ru0 p'
  have app : ∀ {kvs : List (D × D)} {xs : List (NestedKey × Addr × V)} {ys : List (NestedKey × Addr × Value)}, RpN G m H kvs xs → PrN xs ys → RpN G m H (kvs ++ [(kd, vd)]) (xs ++ [(q, b, v)]) ∧ PrN (xs ++ [(q, b, v)]) (ys ++ [(q, b, u)]) := by
    intro kvs
    induction kvs with
    | nil =>
      intro xs ys h p
      have h : xs = [] := h
      rw [h] at p ⊢
      cases p
      exact ⟨⟨q, b, v, [], rfl, hq, hdp, rk, rv, rfl⟩, .cons ru .nil⟩
    | cons k kvs ih =>
      rintro _ _ ⟨q', b, v0, t, rfl, h1, h2, h3, h4, r⟩ (_ | ⟨ru0, p⟩)
      obtain ⟨r', p'⟩ := ih r p
      exact ⟨⟨q', b, v0, _, rfl, h1, h2, h3, h4, r'⟩, .cons ru0 p'⟩
  unfold putN storedH
  rw [any_eq r p]
  by_cases hs : (atKey ys q).isSome = true
  · rw [if_pos hs, if_pos hs]
    obtain ⟨xs', r', p', l'⟩ := over r p
    exact ⟨xs', r', p', by omega⟩
  · rw [if_neg hs, if_neg hs]
    obtain ⟨r', p'⟩ := app r p
    exact ⟨_, r', p', by simp⟩
end
/-! ### rules -/
/-- the key: a tuple of data, at most eight deep -/
def keyN : D → Option NestedKey
  | .tup ds => (nkOf (.tup ds)).bind fun q => if q.depth ≤ 8 then some q else none
  | _ => none
theorem keyN_ok {d : D} {q : NestedKey} (h : keyN d = some q) : nkOf d = some q ∧ q.depth ≤ 8 := by
  unfold keyN at h
  split at h
  · obtain ⟨q', e1, e2⟩ := Option.bind_eq_some_iff.mp h
    obtain ⟨c, rfl⟩ := some_ifp e2
    exact ⟨e1, c⟩
  · cases h
theorem keyN_ref {G : Gc} {m : Mu} {H : Hp} {d : D} {q : NestedKey} {v : V} (h : keyN d = some q) (r : Rp G m H d v) : ∃ b, v = .ref b := by
  unfold keyN at h
  split at h
  · obtain ⟨a, xs, e, _⟩ := r
    exact ⟨a, e⟩
  · cases h
def dictN (S : Store) : D → Option (List (D × D))
  | .ref n => match S[n]? with
    | some (.dN kvs) => some kvs
    | _ => none
  | _ => none
def pGetN (S : Store) (d k : D) : Option D := (dictN S d).bind fun kvs => (keyN k).bind fun q => getN kvs q
def pInN (S : Store) (k d : D) : Option D := (dictN S d).bind fun kvs => (keyN k).map fun q => .bl (getN kvs q).isSome
def pNotInN (S : Store) (k d : D) : Option D := (dictN S d).bind fun kvs => (keyN k).map fun q => .bl (!(getN kvs q).isSome)
def stPutN (S : Store) (o k v : D) : Option Store := match o with
  | .ref n => (dictN S (.ref n)).bind fun kvs => (keyN k).bind fun q => if kvs.length < 1000000 then some (S.set n (.dN (putN kvs q k v))) else none
  | _ => none
def dPutN (dv do_ di : DE) : DS := fun ρ S => rS (dv ρ S) ρ fun v S => rS (do_ ρ S) ρ fun y S => rS (di ρ S) ρ fun z S => match stPutN S y z v with
  | some S' => some (.nx ρ, S')
  | none => none
section
variable {G : Gc} {W : WX} {X : Cx} {e a b c tg o i : Expr} {m m' : Mu} {H H' : Hp} {S : Store} {σ : Sg} {pos p : Pos} {kp : Addr → Prop} {ρ : Env}
theorem dictN_ok {d : D} {kvs : List (D × D)} {v : V} (hS : Holds G m H S) (h : dictN S d = some kvs) (r : Rp G m H d v) : ∃ n L xs, d = .ref n ∧ v = .ref L ∧ S[n]? = some (.dN kvs) ∧ m.as[n]? = some L ∧ H L = some (DictN G.w L xs) ∧ RpN G m H kvs xs := by
  unfold dictN at h
  split at h
  · rename_i n
    obtain ⟨L, rfl, hL⟩ := r
    split at h
    · rename_i hn
      cases h
      obtain ⟨xs, g1, g2⟩ := hS.ob n _ L hn hL
      exact ⟨n, L, xs, rfl, rfl, hn, hL, g1, g2⟩
    · cases h
  · cases h
/-- {} whose keys are nested -/
theorem je_dN (hw : X.w = G.w) : PE X (.Dict [] [] pos) (tE G W (dNewO (.dN []))) :=
  ⟨fun pins s σ H Q I ⟨m, ρ, S, hS, hE, h⟩ => by
    have hp : H s.heap.objs.size = none := I.hok.fresh (Nat.le_refl _)
    have nd : (s.heap.objs.size == sysModules) = false := beq_eq_false_iff_ne.mpr (Ne.symm (Nat.ne_of_lt I.big))
    have new : ObjOk X.prog X.w (upd H s.heap.objs.size (DictN G.w s.heap.objs.size [])) (s.heap.push { cls := .type "dict", data := .dict #[] }) s.heap.objs.size (DictN G.w s.heap.objs.size []) := by
      refine ⟨⟨Nat.zero_le _, nd, [], .nil, _, #[], 0, Heap.get?_push_size _ rfl, ⟨rfl, rfl, rfl⟩, rfl, rfl, List.nodup_nil⟩, ⟨_, Heap.get?_push_size _ rfl⟩, ?_⟩
      rintro h1 h2 ⟨g1, g2, ys, g3, ob, es, ep, g4, g5⟩ k
      exact ⟨g1, g2, ys, g3, ob, es, ep, k _ g4, g5⟩
    exact wpAny_Dict_empty ⟨.ref s.heap.objs.size, _, I.laid (a := s.heap.objs.size) (t' := s.toks) (fun _ _ q => Heap.get?_push_of_some _ q) (Nat.le_refl _) new, rfl, h ⟨m.as ++ [s.heap.objs.size], m.O⟩ _ (Le.growO hp) (hS.growO (ob := .dN []) hp ⟨[], upd_same, rfl⟩) (.ref s.heap.objs.size) ⟨s.heap.objs.size, rfl, ref_new hS.len⟩⟩⟩
/-- two values, the left one first -/
theorem run2 {f : Store → D → D → Option D} {da db : DE} {pins : List (Addr × Obj)} {s : Shared} {Q : VK} (ha : PE X a (tE G W da)) (hb : PE X b (tE G W db)) (I : Inv X pins σ H s) (h : tE G W (dOp f da db) σ H Q) :
    wpAny (model X.prog X.w) X.A (eval a X.env) (fun u s1 => wpAny (model X.prog X.w) X.A (eval b X.env) (fun w s2 => ∃ x y H2 m S d e r, Inv X pins σ H2 s2 ∧ RelV x u ∧ RelV y w ∧ Holds G m H2 S ∧ Rp G m H2 d x ∧ Rp G m H2 e y ∧ f S d e = some r ∧ rRes G m H2 S r Q) X.xe s1) X.xe s := by
  obtain ⟨m, ρ, S, hS, hE, h⟩ := h
  have ho' := ha.run pins s σ H (fun v H1 => ∃ m1 S1 x, Holds G m1 H1 S1 ∧ RpE G m1 H1 ρ σ ∧ Rp G m1 H1 x v ∧ Aft G m1 H1 (fun c x H' => W c x σ H') ((db ρ S1).bind fun y S => optM (f S x y) S) fun r _ m' H' => ∀ v, Rp G m' H' r v → Q v H') I ⟨m, ρ, S, hS, hE, (Aft.bind h).imp fun x S1 m1 H1 l1 hS1 h1 v rv => ⟨m1, S1, x, hS1, hE.le l1, rv, h1⟩⟩
  refine thn ho' fun u s1 ⟨v, H1, I1, ru, m1, S1, x, hS1, hE1, rv, h1⟩ => ?_
  have hi' := hb.run pins s1 σ H1 (fun y H2 => ∃ m2 S2 z d, Holds G m2 H2 S2 ∧ Rp G m2 H2 x v ∧ Rp G m2 H2 z y ∧ f S2 x z = some d ∧ rRes G m2 H2 S2 d Q) I1 ⟨m1, ρ, S1, hS1, hE1, (Aft.bind h1).imp fun y S2 m2 H2 l2 hS2 h2 w rw' => by
    obtain ⟨d, e, k⟩ := aft_opt h2
    exact ⟨m2, S2, y, d, hS2, l2.rp rv, rw', e, k⟩⟩
  exact thn hi' fun iv s2 ⟨y, H2, I2, ry, m2, S2, z, d, hS2, rx, rz, e, k⟩ => ⟨v, y, H2, m2, S2, x, z, d, I2, ru, ry, hS2, rx, rz, e, k⟩
theorem je_nget {dd dk : DE} (hK : X.K = G.K) (hw : X.w = G.w) (hu : X.A.units + 200 < cLine) (ho : PE X o (tE G W dd)) (hi : PE X i (tE G W dk)) (hs : NoSl i) : PE X (.Subscript o i pos) (tE G W (dOp pGetN dd dk)) := by
  refine ⟨fun pins s σ H Q I h => ?_⟩
  refine subD_of PySem.F.slot_dict_getitem.lookup hs (thn (run2 ho hi I h) fun u s1 h1 => thn h1 fun iv s2 ⟨v, y, H2, m2, S2, x, z, d, I2, ru, ry, hS2, rx, rz, e, k⟩ => ?_)
  unfold pGetN at e
  obtain ⟨kvs, e1, e2⟩ := Option.bind_eq_some_iff.mp e
  obtain ⟨q, e3, e4⟩ := Option.bind_eq_some_iff.mp e2
  obtain ⟨n, L, xs, rfl, rfl, hn, hL, g1, g2⟩ := dictN_ok hS2 e1 rx
  obtain rfl : u = Value.ref L := ru
  obtain ⟨b, rfl⟩ := keyN_ref e3 rz
  obtain rfl : iv = Value.ref b := ry
  obtain ⟨f1, f2⟩ := keyN_ok e3
  rw [← hw] at g1
  obtain ⟨ys, p, dd', hd, hz⟩ := dictN_at I2 hK g1 g2
  rcases getN_rel (q := q) g2 p with ⟨a1, _⟩ | ⟨d', v', b', u', a1, a2, a3, a4⟩
  · rw [a1] at e4; cases e4
  · rw [a1] at e4
    cases e4
    refine ⟨dd'.typeIs, wpAny_getItem_heap (knd := nestedKind X.prog X.w) (by show X.A.units + 1 + 8 < cLine; omega) ⟨nested_of I2 hK _ _ _ _ f1 rz rfl, f2⟩ dd' a2 ?_⟩
    exact ⟨v', H2, I2.tok _, a3, k.here hS2 a4⟩
theorem pc_nin {dd dk : DE} (hK : X.K = G.K) (hw : X.w = G.w) (hu : X.A.units + 200 < cLine) (hi : PE X i (tE G W dk)) (ho : PE X o (tE G W dd)) : PC X .In i o (tE G W (dOp pInN dk dd)) := by
  refine ⟨fun pins s σ H Q I h => ?_⟩
  refine thn (run2 hi ho I h) fun u s1 h1 => thn h1 fun iv s2 ⟨v, y, H2, m2, S2, x, z, d, I2, ru, ry, hS2, rx, rz, e, k⟩ => ?_
  unfold pInN at e
  obtain ⟨kvs, e1, e2⟩ := Option.bind_eq_some_iff.mp e
  obtain ⟨q, e3, rfl⟩ := Option.map_eq_some_iff.mp e2
  obtain ⟨n, L, xs, rfl, rfl, hn, hL, g1, g2⟩ := dictN_ok hS2 e1 rz
  obtain rfl : iv = Value.ref L := ry
  obtain ⟨b, rfl⟩ := keyN_ref e3 rx
  obtain rfl : u = Value.ref b := ru
  obtain ⟨f1, f2⟩ := keyN_ok e3
  rw [← hw] at g1
  obtain ⟨ys, p, dd', hd, hz⟩ := dictN_at I2 hK g1 g2
  refine wpAny_in_heap (knd := nestedKind X.prog X.w) (by show X.A.units + 1 + 8 < cLine; omega) ⟨nested_of I2 hK _ _ _ _ f1 rx rfl, f2⟩ hd dd' ?_
  have he : (atKey ys q).isSome = (getN kvs q).isSome := by
    rcases getN_rel (q := q) g2 p with ⟨a1, a2⟩ | ⟨d', v', b', u', a1, a2, a3, a4⟩ <;> rw [a1, a2] <;> rfl
  rw [he]
  exact ⟨.bl (getN kvs q).isSome, H2, I2.tok _, rfl, k.here hS2 rfl⟩
theorem pc_nnin {dd dk : DE} (hK : X.K = G.K) (hw : X.w = G.w) (hu : X.A.units + 200 < cLine) (hi : PE X i (tE G W dk)) (ho : PE X o (tE G W dd)) : PC X .NotIn i o (tE G W (dOp pNotInN dk dd)) := by
  refine ⟨fun pins s σ H Q I h => ?_⟩
  refine thn (run2 hi ho I h) fun u s1 h1 => thn h1 fun iv s2 ⟨v, y, H2, m2, S2, x, z, d, I2, ru, ry, hS2, rx, rz, e, k⟩ => ?_
  unfold pNotInN at e
  obtain ⟨kvs, e1, e2⟩ := Option.bind_eq_some_iff.mp e
  obtain ⟨q, e3, rfl⟩ := Option.map_eq_some_iff.mp e2
  obtain ⟨n, L, xs, rfl, rfl, hn, hL, g1, g2⟩ := dictN_ok hS2 e1 rz
  obtain rfl : iv = Value.ref L := ry
  obtain ⟨b, rfl⟩ := keyN_ref e3 rx
  obtain rfl : u = Value.ref b := ru
  obtain ⟨f1, f2⟩ := keyN_ok e3
  rw [← hw] at g1
  obtain ⟨ys, p, dd', hd, hz⟩ := dictN_at I2 hK g1 g2
  refine wpAny_notIn_heap (knd := nestedKind X.prog X.w) (by show X.A.units + 1 + 8 < cLine; omega) ⟨nested_of I2 hK _ _ _ _ f1 rx rfl, f2⟩ hd dd' ?_
  have he : (atKey ys q).isSome = (getN kvs q).isSome := by
    rcases getN_rel (q := q) g2 p with ⟨a1, a2⟩ | ⟨d', v', b', u', a1, a2, a3, a4⟩ <;> rw [a1, a2] <;> rfl
  rw [he]
  exact ⟨.bl (!(getN kvs q).isSome), H2, I2.tok _, rfl, k.here hS2 rfl⟩
theorem je_nin {dd dk : DE} (hK : X.K = G.K) (hw : X.w = G.w) (hu : X.A.units + 200 < cLine) (hi : PE X i (tE G W dk)) (ho : PE X o (tE G W dd)) (hm : behindInMarks .In o = false) : PE X (.Compare i [.In] [o] pos) (tE G W (dOp pInN dk dd)) := pe_cmp (pc_nin hK hw hu hi ho) hm
theorem je_nnin {dd dk : DE} (hK : X.K = G.K) (hw : X.w = G.w) (hu : X.A.units + 200 < cLine) (hi : PE X i (tE G W dk)) (ho : PE X o (tE G W dd)) (hm : behindInMarks .NotIn o = false) : PE X (.Compare i [.NotIn] [o] pos) (tE G W (dOp pNotInN dk dd)) := pe_cmp (pc_nnin hK hw hu hi ho) hm
theorem jt_nin {dd dk : DE} (hK : X.K = G.K) (hw : X.w = G.w) (hu : X.A.units + 200 < cLine) (hi : PE X i (tE G W dk)) (ho : PE X o (tE G W dd)) (hm : behindInMarks .In o = false) : PT X (.Compare i [.In] [o] pos) (tT G W (dTest (dOp pInN dk dd))) := pt_imp (pt_cmp (pc_nin hK hw hu hi ho) hm) fun _ _ _ h => tE_test h
theorem jt_nnin {dd dk : DE} (hK : X.K = G.K) (hw : X.w = G.w) (hu : X.A.units + 200 < cLine) (hi : PE X i (tE G W dk)) (ho : PE X o (tE G W dd)) (hm : behindInMarks .NotIn o = false) : PT X (.Compare i [.NotIn] [o] pos) (tT G W (dTest (dOp pNotInN dk dd))) := pt_imp (pt_cmp (pc_nnin hK hw hu hi ho) hm) fun _ _ _ h => tE_test h
/-- d[k] = v -/
theorem js_nput {dv di do_ : DE} {tp : Pos} (hK : X.K = G.K) (hw : X.w = G.w) (hu : X.A.units + 200 < cLine) (hv : PE X e (tE G W dv)) (ho : PE X o (tE G W do_)) (hi : PE X i (tE G W di))
    (hs : swapsWith e (some (.Subscript o i tp)) pos.line X.env = pure false) : PS X (.Assign [.Subscript o i tp] e pos) (tS G W (dPutN dv do_ di)) := by
  refine ⟨fun pins s σ H D I ⟨kp, m, ρ, S, hS, F, h⟩ => ?_⟩
  have hv' := hv.run pins s σ H (fun v H1 => ∃ m1 S1 x, Holds G m1 H1 S1 ∧ RpF G kp m1 H1 ρ σ ∧ Rp G m1 H1 x v ∧ AftS G W kp m1 H1 D (rS (do_ ρ S1) ρ fun y S => rS (di ρ S) ρ fun z S => match stPutN S y z x with
    | some S' => some (.nx ρ, S')
    | none => none)) I ⟨m, ρ, S, hS, F.rp, (AftS.rS h F).imp fun x S1 m1 H1 l1 hS1 h1 v rv => ⟨m1, S1, x, hS1, F.le l1, rv, h1⟩⟩
  refine wpAny_Assign_Subscript (thn hv' fun r s1 ⟨v, H1, I1, rr, m1, S1, x, hS1, F1, rv, h1⟩ => ?_) hs
  have ho' := ho.run pins s1 σ H1 (fun y H2 => ∃ m2 S2 z, Holds G m2 H2 S2 ∧ RpF G kp m2 H2 ρ σ ∧ Rp G m2 H2 x v ∧ Rp G m2 H2 z y ∧ AftS G W kp m2 H2 D (rS (di ρ S2) ρ fun t S => match stPutN S z t x with
    | some S' => some (.nx ρ, S')
    | none => none)) I1 ⟨m1, ρ, S1, hS1, F1.rp, (AftS.rS h1 F1).imp fun y S2 m2 H2 l2 hS2 h2 w rw' => ⟨m2, S2, y, hS2, F1.le l2, l2.rp rv, rw', h2⟩⟩
  refine thn ho' fun u s2 ⟨y, H2, I2, ru, m2, S2, z, hS2, F2, rv2, ry, h2⟩ => ?_
  have hi' := hi.run pins s2 σ H2 (fun t H3 => ∃ m3 S3 w, Holds G m3 H3 S3 ∧ RpF G kp m3 H3 ρ σ ∧ Rp G m3 H3 x v ∧ Rp G m3 H3 z y ∧ Rp G m3 H3 w t ∧ AftS G W kp m3 H3 D (match stPutN S3 z w x with
    | some S' => some (.nx ρ, S')
    | none => none)) I2 ⟨m2, ρ, S2, hS2, F2.rp, (AftS.rS h2 F2).imp fun w S3 m3 H3 l3 hS3 h3 t rt => ⟨m3, S3, w, hS3, F2.le l3, l3.rp rv2, l3.rp ry, rt, h3⟩⟩
  refine thn hi' fun iv s3 ⟨t, H3, I3, rt, m3, S3, w, hS3, F3, rv3, ry3, rt3, h3⟩ => ?_
  split at h3
  · rename_i S' e
    unfold stPutN at e
    split at e
    · rename_i n
      obtain ⟨kvs, e1, e2⟩ := Option.bind_eq_some_iff.mp e
      obtain ⟨q, e3, e4⟩ := Option.bind_eq_some_iff.mp e2
      obtain ⟨hz, rfl⟩ := some_ifp e4
      obtain ⟨n', L, xs, en, rfl, hn, hL, g1, g2⟩ := dictN_ok hS3 e1 ry3
      cases en
      obtain rfl : u = Value.ref L := ru
      obtain ⟨b, rfl⟩ := keyN_ref e3 rt3
      obtain rfl : iv = Value.ref b := rt
      obtain ⟨f1, f2⟩ := keyN_ok e3
      have g1' := g1
      rw [← hw] at g1'
      obtain ⟨ys, p, dd', hd, hz2⟩ := dictN_at I3 hK g1' g2
      have hlen : ys.length ≤ sizeLine := by rw [p.len]; exact hz2
      refine wpAny_setItem_heap (knd := nestedKind X.prog X.w) (hsz := hlen) (by show X.A.units + 1 + 8 < cLine; omega) ⟨nested_of I3 hK _ _ _ _ f1 rt3 rfl, f2⟩ dd' fun h' dd2 hs2 => ?_
      obtain ⟨xs', r', p', l'⟩ := putN_rel f1 f2 rt3 rv3 rr g2 p
      have hO : L ∈ m3.as := List.mem_of_getElem? hL
      have lx : Lx G kAll m3 H3 m3 (L2.upd H3 L (DictN G.w L xs')) := Lx.stoO hO g1 nt_dN nt_dN
      obtain ⟨ob, es, ep, k1, k2, k3, k4, k5, k6⟩ := dd2
      have I4 : Inv X pins σ (L2.upd H3 L (DictN G.w L xs')) { s3 with heap := h', toks := s3.toks + (nestedKind X.prog X.w).draws q } := by
        refine d_write I3 (by rw [g1]; exact True.intro) hs2 ⟨ob, k1⟩ ⟨⟨?_, hd, _, p', ob, es, ep, k1, k2, k3, by rw [← hw]; exact k4, k6⟩, ⟨ob, k1⟩, ?_⟩
        · have := g2.len
          rw [sizeLine_eq]
          omega
        · rintro h1 h2 ⟨a1, a2, a3, a4, a5, a6, a7, a8, a9⟩ kk
          exact ⟨a1, a2, a3, a4, a5, a6, a7, kk _ a8, a9⟩
      exact ⟨σ, _, I4, h3 m3 _ σ (Lx.stoO hO g1 nt_dN nt_dN) (hS3.stoO hL g1 nt_dN nt_dN ⟨_, upd_same, RpN.imp (fun _ _ r => lx.rp r) r'⟩) (F3.stoO hO g1 nt_dN nt_dN)⟩
    · cases e
  · exact h3.elim
end
end Py

/-! Part 36: the head's facts, looked at by written addresses. -/
namespace Py
open PySem PySem.Spec PyProof.Rows L2
def tfN (tf : List Str) : List He.Defn := tf.map fun x => (x, none)
def obA (as : List Addr) (fa : List He.Fa) (fn : List He.DefD) (tl : List (Str × List L2.Key)) (tf : List Str) (g : Addr → Option Obj) : He.AlX :=
  ((He.obsD fa fn (He.frT g as), []), exB tl tf (He.frT g as) && He.tabsB g (tfN tf) (He.frT g as))
theorem saysA {as : List Addr} {fa : List He.Fa} {fn : List He.DefD} {tl : List (Str × List L2.Key)} {tf : List Str} {w : World} {h : Heap} (e : obA as fa fn tl tf h.get? = He.valX fn [] w) : He.SaysX fa fn [] (tfN tf) (exB tl tf) w h (He.frT h.get? as) := by
  have q1 : He.obsD fa fn (He.frT h.get? as) = He.valD fn := congrArg (fun z : He.AlX => z.1.1) e
  have q2 : (exB tl tf (He.frT h.get? as) && He.tabsB h.get? (tfN tf) (He.frT h.get? as)) = true := congrArg (fun z : He.AlX => z.2) e
  rw [Bool.and_eq_true] at q2
  have each : ∀ p ∈ tfN tf, PySem.W.codeHdIn (He.frT h.get? as) (He.cT (He.frT h.get? as) p).1 (He.cT (He.frT h.get? as) p).2 = true ∧ ∃ o, h.get? (He.cT (He.frT h.get? as) p).2 = some o ∧ He.emptyTab o = true := by
    intro p hp
    have k := List.all_eq_true.mp (show (tfN tf).all _ = true from q2.2) p hp
    rw [Bool.and_eq_true] at k
    refine ⟨k.1, ?_⟩
    cases r : h.get? (He.cT (He.frT h.get? as) p).2 with
    | none => have k2 := k.2; rw [r] at k2; cases k2
    | some o => have k2 := k.2; rw [r] at k2; exact ⟨o, rfl, k2⟩
  have t : He.SaysT fa fn [] w (He.frT h.get? as) := by
    show (He.obsD fa fn (He.frT h.get? as), _) = (He.valD fn, _)
    rw [q1]
    rfl
  exact ⟨t, q2.1, fun p hp => (each p hp).1, fun p hp => let ⟨_, o, a1, a2⟩ := each p hp; He.frT_none a1 a2, fun p hp => by
    obtain ⟨_, o, a1, a2⟩ := each p hp
    rw [a1, He.emptyTab_eq a2]⟩
def hookA (as : List Addr) (fa : List He.Fa) (fn : List He.DefD) (tl : List (Str × List L2.Key)) (tf : List Str) : PySem.W.Hook where
  α := He.AlX
  obs := fun s => obA as fa fn tl tf s.heap.get?
  val := fun w => He.valX fn [] w
  says := fun w h => ∃ K : PySem.W.Frag, K.In h ∧ He.SaysX fa fn [] (tfN tf) (exB tl tf) w h K
  of := fun _ _ e => ⟨_, He.frT_in, saysA e⟩
  keeps := fun _ _ _ ⟨K, hK, c⟩ k => ⟨K, PySem.W.Frag.In.keeps hK k, ⟨c.t, c.more, c.hd, c.out, fun p hp => k _ _ (c.empty p hp)⟩⟩
theorem obA_eq {as : List Addr} {fa : List He.Fa} {fn : List He.DefD} {tl : List (Str × List L2.Key)} {tf : List Str} {g : Addr → Option Obj} {s : Shared} (h : ∀ a, g a = s.heap.get? a) : obA as fa fn tl tf g = (hookA as fa fn tl tf).obs s := by
  have e : g = s.heap.get? := funext h
  rw [e] <;> rfl
def frA (as : List Addr) (s : PySem.W.SharedT) : PySem.W.Frag := He.frT (HandSHeadRun.getT s) as
theorem runA_of {r : PySem.W.OpenRow} {q : Program} {as : List Addr} {fa : List He.Fa} {fn : List He.DefD} {tl : List (Str × List L2.Key)} {tf : List Str} {M : Nat} {loose : List Str} {w : World} (fas : List (List He.Fa)) (fns : List (List He.DefD)) (ef : fas.flatten = fa) (en : fns.flatten = fn)
    (A : ∀ os, (endL r M w os).map (fun s => (HandSHeadRun.looksF r.prog (PySem.W.boot_heap w.params) s.abs, HandSHeadRun.seenQ q loose (importedModules r.prog.main.body) (fun s => PySem.W.xlAt q [] s && PySem.W.recOk r.toRowW.records s) s.abs, exB tl tf (frA as s) && He.tabsB (HandSHeadRun.getT s) (tfN tf) (frA as s))) = some (true, PySem.W.openGood q loose, true))
    (B : ∀ c ∈ fas, ∀ os, (endL r M w os).map (fun s => c.all fun f => f.ok (frA as s)) = some true)
    (C : ∀ c ∈ fns, ∀ os, (endL r M w os).map (fun s => (c.all (fun d => d.ok (frA as s)), c.map fun d => He.fnW (frA as s) d.at_)) = some (true, c.map He.DefD.val)) :
    HandSHeadRun.RunEq r q (hookA as fa fn tl tf) (fun s => obA as fa fn tl tf (HandSHeadRun.getT s)) M loose w := by
  intro os
  have A := A os
  have B : ∀ c ∈ fas, (endL r M w os).map (fun s => c.all fun f => f.ok (frA as s)) = some true := fun c hc => B c hc os
  have C : ∀ c ∈ fns, (endL r M w os).map (fun s => (c.all (fun d => d.ok (frA as s)), c.map fun d => He.fnW (frA as s) d.at_)) = some (true, c.map He.DefD.val) := fun c hc => C c hc os
  show (endL r M w os).map _ = _
  cases e : endL r M w os with
  | none =>
    rw [e] at A
    cases A
  | some s =>
    rw [e] at A B C
    have A := Option.some.inj A
    injection A with A1 A2
    injection A2 with A2 A3
    have hfa : (fa.all fun f => f.ok (frA as s)) = true := by
      rw [← ef, List.all_flatten, List.all_eq_true]
      exact fun c hc => Option.some.inj (B c hc)
    have hfn : (fn.all fun f => f.ok (frA as s)) = true := by
      rw [← en, List.all_flatten, List.all_eq_true]
      intro c hc
      have := Option.some.inj (C c hc)
      injection this
    have hfw : (fn.map fun d => He.fnW (frA as s) d.at_) = fn.map He.DefD.val := by
      rw [← en, List.map_flatten, List.map_flatten]
      congr 1
      apply List.map_congr_left
      intro c hc
      have := Option.some.inj (C c hc)
      injection this
    have e1 : obA as fa fn tl tf (HandSHeadRun.getT s) = (hookA as fa fn tl tf).val w := by
      show ((((fa.all fun f => f.ok (frA as s)) && fn.all fun d => d.ok (frA as s), fn.map fun d => He.fnW (frA as s) d.at_), _), exB tl tf (frA as s) && He.tabsB (HandSHeadRun.getT s) (tfN tf) (frA as s)) = _
      rw [hfa, hfn, hfw, A3]
      rfl
    show some (_, _, obA as fa fn tl tf (HandSHeadRun.getT s)) = _
    rw [e1, A1, A2]
    rfl
end Py

/-! Part 37: o.f += n. -/
namespace Py
open PySem PySem.Spec PyProof.Rows L2
def insC (S : Store) : D → Option Nat
  | .ref n => match S[n]? with
    | some (.ins c _) => some c
    | _ => none
  | _ => none
def dAugF (cs : List Nat) (f : Str) (do_ dv : DE) : DS := fun ρ S => rS (do_ ρ S) ρ fun x S => match pFld cs f S x with
  | some (.int i) => rS (dv ρ S) ρ fun y S' => (match y with
    | .int j => if insC S x = insC S' x then (match stFld cs f S' x (.int (i + j)) with
      | some S'' => some (.nx ρ, S'')
      | none => none) else none
    | _ => none)
  | _ => none
section
variable {G : Gc} {W : WX} {X : Cx} {e a b c tg o i : Expr} {m m' : Mu} {H H' : Hp} {S : Store} {σ : Sg} {pos p : Pos} {kp : Addr → Prop} {ρ : Env} {cs : List Nat} {f : Str}
theorem js_augF {dv do_ : DE} (hA : AtOk G cs f) (hK : X.K = G.K) (ho : PE X o (tE G W do_)) (hv : PE X e (tE G W dv)) : PS X (.AugAssign (.Attribute o f p) .Add e pos) (tS G W (dAugF cs f do_ dv)) := by
  refine ps_imp (ps_fldaug ho hv in_add) fun Dn σ H ⟨kp, m, ρ, S, hS, F, h⟩ => ?_
  refine ⟨m, ρ, S, hS, F.rp, (AftS.rS h F).imp fun x S1 m1 H1 l1 hS1 h1 v rv => ?_⟩
  have F1 := F.le l1
  split at h1
  · rename_i k e1
    have e1' := e1
    unfold pFld at e1
    split at e1
    · split at e1
      · rename_i n _ c fs hn
        by_cases hc : c ∈ cs
        · rw [if_pos hc] at e1
          obtain ⟨a, rfl, ha⟩ := rv
          obtain ⟨C, dx, xs, e2, g1, r2⟩ := hS1.ob _ _ a hn ha
          obtain ⟨c1, c2⟩ := hA c hc C e2
          obtain ⟨u, e3, r3⟩ := r2.lk.1 _ e1
          obtain rfl : u = V.int k := r3
          refine ⟨a, C, dx, xs, _, rfl, g1, by rw [hK]; exact c1, by rw [hK]; exact c2, e3, m1, ρ, S1, hS1, F1.rp, (AftS.rS h1 F1).imp fun y S2 m2 H2 l2 hS2 h2 w rw' => ?_⟩
          have F2 := F1.le l2
          split at h2
          · rename_i j
            obtain rfl : w = V.int j := rw'
            by_cases hi : insC S1 (.ref n) = insC S2 (.ref n)
            · rw [if_pos hi] at h2
              split at h2
              · rename_i S' e4
                simp only [stFld] at e4
                split at e4
                · rename_i c' fs' hn'
                  obtain ⟨⟨hc', hz⟩, rfl⟩ := some_ifp e4
                  have hcc : c' = c := by
                    simp only [insC, hn, hn'] at hi
                    exact (Option.some.inj hi).symm
                  subst hcc
                  have ha2 := l2.ix ha
                  obtain ⟨C', dx', xs', e5, g5, r5⟩ := hS2.ob _ _ a hn' ha2
                  rw [e2] at e5
                  cases e5
                  have hO : a ∈ m2.as := List.mem_of_getElem? ha2
                  refine ⟨k, j, rfl, rfl, dx', xs', g5, by rw [r5.len]; exact hz, ?_⟩
                  have l : Lx G kAll m2 H2 m2 (L2.upd H2 a (.ins C dx' (L2.putF f (.int (k + j)) xs'))) := Lx.stoO hO g5 nt_ins nt_ins
                  exact h2 m2 _ σ (Lx.stoO hO g5 nt_ins nt_ins) (hS2.stoO ha2 g5 nt_ins nt_ins ⟨C, dx', _, e2, upd_same, RpKV.imp (fun _ _ r => l.rp r) (r5.putF (show Rp G m2 H2 (.int (k + j)) (.int (k + j)) from rfl))⟩) (F2.stoO hO g5 nt_ins nt_ins)
                · cases e4
              · exact h2.elim
            · rw [if_neg hi] at h2; exact h2.elim
          · exact h2.elim
        · rw [if_neg hc] at e1; cases e1
      · cases e1
    · cases e1
  · exact h1.elim
end
end Py

/-! Part 38: {k: v for ..}, the keys tuples of data. -/
namespace Py
open PySem PySem.Spec PyProof.Rows L2
/-- an item is put into the dict at L, what stands then is K -/
def SetN (G : Gc) (L : Addr) (y z : V) (H : Hp) (K : Hp → Prop) : Prop :=
  ∃ (m : Mu) (kd vd : D) (q : NestedKey) (kvs : List (D × D)) (xs : List (NestedKey × Addr × V)) (b : Addr), y = .ref b ∧ nkOf kd = some q ∧ q.depth ≤ 8 ∧ Rp G m H kd (.ref b) ∧ Rp G m H vd z ∧ H L = some (DictN G.w L xs) ∧ RpN G m H kvs xs ∧ kvs.length < 1000000 ∧
    ∀ xs', RpN G m H (putN kvs q kd vd) xs' → K (upd H L (DictN G.w L xs'))
section
variable {G : Gc} {X Y : Cx} {pins : List (Addr × Obj)} {σ : Sg} {H : Hp} {s : Shared}
theorem setN_ok {L : Addr} {y z : V} {u r : Value} {K : Hp → Prop} {Q : Unit → Shared → Prop} {E : Value → Shared → Prop} (hK : Y.K = G.K) (hw : Y.w = G.w) (hu : Y.A.units + 200 < cLine) (I : Inv Y pins σ H s) (ry : RelV y u) (rz : RelV z r) (h : SetN G L y z H K)
    (hQ : ∀ H' s', Inv Y pins σ H' s' → K H' → Q () s') : wpAny (model Y.prog Y.w) Y.A (dictSet L u r) Q E s := by
  obtain ⟨m, kd, vd, q, kvs, xs, b, rfl, f1, f2, rk, rv, g1, g2, hz, k⟩ := h
  obtain rfl : u = Value.ref b := ry
  have g1' := g1
  rw [← hw] at g1'
  obtain ⟨ys, p, dd, hd, hz2⟩ := dictN_at I hK g1' g2
  refine wpAny_dictSet_heap (knd := nestedKind Y.prog Y.w) (hsz := by rw [p.len]; exact hz2) (by show Y.A.units + 8 < cLine; omega) ⟨nested_of I hK _ _ _ _ f1 rk rfl, f2⟩ dd fun h' dd2 hs2 => ?_
  obtain ⟨xs', r', p', l'⟩ := putN_rel f1 f2 rk rv rz g2 p
  obtain ⟨ob, es, ep, k1, k2, k3, k4, _, k6⟩ := dd2
  refine hQ (upd H L (DictN G.w L xs')) _ (d_write I (by rw [g1]; exact True.intro) hs2 ⟨ob, k1⟩ ⟨⟨?_, hd, _, p', ob, es, ep, k1, k2, k3, by rw [← hw]; exact k4, k6⟩, ⟨ob, k1⟩, ?_⟩) (k xs' r')
  · have := g2.len
    rw [sizeLine_eq]
    omega
  · rintro h1 h2 ⟨a1, a2, a3, a4, a5, a6, a7, a8, a9⟩ kk
    exact ⟨a1, a2, a3, a4, a5, a6, a7, kk _ a8, a9⟩
/-- one turn: the target, the tests, key and value, the item put -/
def BodyN (G : Gc) (L : Addr) (g : TG) (tt : TT) (tk tv : TE) (vs : List Nat) (σ : Sg) (x : V) (H : Hp) (K : Hp → Prop) : Prop :=
  g x (L2.wipe σ vs) H fun σ2 H2 => L2.wipe σ2 vs = L2.wipe σ vs ∧ tt σ2 H2 fun b H3 => if b = true then tk σ2 H3 fun y H4 => tv σ2 H4 fun z H5 => SetN G L y z H5 K else K H3
/-- the whole: P i stands ahead of turn i, len turns -/
def tDN (G : Gc) (wi : TI) (g : TG) (tt : TT) (tk tv : TE) (vs : List Nat) : TE := fun σ H Q => wi σ H fun J H1 => ∀ L, H1 L = none → ∃ (len : Nat) (P : Nat → Hp → Prop), P 0 (upd H1 L (DictN G.w L [])) ∧ ∀ i H, i ≤ len → P i H →
  (i = len ∧ J.stop i H ∧ Q (.ref L) H) ∨ (i < len ∧ J.go i H ∧ ∀ x H', J.yld i H x H' → BodyN G L g tt tk tv vs σ x H' (P (i + 1)))
/-- the iterator's objects may turn in the block -/
theorem turnable {fp : List Addr} (hex : Y.ex = fp) (hpn : Y.pn = []) (I : Inv Y [] σ H s) (hn : ∀ b ∈ fp, H b = none) : ∀ b ∈ fp, FpOk Y [] H b := by
  subst hex
  intro b hb
  obtain ⟨c1, c2⟩ := I.ok.exf b hb
  refine ⟨hn b hb, c1, I.ok.exfs b hb, .inl hb, fun x c e => c2 x c e, fun p hp => ?_⟩
  rw [hpn] at hp
  cases hp
/-- the block's loop -/
theorem loopN {kx vx tg iter : Expr} {ifs : List Expr} {scope : Scope} {pos : Pos} {g : TG} {tt : TT} {tk tv : TE} {vs : List Nat} {J : It} {fp : List Addr} {it L : Addr} {tn : Nat → Heap → Prop} {len : Nat} {P : Nat → Hp → Prop} {Z : Hp → Prop} {R : Result → Shared → Prop}
    (hc : Y.calm = true) (hxe : Y.xe = fun _ _ => False) (hex : Y.ex = fp) (hpn : Y.pn = []) (hK : Y.K = G.K) (hw : Y.w = G.w) (hu : Y.A.units + 200 < cLine) (T : Turn Y.prog Y.w Y.K tg J fp it tn)
    (rg : PG Y tg g) (rt : PTs Y ifs tt) (rk : PE Y kx tk) (rv : PE Y vx tv)
    (step : ∀ i H, i ≤ len → P i H → (i = len ∧ J.stop i H ∧ Z H) ∨ (i < len ∧ J.go i H ∧ ∀ x H', J.yld i H x H' → BodyN G L g tt tk tv vs σ x H' (P (i + 1))))
    (I0 : Inv Y [] (L2.wipe σ vs) H s) (t0 : tn 0 s.heap) (n0 : ∀ b ∈ fp, H b = none) (p0 : P 0 H) (out : ∀ H' s', Inv Y [] (L2.wipe σ vs) H' s' → Z H' → R (.ok .next) s') :
    codeAny (model Y.prog Y.w) Y.A (.compLoop (.DictComp kx vx [⟨tg, iter, ifs, 0⟩] scope pos) 0 (.ref it) (.ref L) Y.env) R s := by
  refine compLoop_anyD (fun n s' => ∃ i H', n = len - i ∧ i ≤ len ∧ Inv Y [] (L2.wipe σ vs) H' s' ∧ tn i s'.heap ∧ (∀ b ∈ fp, H' b = none) ∧ P i H') ?_ len ⟨0, H, rfl, Nat.zero_le _, I0, t0, n0, p0⟩
  rintro n s' ⟨i, H', rfl, hi, I, ti, ni, pi⟩
  have F := turnable hex hpn I ni
  rcases step i H' hi pi with ⟨_, stp, z⟩ | ⟨hlt, goes, body⟩
  · have dn := T.done Y rfl rfl rfl hc i [] s' _ H' (fun _ _ => False) I F ti stp
    refine thnF dn fun r s2 ⟨e, I2⟩ => ?_
    subst e
    exact out H' s2 I2 z
  · have nx := T.item Y rfl rfl rfl hc i [] s' _ H' (fun _ _ => False) I F ti goes
    refine thnF nx fun r s2 ⟨u, e, own⟩ => ?_
    subst e
    refine thnF own fun _ s3 ⟨x, H3, I3, rx, yx, t3, n3⟩ => ?_
    -- the iterator's objects are pinned while the turn runs
    have Ip := I3.pinned (turnable hex hpn I3 n3) (T.obj _ _ t3)
    have back : ∀ {σ4 : Sg} {H4 : Hp} {s4 : Shared}, L2.wipe σ4 vs = L2.wipe σ vs → Inv Y ([] ++ pinsAt fp s3.heap) σ4 H4 s4 → P (i + 1) H4 → ∃ m, m < len - i ∧ ∃ j H5, m = len - j ∧ j ≤ len ∧ Inv Y [] (L2.wipe σ vs) H5 s4 ∧ tn j s4.heap ∧ (∀ b ∈ fp, H5 b = none) ∧ P j H5 := by
      intro σ4 H4 s4 ew I4 p4
      have held : ∀ b ∈ fp, ∀ o, s3.heap.get? b = some o → s4.heap.get? b = some o ∧ H4 b = none := fun b hb o e =>
        have q := I4.pin (b, o) (List.mem_append_right _ (List.mem_append_right _ (mem_pinsAt hb e)))
        ⟨q.1, q.2.1⟩
      have el : (L2.wipe σ vs).length = σ4.length := by rw [← ew, wipe_length]
      refine ⟨len - (i + 1), by omega, i + 1, H4, rfl, hlt, (I4.unpinned (pins := [])).weak el (fun j v e => ?_), T.keep _ _ _ t3 fun b hb o e => (held b hb o e).1, fun b hb => ?_, p4⟩
      · rw [← ew] at e
        exact (wipe_some e).1
      · obtain ⟨o, e, _⟩ := T.obj _ _ t3 b hb
        exact (held b hb o e).2
    have lift : ∀ {α : Type} {t : Sem α} {Q Q' : α → Shared → Prop} {E : Value → Shared → Prop} {s : Shared}, wpAny (model Y.prog Y.w) Y.A t Q Y.xe s → (∀ a s, Q a s → Q' a s) → wpAny (model Y.prog Y.w) Y.A t Q' E s := fun h k => by
      rw [hxe] at h
      exact thnF h k
    refine lift (rg.run _ s3 _ H3 x u _ Ip rx (body x H3 yx)) fun _ s4 ⟨σ4, H4, I4, ew, q4⟩ => ?_
    refine lift (rt.run _ s4 σ4 H4 _ I4 q4) fun b s5 ⟨H5, I5, q5⟩ => ?_
    cases b with
    | false =>
      rw [if_neg Bool.false_ne_true] at q5
      exact back ew I5 q5
    | true =>
      rw [if_pos rfl] at q5
      refine lift (rk.run _ s5 σ4 H5 _ I5 q5) fun ku s6 ⟨y, H6, I6, ry, q6⟩ => lift (rv.run _ s6 σ4 H6 _ I6 q6) fun vu s7 ⟨z, H7, I7, rz, q7⟩ => ?_
      exact setN_ok hK hw hu I7 ry rz q7 fun H8 s8 I8 p8 => back ew I8 p8
theorem comp_dN {pins : List (Addr × Obj)} {s : Shared} {Q : VK} {use : Option (Value → Sem Unit)} {Qf : Value → Shared → Prop} {pos' : Pos} {kx vx tg iter : Expr} {ifs : List Expr} {scope : Scope} {own : List (Str × Nat)} {pos : Pos} {wi : TI} {g : TG} {tt : TT} {tk tv : TE} (hK : X.K = G.K) (hw : X.w = G.w) (hu : X.A.units + 200 < cLine) (hc : X.calm = true) (hN : X.N.Nodup) (hi : PI X tg iter wi) (ok : BlkOk X.N X.env.scope scope own)
    (hg : ∀ s H C cl fp, PG (X.blk s H scope (compEnvC scope cl C X.env) fp) tg g) (ht : ∀ s H C cl fp, PTs (X.blk s H scope (compEnvC scope cl C X.env) fp) ifs tt) (hk : ∀ s H C cl fp, PE (X.blk s H scope (compEnvC scope cl C X.env) fp) kx tk) (hv : ∀ s H C cl fp, PE (X.blk s H scope (compEnvC scope cl C X.env) fp) vx tv) (hs : ∀ x, foldedSetIterable iter X.env x = pure x)
    (I : Inv X pins σ H s) (h : tDN G wi g tt tk tv (own.map (·.2)) σ H Q) (done : ∀ L C s' m H', Inv X pins σ H' s' → Q (.ref L) H' → s'.heap.Ns C m → FpOk X pins H' C → compPost (model X.prog X.w) X.A X.xe use Qf (.ref L) C (.ok .next) s') :
    wpAny (model X.prog X.w) X.A (comprehension (.DictComp kx vx [⟨tg, iter, ifs, 0⟩] scope pos) scope X.env pos' newDict false (eval iter X.env) use) Qf X.xe s := by
  have caught : ∀ y ∈ scope.names, y.2 = .free → ∃ c, X.env.cells.lookup y.1 = some c := fun y hy e =>
    (ok.free y hy e).elim (fun k => I.ok.has _ (.inl k)) fun k => I.ok.has _ (.inr k)
  refine wpAny_comprehension_free (use := use) rfl hs (closure_ok caught) ok.kind (fun y hy e => (ok.uniq y hy).trans (congrArg some e)) (thn (hi.run pins s σ H _ I h) fun _ s1 it1 => thn it1 fun _ s2 pie => ?_)
  obtain ⟨it, fp, tn, J, H2, rfl, I2, T, t2, F2, q⟩ := pie
  refine wpAny_newObj_type (newEnv_comp ?_)
  have hL : H2 s2.heap.objs.size = none := I2.hok.fresh (Nat.le_refl _)
  obtain ⟨len, P, p0, step⟩ := q _ hL
  have nd : (s2.heap.objs.size == sysModules) = false := beq_eq_false_iff_ne.mpr (Ne.symm (Nat.ne_of_lt I2.big))
  have I3 : Inv X pins σ (upd H2 s2.heap.objs.size (DictN G.w s2.heap.objs.size [])) { s2 with heap := s2.heap.push { cls := .type "dict", data := .dict #[] } } := by
    refine I2.laid (t' := s2.toks) (fun b o e => Heap.get?_push_of_some _ e) (Nat.le_refl _) ⟨⟨Nat.zero_le _, nd, [], .nil, _, #[], 0, Heap.get?_push_size _ rfl, ⟨rfl, rfl, rfl⟩, rfl, rfl, List.nodup_nil⟩, ⟨_, Heap.get?_push_size _ rfl⟩, ?_⟩
    rintro h1 h2 ⟨g1, g2, ys, g3, ob, es, ep, g4, g5⟩ k
    exact ⟨g1, g2, ys, g3, ob, es, ep, k _ g4, g5⟩
  have below : ∀ b ∈ fp, b < s2.heap.objs.size := fun b hb => let ⟨_, e, _⟩ := T.obj _ _ t2 b hb; Heap.lt_size e
  have F3 : ∀ b ∈ fp, FpOk X pins (upd H2 s2.heap.objs.size (DictN G.w s2.heap.objs.size [])) b ∧ b < (s2.heap.push { cls := .type "dict", data := .dict #[] }).objs.size := fun b hb =>
    ⟨⟨by rw [upd_ne (Nat.ne_of_lt (below b hb))]; exact (F2 b hb).1, (F2 b hb).2⟩, by rw [Heap.size_push]; exact Nat.lt_succ_of_lt (below b hb)⟩
  have t3 : tn 0 (s2.heap.push { cls := .type "dict", data := .dict #[] }) := T.keep _ _ _ t2 fun b _ o e => Heap.get?_push_of_some _ e
  have I4 := block_start I3 ok hN F3
  generalize hH3 : upd H2 s2.heap.objs.size (DictN G.w s2.heap.objs.size []) = H3 at *
  generalize hLL : s2.heap.objs.size = L at *
  generalize hs3 : ({ s2 with heap := s2.heap.push { cls := .type "dict", data := .dict #[] } } : Shared) = s3 at *
  have eh : s2.heap.push { cls := .type "dict", data := .dict #[] } = s3.heap := by rw [← hs3]
  rw [eh] at F3 t3
  have t4 : tn 0 (pushCells (s3.heap.push { cls := .type "dict", data := .dict #[] }) scope.names) := T.keep _ _ _ t3 fun b _ o e => pushCells_keeps _ _ _ _ (Heap.get?_push_of_some _ e)
  have run := loopN (G := G) (kx := kx) (vx := vx) (iter := iter) (ifs := ifs) (scope := scope) (pos := pos) (L := L) (Z := fun H' => Q (.ref L) H') (R := compPost (model X.prog X.w) X.A X.xe use Qf (.ref L) s3.heap.objs.size)
    (Y := X.blk s3 H3 scope (compEnvC scope (cellsFrom (s3.heap.objs.size + 1) scope.names (cloFrom X.env.cells scope.names [])) s3.heap.objs.size X.env) fp) hc rfl rfl rfl hK hw hu T (hg _ _ _ _ _) (ht _ _ _ _ _) (hk _ _ _ _ _) (hv _ _ _ _ _) step I4 t4 (fun b hb => (F3 b hb).1.1) p0 fun H5 s5 I5 z => ?_
  · exact codeAny_compStart_dict run (T.self X.A 0 _ _ _ t4 run)
  · -- back in the def
    have I6 : Inv X pins σ H5 s5 := I3.call' (ch := fp) I5.os I5.base I5.hok I5.bare fun b hb => ⟨(F3 b hb).1.2.2.2.1, (F3 b hb).1.2.1, (F3 b hb).1.2.2.2.2.1, (F3 b hb).1.2.2.2.2.2⟩
    have fr : H5 s3.heap.objs.size = none := I5.free
    obtain ⟨mm, hns, _⟩ := I5.loc
    exact done L _ s5 mm H5 I6 z hns (I3.fpOk (Nat.le_refl _) (show H5 s3.heap.objs.size = none from fr))
/-- as a value -/
theorem pe_dN {kx vx tg iter : Expr} {ifs : List Expr} {scope : Scope} {own : List (Str × Nat)} {pos : Pos} {wi : TI} {g : TG} {tt : TT} {tk tv : TE} (hK : X.K = G.K) (hw : X.w = G.w) (hu : X.A.units + 200 < cLine) (hc : X.calm = true) (hN : X.N.Nodup) (hi : PI X tg iter wi) (ok : BlkOk X.N X.env.scope scope own)
    (hg : ∀ s H C cl fp, PG (X.blk s H scope (compEnvC scope cl C X.env) fp) tg g) (ht : ∀ s H C cl fp, PTs (X.blk s H scope (compEnvC scope cl C X.env) fp) ifs tt) (hk : ∀ s H C cl fp, PE (X.blk s H scope (compEnvC scope cl C X.env) fp) kx tk) (hv : ∀ s H C cl fp, PE (X.blk s H scope (compEnvC scope cl C X.env) fp) vx tv) (hs : ∀ x, foldedSetIterable iter X.env x = pure x) :
    PE X (.DictComp kx vx [⟨tg, iter, ifs, 0⟩] scope pos) (tDN G wi g tt tk tv (own.map (·.2))) :=
  ⟨fun pins s σ H Q I h => by
    rw [arm_eval_DictComp]
    exact comp_dN hK hw hu hc hN hi ok hg ht hk hv hs I h fun L C s' m H' I' q hn fr => ⟨m, hn, fun h2 same => ⟨.ref L, H', I'.turned (t' := s'.toks) (fun b o ne e => (same.2 b ne).trans e) fr.1 fr.2.1 fr.2.2.2.1 fr.2.2.2.2.1 fr.2.2.2.2.2, rfl, q⟩⟩⟩
/-- given to a name of the def, in one row -/
theorem ps_setDN {i : Nat} {y : Str} {py spos : Pos} {kx vx tg iter : Expr} {ifs : List Expr} {scope : Scope} {own : List (Str × Nat)} {pos : Pos} {wi : TI} {g : TG} {tt : TT} {tk tv : TE} (hK : X.K = G.K) (hw : X.w = G.w) (hu : X.A.units + 200 < cLine) (hc : X.calm = true) (hN : X.N.Nodup) (hy : X.N[i]? = some y) (hl : X.env.scope.names.lookup y = some .local)
    (sw : swapsWith (.DictComp kx vx [⟨tg, iter, ifs, 0⟩] scope pos) (some (.Name y py)) spos.line X.env = pure true) (hi : PI X tg iter wi) (ok : BlkOk X.N X.env.scope scope own)
    (hg : ∀ s H C cl fp, PG (X.blk s H scope (compEnvC scope cl C X.env) fp) tg g) (ht : ∀ s H C cl fp, PTs (X.blk s H scope (compEnvC scope cl C X.env) fp) ifs tt) (hk : ∀ s H C cl fp, PE (X.blk s H scope (compEnvC scope cl C X.env) fp) kx tk) (hv : ∀ s H C cl fp, PE (X.blk s H scope (compEnvC scope cl C X.env) fp) vx tv) (hs : ∀ x, foldedSetIterable iter X.env x = pure x) :
    PS X (.Assign [.Name y py] (.DictComp kx vx [⟨tg, iter, ifs, 0⟩] scope pos) spos) (tAsg (tDN G wi g tt tk tv (own.map (·.2))) (gName i)) :=
  ⟨fun pins s σ H Dn I h => by
    rw [exec_Assign_Name_used _ _ _ _ sw]
    refine wpAny_bind (wpAny_standAt (wpAny_bind ?_))
    have kept := comp_dN (pos := pos) (Qf := fun _ s' => SP X pins Dn .next s') (use := some (assign (.Name y py) X.env)) (pos' := firstIterPos [⟨tg, iter, ifs, 0⟩] pos) hK hw hu hc hN hi ok hg ht hk hv hs I (show tDN G wi g tt tk tv (own.map (·.2)) σ H (fun v H' => gName i v σ H' Dn.nx) from h) fun L C s' m H' I' q hn fr => by
      show wpAny _ _ (assign (.Name y py) X.env (.ref L)) _ _ _
      refine wpAny_assign_Name (store_ok2 (v := V.ref L) I' hN hy (.inl hl) rfl (fun s2 I2 ⟨a, same, ha⟩ => ?_) (.inr hl))
      have apart : C ≠ a := ha.elim (fun z => by rw [z]; exact fr.2.1) fun z e => fr.2.2.2.2.1 y a z e.symm
      exact ⟨m, hn.sameBut same apart, fun h2 same2 => ⟨_, H', I2.turned (t' := s2.toks) (fun b o ne e => (same2.2 b ne).trans e) fr.1 fr.2.1 fr.2.2.2.1 fr.2.2.2.2.1 fr.2.2.2.2.2, q⟩⟩
    exact wpAny_bind (thn kept fun _ _ q => wpAny_pure (wpAny_pure q))⟩
theorem sw_dict {kx vx : Expr} {gs : List Comprehension} {scope : Scope} {pos py : Pos} {y : Str} {l : Nat} {env : PySem.Env} (h1 : env.scope.kind = .function) (h2 : env.scope.names.lookup y = some .local) (h3 : (py.line == pos.line) = true) (h4 : (scope.names.any fun (n, k) => n == y && (k == .local || k == .cell)) = false) :
    swapsWith (.DictComp kx vx gs scope pos) (some (.Name y py)) l env = pure true := by
  have e1 : env.kindOf y = some .local := h2
  have e2 : env.blockKind = .function := by
    unfold Env.blockKind
    rw [h1]
    rfl
  unfold swapsWith
  simp only [e1, e2, h4, Expr.pos, h3]
  rfl
end
end Py

/-! Part 39: dict comprehensions, what they come to. -/
namespace Py
open PySem PySem.Spec PyProof.Rows L2
def dcRun (g : DG) (t : DT) (dk dv : DE) (ρ : Env) : List D → List (D × D) → M (List (D × D))
  | [], acc => fun S => .ok acc S
  | d :: ds, acc => fun S => match g d ρ with
    | none => .bad
    | some ρ' => (t ρ' S).bind fun b S => if b = true then (dk ρ' S).bind fun k S => (dv ρ' S).bind fun v S => (match keyN k with
      | some q => if acc.length < 1000000 then dcRun g t dk dv ρ ds (putN acc q k v) S else .bad
      | none => .bad) else dcRun g t dk dv ρ ds acc S
def dDc (di : DI) (g : DG) (t : DT) (dk dv : DE) (vs : List Nat) : DE := fun ρ S => (di ρ S).bind fun ds S => match dcRun g t dk dv (wipeE ρ vs) ds [] S with
  | .ok kvs S' => .ok (.ref S'.length) (S' ++ [.dN kvs])
  | _ => .bad
section
variable {G : Gc} {W : WX} {X : Cx} {tg : Expr} {m m' : Mu} {H H' : Hp} {S : Store} {σ : Sg} {pos p : Pos} {kp : Addr → Prop} {g : DG}
/-- an object that one alone holds is written -/
theorem Lx.putO {L : Addr} {u o : HO} (hO : m.O L) (h : H L = some u) (hn : NotT u) (ho : NotT o) : Lx G (fun a => a ≠ L) m H m (L2.upd H L o) :=
  ⟨⟨[], by simp, by simp⟩, fun a q => .inl q, fun a q _ => q, fun a w e n k => by
    by_cases z : a = L
    · exact absurd z (k (z ▸ hO))
    · rw [nt_ne z]; exact e, fun a xs t => tq_put h hn t, fun a q => by
    by_cases z : a = L
    · subst z; rw [nt_of upd_same ho.tbl]; simp
    · rw [nt_ne z]; exact q⟩
theorem Holds.putO {L : Addr} {u o : HO} (hS : Holds G m H S) (hO : m.O L) (h : H L = some u) (hn : NotT u) (ho : NotT o) : Holds G m (L2.upd H L o) S := by
  have l : Lx G (fun a => a ≠ L) m H m (L2.upd H L o) := Lx.putO hO h hn ho
  refine ⟨hS.len, hS.nd, fun n ob a e1 e2 => ?_, hS.dis, fun a q => l.there a (hS.there a q), tabs_upd hS.tabs h hn.tbl hn.ext⟩
  have ne : a ≠ L := fun z => hS.dis L hO (z ▸ List.mem_of_getElem? e2)
  exact (hS.ob n ob a e1 e2).mono (fun o _ e => by rw [upd_ne ne]; exact e) fun d v r => l.rp r
theorem Le.putO {L : Addr} {m1 : Mu} {H1 : Hp} {u o : HO} (l : Le G m1 H1 m H) (hL : nt H1 L = none) (h : H L = some u) (hn : NotT u) (ho : NotT o) : Le G m1 H1 m (L2.upd H L o) :=
  ⟨l.as, l.O, fun a w e n => by
    rw [nt_ne (show a ≠ L from fun z => by rw [z, hL] at e; cases e)]
    exact l.kept a w e n, fun a xs t => tq_put h hn (l.tups a xs t), fun a q => by
    by_cases z : a = L
    · subst z; rw [nt_of upd_same ho.tbl]; simp
    · rw [nt_ne z]; exact l.there a q⟩
def FinN (G : Gc) (m : Mu) (H : Hp) (L : Addr) (r : R (List (D × D))) (Q : VK) : Prop := match r with
  | .ok kvs S => ∀ m' H' xs, Le G m H m' H' → Holds G (m'.add L) H' S → H' L = some (DictN G.w L xs) → RpN G (m'.add L) H' kvs xs → Q (.ref L) H'
  | _ => False
theorem nt_dictN {L : Addr} {xs : List (NestedKey × Addr × V)} (e : H L = some (DictN G.w L xs)) : nt H L = some (DictN G.w L xs) := nt_of e fun _ z => by unfold DictN at z; cases z
theorem dcT {di : DI} {t : DT} {dk dv : DE} {ρ : Env} {Q : VK} (vs : List Nat) (hS : Holds G m H S) (hE : RpE G m H ρ σ) (h : Aft G m H (fun c x H' => W c x σ H') (dDc di g t dk dv vs ρ S) fun r _ m' H' => ∀ v, Rp G m' H' r v → Q v H') :
    tDN G (tIw G W di) (tG G vs g) (tT G WN t) (tE G WN dk) (tE G WN dv) vs σ H Q := by
  refine ⟨m, ρ, S, hS, hE, (Aft.bind h).imp fun ds S1 m1 H1 l1 hS1 h1 J sv => ?_⟩
  intro L hD
  obtain ⟨Gd, Y, wk, hGd, hY⟩ := sv
  have sD : Same H1 (L2.upd H1 L (DictN G.w L [])) := Same.new hD
  have fin : FinN G m1 H1 L (dcRun g t dk dv (wipeE ρ vs) ds [] S1) Q := by
    cases q : dcRun g t dk dv (wipeE ρ vs) ds [] S1 with
    | ok kvs S2 =>
      rw [q] at h1
      intro m' H' xs l hS' e r
      have nL : L ∉ m'.as := hS'.dis L (.inr rfl)
      have up : ∀ d v, Rp G (m'.add L) H' d v → Rp G ⟨m'.as ++ [L], m'.O⟩ H' d v := fun d v => Rp.mono (fun n a q => by
        have q : m'.as[n]? = some a := q
        show (m'.as ++ [L])[n]? = some a
        rw [List.getElem?_append_left (List.getElem?_eq_some_iff.mp q).1]
        exact q) (fun _ _ t => t) (fun a o e n => ⟨e, fun z => n (by
          rcases z with z | z
          · have z : a ∈ m'.as ++ [L] := z
            rcases List.mem_append.mp z with z | z
            · exact .inl z
            · exact .inr (.inr (List.mem_singleton.mp z))
          · exact .inr (.inl z))⟩) d v
      have hl : m'.as.length = S2.length := hS'.len
      refine h1 ⟨m'.as ++ [L], m'.O⟩ H' (l.grow (nt_none hD)) ⟨by simp [hl], ?_, fun n ob a e1 e2 => ?_, fun a q z => ?_, fun a q => hS'.there a (.inl q), hS'.tabs⟩ (.ref L) ⟨L, rfl, ref_new hl⟩
      · show (m'.as ++ [L]).Nodup
        rw [List.nodup_append]
        exact ⟨hS'.nd, by simp, fun a ha b hb => by
          rw [List.mem_singleton.mp hb]
          exact fun z => nL (z ▸ ha)⟩
      · have e2 : (m'.as ++ [L])[n]? = some a := e2
        by_cases hn : n < S2.length
        · rw [List.getElem?_append_left hn] at e1
          rw [List.getElem?_append_left (by rw [hl]; exact hn)] at e2
          exact (hS'.ob n ob a e1 e2).mono (fun _ _ e => e) up
        · rw [List.getElem?_append_right (by omega)] at e1
          rw [List.getElem?_append_right (by rw [hl]; omega)] at e2
          have hn2 : n - S2.length = 0 := by
            have := (List.getElem?_eq_some_iff.mp e1).1
            simp at this
            omega
          rw [hn2] at e1
          rw [hl, hn2] at e2
          cases e1
          cases e2
          exact ⟨xs, e, RpN.imp up r⟩
      · have z : a ∈ m'.as ++ [L] := z
        rcases List.mem_append.mp z with z | z
        · exact hS'.dis a (.inl q) z
        · rw [List.mem_singleton.mp z] at q
          have : nt H1 L = none := nt_none hD
          rw [l.O] at q
          exact hS1.there L q this
    | exc c S2 => rw [q] at h1; exact h1.elim
    | bad => rw [q] at h1; exact h1.elim
  refine ⟨ds.length, fun i H2 => ∃ m2 acc S2 xs, Le G m1 H1 m2 H2 ∧ Holds G (m2.add L) H2 S2 ∧ H2 L = some (DictN G.w L xs) ∧ RpN G (m2.add L) H2 acc xs ∧ FinN G m1 H1 L (dcRun g t dk dv (wipeE ρ vs) (ds.drop i) acc S2) Q,
    ⟨m1, [], S1, [], Le.same sD, hS1.join Le.refl hD (by rw [nt_of upd_same fun _ z => by unfold DictN at z; cases z]; simp), upd_same, rfl, fin⟩, fun i H2 hi p2 => ?_⟩
  obtain ⟨m2, acc, S2, xs, l2, hS2, eL, rL, fn⟩ := p2
  have lx2 : Lx G kAll m1 H1 (m2.add L) H2 := Lx.add l2 (nt_none hD)
  have gd : Gd H2 := hGd _ H2 lx2
  by_cases hlt : i < ds.length
  · refine .inr ⟨hlt, wk.goes i H2 hlt gd, fun x H3 y => ?_⟩
    have y := wk.yields i H2 x H3 hlt gd y
    obtain ⟨s3, d, hd, rd⟩ := hY _ H2 i x H3 lx2 hlt y
    rw [getElem_split hd] at fn
    have hE3 : RpE G (m2.add L) H3 (wipeE ρ vs) (L2.wipe σ vs) := ((hE.le l1).lx (lx2.trans (Le.same s3).lx)).wipe vs
    have hS3 : Holds G (m2.add L) H3 S2 := hS2.same s3
    have l3 : Le G m1 H1 m2 H3 := l2.trans (Le.same s3)
    have eL3 : H3 L = some (DictN G.w L xs) := s3 _ _ eL
    have rL3 : RpN G (m2.add L) H3 acc xs := RpN.imp (fun _ _ r => (Le.same s3).rp r) rL
    have nO : L ∉ (m2.add L).as := hS3.dis L (.inr rfl)
    unfold dcRun at fn
    cases hgd : g d (wipeE ρ vs) with
    | none => rw [hgd] at fn; exact fn.elim
    | some ρ' =>
      rw [hgd] at fn
      refine ⟨m2.add L, wipeE ρ vs, S2, d, hS3, hE3, rd _ lx2, ρ', hgd, fun σ' bn => ⟨bn.wp.trans wipe_wipe, m2.add L, ρ', S2, hS3, bn.rp, ?_⟩⟩
      dsimp only at fn
      cases ht : t ρ' S2 with
      | exc c S => rw [ht] at fn; exact fn.elim
      | bad => rw [ht] at fn; exact fn.elim
      | ok b S4 =>
        rw [ht] at fn ⊢
        intro m4 H4 l4 hS4
        have l34 := Le.del l3 (nt_none hD) l4
        have eL4 : H4 L = some (DictN G.w L xs) := (nt_some (l4.kept L _ (nt_dictN eL3) nO)).1
        have rL4 : RpN G m4 H4 acc xs := RpN.imp (fun _ _ r => l4.rp r) rL3
        cases b with
        | false =>
          refine iteF ?_
          refine ⟨⟨m4.as, m2.O⟩, acc, S4, xs, l34, by rw [Mu.eta l4.O]; exact hS4, eL4, by rw [Mu.eta l4.O]; exact rL4, fn⟩
        | true =>
          refine iteT ?_
          have fn : FinN G m1 H1 L ((dk ρ' S4).bind fun k S => (dv ρ' S).bind fun v S => (match keyN k with
            | some q => if acc.length < 1000000 then dcRun g t dk dv (wipeE ρ vs) (ds.drop (i + 1)) (putN acc q k v) S else .bad
            | none => .bad)) Q := fn
          refine ⟨m4, ρ', S4, hS4, bn.rp.le l4, ?_⟩
          cases hk : dk ρ' S4 with
          | exc c S => rw [hk] at fn; exact fn.elim
          | bad => rw [hk] at fn; exact fn.elim
          | ok k S5 =>
            rw [hk] at fn ⊢
            intro m5 H5 l5 hS5 kv rk
            have fn : FinN G m1 H1 L ((dv ρ' S5).bind fun v S => (match keyN k with
              | some q => if acc.length < 1000000 then dcRun g t dk dv (wipeE ρ vs) (ds.drop (i + 1)) (putN acc q k v) S else .bad
              | none => .bad)) Q := fn
            refine ⟨m5, ρ', S5, hS5, (bn.rp.le l4).le l5, ?_⟩
            cases hv : dv ρ' S5 with
            | exc c S => rw [hv] at fn; exact fn.elim
            | bad => rw [hv] at fn; exact fn.elim
            | ok v S6 =>
              rw [hv] at fn ⊢
              intro m6 H6 l6 hS6 vv rv
              have fn : FinN G m1 H1 L (match keyN k with
                | some q => if acc.length < 1000000 then dcRun g t dk dv (wipeE ρ vs) (ds.drop (i + 1)) (putN acc q k v) S6 else .bad
                | none => .bad) Q := fn
              cases hq : keyN k with
              | none => rw [hq] at fn; exact fn.elim
              | some q =>
                rw [hq] at fn
                have fn : FinN G m1 H1 L (if acc.length < 1000000 then dcRun g t dk dv (wipeE ρ vs) (ds.drop (i + 1)) (putN acc q k v) S6 else .bad) Q := fn
                by_cases hz : acc.length < 1000000
                · rw [if_pos hz] at fn
                  have l46 := l4.trans (l5.trans l6)
                  have l36 := Le.del l3 (nt_none hD) l46
                  have eO : m6.O = (m2.add L).O := l46.O
                  have nD : L ∉ m6.as := hS6.dis L (by rw [eO]; exact .inr rfl)
                  have eL6 : H6 L = some (DictN G.w L xs) := (nt_some (l46.kept L _ (nt_dictN eL3) nO)).1
                  have rL6 : RpN G m6 H6 acc xs := RpN.imp (fun _ _ r => l46.rp r) rL3
                  obtain ⟨f1, f2⟩ := keyN_ok hq
                  obtain ⟨b, rfl⟩ := keyN_ref hq rk
                  refine ⟨m6, k, v, q, acc, xs, b, rfl, f1, f2, l6.rp rk, rv, eL6, rL6, hz, fun xs' r' => ?_⟩
                  have lO : Lx G (fun a => a ≠ L) m6 H6 m6 (L2.upd H6 L (DictN G.w L xs')) := Lx.putO (by rw [eO]; exact .inr rfl) eL6 nt_dN nt_dN
                  refine ⟨⟨m6.as, m2.O⟩, putN acc q k v, S6, xs', ?_, ?_, upd_same, ?_, fn⟩
                  · exact l36.putO (nt_none hD) eL6 nt_dN nt_dN
                  · rw [Mu.eta eO]
                    exact hS6.putO (by rw [eO]; exact .inr rfl) eL6 nt_dN nt_dN
                  · rw [Mu.eta eO]
                    exact RpN.imp (fun _ _ r => lO.rp r) r'
                · rw [if_neg hz] at fn; exact fn.elim
  · have e : i = ds.length := by omega
    subst e
    refine .inl ⟨rfl, wk.stops H2 gd, ?_⟩
    rw [show ds.drop ds.length = [] by simp] at fn
    exact fn m2 H2 xs l2 hS2 eL rL
theorem je_dcN {kx vx iter : Expr} {scope : Scope} {own : List (Str × Nat)} {ifs : List Expr} {di : DI} {t : DT} {dk dv : DE} (hK : X.K = G.K) (hw : X.w = G.w) (hu : X.A.units + 200 < cLine) (hc : X.calm = true) (hN : X.N.Nodup) (hi : PI X tg iter (tIw G W di)) (ok : BlkOk X.N X.env.scope scope own)
    (hg : ∀ s H C cl fp, PG (X.blk s H scope (compEnvC scope cl C X.env) fp) tg (tG G (own.map (·.2)) g)) (ht : ∀ s H C cl fp, PTs (X.blk s H scope (compEnvC scope cl C X.env) fp) ifs (tT G WN t)) (hk : ∀ s H C cl fp, PE (X.blk s H scope (compEnvC scope cl C X.env) fp) kx (tE G WN dk)) (hv : ∀ s H C cl fp, PE (X.blk s H scope (compEnvC scope cl C X.env) fp) vx (tE G WN dv)) (hs : ∀ x, foldedSetIterable iter X.env x = pure x) :
    PE X (.DictComp kx vx [⟨tg, iter, ifs, 0⟩] scope pos) (tE G W (dDc di g t dk dv (own.map (·.2)))) :=
  pe_imp (pe_dN hK hw hu hc hN hi ok hg ht hk hv hs) fun σ H Q ⟨m, ρ, S, hS, hE, h⟩ => dcT (own.map (·.2)) hS hE h
theorem dc_of {di : DI} {t : DT} {dk dv : DE} {vs : List Nat} {Q : VK} (h : tE G W (dDc di g t dk dv vs) σ H Q) : tDN G (tIw G W di) (tG G vs g) (tT G WN t) (tE G WN dk) (tE G WN dv) vs σ H Q :=
  let ⟨_, _, _, hS, hE, h⟩ := h; dcT vs hS hE h
theorem js_dcV {i : Nat} {di : DI} {t : DT} {dk dv : DE} {vs : List Nat} {st : Stmt} (h : PS X st (tAsg (tDN G (tIw G W di) (tG G vs g) (tT G WN t) (tE G WN dk) (tE G WN dv) vs) (gName i))) : PS X st (tS G W (dSet i (qV (dDc di g t dk dv vs)))) :=
  js_set (asg_imp h fun _ _ _ q => dc_of (tE_of q))
end
end Py

/-! Part 40: x != (). -/
namespace PySem
namespace Q40
open SeqAt AutoSeq1 MeetsSeq
theorem sub_td : isSubtype (.type "tuple") (.type "dict") = pure false := by rw [isSubtype_type]; kernel_rfl
theorem sub_dt : isSubtype (.type "dict") (.type "tuple") = pure false := by rw [isSubtype_type]; kernel_rfl
theorem dict_declines (a b : Addr) (es : Array DictEntry) (ep : Nat) (items : Array Value) (n : Nat) (dd : Option Addr) (sl : Array (Option Value)) :
    Meets (Builtin.«dict.__ne__» ⟨[.ref a, .ref b], []⟩) (fun _ R s => s.heap.get? a = some { cls := .type "dict", data := .dict es ep } ∧ s.heap.get? b = some { cls := .type "tuple", dict := dd, data := .seq items n, slots := sl } ∧ R (.ok (.ret .notImplemented)) s) :=
  .of_wp fun prog w A R s h => by
    obtain ⟨hp, g, d, tk, os⟩ := s
    obtain ⟨ha, hb, h⟩ := h
    have f1 := sub_td
    wp_walk using wpAny_load ha, wpAny_load hb, wpAny_loadPart' hb
    exact ⟨_, rfl, h⟩
theorem tuple_declines (a b : Addr) (es : Array DictEntry) (ep : Nat) (items : Array Value) (n : Nat) (dd : Option Addr) (sl : Array (Option Value)) :
    Meets (Builtin.«tuple.__ne__» ⟨[.ref b, .ref a], []⟩) (fun _ R s => s.heap.get? a = some { cls := .type "dict", data := .dict es ep } ∧ s.heap.get? b = some { cls := .type "tuple", dict := dd, data := .seq items n, slots := sl } ∧ R (.ok (.ret .notImplemented)) s) :=
  .of_wp fun prog w A R s h => by
    obtain ⟨hp, g, d, tk, os⟩ := s
    obtain ⟨ha, hb, h⟩ := h
    have f1 := sub_dt
    wp_walk using wpAny_load ha, wpAny_loadPart' hb
    exact ⟨_, rfl, h⟩
theorem dict_ne_tuple {A : Around} {s : Shared} {a b : Addr} {es : Array DictEntry} {ep : Nat} {items : Array Value} (ha : s.heap.get? a = some { cls := .type "dict", data := .dict es ep }) (hb : s.heap.IsTuple b items) (hu : A.units < cLine) : RcNeAt A s (.ref a) (.ref b) true := fun prog w E Q h => by
  obtain ⟨⟨cls, dd, data, sl⟩, hob, hc, n, hd⟩ := hb
  simp only at hc hd
  subst hc hd
  have ne : a ≠ b := fun z => by
    rw [z, hob] at ha
    have q : Value.type "tuple" = Value.type "dict" := congrArg Obj.cls (Option.some.inj ha)
    injection q with q
    exact absurd q (by decide)
  exact rc_ne_decline_or (k := false) ⟨_, ha, rfl⟩ ⟨_, hob, rfl⟩ (by decide) sub_td F.slot_dict_ne F.slot_tuple_ne_refl
    (fun _ hq => call_meets F.slot_dict_ne ⟨_, ha, rfl⟩ F.entry_dict_ne (F.args_dict_ne_2 _ _) (dict_declines a b es ep items n dd sl) ⟨ha, hob, hq⟩)
    (fun _ hq => call_meets F.slot_tuple_ne_refl ⟨_, hob, rfl⟩ F.entry_tuple_ne (F.args_tuple_ne_2 _ _) (tuple_declines a b es ep items n dd sl) ⟨ha, hob, hq⟩)
    (fun _ hq => wpAny_isSame_ref_other ne ha hob (by simp) hq) (.inr hu) h
end Q40
end PySem
namespace Py
open PySem PySem.Spec PyProof.Rows L2
def pNeT (S : Store) (d e : D) : Option D := match d, e with
  | .tup ds, .tup [] => some (.bl (!ds.isEmpty))
  | .emp, .tup [] => some (.bl true)
  | d, e => pNe S d e
section
variable {G : Gc} {X : Cx}
theorem o_neT0 (hK : X.K = G.K) (hu : X.A.units + 200 < cLine) : OpR X (compareOp .NotEq) (fun x y H Q => ∃ (a b : Addr) (xs : List V), x = .ref a ∧ y = .ref b ∧ SqT G.K H a xs ∧ SqT G.K H b [] ∧ Q (.bl (!xs.isEmpty)) H) := by
  intro pins s σ H x y v u Q I rx ry h
  obtain ⟨a, b, xs, rfl, rfl, h1, h2, q⟩ := h
  cases rx
  cases ry
  rw [← hK] at h1 h2
  obtain ⟨its, r, ht, hz⟩ := I.tuple h1
  obtain ⟨its2, r2, ht2, hz2⟩ := I.tuple h2
  have e2 : its2 = [] := r2.zero
  subst e2
  refine SeqAt.RcNeAt.tuples (e := fun _ => true) (items := its.toArray) (items2 := #[]) ht ht2 (by omega) (fun j h1 h2 => by simp at h2) _ _ _ _ ⟨.bl (!xs.isEmpty), H, I, ?_, q⟩
  have : ((List.range (min its.toArray.size (#[] : Array Value).size)).all (fun _ => true) && its.toArray.size == (#[] : Array Value).size) = xs.isEmpty := by
    have := r.length
    cases xs with
    | nil => simp at this; simp [this.symm]
    | cons x xs =>
      cases its with
      | nil => simp at this
      | cons y ys => simp
  rw [this]; rfl
theorem o_neE (hK : X.K = G.K) (hu : X.A.units + 200 < cLine) : OpR X (compareOp .NotEq) (fun x y H Q => ∃ (a b : Addr), x = .ref a ∧ y = .ref b ∧ H a = some (.dK []) ∧ SqT G.K H b [] ∧ Q (.bl true) H) := by
  intro pins s σ H x y v u Q I rx ry h
  obtain ⟨a, b, rfl, rfl, h1, h2, q⟩ := h
  cases rx
  cases ry
  rw [← hK] at h2
  obtain ⟨its2, r2, ht2, hz2⟩ := I.tuple h2
  obtain ⟨_, _, vs, _, ⟨oc, od, dt, sl⟩, es, ep, k1, ⟨c1, c2, c3⟩, k3, _⟩ := dk_rd I.hok (.inl h1)
  simp only at c1 c2 c3 k3
  subst c1 c2 c3 k3
  exact Q40.dict_ne_tuple k1 ht2 (by omega) _ _ _ _ ⟨.bl true, H, I, rfl, q⟩
theorem o_neT (hK : X.K = G.K) (hu : X.A.units + 200 < cLine) : OpR X (compareOp .NotEq) (rO G pNeT) := by
  refine opr_imp (OpR.or (OpR.or (o_ne hK hu) (o_neT0 hK hu)) (o_neE hK hu)) fun x y H Q ⟨m, S, d, e, r, hS, hx, hy, hf, k⟩ => ?_
  unfold pNeT at hf
  split at hf
  · cases hf
    rename_i ds
    obtain ⟨a, xs, rfl, q1, q2⟩ := hx
    obtain ⟨b, ys, rfl, q3, q4⟩ := hy
    have e : ys = [] := q4
    subst e
    refine .inl (.inr ⟨a, b, xs, rfl, rfl, q1.sq, q3.sq, ?_⟩)
    have : xs.isEmpty = ds.isEmpty := by
      have := q2.length
      cases xs <;> cases ds <;> simp at this <;> rfl
    rw [this]
    exact k.here hS (v := .bl _) rfl
  · cases hf
    obtain ⟨a, rfl, q1, _⟩ := hx
    obtain ⟨b, ys, rfl, q3, q4⟩ := hy
    have e : ys = [] := q4
    subst e
    exact .inr ⟨a, b, rfl, rfl, q1, q3.sq, k.here hS (v := .bl _) rfl⟩
  · exact .inl (.inl ⟨m, S, _, _, r, hS, hx, hy, hf, k⟩)
end
end Py

/-! The defs of the text, by what they do. Printed by gen3.py. -/
namespace K95
open PySem PySem.Spec PyProof.Rows L2 Py
abbrev top (i : Nat) : Stmt := PySem.Challenge.pw_errandwide_k95_refusals_of_runs_side_by.main.body.getD i (.Pass ⟨0, 0, 0, 0⟩)
def cBody : Stmt → List Stmt
  | .ClassDef _ _ _ body .. => body
  | _ => []
abbrev mth (i j : Nat) : Stmt := (cBody (top i)).getD j (.Pass ⟨0, 0, 0, 0⟩)
def fa : List He.Fa := [.glo "_law_met",
  .free "len",
  .free "int",
  .free "abs",
  .free "max",
  .glo "_law_bag",
  .glo "_law_pull",
  .glo "_law_choose",
  .free "isinstance",
  .free "bool",
  .int "GREATEST" (1000000006),
  .glo "is_number",
  .free "str",
  .str "LETTERS" "abcdefghijklmnopqrstuvwxyz",
  .free "all",
  .glo "is_word",
  .free "tuple",
  .glo "is_world_row",
  .int "MOST_ROWS" (40),
  .free "zip",
  .glo "is_world",
  .exc "BadThing",
  .glo "BadThing",
  .glo "need_world",
  .cls "House",
  .noat "House" "house_end",
  .noat "House" "called_hour",
  .noat "House" "rounds_begun",
  .noat "House" "wants_begun",
  .noat "House" "slots_held",
  .noat "House" "room_now",
  .noat "House" "diary_rows",
  .noat "House" "begun_hour",
  .noat "House" "machine_name",
  .noat "House" "house_path",
  .glo "house_row",
  .cls "Work",
  .noat "Work" "houses_by_path",
  .free "list",
  .free "sorted",
  .noat "Work" "asks_by_path",
  .noat "Work" "hour_now",
  .glo "hall_of",
  .noat "Work" "all_machines",
  .mkr "Work",
  .glo "Work",
  .noat "House" "args_given",
  .noat "House" "step_rows",
  .mkr "House",
  .glo "House",
  .exc "NoErrand",
  .glo "NoErrand",
  .glo "machine_of",
  .meth "Work" "room_of",
  .meth "Work" "goes_out",
  .free "range",
  .glo "branch_paths",
  .meth "House" "want_paths",
  .glo "slots_behind",
  .glo "count_of",
  .glo "outcome",
  .glo "CALL_TOO_DEEP",
  .meth "Work" "end_of",
  .meth "Work" "end_house",
  .meth "Work" "go_out",
  .meth "Work" "fault",
  .meth "Work" "end_ask",
  .glo "first_bad",
  .int "PRIME" (1000000007),
  .glo "joined",
  .glo "slot_worth",
  .int "MOST_ROUNDS" (16),
  .int "TOO_MANY_ROUNDS" (1),
  .meth "Work" "begin_round",
  .meth "Work" "do_row",
  .meth "Work" "begin_house",
  .meth "Work" "go_on",
  .meth "Work" "through_door",
  .int "MOST_WANTS" (5),
  .int "TOO_MANY_WANTS" (3),
  .meth "Work" "begin_want",
  .meth "Work" "behind_want",
  .meth "Work" "call_off",
  .meth "Work" "call_house",
  .int "LONGEST_HOUSE" (4),
  .meth "Work" "begin_branch",
  .meth "Work" "take_answer",
  .meth "Work" "take_event",
  .glo "worked",
  .glo "begun",
  .glo "is_number_to",
  .glo "is_run_pair",
  .int "MOST_RUNS" (6),
  .glo "need_runs",
  .int "MOST_HANDS" (3),
  .exc "BadNumber",
  .glo "BadNumber",
  .glo "need_hands",
  .str "AGE" "age",
  .str "ROUNDS" "rounds",
  .glo "need_way",
  .int "MOST_TURNS" (60),
  .glo "need_all",
  .glo "answers_in",
  .glo "result",
  .cls "Served",
  .noat "Served" "all_ended_at",
  .noat "Served" "own_halls",
  .noat "Served" "turn_now",
  .meth "Served" "note_end",
  .glo "waiting",
  .noat "Served" "came_at",
  .meth "Served" "note_asks",
  .noat "Served" "own_machines",
  .noat "Served" "own_answers",
  .noat "Served" "last_run",
  .noat "Served" "served_rows",
  .noat "Served" "own_events",
  .mkr "Served",
  .glo "Served",
  .meth "Served" "free_asks",
  .meth "Served" "by_rounds",
  .meth "Served" "by_age",
  .glo "house_again",
  .glo "work_again",
  .glo "come",
  .meth "Served" "serve",
  .meth "Served" "do_turn",
  .glo "all_served",
  .glo "served",
  .glo "own_events",
  .free "enumerate",
  .glo "ended_paper",
  .meth "Served" "waits",
  .glo "longest_wait",
  .glo "_law_asked",
  .glo "blocks_of_programs",
  .glo "names_in_worth",
  .glo "names_in_branch",
  .glo "WITH_WORTH",
  .glo "names_in_block",
  .free "set",
  .glo "names_of",
  .glo "blocks_of_places",
  .glo "put_dos",
  .glo "numbers_of",
  .glo "slots_for",
  .glo "block_at",
  .glo "row_at",
  .glo "behind",
  .glo "step_slid",
  .glo "slid",
  .glo "put_places",
  .glo "places",
  .cls "Making",
  .noat "Making" "errand",
  .noat "Making" "slots",
  .noat "Making" "numbers",
  .free "dict",
  .noat "Making" "doing",
  .mkr "Making",
  .glo "Making",
  .glo "deed_at",
  .meth "Making" "room_of",
  .meth "Making" "gone",
  .meth "Making" "worth_of",
  .meth "Making" "going_room",
  .glo "is_undone_end",
  .glo "standing",
  .glo "number_at",
  .glo "fall_at",
  .meth "Making" "slot_of",
  .meth "Making" "fall_of",
  .glo "is_row",
  .glo "off_at",
  .meth "Making" "off_of",
  .meth "Making" "branch_of",
  .meth "Making" "falling_room",
  .glo "dos_around",
  .meth "Making" "room_at",
  .meth "Making" "kept_at",
  .glo "made",
  .glo "is_same",
  .glo "is_row_of",
  .glo "_law_right",
  .free "min",
  .glo "law",
  .exm "BadNumber" "BadNumber" true,
  .exm "BadNumber" "BadThing" false,
  .exm "BadNumber" "NoErrand" false,
  .exm "BadThing" "BadNumber" false,
  .exm "BadThing" "BadThing" true,
  .exm "BadThing" "NoErrand" false,
  .exm "NoErrand" "BadNumber" false,
  .exm "NoErrand" "BadThing" false,
  .exm "NoErrand" "NoErrand" true]
def fn : List He.DefD := [dfD "_law_met" (top 104),
  dfA "_law_bag" "_law_bag" (top 101),
  dfA "_law_pull" "_law_pull" (top 102),
  dfA "_law_choose" "_law_choose" (top 103),
  dfA "is_number" "is_number" (top 43),
  dfA "is_word" "is_word" (top 42),
  dfA "is_world_row" "is_world_row" (top 55),
  dfA "is_world" "is_world" (top 56),
  dfA "need_world" "need_world" (top 57),
  dfA "house_row" "house_row" (top 28),
  dfA "hall_of" "hall_of" (top 27),
  dfM "Work" "__init__" (mth 25 0),
  dfM "House" "__init__" (mth 24 0),
  dfA "machine_of" "machine_of" (top 6),
  dfM "Work" "room_of" (mth 25 1),
  dfM "Work" "goes_out" (mth 25 8),
  dfA "branch_paths" "branch_paths" (top 9),
  dfM "House" "want_paths" (mth 24 1),
  dfA "slots_behind" "slots_behind" (top 13),
  dfA "count_of" "count_of" (top 10),
  dfA "outcome" "outcome" (top 11),
  dfM "Work" "end_of" (mth 25 13),
  dfM "Work" "end_house" (mth 25 6),
  dfM "Work" "go_out" (mth 25 9),
  dfM "Work" "fault" (mth 25 7),
  dfM "Work" "end_ask" (mth 25 16),
  dfA "first_bad" "first_bad" (top 12),
  dfA "joined" "joined" (top 16),
  dfA "slot_worth" "slot_worth" (top 17),
  dfM "Work" "begin_round" (mth 25 10),
  dfM "Work" "do_row" (mth 25 4),
  dfM "Work" "begin_house" (mth 25 2),
  dfM "Work" "go_on" (mth 25 3),
  dfM "Work" "through_door" (mth 25 5),
  dfM "Work" "begin_want" (mth 25 11),
  dfM "Work" "behind_want" (mth 25 14),
  dfM "Work" "call_off" (mth 25 15),
  dfM "Work" "call_house" (mth 25 17),
  dfM "Work" "begin_branch" (mth 25 12),
  dfM "Work" "take_answer" (mth 25 18),
  dfM "Work" "take_event" (mth 25 19),
  dfA "worked" "worked" (top 31),
  dfA "begun" "begun" (top 32),
  dfA "is_number_to" "is_number_to" (top 51),
  dfA "is_run_pair" "is_run_pair" (top 66),
  dfA "need_runs" "need_runs" (top 67),
  dfA "need_hands" "need_hands" (top 68),
  dfA "need_way" "need_way" (top 69),
  dfA "need_all" "need_all" (top 70),
  dfA "answers_in" "answers_in" (top 37),
  dfA "result" "result" (top 35),
  dfM "Served" "note_end" (mth 64 2),
  dfA "waiting" "waiting" (top 34),
  dfM "Served" "note_asks" (mth 64 1),
  dfM "Served" "__init__" (mth 64 0),
  dfM "Served" "free_asks" (mth 64 3),
  dfM "Served" "by_rounds" (mth 64 4),
  dfM "Served" "by_age" (mth 64 5),
  dfA "house_again" "house_again" (top 29),
  dfA "work_again" "work_again" (top 30),
  dfA "come" "come" (top 33),
  dfM "Served" "serve" (mth 64 6),
  dfM "Served" "do_turn" (mth 64 7),
  dfA "all_served" "all_served" (top 65),
  dfA "served" "served" (top 71),
  dfA "own_events" "own_events" (top 72),
  dfA "ended_paper" "ended_paper" (top 73),
  dfM "Served" "waits" (mth 64 8),
  dfA "longest_wait" "longest_wait" (top 74),
  dfA "_law_asked" "_law_asked" (top 105),
  dfA "blocks_of_programs" "blocks_of" (top 44),
  dfA "names_in_worth" "names_in_worth" (top 46),
  dfA "names_in_branch" "names_in_branch" (top 47),
  dfA "names_in_block" "names_in_block" (top 48),
  dfA "names_of" "names_of" (top 49),
  dfA "blocks_of_places" "blocks_of" (top 77),
  dfA "put_dos" "put_dos" (top 88),
  dfA "numbers_of" "numbers_of" (top 89),
  dfA "slots_for" "slots_for" (top 97),
  dfA "block_at" "block_at" (top 81),
  dfA "row_at" "row_at" (top 82),
  dfA "behind" "behind" (top 83),
  dfA "step_slid" "step_slid" (top 84),
  dfA "slid" "slid" (top 85),
  dfA "put_places" "put_places" (top 79),
  dfA "places" "places" (top 80),
  dfM "Making" "__init__" (mth 98 0),
  dfA "deed_at" "deed_at" (top 95),
  dfM "Making" "room_of" (mth 98 1),
  dfM "Making" "gone" (mth 98 8),
  dfM "Making" "worth_of" (mth 98 3),
  dfM "Making" "going_room" (mth 98 7),
  dfA "is_undone_end" "is_undone_end" (top 86),
  dfA "standing" "standing" (top 87),
  dfA "number_at" "number_at" (top 91),
  dfA "fall_at" "fall_at" (top 92),
  dfM "Making" "slot_of" (mth 98 2),
  dfM "Making" "fall_of" (mth 98 4),
  dfA "is_row" "is_row" (top 90),
  dfA "off_at" "off_at" (top 93),
  dfM "Making" "off_of" (mth 98 5),
  dfM "Making" "branch_of" (mth 98 6),
  dfM "Making" "falling_room" (mth 98 9),
  dfA "dos_around" "dos_around" (top 96),
  dfM "Making" "room_at" (mth 98 10),
  dfM "Making" "kept_at" (mth 98 11),
  dfA "made" "made" (top 99),
  dfA "is_same" "is_same" (top 54),
  dfA "is_row_of" "is_row_of" (top 75),
  dfA "_law_right" "_law_right" (top 106),
  dfA "law" "law" (top 107)]
def t_CALL_TOO_DEEP : List L2.Key := [.inr "bad", .inl 2]
def t_WITH_WORTH : List L2.Key := [.inr "tell", .inr "give", .inr "fail", .inr "if", .inr "while"]
def nmt : List (Str × List L2.Key) := [("CALL_TOO_DEEP", t_CALL_TOO_DEEP), ("WITH_WORTH", t_WITH_WORTH)]
abbrev lits : List (List L2.Key) := nmt.map Prod.snd
def cls : List Str := ["NoErrand", "BadThing", "BadNumber", "House", "Work", "Served", "Making"]
section
variable {P : Program} {G : Gc} {mg : Str → Option Value} {base : Heap}
def tfs : List Str := ["_law_asked", "_law_right"]
theorem at_all_ended_at (Z : Zf G mg fa fn nmt cls) : AtOk G [5] "all_ended_at" := (atOk_cons Z 105 106 rfl rfl rfl atOk_nil)
theorem at_all_machines (Z : Zf G mg fa fn nmt cls) : AtOk G [4] "all_machines" := (atOk_cons Z 36 43 rfl rfl rfl atOk_nil)
theorem at_args_given (Z : Zf G mg fa fn nmt cls) : AtOk G [3] "args_given" := (atOk_cons Z 24 46 rfl rfl rfl atOk_nil)
theorem at_asks_by_path (Z : Zf G mg fa fn nmt cls) : AtOk G [4] "asks_by_path" := (atOk_cons Z 36 40 rfl rfl rfl atOk_nil)
theorem at_begun_hour (Z : Zf G mg fa fn nmt cls) : AtOk G [3] "begun_hour" := (atOk_cons Z 24 32 rfl rfl rfl atOk_nil)
theorem at_called_hour (Z : Zf G mg fa fn nmt cls) : AtOk G [3] "called_hour" := (atOk_cons Z 24 26 rfl rfl rfl atOk_nil)
theorem at_came_at (Z : Zf G mg fa fn nmt cls) : AtOk G [5] "came_at" := (atOk_cons Z 105 111 rfl rfl rfl atOk_nil)
theorem at_diary_rows (Z : Zf G mg fa fn nmt cls) : AtOk G [3] "diary_rows" := (atOk_cons Z 24 31 rfl rfl rfl atOk_nil)
theorem at_doing (Z : Zf G mg fa fn nmt cls) : AtOk G [6] "doing" := (atOk_cons Z 154 159 rfl rfl rfl atOk_nil)
theorem at_errand (Z : Zf G mg fa fn nmt cls) : AtOk G [6] "errand" := (atOk_cons Z 154 155 rfl rfl rfl atOk_nil)
theorem at_hour_now (Z : Zf G mg fa fn nmt cls) : AtOk G [4] "hour_now" := (atOk_cons Z 36 41 rfl rfl rfl atOk_nil)
theorem at_house_end (Z : Zf G mg fa fn nmt cls) : AtOk G [3] "house_end" := (atOk_cons Z 24 25 rfl rfl rfl atOk_nil)
theorem at_house_path (Z : Zf G mg fa fn nmt cls) : AtOk G [3] "house_path" := (atOk_cons Z 24 34 rfl rfl rfl atOk_nil)
theorem at_houses_by_path (Z : Zf G mg fa fn nmt cls) : AtOk G [4] "houses_by_path" := (atOk_cons Z 36 37 rfl rfl rfl atOk_nil)
theorem at_last_run (Z : Zf G mg fa fn nmt cls) : AtOk G [5] "last_run" := (atOk_cons Z 105 115 rfl rfl rfl atOk_nil)
theorem at_machine_name (Z : Zf G mg fa fn nmt cls) : AtOk G [3] "machine_name" := (atOk_cons Z 24 33 rfl rfl rfl atOk_nil)
theorem at_numbers (Z : Zf G mg fa fn nmt cls) : AtOk G [6] "numbers" := (atOk_cons Z 154 157 rfl rfl rfl atOk_nil)
theorem at_own_answers (Z : Zf G mg fa fn nmt cls) : AtOk G [5] "own_answers" := (atOk_cons Z 105 114 rfl rfl rfl atOk_nil)
theorem at_own_events (Z : Zf G mg fa fn nmt cls) : AtOk G [5] "own_events" := (atOk_cons Z 105 117 rfl rfl rfl atOk_nil)
theorem at_own_halls (Z : Zf G mg fa fn nmt cls) : AtOk G [5] "own_halls" := (atOk_cons Z 105 107 rfl rfl rfl atOk_nil)
theorem at_own_machines (Z : Zf G mg fa fn nmt cls) : AtOk G [5] "own_machines" := (atOk_cons Z 105 113 rfl rfl rfl atOk_nil)
theorem at_room_now (Z : Zf G mg fa fn nmt cls) : AtOk G [3] "room_now" := (atOk_cons Z 24 30 rfl rfl rfl atOk_nil)
theorem at_rounds_begun (Z : Zf G mg fa fn nmt cls) : AtOk G [3] "rounds_begun" := (atOk_cons Z 24 27 rfl rfl rfl atOk_nil)
theorem at_served_rows (Z : Zf G mg fa fn nmt cls) : AtOk G [5] "served_rows" := (atOk_cons Z 105 116 rfl rfl rfl atOk_nil)
theorem at_slots (Z : Zf G mg fa fn nmt cls) : AtOk G [6] "slots" := (atOk_cons Z 154 156 rfl rfl rfl atOk_nil)
theorem at_slots_held (Z : Zf G mg fa fn nmt cls) : AtOk G [3] "slots_held" := (atOk_cons Z 24 29 rfl rfl rfl atOk_nil)
theorem at_step_rows (Z : Zf G mg fa fn nmt cls) : AtOk G [3] "step_rows" := (atOk_cons Z 24 47 rfl rfl rfl atOk_nil)
theorem at_turn_now (Z : Zf G mg fa fn nmt cls) : AtOk G [5] "turn_now" := (atOk_cons Z 105 108 rfl rfl rfl atOk_nil)
theorem at_wants_begun (Z : Zf G mg fa fn nmt cls) : AtOk G [3] "wants_begun" := (atOk_cons Z 24 28 rfl rfl rfl atOk_nil)
def em : List ((Nat × Nat) × Bool) := [((0, 0), true), ((0, 1), false), ((0, 2), false), ((1, 0), false), ((1, 1), true), ((1, 2), false), ((2, 0), false), ((2, 1), false), ((2, 2), true)]
theorem em_ok (Z : Zf G mg fa fn nmt cls) : EmOk G em := (em_cons Z 195 (c := 0) (h := 0) rfl rfl rfl (em_cons Z 194 (c := 0) (h := 1) rfl rfl rfl (em_cons Z 193 (c := 0) (h := 2) rfl rfl rfl (em_cons Z 192 (c := 1) (h := 0) rfl rfl rfl (em_cons Z 191 (c := 1) (h := 1) rfl rfl rfl (em_cons Z 190 (c := 1) (h := 2) rfl rfl rfl (em_cons Z 189 (c := 2) (h := 0) rfl rfl rfl (em_cons Z 188 (c := 2) (h := 1) rfl rfl rfl (em_cons Z 187 (c := 2) (h := 2) rfl rfl rfl em_nil)))))))))
def N__law_met : List Str := ["call"]
theorem nd__law_met : N__law_met.Nodup := by decide +kernel
theorem sc__law_met : FnScope N__law_met ["call"] (defScope (top 104)) := ⟨rfl, rfl, rfl, nd__law_met, rfl, by decide +kernel, by decide +kernel⟩
def hs__law_met : List (Nat × Str) := [(0, "errand"), (1, "thing"), (2, "number")]
theorem td__law_met (Z : Zf G mg fa fn nmt cls) : TdOk G mg "_law_met" "call" (defBody (top 104)) (defScope (top 104)) := td_of Z 0 0 (st := top 104) (by rfl) (by rfl) (fun _ _ _ _ _ _ us hl => match us, hl with | [_], _ => by rfl)
def N__law_bag : List Str := ["script", "spot", "cell", "great", "mixed"]
theorem nd__law_bag : N__law_bag.Nodup := by decide +kernel
theorem sc__law_bag : FnScope N__law_bag ["script", "spot"] (defScope (top 101)) := ⟨rfl, rfl, rfl, nd__law_bag, rfl, by decide +kernel, by decide +kernel⟩
def b__law_bag : DS := dSeq (dSet 2 (qV (dIf (dTest (dOp pLt (dVar 1) (dPr pLen (dCons (dVar 0) (dNil))))) (dPr pInt (dCons (dOp pIdx (dVar 0) (dVar 1)) (dNil))) (dOp pAdd (dOp pMul (dCst (.int 1013)) (dVar 1)) (dCst (.int 151)))))) (dSeq (dSet 3 (qV (dOp pMod (dPr pInt (dCons (dPr pAbs (dCons (dVar 2) (dNil))) (dNil))) (dOp pPow (dOp pPow (dCst (.int 10)) (dCst (.int 41))) (dCst (.int 8)))))) (dSeq (dSet 4 (qV (dOp pAdd (dOp pAdd (dOp pAdd (dOp pMul (dOp pMod (dVar 3) (dCst (.int 2305843009213693951))) (dCst (.int 223))) (dOp pMul (dCst (.int 677)) (dVar 1))) (dOp pMul (dCst (.int 163)) (dPr pInt (dCons (dOp pLt (dVar 2) (dCst (.int 0))) (dNil))))) (dCst (.int 127))))) (dRet (dNew (dDisp (dCons (dPr pMax (dCons (dCst (.int 0)) (dCons (dOp pSub (dVar 3) (dOp pPow (dCst (.int 10)) (dCst (.int 16)))) (dNil)))) (dCons (dVar 4) (dCons (dCst (.int 0)) (dNil)))))))))
def f__law_bag : List D → M D := dFn 2 N__law_bag.length b__law_bag
theorem ok__law_bag (Z : Zf G mg fa fn nmt cls) (B : Tbs G mg base tfs) : Callee P G.w G mg base "_law_bag" 1 2 ["script", "spot"] f__law_bag := by
  refine callee_ofA (k := 0) (N := N__law_bag) (d := b__law_bag) Z 1 5 (st := top 101) (by rfl) (by rfl) sc__law_bag (by rfl) (fun _ _ _ _ _ _ us hl => match us, hl with | [_, _], _ => by rfl) fun f cdv A outer s H E hr => ?_
  exact (jss_cons (js_setV (ps_set nd__law_bag rfl (.inl rfl) (je_if (jt_cmp (o_lt rfl (huR hr)) (jr_of (je_var rfl (.inl rfl) rfl rfl)) (jr_of (je_callB (c_len rfl) rfl (Z.free 1 rfl) boot_len (jb_cons rfl (jr_of (je_var rfl (.inl rfl) rfl rfl)) jb_nil) rfl)) rfl) (je_callT (c_int) rfl (Z.free 2 rfl) PyProof.Rows.boot_int (jb_cons rfl (jr_of (je_ix (i_idx rfl) (jr_of (je_var rfl (.inl rfl) rfl rfl)) (jr_of (je_var rfl (.inl rfl) rfl rfl)) rfl)) jb_nil) rfl) (je_op (o_add rfl) (jr_of (je_op (o_mul rfl) (jr_of cst_int) (jr_of (je_var rfl (.inl rfl) rfl rfl)))) (jr_of cst_int))) rfl)) (jss_cons (js_setV (ps_set nd__law_bag rfl (.inl rfl) (je_op (o_mod) (jr_of (je_callT (c_int) rfl (Z.free 2 rfl) PyProof.Rows.boot_int (jb_cons rfl (jr_of (je_callB (c_abs) rfl (Z.free 3 rfl) PyProof.Rows.boot_abs (jb_cons rfl (jr_of (je_var rfl (.inl rfl) rfl rfl)) jb_nil) rfl)) jb_nil) rfl)) (jr_of (je_op (o_pow) (jr_of (je_op (o_pow) (jr_of cst_int) (jr_of cst_int))) (jr_of cst_int)))) rfl)) (jss_cons (js_setV (ps_set nd__law_bag rfl (.inl rfl) (je_op (o_add rfl) (jr_of (je_op (o_add rfl) (jr_of (je_op (o_add rfl) (jr_of (je_op (o_mul rfl) (jr_of (je_op (o_mod) (jr_of (je_var rfl (.inl rfl) rfl rfl)) (jr_of cst_int))) (jr_of cst_int))) (jr_of (je_op (o_mul rfl) (jr_of cst_int) (jr_of (je_var rfl (.inl rfl) rfl rfl)))))) (jr_of (je_op (o_mul rfl) (jr_of cst_int) (jr_of (je_callT (c_int) rfl (Z.free 2 rfl) PyProof.Rows.boot_int (jb_cons rfl (jr_of (je_cmp (o_lt rfl (huR hr)) (jr_of (je_var rfl (.inl rfl) rfl rfl)) (jr_of cst_int) rfl)) jb_nil) rfl)))))) (jr_of cst_int)) rfl)) (jss_one (js_ret (je_new (jl_disp (ja_cons rfl (je_callB (c_max rfl rfl) rfl (Z.free 4 rfl) PyProof.Rows.boot_max (jb_cons rfl (jr_of cst_int) (jb_cons rfl (jr_of (je_op (o_sub) (jr_of (je_var rfl (.inl rfl) rfl rfl)) (jr_of (je_op (o_pow) (jr_of cst_int) (jr_of cst_int))))) jb_nil)) rfl) (ja_cons rfl (je_var rfl (.inl rfl) rfl rfl) (ja_cons rfl cst_int ja_nil))))))))))
def N__law_pull : List Str := ["bag", "many", "found", "one", "two"]
theorem nd__law_pull : N__law_pull.Nodup := by decide +kernel
theorem sc__law_pull : FnScope N__law_pull ["bag", "many"] (defScope (top 102)) := ⟨rfl, rfl, rfl, nd__law_pull, rfl, by decide +kernel, by decide +kernel⟩
def b__law_pull : DS := dSeq (dIfS (dTest (dOp pGt (dOp pIdx (dVar 0) (dCst (.int 0))) (dCst (.int 0)))) (dSeq (dSet 2 (qV (dOp pMod (dPr pInt (dCons (dOp pIdx (dVar 0) (dCst (.int 0))) (dNil))) (dVar 1)))) (dSeq (dSto (dOp pDiv (dOp pIdx (dVar 0) (dCst (.int 0))) (dVar 1)) (dVar 0) (dCst (.int 0))) (dRet (dVar 2)))) (dNop)) (dSeq (dSto (dOp pAdd (dOp pIdx (dVar 0) (dCst (.int 2))) (dCst (.int 1))) (dVar 0) (dCst (.int 2))) (dSeq (dSet 3 (qV (dOp pMod (dPr pInt (dCons (dOp pAdd (dOp pIdx (dVar 0) (dCst (.int 1))) (dOp pMul (dCst (.int 10002349)) (dOp pIdx (dVar 0) (dCst (.int 2))))) (dNil))) (dCst (.int 2305843009213693951))))) (dSeq (dSet 4 (qV (dOp pAdd (dOp pMul (dOp pMod (dPr pInt (dCons (dOp pAdd (dOp pMul (dVar 3) (dVar 3)) (dOp pMul (dCst (.int 857)) (dOp pIdx (dVar 0) (dCst (.int 2))))) (dNil))) (dCst (.int 2305843009213693951))) (dCst (.int 8589934777))) (dVar 3)))) (dRet (dOp pMod (dPr pInt (dCons (dOp pDiv (dVar 4) (dCst (.int 131072))) (dNil))) (dVar 1))))))
def f__law_pull : List D → M D := dFn 2 N__law_pull.length b__law_pull
theorem ok__law_pull (Z : Zf G mg fa fn nmt cls) (B : Tbs G mg base tfs) : Callee P G.w G mg base "_law_pull" 1 2 ["bag", "many"] f__law_pull := by
  refine callee_ofA (k := 0) (N := N__law_pull) (d := b__law_pull) Z 2 6 (st := top 102) (by rfl) (by rfl) sc__law_pull (by rfl) (fun _ _ _ _ _ _ us hl => match us, hl with | [_, _], _ => by rfl) fun f cdv A outer s H E hr => ?_
  exact (jss_cons (js_if (jt_cmp (o_gt rfl (huR hr)) (jr_of (je_ix (i_idx rfl) (jr_of (je_var rfl (.inl rfl) rfl rfl)) (jr_of cst_int) rfl)) (jr_of cst_int) rfl) (jss_cons (js_setV (ps_set nd__law_pull rfl (.inl rfl) (je_op (o_mod) (jr_of (je_callT (c_int) rfl (Z.free 2 rfl) PyProof.Rows.boot_int (jb_cons rfl (jr_of (je_ix (i_idx rfl) (jr_of (je_var rfl (.inl rfl) rfl rfl)) (jr_of cst_int) rfl)) jb_nil) rfl)) (jr_of (je_var rfl (.inl rfl) rfl rfl))) rfl)) (jss_cons (js_sto rfl (je_op (o_div) (jr_of (je_ix (i_idx rfl) (jr_of (je_var rfl (.inl rfl) rfl rfl)) (jr_of cst_int) rfl)) (jr_of (je_var rfl (.inl rfl) rfl rfl))) (je_var rfl (.inl rfl) rfl rfl) cst_int rfl rfl rfl (fun _ => rfl)) (jss_one (js_ret (je_var rfl (.inl rfl) rfl rfl))))) jss_nil) (jss_cons (js_sto rfl (je_op (o_add rfl) (jr_of (je_ix (i_idx rfl) (jr_of (je_var rfl (.inl rfl) rfl rfl)) (jr_of cst_int) rfl)) (jr_of cst_int)) (je_var rfl (.inl rfl) rfl rfl) cst_int rfl rfl rfl (fun _ => rfl)) (jss_cons (js_setV (ps_set nd__law_pull rfl (.inl rfl) (je_op (o_mod) (jr_of (je_callT (c_int) rfl (Z.free 2 rfl) PyProof.Rows.boot_int (jb_cons rfl (jr_of (je_op (o_add rfl) (jr_of (je_ix (i_idx rfl) (jr_of (je_var rfl (.inl rfl) rfl rfl)) (jr_of cst_int) rfl)) (jr_of (je_op (o_mul rfl) (jr_of cst_int) (jr_of (je_ix (i_idx rfl) (jr_of (je_var rfl (.inl rfl) rfl rfl)) (jr_of cst_int) rfl)))))) jb_nil) rfl)) (jr_of cst_int)) rfl)) (jss_cons (js_setV (ps_set nd__law_pull rfl (.inl rfl) (je_op (o_add rfl) (jr_of (je_op (o_mul rfl) (jr_of (je_op (o_mod) (jr_of (je_callT (c_int) rfl (Z.free 2 rfl) PyProof.Rows.boot_int (jb_cons rfl (jr_of (je_op (o_add rfl) (jr_of (je_op (o_mul rfl) (jr_of (je_var rfl (.inl rfl) rfl rfl)) (jr_of (je_var rfl (.inl rfl) rfl rfl)))) (jr_of (je_op (o_mul rfl) (jr_of cst_int) (jr_of (je_ix (i_idx rfl) (jr_of (je_var rfl (.inl rfl) rfl rfl)) (jr_of cst_int) rfl)))))) jb_nil) rfl)) (jr_of cst_int))) (jr_of cst_int))) (jr_of (je_var rfl (.inl rfl) rfl rfl))) rfl)) (jss_one (js_ret (je_op (o_mod) (jr_of (je_callT (c_int) rfl (Z.free 2 rfl) PyProof.Rows.boot_int (jb_cons rfl (jr_of (je_op (o_div) (jr_of (je_var rfl (.inl rfl) rfl rfl)) (jr_of cst_int))) jb_nil) rfl)) (jr_of (je_var rfl (.inl rfl) rfl rfl)))))))))
def N__law_choose : List Str := ["bag", "items"]
theorem nd__law_choose : N__law_choose.Nodup := by decide +kernel
theorem sc__law_choose : FnScope N__law_choose ["bag", "items"] (defScope (top 103)) := ⟨rfl, rfl, rfl, nd__law_choose, rfl, by decide +kernel, by decide +kernel⟩
def b__law_choose : DS := dRet (dOp pIdx (dVar 1) (dCall 2 f__law_pull (dCons (dVar 0) (dCons (dPr pLen (dCons (dVar 1) (dNil))) (dNil)))))
def f__law_choose : List D → M D := dFn 2 N__law_choose.length b__law_choose
theorem ok__law_choose (Z : Zf G mg fa fn nmt cls) (B : Tbs G mg base tfs) : Callee P G.w G mg base "_law_choose" 2 2 ["bag", "items"] f__law_choose := by
  refine callee_ofA (k := 1) (N := N__law_choose) (d := b__law_choose) Z 3 7 (st := top 103) (by rfl) (by rfl) sc__law_choose (by rfl) (fun _ _ _ _ _ _ us hl => match us, hl with | [_, _], _ => by rfl) fun f cdv A outer s H E hr => ?_
  exact (jss_one (js_ret (je_ix (i_idx rfl) (jr_of (je_var rfl (.inl rfl) rfl rfl)) (jr_of (je_cal (ok__law_pull Z B) rfl hr (by decide) rfl (takes_of (E := E) rfl rfl rfl rfl) (ja_cons rfl (je_var rfl (.inl rfl) rfl rfl) (ja_cons rfl (je_callB (c_len rfl) rfl (Z.free 1 rfl) boot_len (jb_cons rfl (jr_of (je_var rfl (.inl rfl) rfl rfl)) jb_nil) rfl) ja_nil)) rfl)) rfl)))
def N_is_number : List Str := ["value"]
theorem nd_is_number : N_is_number.Nodup := by decide +kernel
theorem sc_is_number : FnScope N_is_number ["value"] (defScope (top 43)) := ⟨rfl, rfl, rfl, nd_is_number, rfl, by decide +kernel, by decide +kernel⟩
def b_is_number : DS := dRet (dAndV (dPr pIsi (dCons (dVar 0) (dCons (dCst (.ty "int")) (dNil)))) (dAndV (dNotV (dPr pIsi (dCons (dVar 0) (dCons (dCst (.ty "bool")) (dNil))))) (dChain pLe pLe (dCst (.int 0)) (dVar 0) (dCst (.int (1000000006))))))
def f_is_number : List D → M D := dFn 1 N_is_number.length b_is_number
theorem ok_is_number (Z : Zf G mg fa fn nmt cls) (B : Tbs G mg base tfs) : Callee P G.w G mg base "is_number" 1 1 ["value"] f_is_number := by
  refine callee_ofA (k := 0) (N := N_is_number) (d := b_is_number) Z 4 11 (st := top 43) (by rfl) (by rfl) sc_is_number (by rfl) (fun _ _ _ _ _ _ us hl => match us, hl with | [_], _ => by rfl) fun f cdv A outer s H E hr => ?_
  exact (jss_one (js_ret (je_and (je_callB (c_isi rfl) rfl (Z.free 8 rfl) PyProof.Rows.boot_isinstance (jb_cons rfl (jr_of (je_var rfl (.inl rfl) rfl rfl)) (jb_cons rfl (jr_of (je_ty rfl (Z.free 2 rfl) PyProof.Rows.boot_int (by decide) (by decide))) jb_nil)) rfl) (je_and (je_not (je_callB (c_isi rfl) rfl (Z.free 8 rfl) PyProof.Rows.boot_isinstance (jb_cons rfl (jr_of (je_var rfl (.inl rfl) rfl rfl)) (jb_cons rfl (jr_of (je_ty rfl (Z.free 9 rfl) PyProof.Rows.boot_bool (by decide) (by decide))) jb_nil)) rfl)) (pe_one (je_chain (o_le rfl (huR hr)) (o_le rfl (huR hr)) (jr_of cst_int) (jr_of (je_var rfl (.inl rfl) rfl rfl)) (jr_of (je_gint rfl (Z.int 10 rfl))) rfl))))))
def N_is_word : List Str := ["value", "sign"]
theorem nd_is_word : N_is_word.Nodup := by decide +kernel
theorem sc_is_word : FnScope N_is_word ["value"] (defScope (top 42)) := ⟨rfl, rfl, rfl, nd_is_word, rfl, by decide +kernel, by decide +kernel⟩
def b_is_word : DS := dSeq (dIfS (dOr (dNot (dTest (dPr pIsi (dCons (dVar 0) (dCons (dCst (.ty "str")) (dNil)))))) (dNot (dTest (dChain pLe pLe (dCst (.int 1)) (dPr pLen (dCons (dVar 0) (dNil))) (dCst (.int 8)))))) (dRet (dCst (.bl false))) (dNop)) (dRet (dPr pAll (dCons (dLst (dLc (dItems (dVar 0)) (gN 1) (dYes) (dOp pIn (dVar 1) (dCst (.str "abcdefghijklmnopqrstuvwxyz"))) [1])) (dNil))))
def f_is_word : List D → M D := dFn 1 N_is_word.length b_is_word
theorem ok_is_word (Z : Zf G mg fa fn nmt cls) (B : Tbs G mg base tfs) : Callee P G.w G mg base "is_word" 1 1 ["value"] f_is_word := by
  refine callee_ofA (k := 0) (N := N_is_word) (d := b_is_word) Z 5 15 (st := top 42) (by rfl) (by rfl) sc_is_word (by rfl) (fun _ _ _ _ _ _ us hl => match us, hl with | [_], _ => by rfl) fun f cdv A outer s H E hr => ?_
  exact (jss_cons (js_if (PW.pt (jw_or (jt_not (jt_val (jr_of (je_callB (c_isi rfl) rfl (Z.free 8 rfl) PyProof.Rows.boot_isinstance (jb_cons rfl (jr_of (je_var rfl (.inl rfl) rfl rfl)) (jb_cons rfl (jr_of (je_ty rfl (Z.free 12 rfl) PyProof.Rows.boot_str (by decide) (by decide))) jb_nil)) rfl)) rfl)) (jw1_or (jt_not (jt_chain (o_le rfl (huR hr)) (o_le rfl (huR hr)) (jr_of cst_int) (jr_of (je_callB (c_len rfl) rfl (Z.free 1 rfl) boot_len (jb_cons rfl (jr_of (je_var rfl (.inl rfl) rfl rfl)) jb_nil) rfl)) (jr_of cst_int) rfl))))) (jss_one (js_ret cst_bl)) jss_nil) (jss_one (js_ret (je_callB (c_all rfl rfl) rfl (Z.free 14 rfl) PyProof.Rows.boot_all (jb_cons rfl (jr_of (je_lst (je_lc (own := [("sign", 1)]) rfl nd_is_word (ji_valW rfl (jr_of (je_var rfl (.inl rfl) rfl rfl))) (blkOk_by rfl) (fun _ _ _ _ _ => (jg_name nd_is_word rfl (.inl rfl) (.inr rfl) (by decide))) (fun _ _ _ _ _ => jts_nil) (fun _ _ _ _ _ => (je_cmp (o_in rfl (huR hr)) (jr_of (je_var rfl (.inl rfl) rfl rfl)) (jr_of (je_gstr rfl (Z.str 13 rfl))) rfl)) (fun _ => rfl)))) jb_nil) rfl))))
def N_is_world_row : List Str := ["value"]
theorem nd_is_world_row : N_is_world_row.Nodup := by decide +kernel
theorem sc_is_world_row : FnScope N_is_world_row ["value"] (defScope (top 55)) := ⟨rfl, rfl, rfl, nd_is_world_row, rfl, by decide +kernel, by decide +kernel⟩
def b_is_world_row : DS := dSeq (dIfS (dOr (dNot (dTest (dPr pIsi (dCons (dVar 0) (dCons (dCst (.ty "tuple")) (dNil)))))) (dOr (dTest (dOp pNe (dPr pLen (dCons (dVar 0) (dNil))) (dCst (.int 4)))) (dOr (dNot (dTest (dCall 1 f_is_word (dCons (dOp pIdx (dVar 0) (dCst (.int 0))) (dNil))))) (dNot (dTest (dCall 1 f_is_number (dCons (dOp pIdx (dVar 0) (dCst (.int 1))) (dNil)))))))) (dRet (dCst (.bl false))) (dNop)) (dRet (dAndV (dPr pIsi (dCons (dOp pIdx (dVar 0) (dCst (.int 2))) (dCons (dCst (.ty "bool")) (dNil)))) (dCall 1 f_is_number (dCons (dOp pIdx (dVar 0) (dCst (.int 3))) (dNil)))))
def f_is_world_row : List D → M D := dFn 1 N_is_world_row.length b_is_world_row
theorem ok_is_world_row (Z : Zf G mg fa fn nmt cls) (B : Tbs G mg base tfs) : Callee P G.w G mg base "is_world_row" 2 1 ["value"] f_is_world_row := by
  refine callee_ofA (k := 1) (N := N_is_world_row) (d := b_is_world_row) Z 6 17 (st := top 55) (by rfl) (by rfl) sc_is_world_row (by rfl) (fun _ _ _ _ _ _ us hl => match us, hl with | [_], _ => by rfl) fun f cdv A outer s H E hr => ?_
  exact (jss_cons (js_if (PW.pt (jw_or (jt_not (jt_val (jr_of (je_callB (c_isi rfl) rfl (Z.free 8 rfl) PyProof.Rows.boot_isinstance (jb_cons rfl (jr_of (je_var rfl (.inl rfl) rfl rfl)) (jb_cons rfl (jr_of (je_ty rfl (Z.free 16 rfl) PyProof.Rows.boot_tuple (by decide) (by decide))) jb_nil)) rfl)) rfl)) (jw_or (jt_cmp (o_ne rfl (huR hr)) (jr_of (je_callB (c_len rfl) rfl (Z.free 1 rfl) boot_len (jb_cons rfl (jr_of (je_var rfl (.inl rfl) rfl rfl)) jb_nil) rfl)) (jr_of cst_int) rfl) (jw_or (jt_not (jt_val (jr_of (je_cal (ok_is_word Z B) rfl hr (by decide) rfl (takes_of (E := E) rfl rfl rfl rfl) (ja_cons rfl (je_ix (i_idx rfl) (jr_of (je_var rfl (.inl rfl) rfl rfl)) (jr_of cst_int) rfl) ja_nil) rfl)) rfl)) (jw1_or (jt_not (jt_val (jr_of (je_cal (ok_is_number Z B) rfl hr (by decide) rfl (takes_of (E := E) rfl rfl rfl rfl) (ja_cons rfl (je_ix (i_idx rfl) (jr_of (je_var rfl (.inl rfl) rfl rfl)) (jr_of cst_int) rfl) ja_nil) rfl)) rfl))))))) (jss_one (js_ret cst_bl)) jss_nil) (jss_one (js_ret (je_and (je_callB (c_isi rfl) rfl (Z.free 8 rfl) PyProof.Rows.boot_isinstance (jb_cons rfl (jr_of (je_ix (i_idx rfl) (jr_of (je_var rfl (.inl rfl) rfl rfl)) (jr_of cst_int) rfl)) (jb_cons rfl (jr_of (je_ty rfl (Z.free 9 rfl) PyProof.Rows.boot_bool (by decide) (by decide))) jb_nil)) rfl) (pe_one (je_cal (ok_is_number Z B) rfl hr (by decide) rfl (takes_of (E := E) rfl rfl rfl rfl) (ja_cons rfl (je_ix (i_idx rfl) (jr_of (je_var rfl (.inl rfl) rfl rfl)) (jr_of cst_int) rfl) ja_nil) rfl))))))
def N_is_world : List Str := ["value", "row", "one", "other"]
theorem nd_is_world : N_is_world.Nodup := by decide +kernel
theorem sc_is_world : FnScope N_is_world ["value"] (defScope (top 56)) := ⟨rfl, rfl, rfl, nd_is_world, rfl, by decide +kernel, by decide +kernel⟩
def b_is_world : DS := dSeq (dIfS (dOr (dNot (dTest (dPr pIsi (dCons (dVar 0) (dCons (dCst (.ty "tuple")) (dNil)))))) (dOr (dTest (dOp pGt (dPr pLen (dCons (dVar 0) (dNil))) (dCst (.int (40))))) (dNot (dTest (dPr pAll (dCons (dLst (dLc (dItems (dVar 0)) (gN 1) (dYes) (dCall 1 f_is_world_row (dCons (dVar 1) (dNil))) [1])) (dNil))))))) (dRet (dCst (.bl false))) (dNop)) (dRet (dPr pAll (dCons (dLst (dLc (dRg zpB (dCons (dVar 0) (dCons (dSl (dVar 0) (dSo (dCst (.int 1))) (dNo)) (dNil)))) (gT 2 (gsC (gN 2) (gsC (gN 3) (gs0)))) (dYes) (dOp pLt (dSl (dVar 2) (dNo) (dSo (dCst (.int 2)))) (dSl (dVar 3) (dNo) (dSo (dCst (.int 2))))) [2, 3])) (dNil))))
def f_is_world : List D → M D := dFn 1 N_is_world.length b_is_world
theorem ok_is_world (Z : Zf G mg fa fn nmt cls) (B : Tbs G mg base tfs) : Callee P G.w G mg base "is_world" 3 1 ["value"] f_is_world := by
  refine callee_ofA (k := 2) (N := N_is_world) (d := b_is_world) Z 7 20 (st := top 56) (by rfl) (by rfl) sc_is_world (by rfl) (fun _ _ _ _ _ _ us hl => match us, hl with | [_], _ => by rfl) fun f cdv A outer s H E hr => ?_
  exact (jss_cons (js_if (PW.pt (jw_or (jt_not (jt_val (jr_of (je_callB (c_isi rfl) rfl (Z.free 8 rfl) PyProof.Rows.boot_isinstance (jb_cons rfl (jr_of (je_var rfl (.inl rfl) rfl rfl)) (jb_cons rfl (jr_of (je_ty rfl (Z.free 16 rfl) PyProof.Rows.boot_tuple (by decide) (by decide))) jb_nil)) rfl)) rfl)) (jw_or (jt_cmp (o_gt rfl (huR hr)) (jr_of (je_callB (c_len rfl) rfl (Z.free 1 rfl) boot_len (jb_cons rfl (jr_of (je_var rfl (.inl rfl) rfl rfl)) jb_nil) rfl)) (jr_of (je_gint rfl (Z.int 18 rfl))) rfl) (jw1_or (jt_not (jt_val (jr_of (je_callB (c_all rfl rfl) rfl (Z.free 14 rfl) PyProof.Rows.boot_all (jb_cons rfl (jr_of (je_lst (je_lc (own := [("row", 1)]) rfl nd_is_world (ji_valW rfl (jr_of (je_var rfl (.inl rfl) rfl rfl))) (blkOk_by rfl) (fun _ _ _ _ _ => (jg_name nd_is_world rfl (.inl rfl) (.inr rfl) (by decide))) (fun _ _ _ _ _ => jts_nil) (fun _ _ _ _ _ => (je_cal (ok_is_world_row Z B) rfl hr (by decide) rfl takes0 (ja_cons rfl (je_var rfl (.inl rfl) rfl rfl) ja_nil) rfl)) (fun _ => rfl)))) jb_nil) rfl)) rfl)))))) (jss_one (js_ret cst_bl)) jss_nil) (jss_one (js_ret (je_callB (c_all rfl rfl) rfl (Z.free 14 rfl) PyProof.Rows.boot_all (jb_cons rfl (jr_of (je_lst (je_lc (own := [("one", 2), ("other", 3)]) rfl nd_is_world (jiw_of (ji_zipB rfl rfl (Z.free 19 rfl) (ja_cons rfl (je_var rfl (.inl rfl) rfl rfl) (ja_cons rfl (je_sl rfl (jr_of (je_var rfl (.inl rfl) rfl rfl)) (jo_some cst_int) jo_none) ja_nil)) rfl rfl)) (blkOk_by rfl) (fun _ _ _ _ _ => (jg_tup rfl rfl (jgs_cons (jg_name nd_is_world rfl (.inl rfl) (.inr rfl) (by decide)) (jgs_cons (jg_name nd_is_world rfl (.inl rfl) (.inr rfl) (by decide)) jgs_nil)))) (fun _ _ _ _ _ => jts_nil) (fun _ _ _ _ _ => (je_cmp (o_lt rfl (huR hr)) (jr_of (je_sl rfl (jr_of (je_var rfl (.inl rfl) rfl rfl)) jo_none (jo_some cst_int))) (jr_of (je_sl rfl (jr_of (je_var rfl (.inl rfl) rfl rfl)) jo_none (jo_some cst_int))) rfl)) (fun _ => rfl)))) jb_nil) rfl))))
def N_need_world : List Str := ["value"]
theorem nd_need_world : N_need_world.Nodup := by decide +kernel
theorem sc_need_world : FnScope N_need_world ["value"] (defScope (top 57)) := ⟨rfl, rfl, rfl, nd_need_world, rfl, by decide +kernel, by decide +kernel⟩
def b_need_world : DS := dIfS (dNot (dTest (dCall 1 f_is_world (dCons (dVar 0) (dNil))))) (dRaise 1) (dNop)
def f_need_world : List D → M D := dFn 1 N_need_world.length b_need_world
theorem ok_need_world (Z : Zf G mg fa fn nmt cls) (B : Tbs G mg base tfs) : Callee P G.w G mg base "need_world" 4 1 ["value"] f_need_world := by
  refine callee_ofA (k := 3) (N := N_need_world) (d := b_need_world) Z 8 23 (st := top 57) (by rfl) (by rfl) sc_need_world (by rfl) (fun _ _ _ _ _ _ us hl => match us, hl with | [_], _ => by rfl) fun f cdv A outer s H E hr => ?_
  exact (jss_one (js_if (jt_not (jt_val (jr_of (je_cal (ok_is_world Z B) rfl hr (by decide) rfl (takes_of (E := E) rfl rfl rfl rfl) (ja_cons rfl (je_var rfl (.inl rfl) rfl rfl) ja_nil) rfl)) rfl)) (jss_one (js_raise rfl (takes_of (E := E) rfl rfl rfl rfl) (xc_of Z 21 22 rfl rfl rfl) rfl rfl)) jss_nil))
def N_house_row : List Str := ["house", "state", "counts"]
theorem nd_house_row : N_house_row.Nodup := by decide +kernel
theorem sc_house_row : FnScope N_house_row ["house"] (defScope (top 28)) := ⟨rfl, rfl, rfl, nd_house_row, rfl, by decide +kernel, by decide +kernel⟩
def b_house_row : DS := dSeq (dSet 1 (qV (dTup (dNil)))) (dSeq (dIfS (dTest (dOp pEq (dFld [3] "house_end" (dVar 0)) (dTup (dNil)))) (dSeq (dSet 2 (qV (dTup (dCons (dFld [3] "wants_begun" (dVar 0)) (dCons (dFld [3] "rounds_begun" (dVar 0)) (dCons (dOp pNe (dFld [3] "called_hour" (dVar 0)) (dTup (dNil))) (dNil))))))) (dSet 1 (qV (dOp pAdd (dTup (dCons (dFld [3] "room_now" (dVar 0)) (dCons (dPr pTupR (dCons (dFld [3] "slots_held" (dVar 0)) (dNil))) (dNil)))) (dVar 2))))) (dNop)) (dRet (dTup (dCons (dFld [3] "house_path" (dVar 0)) (dCons (dFld [3] "machine_name" (dVar 0)) (dCons (dFld [3] "begun_hour" (dVar 0)) (dCons (dFld [3] "house_end" (dVar 0)) (dCons (dPr pTupR (dCons (dFld [3] "diary_rows" (dVar 0)) (dNil))) (dCons (dVar 1) (dNil))))))))))
def f_house_row : List D → M D := dFn 1 N_house_row.length b_house_row
theorem ok_house_row (Z : Zf G mg fa fn nmt cls) (B : Tbs G mg base tfs) : Callee P G.w G mg base "house_row" 1 1 ["house"] f_house_row := by
  refine callee_ofA (k := 0) (N := N_house_row) (d := b_house_row) Z 9 35 (st := top 28) (by rfl) (by rfl) sc_house_row (by rfl) (fun _ _ _ _ _ _ us hl => match us, hl with | [_], _ => by rfl) fun f cdv A outer s H E hr => ?_
  exact (jss_cons (js_setV (ps_set nd_house_row rfl (.inl rfl) (je_tup ja_nil) rfl)) (jss_cons (js_if (jt_cmp (o_eq rfl (huR hr)) (jr_of (je_fld (at_house_end Z) rfl (jr_of (je_var rfl (.inl rfl) rfl rfl)) rfl)) (jr_of (je_tup ja_nil)) rfl) (jss_cons (js_setV (ps_set nd_house_row rfl (.inl rfl) (je_tup (ja_cons rfl (je_fld (at_wants_begun Z) rfl (jr_of (je_var rfl (.inl rfl) rfl rfl)) rfl) (ja_cons rfl (je_fld (at_rounds_begun Z) rfl (jr_of (je_var rfl (.inl rfl) rfl rfl)) rfl) (ja_cons rfl (je_cmp (o_ne rfl (huR hr)) (jr_of (je_fld (at_called_hour Z) rfl (jr_of (je_var rfl (.inl rfl) rfl rfl)) rfl)) (jr_of (je_tup ja_nil)) rfl) ja_nil)))) rfl)) (jss_one (js_setV (ps_set nd_house_row rfl (.inl rfl) (je_op (o_add rfl) (jr_of (je_tup (ja_cons rfl (je_fld (at_room_now Z) rfl (jr_of (je_var rfl (.inl rfl) rfl rfl)) rfl) (ja_cons rfl (je_callT (c_tupR rfl) rfl (Z.free 16 rfl) PyProof.Rows.boot_tuple (jb_cons rfl (jr_of (je_fld (at_slots_held Z) rfl (jr_of (je_var rfl (.inl rfl) rfl rfl)) rfl)) jb_nil) rfl) ja_nil)))) (jr_of (je_var rfl (.inl rfl) rfl rfl))) rfl)))) jss_nil) (jss_one (js_ret (je_tup (ja_cons rfl (je_fld (at_house_path Z) rfl (jr_of (je_var rfl (.inl rfl) rfl rfl)) rfl) (ja_cons rfl (je_fld (at_machine_name Z) rfl (jr_of (je_var rfl (.inl rfl) rfl rfl)) rfl) (ja_cons rfl (je_fld (at_begun_hour Z) rfl (jr_of (je_var rfl (.inl rfl) rfl rfl)) rfl) (ja_cons rfl (je_fld (at_house_end Z) rfl (jr_of (je_var rfl (.inl rfl) rfl rfl)) rfl) (ja_cons rfl (je_callT (c_tupR rfl) rfl (Z.free 16 rfl) PyProof.Rows.boot_tuple (jb_cons rfl (jr_of (je_fld (at_diary_rows Z) rfl (jr_of (je_var rfl (.inl rfl) rfl rfl)) rfl)) jb_nil) rfl) (ja_cons rfl (je_var rfl (.inl rfl) rfl rfl) ja_nil)))))))))))
def N_hall_of : List Str := ["work", "houses", "asks", "path"]
theorem nd_hall_of : N_hall_of.Nodup := by decide +kernel
theorem sc_hall_of : FnScope N_hall_of ["work"] (defScope (top 27)) := ⟨rfl, rfl, rfl, nd_hall_of, rfl, by decide +kernel, by decide +kernel⟩
def b_hall_of : DS := dSeq (dSet 1 (qV (dLst (dLc (dItems (dLst (dPrL qSort (dCons (dLst (dPrL qListD (dCons (dFld [4] "houses_by_path" (dVar 0)) (dNil)))) (dNil))))) (gN 3) (dYes) (dCall 1 f_house_row (dCons (dOp (pGet lits) (dFld [4] "houses_by_path" (dVar 0)) (dVar 3)) (dNil))) [3])))) (dSeq (dSet 2 (qV (dLst (dLc (dItems (dLst (dPrL qSort (dCons (dLst (dPrL qListD (dCons (dFld [4] "asks_by_path" (dVar 0)) (dNil)))) (dNil))))) (gN 3) (dYes) (dOp pAdd (dTup (dCons (dVar 3) (dNil))) (dOp (pGet lits) (dFld [4] "asks_by_path" (dVar 0)) (dVar 3))) [3])))) (dRet (dTup (dCons (dFld [4] "hour_now" (dVar 0)) (dCons (dPr pTupR (dCons (dVar 1) (dNil))) (dCons (dPr pTupR (dCons (dVar 2) (dNil))) (dNil)))))))
def f_hall_of : List D → M D := dFn 1 N_hall_of.length b_hall_of
theorem ok_hall_of (Z : Zf G mg fa fn nmt cls) (B : Tbs G mg base tfs) : Callee P G.w G mg base "hall_of" 2 1 ["work"] f_hall_of := by
  refine callee_ofA (k := 1) (N := N_hall_of) (d := b_hall_of) Z 10 42 (st := top 27) (by rfl) (by rfl) sc_hall_of (by rfl) (fun _ _ _ _ _ _ us hl => match us, hl with | [_], _ => by rfl) fun f cdv A outer s H E hr => ?_
  exact (jss_cons (js_lcV (ps_setLc (own := [("path", 3)]) rfl nd_hall_of rfl rfl (sw_true rfl rfl rfl rfl) (ji_valW rfl (jr_of (je_lst (jl_sort rfl (huR hr) rfl (Z.free 39 rfl) (jb_cons rfl (jr_of (je_lst (jl_listD rfl rfl (Z.free 38 rfl) (jb_cons rfl (jr_of (je_fld (at_houses_by_path Z) rfl (jr_of (je_var rfl (.inr (.inl rfl)) rfl rfl)) rfl)) jb_nil) rfl))) jb_nil) rfl)))) (blkOk_by rfl) (fun _ _ _ _ _ => (jg_name nd_hall_of rfl (.inl rfl) (.inr rfl) (by decide))) (fun _ _ _ _ _ => jts_nil) (fun _ _ _ _ _ => (je_cal (ok_house_row Z B) rfl hr (by decide) rfl takes0 (ja_cons rfl (je_dget (nl := lits) Z.lits (huR hr) (je_fld (at_houses_by_path Z) rfl (jr_of (je_var rfl (.inr (.inl rfl)) rfl rfl)) rfl) (je_var rfl (.inl rfl) rfl rfl) (fun _ _ => rfl)) ja_nil) rfl)) (fun _ => rfl))) (jss_cons (js_lcV (ps_setLc (own := [("path", 3)]) rfl nd_hall_of rfl rfl (sw_true rfl rfl rfl rfl) (ji_valW rfl (jr_of (je_lst (jl_sort rfl (huR hr) rfl (Z.free 39 rfl) (jb_cons rfl (jr_of (je_lst (jl_listD rfl rfl (Z.free 38 rfl) (jb_cons rfl (jr_of (je_fld (at_asks_by_path Z) rfl (jr_of (je_var rfl (.inr (.inl rfl)) rfl rfl)) rfl)) jb_nil) rfl))) jb_nil) rfl)))) (blkOk_by rfl) (fun _ _ _ _ _ => (jg_name nd_hall_of rfl (.inl rfl) (.inr rfl) (by decide))) (fun _ _ _ _ _ => jts_nil) (fun _ _ _ _ _ => (je_op (o_add rfl) (jr_of (je_tup (ja_cons rfl (je_var rfl (.inl rfl) rfl rfl) ja_nil))) (jr_of (je_dget (nl := lits) Z.lits (huR hr) (je_fld (at_asks_by_path Z) rfl (jr_of (je_var rfl (.inr (.inl rfl)) rfl rfl)) rfl) (je_var rfl (.inl rfl) rfl rfl) (fun _ _ => rfl))))) (fun _ => rfl))) (jss_one (js_ret (je_tup (ja_cons rfl (je_fld (at_hour_now Z) rfl (jr_of (je_var rfl (.inr (.inl rfl)) rfl rfl)) rfl) (ja_cons rfl (je_callT (c_tupR rfl) rfl (Z.free 16 rfl) PyProof.Rows.boot_tuple (jb_cons rfl (jr_of (je_var rfl (.inl rfl) rfl rfl)) jb_nil) rfl) (ja_cons rfl (je_callT (c_tupR rfl) rfl (Z.free 16 rfl) PyProof.Rows.boot_tuple (jb_cons rfl (jr_of (je_var rfl (.inl rfl) rfl rfl)) jb_nil) rfl) ja_nil))))))))
def N_Work___init__ : List Str := ["self", "machines", "hour"]
theorem nd_Work___init__ : N_Work___init__.Nodup := by decide +kernel
theorem sc_Work___init__ : FnScope N_Work___init__ ["self", "machines", "hour"] (defScope (mth 25 0)) := ⟨rfl, rfl, rfl, nd_Work___init__, rfl, by decide +kernel, by decide +kernel⟩
def b_Work___init__ : DS := dSeq (dSetF [4] "all_machines" (dVar 1) (dVar 0)) (dSeq (dSetF [4] "hour_now" (dVar 2) (dVar 0)) (dSeq (dSetF [4] "houses_by_path" (dNewO (.dT [])) (dVar 0)) (dSetF [4] "asks_by_path" (dNewO (.dT [])) (dVar 0))))
def f_Work___init__ : List D → M D := dFn 3 N_Work___init__.length b_Work___init__
theorem ok_Work___init__ (Z : Zf G mg fa fn nmt cls) (B : Tbs G mg base tfs) : KCal P G.w G mg base 4 "Work" 1 3 ["self", "machines", "hour"] f_Work___init__ := by
  refine kcal_of (k := 0) (N := N_Work___init__) (d := b_Work___init__) Z 11 44 45 (st := mth 25 0) (by rfl) (by rfl) (by rfl) (by rfl) sc_Work___init__ (by rfl) (fun _ _ _ _ _ _ us hl => match us, hl with | [_, _, _], _ => by rfl) fun f cdv A outer s H E hr => ?_
  exact (jss_cons (js_fld (st_pos := ⟨0, 0, 0, 0⟩) (at_all_machines Z) rfl (je_var rfl (.inl rfl) rfl rfl) (je_var rfl (.inl rfl) rfl rfl) rfl) (jss_cons (js_fld (st_pos := ⟨0, 0, 0, 0⟩) (at_hour_now Z) rfl (je_var rfl (.inl rfl) rfl rfl) (je_var rfl (.inl rfl) rfl rfl) rfl) (jss_cons (js_fld (st_pos := ⟨0, 0, 0, 0⟩) (at_houses_by_path Z) rfl je_dT (je_var rfl (.inl rfl) rfl rfl) rfl) (jss_one (js_fld (st_pos := ⟨0, 0, 0, 0⟩) (at_asks_by_path Z) rfl je_dT (je_var rfl (.inl rfl) rfl rfl) rfl)))))
def N_House___init__ : List Str := ["self", "path", "name", "begun", "given", "slots"]
theorem nd_House___init__ : N_House___init__.Nodup := by decide +kernel
theorem sc_House___init__ : FnScope N_House___init__ ["self", "path", "name", "begun", "given", "slots"] (defScope (mth 24 0)) := ⟨rfl, rfl, rfl, nd_House___init__, rfl, by decide +kernel, by decide +kernel⟩
def b_House___init__ : DS := dSeq (dSetF [3] "house_path" (dVar 1) (dVar 0)) (dSeq (dSetF [3] "machine_name" (dVar 2) (dVar 0)) (dSeq (dSetF [3] "begun_hour" (dVar 3) (dVar 0)) (dSeq (dSetF [3] "args_given" (dVar 4) (dVar 0)) (dSeq (dSetF [3] "slots_held" (dVar 5) (dVar 0)) (dSeq (dSetF [3] "house_end" (dTup (dNil)) (dVar 0)) (dSeq (dSetF [3] "diary_rows" (dNew (dDisp (dNil))) (dVar 0)) (dSeq (dSetF [3] "room_now" (dCst (.int 0)) (dVar 0)) (dSeq (dSetF [3] "wants_begun" (dCst (.int 0)) (dVar 0)) (dSeq (dSetF [3] "rounds_begun" (dCst (.int 0)) (dVar 0)) (dSeq (dSetF [3] "called_hour" (dTup (dNil)) (dVar 0)) (dSetF [3] "step_rows" (dNew (dDisp (dNil))) (dVar 0))))))))))))
def f_House___init__ : List D → M D := dFn 6 N_House___init__.length b_House___init__
theorem ok_House___init__ (Z : Zf G mg fa fn nmt cls) (B : Tbs G mg base tfs) : KCal P G.w G mg base 3 "House" 1 6 ["self", "path", "name", "begun", "given", "slots"] f_House___init__ := by
  refine kcal_of (k := 0) (N := N_House___init__) (d := b_House___init__) Z 12 48 49 (st := mth 24 0) (by rfl) (by rfl) (by rfl) (by rfl) sc_House___init__ (by rfl) (fun _ _ _ _ _ _ us hl => match us, hl with | [_, _, _, _, _, _], _ => by rfl) fun f cdv A outer s H E hr => ?_
  exact (jss_cons (js_fld (st_pos := ⟨0, 0, 0, 0⟩) (at_house_path Z) rfl (je_var rfl (.inl rfl) rfl rfl) (je_var rfl (.inl rfl) rfl rfl) rfl) (jss_cons (js_fld (st_pos := ⟨0, 0, 0, 0⟩) (at_machine_name Z) rfl (je_var rfl (.inl rfl) rfl rfl) (je_var rfl (.inl rfl) rfl rfl) rfl) (jss_cons (js_fld (st_pos := ⟨0, 0, 0, 0⟩) (at_begun_hour Z) rfl (je_var rfl (.inl rfl) rfl rfl) (je_var rfl (.inl rfl) rfl rfl) rfl) (jss_cons (js_fld (st_pos := ⟨0, 0, 0, 0⟩) (at_args_given Z) rfl (je_var rfl (.inl rfl) rfl rfl) (je_var rfl (.inl rfl) rfl rfl) rfl) (jss_cons (js_fld (st_pos := ⟨0, 0, 0, 0⟩) (at_slots_held Z) rfl (je_var rfl (.inl rfl) rfl rfl) (je_var rfl (.inl rfl) rfl rfl) rfl) (jss_cons (js_fld (st_pos := ⟨0, 0, 0, 0⟩) (at_house_end Z) rfl (je_tup ja_nil) (je_var rfl (.inl rfl) rfl rfl) rfl) (jss_cons (js_fld (st_pos := ⟨0, 0, 0, 0⟩) (at_diary_rows Z) rfl (je_new (jl_disp ja_nil)) (je_var rfl (.inl rfl) rfl rfl) rfl) (jss_cons (js_fld (st_pos := ⟨0, 0, 0, 0⟩) (at_room_now Z) rfl cst_int (je_var rfl (.inl rfl) rfl rfl) rfl) (jss_cons (js_fld (st_pos := ⟨0, 0, 0, 0⟩) (at_wants_begun Z) rfl cst_int (je_var rfl (.inl rfl) rfl rfl) rfl) (jss_cons (js_fld (st_pos := ⟨0, 0, 0, 0⟩) (at_rounds_begun Z) rfl cst_int (je_var rfl (.inl rfl) rfl rfl) rfl) (jss_cons (js_fld (st_pos := ⟨0, 0, 0, 0⟩) (at_called_hour Z) rfl (je_tup ja_nil) (je_var rfl (.inl rfl) rfl rfl) rfl) (jss_one (js_fld (st_pos := ⟨0, 0, 0, 0⟩) (at_step_rows Z) rfl (je_new (jl_disp ja_nil)) (je_var rfl (.inl rfl) rfl rfl) rfl)))))))))))))
def N_machine_of : List Str := ["machines", "name", "machine"]
theorem nd_machine_of : N_machine_of.Nodup := by decide +kernel
theorem sc_machine_of : FnScope N_machine_of ["machines", "name"] (defScope (top 6)) := ⟨rfl, rfl, rfl, nd_machine_of, rfl, by decide +kernel, by decide +kernel⟩
def b_machine_of : DS := dSeq (dFor (dItems (dVar 0)) (gN 2) (dIfS (dTest (dOp pEq (dOp pIdx (dVar 2) (dCst (.int 0))) (dVar 1))) (dRet (dVar 2)) (dNop))) (dRaise 0)
def f_machine_of : List D → M D := dFn 2 N_machine_of.length b_machine_of
theorem ok_machine_of (Z : Zf G mg fa fn nmt cls) (B : Tbs G mg base tfs) : Callee P G.w G mg base "machine_of" 1 2 ["machines", "name"] f_machine_of := by
  refine callee_ofA (k := 0) (N := N_machine_of) (d := b_machine_of) Z 13 52 (st := top 6) (by rfl) (by rfl) sc_machine_of (by rfl) (fun _ _ _ _ _ _ us hl => match us, hl with | [_, _], _ => by rfl) fun f cdv A outer s H E hr => ?_
  exact (jss_cons (js_for (vs := [0, 1, 2]) (passes_of rfl) rfl (ji_val rfl (je_var rfl (.inl rfl) rfl rfl)) (jg_name nd_machine_of rfl (.inl rfl) (.inl rfl) (by decide)) (jss_one (js_if (jt_cmp (o_eq rfl (huR hr)) (jr_of (je_ix (i_idx rfl) (jr_of (je_var rfl (.inl rfl) rfl rfl)) (jr_of cst_int) rfl)) (jr_of (je_var rfl (.inl rfl) rfl rfl)) rfl) (jss_one (js_ret (je_var rfl (.inl rfl) rfl rfl))) jss_nil)) (fun _ => rfl)) (jss_one (js_raise rfl (takes_of (E := E) rfl rfl rfl rfl) (xc_of Z 50 51 rfl rfl rfl) rfl rfl)))
def N_Work_room_of : List Str := ["self", "house"]
theorem nd_Work_room_of : N_Work_room_of.Nodup := by decide +kernel
theorem sc_Work_room_of : FnScope N_Work_room_of ["self", "house"] (defScope (mth 25 1)) := ⟨rfl, rfl, rfl, nd_Work_room_of, rfl, by decide +kernel, by decide +kernel⟩
def b_Work_room_of : DS := dRet (dOp pIdx (dOp pIdx (dCall 2 f_machine_of (dCons (dFld [4] "all_machines" (dVar 0)) (dCons (dFld [3] "machine_name" (dVar 1)) (dNil)))) (dCst (.int 3))) (dFld [3] "room_now" (dVar 1)))
def f_Work_room_of : List D → M D := dFn 2 N_Work_room_of.length b_Work_room_of
theorem ok_Work_room_of (Z : Zf G mg fa fn nmt cls) (B : Tbs G mg base tfs) : MCal P G.w G mg base 4 "room_of" 2 2 ["self", "house"] f_Work_room_of := by
  refine mcal_of (k := 1) (N := N_Work_room_of) (d := b_Work_room_of) Z 14 53 36 (st := mth 25 1) (by rfl) (by rfl) (by rfl) (by rfl) sc_Work_room_of (by rfl) (fun _ _ _ _ _ _ us hl => match us, hl with | [_, _], _ => by rfl) fun f cdv A outer s H E hr => ?_
  exact (jss_one (js_ret (je_ix (i_idx rfl) (jr_of (je_ix (i_idx rfl) (jr_of (je_cal (ok_machine_of Z B) rfl hr (by decide) rfl (takes_of (E := E) rfl rfl rfl rfl) (ja_cons rfl (je_fld (at_all_machines Z) rfl (jr_of (je_var rfl (.inl rfl) rfl rfl)) rfl) (ja_cons rfl (je_fld (at_machine_name Z) rfl (jr_of (je_var rfl (.inl rfl) rfl rfl)) rfl) ja_nil)) rfl)) (jr_of cst_int) rfl)) (jr_of (je_fld (at_room_now Z) rfl (jr_of (je_var rfl (.inl rfl) rfl rfl)) rfl)) rfl)))
def N_Work_goes_out : List Str := ["self", "house", "room"]
theorem nd_Work_goes_out : N_Work_goes_out.Nodup := by decide +kernel
theorem sc_Work_goes_out : FnScope N_Work_goes_out ["self", "house", "room"] (defScope (mth 25 8)) := ⟨rfl, rfl, rfl, nd_Work_goes_out, rfl, by decide +kernel, by decide +kernel⟩
def b_Work_goes_out : DS := dRet (dAndV (dOp pNe (dFld [3] "called_hour" (dVar 1)) (dTup (dNil))) (dOp pNe (dOp pIdx (dVar 2) (dCst (.int 3))) (dCst (.str "shut"))))
def f_Work_goes_out : List D → M D := dFn 3 N_Work_goes_out.length b_Work_goes_out
theorem ok_Work_goes_out (Z : Zf G mg fa fn nmt cls) (B : Tbs G mg base tfs) : MCal P G.w G mg base 4 "goes_out" 1 3 ["self", "house", "room"] f_Work_goes_out := by
  refine mcal_of (k := 0) (N := N_Work_goes_out) (d := b_Work_goes_out) Z 15 54 36 (st := mth 25 8) (by rfl) (by rfl) (by rfl) (by rfl) sc_Work_goes_out (by rfl) (fun _ _ _ _ _ _ us hl => match us, hl with | [_, _, _], _ => by rfl) fun f cdv A outer s H E hr => ?_
  exact (jss_one (js_ret (je_and (je_cmp (o_ne rfl (huR hr)) (jr_of (je_fld (at_called_hour Z) rfl (jr_of (je_var rfl (.inl rfl) rfl rfl)) rfl)) (jr_of (je_tup ja_nil)) rfl) (pe_one (je_cmp (o_ne rfl (huR hr)) (jr_of (je_ix (i_idx rfl) (jr_of (je_var rfl (.inl rfl) rfl rfl)) (jr_of cst_int) rfl)) (jr_of cst_str) rfl)))))
def N_branch_paths : List Str := ["path", "turn", "many", "number"]
theorem nd_branch_paths : N_branch_paths.Nodup := by decide +kernel
theorem sc_branch_paths : FnScope N_branch_paths ["path", "turn", "many"] (defScope (top 9)) := ⟨rfl, rfl, rfl, nd_branch_paths, rfl, by decide +kernel, by decide +kernel⟩
def b_branch_paths : DS := dRet (dLst (dLc (dRg rg1 (dCons (dVar 2) (dNil))) (gN 3) (dYes) (dOp pAdd (dVar 0) (dTup (dCons (dVar 1) (dCons (dVar 3) (dNil))))) [3]))
def f_branch_paths : List D → M D := dFn 3 N_branch_paths.length b_branch_paths
theorem ok_branch_paths (Z : Zf G mg fa fn nmt cls) (B : Tbs G mg base tfs) : Callee P G.w G mg base "branch_paths" 1 3 ["path", "turn", "many"] f_branch_paths := by
  refine callee_ofA (k := 0) (N := N_branch_paths) (d := b_branch_paths) Z 16 56 (st := top 9) (by rfl) (by rfl) sc_branch_paths (by rfl) (fun _ _ _ _ _ _ us hl => match us, hl with | [_, _, _], _ => by rfl) fun f cdv A outer s H E hr => ?_
  exact (jss_one (js_ret (je_lst (je_lc (own := [("number", 3)]) rfl nd_branch_paths (jiw_of (ji_rg1 rfl (Z.free 55 rfl) (ja_cons rfl (je_var rfl (.inl rfl) rfl rfl) ja_nil) rfl)) (blkOk_by rfl) (fun _ _ _ _ _ => (jg_name nd_branch_paths rfl (.inl rfl) (.inr rfl) (by decide))) (fun _ _ _ _ _ => jts_nil) (fun _ _ _ _ _ => (je_op (o_add rfl) (jr_of (je_var rfl (.inr (.inl rfl)) rfl rfl)) (jr_of (je_tup (ja_cons rfl (je_var rfl (.inr (.inl rfl)) rfl rfl) (ja_cons rfl (je_var rfl (.inl rfl) rfl rfl) ja_nil)))))) (fun _ => rfl)))))
def N_House_want_paths : List Str := ["self", "door"]
theorem nd_House_want_paths : N_House_want_paths.Nodup := by decide +kernel
theorem sc_House_want_paths : FnScope N_House_want_paths ["self", "door"] (defScope (mth 24 1)) := ⟨rfl, rfl, rfl, nd_House_want_paths, rfl, by decide +kernel, by decide +kernel⟩
def b_House_want_paths : DS := dRet (dCall 3 f_branch_paths (dCons (dFld [3] "house_path" (dVar 0)) (dCons (dOp pSub (dFld [3] "wants_begun" (dVar 0)) (dCst (.int 1))) (dCons (dPr pLen (dCons (dOp pIdx (dVar 1) (dCst (.int 2))) (dNil))) (dNil)))))
def f_House_want_paths : List D → M D := dFn 2 N_House_want_paths.length b_House_want_paths
theorem ok_House_want_paths (Z : Zf G mg fa fn nmt cls) (B : Tbs G mg base tfs) : MCal P G.w G mg base 3 "want_paths" 2 2 ["self", "door"] f_House_want_paths := by
  refine mcal_of (k := 1) (N := N_House_want_paths) (d := b_House_want_paths) Z 17 57 24 (st := mth 24 1) (by rfl) (by rfl) (by rfl) (by rfl) sc_House_want_paths (by rfl) (fun _ _ _ _ _ _ us hl => match us, hl with | [_, _], _ => by rfl) fun f cdv A outer s H E hr => ?_
  exact (jss_one (js_ret (je_cal (ok_branch_paths Z B) rfl hr (by decide) rfl (takes_of (E := E) rfl rfl rfl rfl) (ja_cons rfl (je_fld (at_house_path Z) rfl (jr_of (je_var rfl (.inl rfl) rfl rfl)) rfl) (ja_cons rfl (je_op (o_sub) (jr_of (je_fld (at_wants_begun Z) rfl (jr_of (je_var rfl (.inl rfl) rfl rfl)) rfl)) (jr_of cst_int)) (ja_cons rfl (je_callB (c_len rfl) rfl (Z.free 1 rfl) boot_len (jb_cons rfl (jr_of (je_ix (i_idx rfl) (jr_of (je_var rfl (.inl rfl) rfl rfl)) (jr_of cst_int) rfl)) jb_nil) rfl) ja_nil))) rfl)))
def N_slots_behind : List Str := ["slots", "branches", "ends", "found", "branch", "end"]
theorem nd_slots_behind : N_slots_behind.Nodup := by decide +kernel
theorem sc_slots_behind : FnScope N_slots_behind ["slots", "branches", "ends"] (defScope (top 13)) := ⟨rfl, rfl, rfl, nd_slots_behind, rfl, by decide +kernel, by decide +kernel⟩
def b_slots_behind : DS := dSeq (dSet 3 (qV (dNew (dPrL qListS (dCons (dVar 0) (dNil)))))) (dSeq (dFor (dRg zpB (dCons (dVar 1) (dCons (dVar 2) (dNil)))) (gT 2 (gsC (gN 4) (gsC (gN 5) (gs0)))) (dIfS (dAnd (dTest (dOp pIsNot (dOp pIdx (dVar 4) (dCst (.int 0))) (dCst .non))) (dTest (dOp pEq (dOp pIdx (dVar 5) (dCst (.int 0))) (dCst (.str "good"))))) (dSto (dOp pIdx (dVar 5) (dCst (.int 1))) (dVar 3) (dOp pIdx (dVar 4) (dCst (.int 0)))) (dNop))) (dRet (dVar 3)))
def f_slots_behind : List D → M D := dFn 3 N_slots_behind.length b_slots_behind
theorem ok_slots_behind (Z : Zf G mg fa fn nmt cls) (B : Tbs G mg base tfs) : Callee P G.w G mg base "slots_behind" 1 3 ["slots", "branches", "ends"] f_slots_behind := by
  refine callee_ofA (k := 0) (N := N_slots_behind) (d := b_slots_behind) Z 18 58 (st := top 13) (by rfl) (by rfl) sc_slots_behind (by rfl) (fun _ _ _ _ _ _ us hl => match us, hl with | [_, _, _], _ => by rfl) fun f cdv A outer s H E hr => ?_
  exact (jss_cons (js_setV (ps_set nd_slots_behind rfl (.inl rfl) (je_new (jl_listS rfl rfl (Z.free 38 rfl) (jb_cons rfl (jr_of (je_var rfl (.inl rfl) rfl rfl)) jb_nil) rfl)) rfl)) (jss_cons (js_for (vs := [0, 1, 2, 3, 4, 5]) (passes_of rfl) rfl (ji_zipB rfl rfl (Z.free 19 rfl) (ja_cons rfl (je_var rfl (.inl rfl) rfl rfl) (ja_cons rfl (je_var rfl (.inl rfl) rfl rfl) ja_nil)) rfl rfl) (jg_tup rfl rfl (jgs_cons (jg_name nd_slots_behind rfl (.inl rfl) (.inl rfl) (by decide)) (jgs_cons (jg_name nd_slots_behind rfl (.inl rfl) (.inl rfl) (by decide)) jgs_nil))) (jss_one (js_if (PW.pt (jw_and (jt_cmp (o_isNot) (jr_of (je_ix (i_idx rfl) (jr_of (je_var rfl (.inl rfl) rfl rfl)) (jr_of cst_int) rfl)) (jr_of cst_non) rfl) (jw1_and (jt_cmp (o_eq rfl (huR hr)) (jr_of (je_ix (i_idx rfl) (jr_of (je_var rfl (.inl rfl) rfl rfl)) (jr_of cst_int) rfl)) (jr_of cst_str) rfl)))) (jss_one (js_sto rfl (je_ix (i_idx rfl) (jr_of (je_var rfl (.inl rfl) rfl rfl)) (jr_of cst_int) rfl) (je_var rfl (.inl rfl) rfl rfl) (je_ix (i_idx rfl) (jr_of (je_var rfl (.inl rfl) rfl rfl)) (jr_of cst_int) rfl) rfl rfl rfl (fun _ => rfl))) jss_nil)) (fun _ => rfl)) (jss_one (js_ret (je_var rfl (.inl rfl) rfl rfl)))))
def N_count_of : List Str := ["ends", "word", "end"]
theorem nd_count_of : N_count_of.Nodup := by decide +kernel
theorem sc_count_of : FnScope N_count_of ["ends", "word"] (defScope (top 10)) := ⟨rfl, rfl, rfl, nd_count_of, rfl, by decide +kernel, by decide +kernel⟩
def b_count_of : DS := dRet (dPr pLen (dCons (dLst (dLc (dItems (dVar 0)) (gN 2) (dAnd (dTest (dOp pNe (dVar 2) (dTup (dNil)))) (dTest (dOp pEq (dOp pIdx (dVar 2) (dCst (.int 0))) (dVar 1)))) (dVar 2) [2])) (dNil)))
def f_count_of : List D → M D := dFn 2 N_count_of.length b_count_of
theorem ok_count_of (Z : Zf G mg fa fn nmt cls) (B : Tbs G mg base tfs) : Callee P G.w G mg base "count_of" 1 2 ["ends", "word"] f_count_of := by
  refine callee_ofA (k := 0) (N := N_count_of) (d := b_count_of) Z 19 59 (st := top 10) (by rfl) (by rfl) sc_count_of (by rfl) (fun _ _ _ _ _ _ us hl => match us, hl with | [_, _], _ => by rfl) fun f cdv A outer s H E hr => ?_
  exact (jss_one (js_ret (je_callB (c_len rfl) rfl (Z.free 1 rfl) boot_len (jb_cons rfl (jr_of (je_lst (je_lc (own := [("end", 2)]) rfl nd_count_of (ji_valW rfl (jr_of (je_var rfl (.inl rfl) rfl rfl))) (blkOk_by rfl) (fun _ _ _ _ _ => (jg_name nd_count_of rfl (.inl rfl) (.inr rfl) (by decide))) (fun _ _ _ _ _ => (jts_one (PW.pt (jw_and (jt_cmp (o_ne rfl (huR hr)) (jr_of (je_var rfl (.inl rfl) rfl rfl)) (jr_of (je_tup ja_nil)) rfl) (jw1_and (jt_cmp (o_eq rfl (huR hr)) (jr_of (je_ix (i_idx rfl) (jr_of (je_var rfl (.inl rfl) rfl rfl)) (jr_of cst_int) rfl)) (jr_of (je_var rfl (.inr (.inl rfl)) rfl rfl)) rfl)))))) (fun _ _ _ _ _ => (je_var rfl (.inl rfl) rfl rfl)) (fun _ => rfl)))) jb_nil) rfl)))
def N_outcome : List Str := ["k", "ends"]
theorem nd_outcome : N_outcome.Nodup := by decide +kernel
theorem sc_outcome : FnScope N_outcome ["k", "ends"] (defScope (top 11)) := ⟨rfl, rfl, rfl, nd_outcome, rfl, by decide +kernel, by decide +kernel⟩
def b_outcome : DS := dSeq (dIfS (dTest (dOp pGe (dCall 2 f_count_of (dCons (dVar 1) (dCons (dCst (.str "good")) (dNil)))) (dVar 0))) (dRet (dCst (.str "reached"))) (dNop)) (dSeq (dIfS (dTest (dOp pGt (dCall 2 f_count_of (dCons (dVar 1) (dCons (dCst (.str "bad")) (dNil)))) (dOp pSub (dPr pLen (dCons (dVar 1) (dNil))) (dVar 0)))) (dRet (dCst (.str "missed"))) (dNop)) (dRet (dCst (.str ""))))
def f_outcome : List D → M D := dFn 2 N_outcome.length b_outcome
theorem ok_outcome (Z : Zf G mg fa fn nmt cls) (B : Tbs G mg base tfs) : Callee P G.w G mg base "outcome" 2 2 ["k", "ends"] f_outcome := by
  refine callee_ofA (k := 1) (N := N_outcome) (d := b_outcome) Z 20 60 (st := top 11) (by rfl) (by rfl) sc_outcome (by rfl) (fun _ _ _ _ _ _ us hl => match us, hl with | [_, _], _ => by rfl) fun f cdv A outer s H E hr => ?_
  exact (jss_cons (js_if (jt_cmp (o_ge rfl (huR hr)) (jr_of (je_cal (ok_count_of Z B) rfl hr (by decide) rfl (takes_of (E := E) rfl rfl rfl rfl) (ja_cons rfl (je_var rfl (.inl rfl) rfl rfl) (ja_cons rfl cst_str ja_nil)) rfl)) (jr_of (je_var rfl (.inl rfl) rfl rfl)) rfl) (jss_one (js_ret cst_str)) jss_nil) (jss_cons (js_if (jt_cmp (o_gt rfl (huR hr)) (jr_of (je_cal (ok_count_of Z B) rfl hr (by decide) rfl (takes_of (E := E) rfl rfl rfl rfl) (ja_cons rfl (je_var rfl (.inl rfl) rfl rfl) (ja_cons rfl cst_str ja_nil)) rfl)) (jr_of (je_op (o_sub) (jr_of (je_callB (c_len rfl) rfl (Z.free 1 rfl) boot_len (jb_cons rfl (jr_of (je_var rfl (.inl rfl) rfl rfl)) jb_nil) rfl)) (jr_of (je_var rfl (.inl rfl) rfl rfl)))) rfl) (jss_one (js_ret cst_str)) jss_nil) (jss_one (js_ret cst_str))))
def N_Work_end_of : List Str := ["self", "path"]
theorem nd_Work_end_of : N_Work_end_of.Nodup := by decide +kernel
theorem sc_Work_end_of : FnScope N_Work_end_of ["self", "path"] (defScope (mth 25 13)) := ⟨rfl, rfl, rfl, nd_Work_end_of, rfl, by decide +kernel, by decide +kernel⟩
def b_Work_end_of : DS := dSeq (dIfS (dTest (dOp (pInD lits) (dVar 1) (dFld [4] "asks_by_path" (dVar 0)))) (dRet (dOp pIdx (dOp (pGet lits) (dFld [4] "asks_by_path" (dVar 0)) (dVar 1)) (dCst (.int 3)))) (dNop)) (dSeq (dIfS (dTest (dOp (pInD lits) (dVar 1) (dFld [4] "houses_by_path" (dVar 0)))) (dRet (dFld [3] "house_end" (dOp (pGet lits) (dFld [4] "houses_by_path" (dVar 0)) (dVar 1)))) (dNop)) (dRet (dCst (.tup (t_CALL_TOO_DEEP.map kD)))))
def f_Work_end_of : List D → M D := dFn 2 N_Work_end_of.length b_Work_end_of
theorem ok_Work_end_of (Z : Zf G mg fa fn nmt cls) (B : Tbs G mg base tfs) : MCal P G.w G mg base 4 "end_of" 1 2 ["self", "path"] f_Work_end_of := by
  refine mcal_of (k := 0) (N := N_Work_end_of) (d := b_Work_end_of) Z 21 62 36 (st := mth 25 13) (by rfl) (by rfl) (by rfl) (by rfl) sc_Work_end_of (by rfl) (fun _ _ _ _ _ _ us hl => match us, hl with | [_, _], _ => by rfl) fun f cdv A outer s H E hr => ?_
  exact (jss_cons (js_if (jt_din (nl := lits) Z.lits (huR hr) (je_var rfl (.inl rfl) rfl rfl) (je_fld (at_asks_by_path Z) rfl (jr_of (je_var rfl (.inl rfl) rfl rfl)) rfl) rfl) (jss_one (js_ret (je_ix (i_idx rfl) (jr_of (je_dget (nl := lits) Z.lits (huR hr) (je_fld (at_asks_by_path Z) rfl (jr_of (je_var rfl (.inl rfl) rfl rfl)) rfl) (je_var rfl (.inl rfl) rfl rfl) (fun _ _ => rfl))) (jr_of cst_int) rfl))) jss_nil) (jss_cons (js_if (jt_din (nl := lits) Z.lits (huR hr) (je_var rfl (.inl rfl) rfl rfl) (je_fld (at_houses_by_path Z) rfl (jr_of (je_var rfl (.inl rfl) rfl rfl)) rfl) rfl) (jss_one (js_ret (je_fld (at_house_end Z) rfl (jr_of (je_dget (nl := lits) Z.lits (huR hr) (je_fld (at_houses_by_path Z) rfl (jr_of (je_var rfl (.inl rfl) rfl rfl)) rfl) (je_var rfl (.inl rfl) rfl rfl) (fun _ _ => rfl))) rfl))) jss_nil) (jss_one (js_ret (je_gtup Z 61 0 rfl rfl rfl)))))
def N_Work_end_house : List Str := ["self", "house", "word", "number"]
theorem nd_Work_end_house : N_Work_end_house.Nodup := by decide +kernel
theorem sc_Work_end_house : FnScope N_Work_end_house ["self", "house", "word", "number"] (defScope (mth 25 6)) := ⟨rfl, rfl, rfl, nd_Work_end_house, rfl, by decide +kernel, by decide +kernel⟩
def b_Work_end_house : DS := dSeq (dSetF [3] "house_end" (dTup (dCons (dVar 2) (dCons (dVar 3) (dCons (dFld [4] "hour_now" (dVar 0)) (dNil))))) (dVar 1)) (dIfS (dTest (dOp pNe (dFld [3] "called_hour" (dVar 1)) (dTup (dNil)))) (dSetF [3] "house_end" (dTup (dCons (dCst (.str "off")) (dCons (dCst (.int 0)) (dCons (dFld [4] "hour_now" (dVar 0)) (dNil))))) (dVar 1)) (dNop))
def f_Work_end_house : List D → M D := dFn 4 N_Work_end_house.length b_Work_end_house
theorem ok_Work_end_house (Z : Zf G mg fa fn nmt cls) (B : Tbs G mg base tfs) : MCal P G.w G mg base 4 "end_house" 1 4 ["self", "house", "word", "number"] f_Work_end_house := by
  refine mcal_of (k := 0) (N := N_Work_end_house) (d := b_Work_end_house) Z 22 63 36 (st := mth 25 6) (by rfl) (by rfl) (by rfl) (by rfl) sc_Work_end_house (by rfl) (fun _ _ _ _ _ _ us hl => match us, hl with | [_, _, _, _], _ => by rfl) fun f cdv A outer s H E hr => ?_
  exact (jss_cons (js_fld (st_pos := ⟨0, 0, 0, 0⟩) (at_house_end Z) rfl (je_tup (ja_cons rfl (je_var rfl (.inl rfl) rfl rfl) (ja_cons rfl (je_var rfl (.inl rfl) rfl rfl) (ja_cons rfl (je_fld (at_hour_now Z) rfl (jr_of (je_var rfl (.inl rfl) rfl rfl)) rfl) ja_nil)))) (je_var rfl (.inl rfl) rfl rfl) rfl) (jss_one (js_if (jt_cmp (o_ne rfl (huR hr)) (jr_of (je_fld (at_called_hour Z) rfl (jr_of (je_var rfl (.inl rfl) rfl rfl)) rfl)) (jr_of (je_tup ja_nil)) rfl) (jss_one (js_fld (st_pos := ⟨0, 0, 0, 0⟩) (at_house_end Z) rfl (je_tup (ja_cons rfl cst_str (ja_cons rfl cst_int (ja_cons rfl (je_fld (at_hour_now Z) rfl (jr_of (je_var rfl (.inl rfl) rfl rfl)) rfl) ja_nil)))) (je_var rfl (.inl rfl) rfl rfl) rfl)) jss_nil)))
def N_Work_go_out : List Str := ["self", "house", "room"]
theorem nd_Work_go_out : N_Work_go_out.Nodup := by decide +kernel
theorem sc_Work_go_out : FnScope N_Work_go_out ["self", "house", "room"] (defScope (mth 25 9)) := ⟨rfl, rfl, rfl, nd_Work_go_out, rfl, by decide +kernel, by decide +kernel⟩
def b_Work_go_out : DS := dSeq (dIfS (dTest (dOp pIs (dOp pIdx (dVar 2) (dCst (.int 3))) (dCst .non))) (dRet (dMeth 4 "end_house" 4 f_Work_end_house (dVar 0) (dCons (dVar 1) (dCons (dCst (.str "off")) (dCons (dCst (.int 0)) (dNil)))))) (dNop)) (dRet (dOp pIdx (dVar 2) (dCst (.int 3))))
def f_Work_go_out : List D → M D := dFn 3 N_Work_go_out.length b_Work_go_out
theorem ok_Work_go_out (Z : Zf G mg fa fn nmt cls) (B : Tbs G mg base tfs) : MCal P G.w G mg base 4 "go_out" 2 3 ["self", "house", "room"] f_Work_go_out := by
  refine mcal_of (k := 1) (N := N_Work_go_out) (d := b_Work_go_out) Z 23 64 36 (st := mth 25 9) (by rfl) (by rfl) (by rfl) (by rfl) sc_Work_go_out (by rfl) (fun _ _ _ _ _ _ us hl => match us, hl with | [_, _, _], _ => by rfl) fun f cdv A outer s H E hr => ?_
  exact (jss_cons (js_if (jt_cmp (o_is) (jr_of (je_ix (i_idx rfl) (jr_of (je_var rfl (.inl rfl) rfl rfl)) (jr_of cst_int) rfl)) (jr_of cst_non) rfl) (jss_one (js_ret (je_meth (ok_Work_end_house Z B) rfl hr (by decide) (takes_of (E := E) rfl rfl rfl rfl) (je_var rfl (.inl rfl) rfl rfl) (ja_cons rfl (je_var rfl (.inl rfl) rfl rfl) (ja_cons rfl cst_str (ja_cons rfl cst_int ja_nil))) rfl rfl))) jss_nil) (jss_one (js_ret (je_ix (i_idx rfl) (jr_of (je_var rfl (.inl rfl) rfl rfl)) (jr_of cst_int) rfl))))
def N_Work_fault : List Str := ["self", "house", "room", "number", "slot", "behind"]
theorem nd_Work_fault : N_Work_fault.Nodup := by decide +kernel
theorem sc_Work_fault : FnScope N_Work_fault ["self", "house", "room", "number"] (defScope (mth 25 7)) := ⟨rfl, rfl, rfl, nd_Work_fault, rfl, by decide +kernel, by decide +kernel⟩
def b_Work_fault : DS := dSeq (dIfS (dTest (dOp pIs (dOp pIdx (dVar 2) (dCst (.int 2))) (dCst .non))) (dRet (dMeth 4 "end_house" 4 f_Work_end_house (dVar 0) (dCons (dVar 1) (dCons (dCst (.str "bad")) (dCons (dVar 3) (dNil)))))) (dNop)) (dSeq (dBnd (dOp pIdx (dVar 2) (dCst (.int 2))) (gT 2 (gsC (gN 4) (gsC (gN 5) (gs0))))) (dSeq (dIfS (dTest (dOp pIsNot (dVar 4) (dCst .non))) (dSto (dVar 3) (dFld [3] "slots_held" (dVar 1)) (dVar 4)) (dNop)) (dRet (dVar 5))))
def f_Work_fault : List D → M D := dFn 4 N_Work_fault.length b_Work_fault
theorem ok_Work_fault (Z : Zf G mg fa fn nmt cls) (B : Tbs G mg base tfs) : MCal P G.w G mg base 4 "fault" 2 4 ["self", "house", "room", "number"] f_Work_fault := by
  refine mcal_of (k := 1) (N := N_Work_fault) (d := b_Work_fault) Z 24 65 36 (st := mth 25 7) (by rfl) (by rfl) (by rfl) (by rfl) sc_Work_fault (by rfl) (fun _ _ _ _ _ _ us hl => match us, hl with | [_, _, _, _], _ => by rfl) fun f cdv A outer s H E hr => ?_
  exact (jss_cons (js_if (jt_cmp (o_is) (jr_of (je_ix (i_idx rfl) (jr_of (je_var rfl (.inl rfl) rfl rfl)) (jr_of cst_int) rfl)) (jr_of cst_non) rfl) (jss_one (js_ret (je_meth (ok_Work_end_house Z B) rfl hr (by decide) (takes_of (E := E) rfl rfl rfl rfl) (je_var rfl (.inl rfl) rfl rfl) (ja_cons rfl (je_var rfl (.inl rfl) rfl rfl) (ja_cons rfl cst_str (ja_cons rfl (je_var rfl (.inl rfl) rfl rfl) ja_nil))) rfl rfl))) jss_nil) (jss_cons (js_bnd (vs := [0, 1, 2, 3, 4, 5]) (ps_asg (je_ix (i_idx rfl) (jr_of (je_var rfl (.inl rfl) rfl rfl)) (jr_of cst_int) rfl) (jg_tup rfl rfl (jgs_cons (jg_name nd_Work_fault rfl (.inl rfl) (.inl rfl) (by decide)) (jgs_cons (jg_name nd_Work_fault rfl (.inl rfl) (.inl rfl) (by decide)) jgs_nil))))) (jss_cons (js_if (jt_cmp (o_isNot) (jr_of (je_var rfl (.inl rfl) rfl rfl)) (jr_of cst_non) rfl) (jss_one (js_sto rfl (je_var rfl (.inl rfl) rfl rfl) (je_fld (at_slots_held Z) rfl (jr_of (je_var rfl (.inl rfl) rfl rfl)) rfl) (je_var rfl (.inl rfl) rfl rfl) rfl rfl rfl (fun _ => rfl))) jss_nil) (jss_one (js_ret (je_var rfl (.inl rfl) rfl rfl))))))
def N_Work_end_ask : List Str := ["self", "path", "word", "number"]
theorem nd_Work_end_ask : N_Work_end_ask.Nodup := by decide +kernel
theorem sc_Work_end_ask : FnScope N_Work_end_ask ["self", "path", "word", "number"] (defScope (mth 25 16)) := ⟨rfl, rfl, rfl, nd_Work_end_ask, rfl, by decide +kernel, by decide +kernel⟩
def b_Work_end_ask : DS := dPut lits (dOp pAdd (dSl (dOp (pGet lits) (dFld [4] "asks_by_path" (dVar 0)) (dVar 1)) (dNo) (dSo (dCst (.int 3)))) (dTup (dCons (dTup (dCons (dVar 2) (dCons (dVar 3) (dCons (dFld [4] "hour_now" (dVar 0)) (dNil))))) (dNil)))) (dFld [4] "asks_by_path" (dVar 0)) (dVar 1)
def f_Work_end_ask : List D → M D := dFn 4 N_Work_end_ask.length b_Work_end_ask
theorem ok_Work_end_ask (Z : Zf G mg fa fn nmt cls) (B : Tbs G mg base tfs) : MCal P G.w G mg base 4 "end_ask" 1 4 ["self", "path", "word", "number"] f_Work_end_ask := by
  refine mcal_of (k := 0) (N := N_Work_end_ask) (d := b_Work_end_ask) Z 25 66 36 (st := mth 25 16) (by rfl) (by rfl) (by rfl) (by rfl) sc_Work_end_ask (by rfl) (fun _ _ _ _ _ _ us hl => match us, hl with | [_, _, _, _], _ => by rfl) fun f cdv A outer s H E hr => ?_
  exact (jss_one (js_dput (nl := lits) Z.lits (huR hr) (je_op (o_add rfl) (jr_of (je_sl rfl (jr_of (je_dget (nl := lits) Z.lits (huR hr) (je_fld (at_asks_by_path Z) rfl (jr_of (je_var rfl (.inl rfl) rfl rfl)) rfl) (je_var rfl (.inl rfl) rfl rfl) (fun _ _ => rfl))) jo_none (jo_some cst_int))) (jr_of (je_tup (ja_cons rfl (je_tup (ja_cons rfl (je_var rfl (.inl rfl) rfl rfl) (ja_cons rfl (je_var rfl (.inl rfl) rfl rfl) (ja_cons rfl (je_fld (at_hour_now Z) rfl (jr_of (je_var rfl (.inl rfl) rfl rfl)) rfl) ja_nil)))) ja_nil)))) (je_fld (at_asks_by_path Z) rfl (jr_of (je_var rfl (.inl rfl) rfl rfl)) rfl) (je_var rfl (.inl rfl) rfl rfl) rfl))
def N_first_bad : List Str := ["ends", "end"]
theorem nd_first_bad : N_first_bad.Nodup := by decide +kernel
theorem sc_first_bad : FnScope N_first_bad ["ends"] (defScope (top 12)) := ⟨rfl, rfl, rfl, nd_first_bad, rfl, by decide +kernel, by decide +kernel⟩
def b_first_bad : DS := dRet (dOp pIdx (dLst (dLc (dItems (dVar 0)) (gN 1) (dTest (dOp pEq (dOp pIdx (dVar 1) (dCst (.int 0))) (dCst (.str "bad")))) (dOp pIdx (dVar 1) (dCst (.int 1))) [1])) (dCst (.int 0)))
def f_first_bad : List D → M D := dFn 1 N_first_bad.length b_first_bad
theorem ok_first_bad (Z : Zf G mg fa fn nmt cls) (B : Tbs G mg base tfs) : Callee P G.w G mg base "first_bad" 1 1 ["ends"] f_first_bad := by
  refine callee_ofA (k := 0) (N := N_first_bad) (d := b_first_bad) Z 26 67 (st := top 12) (by rfl) (by rfl) sc_first_bad (by rfl) (fun _ _ _ _ _ _ us hl => match us, hl with | [_], _ => by rfl) fun f cdv A outer s H E hr => ?_
  exact (jss_one (js_ret (je_ix (i_idx rfl) (jr_of (je_lst (je_lc (own := [("end", 1)]) rfl nd_first_bad (ji_valW rfl (jr_of (je_var rfl (.inl rfl) rfl rfl))) (blkOk_by rfl) (fun _ _ _ _ _ => (jg_name nd_first_bad rfl (.inl rfl) (.inr rfl) (by decide))) (fun _ _ _ _ _ => (jts_one (jt_cmp (o_eq rfl (huR hr)) (jr_of (je_ix (i_idx rfl) (jr_of (je_var rfl (.inl rfl) rfl rfl)) (jr_of cst_int) rfl)) (jr_of cst_str) rfl))) (fun _ _ _ _ _ => (je_ix (i_idx rfl) (jr_of (je_var rfl (.inl rfl) rfl rfl)) (jr_of cst_int) rfl)) (fun _ => rfl)))) (jr_of cst_int) rfl)))
def N_joined : List Str := ["sign", "one", "other"]
theorem nd_joined : N_joined.Nodup := by decide +kernel
theorem sc_joined : FnScope N_joined ["sign", "one", "other"] (defScope (top 16)) := ⟨rfl, rfl, rfl, nd_joined, rfl, by decide +kernel, by decide +kernel⟩
def b_joined : DS := dSeq (dIfS (dTest (dOp pEq (dVar 0) (dCst (.str "+")))) (dRet (dOp pMod (dOp pAdd (dVar 1) (dVar 2)) (dCst (.int (1000000007))))) (dNop)) (dSeq (dIfS (dTest (dOp pEq (dVar 0) (dCst (.str "-")))) (dRet (dOp pMod (dOp pSub (dVar 1) (dVar 2)) (dCst (.int (1000000007))))) (dNop)) (dSeq (dIfS (dTest (dOp pEq (dVar 0) (dCst (.str "*")))) (dRet (dOp pMod (dOp pMul (dVar 1) (dVar 2)) (dCst (.int (1000000007))))) (dNop)) (dSeq (dIfS (dTest (dOp pEq (dVar 0) (dCst (.str "<")))) (dRet (dPr pInt (dCons (dOp pLt (dVar 1) (dVar 2)) (dNil)))) (dNop)) (dRet (dPr pInt (dCons (dOp pEq (dVar 1) (dVar 2)) (dNil)))))))
def f_joined : List D → M D := dFn 3 N_joined.length b_joined
theorem ok_joined (Z : Zf G mg fa fn nmt cls) (B : Tbs G mg base tfs) : Callee P G.w G mg base "joined" 1 3 ["sign", "one", "other"] f_joined := by
  refine callee_ofA (k := 0) (N := N_joined) (d := b_joined) Z 27 69 (st := top 16) (by rfl) (by rfl) sc_joined (by rfl) (fun _ _ _ _ _ _ us hl => match us, hl with | [_, _, _], _ => by rfl) fun f cdv A outer s H E hr => ?_
  exact (jss_cons (js_if (jt_cmp (o_eq rfl (huR hr)) (jr_of (je_var rfl (.inl rfl) rfl rfl)) (jr_of cst_str) rfl) (jss_one (js_ret (je_op (o_mod) (jr_of (je_op (o_add rfl) (jr_of (je_var rfl (.inl rfl) rfl rfl)) (jr_of (je_var rfl (.inl rfl) rfl rfl)))) (jr_of (je_gint rfl (Z.int 68 rfl)))))) jss_nil) (jss_cons (js_if (jt_cmp (o_eq rfl (huR hr)) (jr_of (je_var rfl (.inl rfl) rfl rfl)) (jr_of cst_str) rfl) (jss_one (js_ret (je_op (o_mod) (jr_of (je_op (o_sub) (jr_of (je_var rfl (.inl rfl) rfl rfl)) (jr_of (je_var rfl (.inl rfl) rfl rfl)))) (jr_of (je_gint rfl (Z.int 68 rfl)))))) jss_nil) (jss_cons (js_if (jt_cmp (o_eq rfl (huR hr)) (jr_of (je_var rfl (.inl rfl) rfl rfl)) (jr_of cst_str) rfl) (jss_one (js_ret (je_op (o_mod) (jr_of (je_op (o_mul rfl) (jr_of (je_var rfl (.inl rfl) rfl rfl)) (jr_of (je_var rfl (.inl rfl) rfl rfl)))) (jr_of (je_gint rfl (Z.int 68 rfl)))))) jss_nil) (jss_cons (js_if (jt_cmp (o_eq rfl (huR hr)) (jr_of (je_var rfl (.inl rfl) rfl rfl)) (jr_of cst_str) rfl) (jss_one (js_ret (je_callT (c_int) rfl (Z.free 2 rfl) PyProof.Rows.boot_int (jb_cons rfl (jr_of (je_cmp (o_lt rfl (huR hr)) (jr_of (je_var rfl (.inl rfl) rfl rfl)) (jr_of (je_var rfl (.inl rfl) rfl rfl)) rfl)) jb_nil) rfl))) jss_nil) (jss_one (js_ret (je_callT (c_int) rfl (Z.free 2 rfl) PyProof.Rows.boot_int (jb_cons rfl (jr_of (je_cmp (o_eq rfl (huR hr)) (jr_of (je_var rfl (.inl rfl) rfl rfl)) (jr_of (je_var rfl (.inl rfl) rfl rfl)) rfl)) jb_nil) rfl)))))))
abbrev K_slot_worth : Nat := 2
def N_slot_worth : List Str := ["one", "slots"]
theorem nd_slot_worth : N_slot_worth.Nodup := by decide +kernel
theorem sc_slot_worth : FnScope N_slot_worth ["one", "slots"] (defScope (top 17)) := ⟨rfl, rfl, rfl, nd_slot_worth, rfl, by decide +kernel, by decide +kernel⟩
def b_slot_worth (rec : Nat → List D → M D) : DS := dSeq (dIfS (dTest (dPr pIsi (dCons (dVar 0) (dCons (dCst (.ty "int")) (dNil))))) (dRet (dVar 0)) (dNop)) (dSeq (dIfS (dTest (dOp pEq (dOp pIdx (dVar 0) (dCst (.int 0))) (dCst (.str "slot")))) (dRet (dOp pIdx (dVar 1) (dOp pIdx (dVar 0) (dCst (.int 1))))) (dNop)) (dRet (dCall 3 f_joined (dCons (dOp pIdx (dVar 0) (dCst (.int 0))) (dCons (dCall 2 (rec 0) (dCons (dOp pIdx (dVar 0) (dCst (.int 1))) (dCons (dVar 1) (dNil)))) (dCons (dCall 2 (rec 0) (dCons (dOp pIdx (dVar 0) (dCst (.int 2))) (dCons (dVar 1) (dNil)))) (dNil)))))))
def r_slot_worth : Nat → Nat → List D → M D
  | 0, _ => fun _ _ => .bad
  | j + 1, 0 => dFn 2 N_slot_worth.length (b_slot_worth (r_slot_worth j))
  | _ + 1, _ => fun _ _ => .bad
def f_slot_worth : List D → M D := r_slot_worth 12 0
theorem okb_slot_worth (Z : Zf G mg fa fn nmt cls) (B : Tbs G mg base tfs) {j : Nat} {rec : Nat → List D → M D} (h0 : Callee P G.w G mg base "slot_worth" (K_slot_worth + j) 2 ["one", "slots"] (rec 0)) : Callee P G.w G mg base "slot_worth" (K_slot_worth + j + 1) 2 ["one", "slots"] (dFn 2 N_slot_worth.length (b_slot_worth rec)) := by
  refine callee_ofA (k := K_slot_worth + j) (N := N_slot_worth) (d := b_slot_worth rec) Z 28 70 (st := top 17) (by rfl) (by rfl) sc_slot_worth (by rfl) (fun _ _ _ _ _ _ us hl => match us, hl with | [_, _], _ => by rfl) fun f cdv A outer s H E hr => ?_
  exact (jss_cons (js_if (jt_val (jr_of (je_callB (c_isi rfl) rfl (Z.free 8 rfl) PyProof.Rows.boot_isinstance (jb_cons rfl (jr_of (je_var rfl (.inl rfl) rfl rfl)) (jb_cons rfl (jr_of (je_ty rfl (Z.free 2 rfl) PyProof.Rows.boot_int (by decide) (by decide))) jb_nil)) rfl)) rfl) (jss_one (js_ret (je_var rfl (.inl rfl) rfl rfl))) jss_nil) (jss_cons (js_if (jt_cmp (o_eq rfl (huR hr)) (jr_of (je_ix (i_idx rfl) (jr_of (je_var rfl (.inl rfl) rfl rfl)) (jr_of cst_int) rfl)) (jr_of cst_str) rfl) (jss_one (js_ret (je_ix (i_idx rfl) (jr_of (je_var rfl (.inl rfl) rfl rfl)) (jr_of (je_ix (i_idx rfl) (jr_of (je_var rfl (.inl rfl) rfl rfl)) (jr_of cst_int) rfl)) rfl))) jss_nil) (jss_one (js_ret (je_cal (ok_joined Z B) rfl hr (Nat.le_trans (by decide : 1 ≤ K_slot_worth) (Nat.le_add_right _ _)) rfl (takes_of (E := E) rfl rfl rfl rfl) (ja_cons rfl (je_ix (i_idx rfl) (jr_of (je_var rfl (.inl rfl) rfl rfl)) (jr_of cst_int) rfl) (ja_cons rfl (je_cal h0 rfl hr (Nat.le_refl _) rfl (takes_of (E := E) rfl rfl rfl rfl) (ja_cons rfl (je_ix (i_idx rfl) (jr_of (je_var rfl (.inl rfl) rfl rfl)) (jr_of cst_int) rfl) (ja_cons rfl (je_var rfl (.inl rfl) rfl rfl) ja_nil)) rfl) (ja_cons rfl (je_cal h0 rfl hr (Nat.le_refl _) rfl (takes_of (E := E) rfl rfl rfl rfl) (ja_cons rfl (je_ix (i_idx rfl) (jr_of (je_var rfl (.inl rfl) rfl rfl)) (jr_of cst_int) rfl) (ja_cons rfl (je_var rfl (.inl rfl) rfl rfl) ja_nil)) rfl) ja_nil))) rfl)))))
theorem okr_slot_worth (Z : Zf G mg fa fn nmt cls) (B : Tbs G mg base tfs) : ∀ j : Nat, (Callee P G.w G mg base "slot_worth" (K_slot_worth + j) 2 ["one", "slots"] (r_slot_worth j 0))
  | 0 => (callee_badA (k := 1) (N := N_slot_worth) Z 28 70 (st := top 17) (by rfl) (by rfl) sc_slot_worth (by rfl) (fun _ _ _ _ _ _ us hl => match us, hl with | [_, _], _ => by rfl))
  | j + 1 => by
    have h0 := okr_slot_worth Z B j
    exact okb_slot_worth Z B h0
theorem ok_slot_worth (Z : Zf G mg fa fn nmt cls) (B : Tbs G mg base tfs) : Callee P G.w G mg base "slot_worth" 14 2 ["one", "slots"] f_slot_worth := (okr_slot_worth Z B 12)
def N_Work_begin_round : List Str := ["self", "house", "room"]
theorem nd_Work_begin_round : N_Work_begin_round.Nodup := by decide +kernel
theorem sc_Work_begin_round : FnScope N_Work_begin_round ["self", "house", "room"] (defScope (mth 25 10)) := ⟨rfl, rfl, rfl, nd_Work_begin_round, rfl, by decide +kernel, by decide +kernel⟩
def b_Work_begin_round : DS := dSeq (dIfS (dTest (dOp pGe (dFld [3] "rounds_begun" (dVar 1)) (dCst (.int (16))))) (dRet (dMeth 4 "fault" 4 f_Work_fault (dVar 0) (dCons (dVar 1) (dCons (dVar 2) (dCons (dCst (.int (1))) (dNil)))))) (dNop)) (dSeq (dSetF [3] "rounds_begun" (dOp pAdd (dFld [3] "rounds_begun" (dVar 1)) (dCst (.int 1))) (dVar 1)) (dRet (dOp pIdx (dOp pIdx (dVar 2) (dCst (.int 1))) (dCst (.int 1)))))
def f_Work_begin_round : List D → M D := dFn 3 N_Work_begin_round.length b_Work_begin_round
theorem ok_Work_begin_round (Z : Zf G mg fa fn nmt cls) (B : Tbs G mg base tfs) : MCal P G.w G mg base 4 "begin_round" 3 3 ["self", "house", "room"] f_Work_begin_round := by
  refine mcal_of (k := 2) (N := N_Work_begin_round) (d := b_Work_begin_round) Z 29 73 36 (st := mth 25 10) (by rfl) (by rfl) (by rfl) (by rfl) sc_Work_begin_round (by rfl) (fun _ _ _ _ _ _ us hl => match us, hl with | [_, _, _], _ => by rfl) fun f cdv A outer s H E hr => ?_
  exact (jss_cons (js_if (jt_cmp (o_ge rfl (huR hr)) (jr_of (je_fld (at_rounds_begun Z) rfl (jr_of (je_var rfl (.inl rfl) rfl rfl)) rfl)) (jr_of (je_gint rfl (Z.int 71 rfl))) rfl) (jss_one (js_ret (je_meth (ok_Work_fault Z B) rfl hr (by decide) (takes_of (E := E) rfl rfl rfl rfl) (je_var rfl (.inl rfl) rfl rfl) (ja_cons rfl (je_var rfl (.inl rfl) rfl rfl) (ja_cons rfl (je_var rfl (.inl rfl) rfl rfl) (ja_cons rfl (je_gint rfl (Z.int 72 rfl)) ja_nil))) rfl rfl))) jss_nil) (jss_cons (js_fld (st_pos := ⟨0, 0, 0, 0⟩) (at_rounds_begun Z) rfl (je_op (o_add rfl) (jr_of (je_fld (at_rounds_begun Z) rfl (jr_of (je_var rfl (.inl rfl) rfl rfl)) rfl)) (jr_of cst_int)) (je_var rfl (.inl rfl) rfl rfl) rfl) (jss_one (js_ret (je_ix (i_idx rfl) (jr_of (je_ix (i_idx rfl) (jr_of (je_var rfl (.inl rfl) rfl rfl)) (jr_of cst_int) rfl)) (jr_of cst_int) rfl)))))
def N_Work_do_row : List Str := ["self", "house", "row"]
theorem nd_Work_do_row : N_Work_do_row.Nodup := by decide +kernel
theorem sc_Work_do_row : FnScope N_Work_do_row ["self", "house", "row"] (defScope (mth 25 4)) := ⟨rfl, rfl, rfl, nd_Work_do_row, rfl, by decide +kernel, by decide +kernel⟩
def b_Work_do_row : DS := dIfS (dTest (dOp pEq (dOp pIdx (dVar 2) (dCst (.int 0))) (dCst (.str "put")))) (dSto (dCall 2 f_slot_worth (dCons (dOp pIdx (dVar 2) (dCst (.int 2))) (dCons (dPr pTupR (dCons (dFld [3] "slots_held" (dVar 1)) (dNil))) (dNil)))) (dFld [3] "slots_held" (dVar 1)) (dOp pIdx (dVar 2) (dCst (.int 1)))) (dIfS (dTest (dOp pEq (dOp pIdx (dVar 2) (dCst (.int 0))) (dCst (.str "tell")))) (dAppR (dFld [3] "diary_rows" (dVar 1)) (dTup (dCons (dFld [4] "hour_now" (dVar 0)) (dCons (dCst (.str "tell")) (dCons (dCall 2 f_slot_worth (dCons (dOp pIdx (dVar 2) (dCst (.int 1))) (dCons (dPr pTupR (dCons (dFld [3] "slots_held" (dVar 1)) (dNil))) (dNil)))) (dNil)))))) (dAppR (dFld [3] "diary_rows" (dVar 1)) (dTup (dCons (dFld [4] "hour_now" (dVar 0)) (dCons (dOp pIdx (dVar 2) (dCst (.int 1))) (dCons (dOp pIdx (dVar 2) (dCst (.int 2))) (dNil)))))))
def f_Work_do_row : List D → M D := dFn 3 N_Work_do_row.length b_Work_do_row
theorem ok_Work_do_row (Z : Zf G mg fa fn nmt cls) (B : Tbs G mg base tfs) : MCal P G.w G mg base 4 "do_row" 15 3 ["self", "house", "row"] f_Work_do_row := by
  refine mcal_of (k := 14) (N := N_Work_do_row) (d := b_Work_do_row) Z 30 74 36 (st := mth 25 4) (by rfl) (by rfl) (by rfl) (by rfl) sc_Work_do_row (by rfl) (fun _ _ _ _ _ _ us hl => match us, hl with | [_, _, _], _ => by rfl) fun f cdv A outer s H E hr => ?_
  exact (jss_one (js_if (jt_cmp (o_eq rfl (huR hr)) (jr_of (je_ix (i_idx rfl) (jr_of (je_var rfl (.inl rfl) rfl rfl)) (jr_of cst_int) rfl)) (jr_of cst_str) rfl) (jss_one (js_sto rfl (je_cal (ok_slot_worth Z B) rfl hr (by decide) rfl (takes_of (E := E) rfl rfl rfl rfl) (ja_cons rfl (je_ix (i_idx rfl) (jr_of (je_var rfl (.inl rfl) rfl rfl)) (jr_of cst_int) rfl) (ja_cons rfl (je_callT (c_tupR rfl) rfl (Z.free 16 rfl) PyProof.Rows.boot_tuple (jb_cons rfl (jr_of (je_fld (at_slots_held Z) rfl (jr_of (je_var rfl (.inl rfl) rfl rfl)) rfl)) jb_nil) rfl) ja_nil)) rfl) (je_fld (at_slots_held Z) rfl (jr_of (je_var rfl (.inl rfl) rfl rfl)) rfl) (je_ix (i_idx rfl) (jr_of (je_var rfl (.inl rfl) rfl rfl)) (jr_of cst_int) rfl) rfl rfl rfl (fun _ => rfl))) (jss_one (js_if (jt_cmp (o_eq rfl (huR hr)) (jr_of (je_ix (i_idx rfl) (jr_of (je_var rfl (.inl rfl) rfl rfl)) (jr_of cst_int) rfl)) (jr_of cst_str) rfl) (jss_one (js_appR rfl (je_fld (at_diary_rows Z) rfl (jr_of (je_var rfl (.inl rfl) rfl rfl)) rfl) (je_tup (ja_cons rfl (je_fld (at_hour_now Z) rfl (jr_of (je_var rfl (.inl rfl) rfl rfl)) rfl) (ja_cons rfl cst_str (ja_cons rfl (je_cal (ok_slot_worth Z B) rfl hr (by decide) rfl (takes_of (E := E) rfl rfl rfl rfl) (ja_cons rfl (je_ix (i_idx rfl) (jr_of (je_var rfl (.inl rfl) rfl rfl)) (jr_of cst_int) rfl) (ja_cons rfl (je_callT (c_tupR rfl) rfl (Z.free 16 rfl) PyProof.Rows.boot_tuple (jb_cons rfl (jr_of (je_fld (at_slots_held Z) rfl (jr_of (je_var rfl (.inl rfl) rfl rfl)) rfl)) jb_nil) rfl) ja_nil)) rfl) ja_nil)))) rfl rfl rfl rfl rfl)) (jss_one (js_appR rfl (je_fld (at_diary_rows Z) rfl (jr_of (je_var rfl (.inl rfl) rfl rfl)) rfl) (je_tup (ja_cons rfl (je_fld (at_hour_now Z) rfl (jr_of (je_var rfl (.inl rfl) rfl rfl)) rfl) (ja_cons rfl (je_ix (i_idx rfl) (jr_of (je_var rfl (.inl rfl) rfl rfl)) (jr_of cst_int) rfl) (ja_cons rfl (je_ix (i_idx rfl) (jr_of (je_var rfl (.inl rfl) rfl rfl)) (jr_of cst_int) rfl) ja_nil)))) rfl rfl rfl rfl rfl))))))
abbrev K_Work_begin_house : Nat := 16
def N_Work_begin_house : List Str := ["self", "path", "name", "given", "slots", "house"]
theorem nd_Work_begin_house : N_Work_begin_house.Nodup := by decide +kernel
theorem sc_Work_begin_house : FnScope N_Work_begin_house ["self", "path", "name", "given"] (defScope (mth 25 2)) := ⟨rfl, rfl, rfl, nd_Work_begin_house, rfl, by decide +kernel, by decide +kernel⟩
def b_Work_begin_house (rec : Nat → List D → M D) : DS := dSeq (dSet 4 (qV (dOp pIdx (dCall 2 f_machine_of (dCons (dFld [4] "all_machines" (dVar 0)) (dCons (dVar 2) (dNil)))) (dCst (.int 2))))) (dSeq (dSet 5 (qV (dMake 3 6 f_House___init__ (dCons (dVar 1) (dCons (dVar 2) (dCons (dFld [4] "hour_now" (dVar 0)) (dCons (dVar 3) (dCons (dNew (dCatL (dLst (dPrL qListS (dCons (dVar 3) (dNil)))) (dOp pMul (dLst (dDisp (dCons (dCst (.int 0)) (dNil)))) (dOp pSub (dVar 4) (dPr pLen (dCons (dVar 3) (dNil))))))) (dNil))))))))) (dSeq (dPut lits (dVar 5) (dFld [4] "houses_by_path" (dVar 0)) (dVar 1)) (dDrop (dMeth 4 "go_on" 3 (rec 1) (dVar 0) (dCons (dVar 5) (dCons (dCst (.int 0)) (dNil)))))))
def N_Work_go_on : List Str := ["self", "house", "number", "room", "row"]
theorem nd_Work_go_on : N_Work_go_on.Nodup := by decide +kernel
theorem sc_Work_go_on : FnScope N_Work_go_on ["self", "house", "number"] (defScope (mth 25 3)) := ⟨rfl, rfl, rfl, nd_Work_go_on, rfl, by decide +kernel, by decide +kernel⟩
def b_Work_go_on (rec : Nat → List D → M D) : DS := whRun (dTest (dOp pIsNot (dVar 2) (dCst .non))) (dSeq (dSetF [3] "room_now" (dVar 2) (dVar 1)) (dSeq (dAppR (dFld [3] "step_rows" (dVar 1)) (dTup (dCons (dFld [4] "hour_now" (dVar 0)) (dCons (dVar 2) (dCons (dPr pTupR (dCons (dFld [3] "slots_held" (dVar 1)) (dNil))) (dNil)))))) (dSeq (dSet 3 (qV (dMeth 4 "room_of" 2 f_Work_room_of (dVar 0) (dCons (dVar 1) (dNil))))) (dSeq (dFor (dItems (dOp pIdx (dVar 3) (dCst (.int 0)))) (gN 4) (dDrop (dMeth 4 "do_row" 3 f_Work_do_row (dVar 0) (dCons (dVar 1) (dCons (dVar 4) (dNil)))))) (dSet 2 (qV (dMeth 4 "through_door" 3 (rec 2) (dVar 0) (dCons (dVar 1) (dCons (dVar 3) (dNil)))))))))) 100000
def N_Work_through_door : List Str := ["self", "house", "room", "door", "held"]
theorem nd_Work_through_door : N_Work_through_door.Nodup := by decide +kernel
theorem sc_Work_through_door : FnScope N_Work_through_door ["self", "house", "room"] (defScope (mth 25 5)) := ⟨rfl, rfl, rfl, nd_Work_through_door, rfl, by decide +kernel, by decide +kernel⟩
def b_Work_through_door (rec : Nat → List D → M D) : DS := dSeq (dSet 3 (qV (dOp pIdx (dVar 2) (dCst (.int 1))))) (dSeq (dSet 4 (qV (dPr pTupR (dCons (dFld [3] "slots_held" (dVar 1)) (dNil))))) (dSeq (dIfS (dTest (dOp pEq (dOp pIdx (dVar 3) (dCst (.int 0))) (dCst (.str "go")))) (dRet (dOp pIdx (dVar 3) (dCst (.int 1)))) (dNop)) (dSeq (dIfS (dTest (dOp pEq (dOp pIdx (dVar 3) (dCst (.int 0))) (dCst (.str "fork")))) (dRet (dIf (dTest (dOp pNe (dCall 2 f_slot_worth (dCons (dOp pIdx (dVar 3) (dCst (.int 1))) (dCons (dVar 4) (dNil)))) (dCst (.int 0)))) (dOp pIdx (dVar 3) (dCst (.int 2))) (dOp pIdx (dVar 3) (dCst (.int 3))))) (dNop)) (dSeq (dIfS (dTest (dOp pEq (dOp pIdx (dVar 3) (dCst (.int 0))) (dCst (.str "round")))) (dRet (dMeth 4 "begin_round" 3 f_Work_begin_round (dVar 0) (dCons (dVar 1) (dCons (dVar 2) (dNil))))) (dNop)) (dSeq (dIfS (dTest (dOp pEq (dOp pIdx (dVar 3) (dCst (.int 0))) (dCst (.str "give")))) (dRet (dMeth 4 "end_house" 4 f_Work_end_house (dVar 0) (dCons (dVar 1) (dCons (dCst (.str "good")) (dCons (dCall 2 f_slot_worth (dCons (dOp pIdx (dVar 3) (dCst (.int 1))) (dCons (dVar 4) (dNil)))) (dNil)))))) (dNop)) (dSeq (dIfS (dTest (dOp pEq (dOp pIdx (dVar 3) (dCst (.int 0))) (dCst (.str "fail")))) (dRet (dMeth 4 "fault" 4 f_Work_fault (dVar 0) (dCons (dVar 1) (dCons (dVar 2) (dCons (dCall 2 f_slot_worth (dCons (dOp pIdx (dVar 3) (dCst (.int 1))) (dCons (dVar 4) (dNil)))) (dNil)))))) (dNop)) (dSeq (dIfS (dTest (dOp pEq (dOp pIdx (dVar 3) (dCst (.int 0))) (dCst (.str "out")))) (dSeq (dIfS (dTest (dMeth 4 "goes_out" 3 f_Work_goes_out (dVar 0) (dCons (dVar 1) (dCons (dVar 2) (dNil))))) (dRet (dMeth 4 "go_out" 3 f_Work_go_out (dVar 0) (dCons (dVar 1) (dCons (dVar 2) (dNil))))) (dNop)) (dRet (dMeth 4 "fault" 4 f_Work_fault (dVar 0) (dCons (dVar 1) (dCons (dVar 2) (dCons (dOp pIdx (dVar 4) (dOp pIdx (dVar 3) (dCst (.int 1)))) (dNil))))))) (dNop)) (dRet (dMeth 4 "begin_want" 3 (rec 3) (dVar 0) (dCons (dVar 1) (dCons (dVar 2) (dNil))))))))))))
def N_Work_begin_want : List Str := ["self", "house", "room", "path", "branch"]
theorem nd_Work_begin_want : N_Work_begin_want.Nodup := by decide +kernel
theorem sc_Work_begin_want : FnScope N_Work_begin_want ["self", "house", "room"] (defScope (mth 25 11)) := ⟨rfl, rfl, rfl, nd_Work_begin_want, rfl, by decide +kernel, by decide +kernel⟩
def b_Work_begin_want (rec : Nat → List D → M D) : DS := dSeq (dIfS (dTest (dMeth 4 "goes_out" 3 f_Work_goes_out (dVar 0) (dCons (dVar 1) (dCons (dVar 2) (dNil))))) (dRet (dMeth 4 "go_out" 3 f_Work_go_out (dVar 0) (dCons (dVar 1) (dCons (dVar 2) (dNil))))) (dNop)) (dSeq (dIfS (dTest (dOp pGe (dFld [3] "wants_begun" (dVar 1)) (dCst (.int (5))))) (dRet (dMeth 4 "fault" 4 f_Work_fault (dVar 0) (dCons (dVar 1) (dCons (dVar 2) (dCons (dCst (.int (3))) (dNil)))))) (dNop)) (dSeq (dSetF [3] "wants_begun" (dOp pAdd (dFld [3] "wants_begun" (dVar 1)) (dCst (.int 1))) (dVar 1)) (dSeq (dFor (dRg zpB (dCons (dMeth 3 "want_paths" 2 f_House_want_paths (dVar 1) (dCons (dOp pIdx (dVar 2) (dCst (.int 1))) (dNil))) (dCons (dOp pIdx (dOp pIdx (dVar 2) (dCst (.int 1))) (dCst (.int 2))) (dNil)))) (gT 2 (gsC (gN 3) (gsC (gN 4) (gs0)))) (dDrop (dMeth 4 "begin_branch" 4 (rec 7) (dVar 0) (dCons (dVar 3) (dCons (dVar 4) (dCons (dPr pTupR (dCons (dFld [3] "slots_held" (dVar 1)) (dNil))) (dNil))))))) (dRet (dMeth 4 "behind_want" 3 (rec 4) (dVar 0) (dCons (dVar 1) (dCons (dVar 2) (dNil))))))))
def N_Work_behind_want : List Str := ["self", "house", "room", "door", "paths", "told", "path", "ends"]
theorem nd_Work_behind_want : N_Work_behind_want.Nodup := by decide +kernel
theorem sc_Work_behind_want : FnScope N_Work_behind_want ["self", "house", "room"] (defScope (mth 25 14)) := ⟨rfl, rfl, rfl, nd_Work_behind_want, rfl, by decide +kernel, by decide +kernel⟩
def b_Work_behind_want (rec : Nat → List D → M D) : DS := dSeq (dSet 3 (qV (dOp pIdx (dVar 2) (dCst (.int 1))))) (dSeq (dSet 4 (qV (dMeth 3 "want_paths" 2 f_House_want_paths (dVar 1) (dCons (dVar 3) (dNil))))) (dSeq (dSet 5 (qV (dCst (.str "")))) (dSeq (dIfS (dNot (dTest (dMeth 4 "goes_out" 3 f_Work_goes_out (dVar 0) (dCons (dVar 1) (dCons (dVar 2) (dNil)))))) (dSeq (dSet 5 (qV (dCall 2 f_outcome (dCons (dOp pIdx (dVar 3) (dCst (.int 1))) (dCons (dLst (dLc (dItems (dVar 4)) (gN 6) (dYes) (dMeth 4 "end_of" 2 f_Work_end_of (dVar 0) (dCons (dVar 6) (dNil))) [6])) (dNil)))))) (dSeq (dIfS (dTest (dOp pEq (dVar 5) (dCst (.str "")))) (dRet (dCst .non)) (dNop)) (dFor (dItems (dVar 4)) (gN 6) (dDrop (dMeth 4 "call_off" 2 (rec 5) (dVar 0) (dCons (dVar 6) (dNil))))))) (dNop)) (dSeq (dSet 7 (qV (dLst (dLc (dItems (dVar 4)) (gN 6) (dYes) (dMeth 4 "end_of" 2 f_Work_end_of (dVar 0) (dCons (dVar 6) (dNil))) [6])))) (dSeq (dIfS (dTest (dOp pIn (dTup (dNil)) (dVar 7))) (dRet (dCst .non)) (dNop)) (dSeq (dIfS (dTest (dOp pEq (dVar 5) (dCst (.str "")))) (dRet (dMeth 4 "go_out" 3 f_Work_go_out (dVar 0) (dCons (dVar 1) (dCons (dVar 2) (dNil))))) (dNop)) (dSeq (dIfS (dTest (dOp pEq (dVar 5) (dCst (.str "missed")))) (dRet (dMeth 4 "fault" 4 f_Work_fault (dVar 0) (dCons (dVar 1) (dCons (dVar 2) (dCons (dCall 1 f_first_bad (dCons (dVar 7) (dNil))) (dNil)))))) (dNop)) (dSeq (dSetF [3] "slots_held" (dCall 3 f_slots_behind (dCons (dFld [3] "slots_held" (dVar 1)) (dCons (dOp pIdx (dVar 3) (dCst (.int 2))) (dCons (dVar 7) (dNil))))) (dVar 1)) (dRet (dOp pIdx (dVar 3) (dCst (.int 3))))))))))))
def N_Work_call_off : List Str := ["self", "path"]
theorem nd_Work_call_off : N_Work_call_off.Nodup := by decide +kernel
theorem sc_Work_call_off : FnScope N_Work_call_off ["self", "path"] (defScope (mth 25 15)) := ⟨rfl, rfl, rfl, nd_Work_call_off, rfl, by decide +kernel, by decide +kernel⟩
def b_Work_call_off (rec : Nat → List D → M D) : DS := dIfS (dTest (dOp (pInD lits) (dVar 1) (dFld [4] "houses_by_path" (dVar 0)))) (dDrop (dMeth 4 "call_house" 2 (rec 6) (dVar 0) (dCons (dOp (pGet lits) (dFld [4] "houses_by_path" (dVar 0)) (dVar 1)) (dNil)))) (dIfS (dAnd (dTest (dOp (pInD lits) (dVar 1) (dFld [4] "asks_by_path" (dVar 0)))) (dTest (dOp pEq (dOp pIdx (dOp (pGet lits) (dFld [4] "asks_by_path" (dVar 0)) (dVar 1)) (dCst (.int 3))) (dTup (dNil))))) (dDrop (dMeth 4 "end_ask" 4 f_Work_end_ask (dVar 0) (dCons (dVar 1) (dCons (dCst (.str "off")) (dCons (dCst (.int 0)) (dNil)))))) (dNop))
def N_Work_call_house : List Str := ["self", "house", "room", "path"]
theorem nd_Work_call_house : N_Work_call_house.Nodup := by decide +kernel
theorem sc_Work_call_house : FnScope N_Work_call_house ["self", "house"] (defScope (mth 25 17)) := ⟨rfl, rfl, rfl, nd_Work_call_house, rfl, by decide +kernel, by decide +kernel⟩
def b_Work_call_house (rec : Nat → List D → M D) : DS := dSeq (dIfS (dOr (dTest (dOp pNe (dFld [3] "house_end" (dVar 1)) (dTup (dNil)))) (dTest (dOp pNe (dFld [3] "called_hour" (dVar 1)) (dTup (dNil))))) (dRet (dCst (.bl false))) (dNop)) (dSeq (dSetF [3] "called_hour" (dTup (dCons (dFld [4] "hour_now" (dVar 0)) (dNil))) (dVar 1)) (dSeq (dSet 2 (qV (dMeth 4 "room_of" 2 f_Work_room_of (dVar 0) (dCons (dVar 1) (dNil))))) (dSeq (dIfS (dTest (dOp pNe (dOp pIdx (dVar 2) (dCst (.int 3))) (dCst (.str "shut")))) (dSeq (dFor (dItems (dMeth 3 "want_paths" 2 f_House_want_paths (dVar 1) (dCons (dOp pIdx (dVar 2) (dCst (.int 1))) (dNil)))) (gN 3) (dDrop (dMeth 4 "call_off" 2 (rec 5) (dVar 0) (dCons (dVar 3) (dNil))))) (dDrop (dMeth 4 "go_on" 3 (rec 1) (dVar 0) (dCons (dVar 1) (dCons (dMeth 4 "behind_want" 3 (rec 4) (dVar 0) (dCons (dVar 1) (dCons (dVar 2) (dNil)))) (dNil)))))) (dNop)) (dRet (dCst (.bl true))))))
def N_Work_begin_branch : List Str := ["self", "path", "branch", "held", "one"]
theorem nd_Work_begin_branch : N_Work_begin_branch.Nodup := by decide +kernel
theorem sc_Work_begin_branch : FnScope N_Work_begin_branch ["self", "path", "branch", "held"] (defScope (mth 25 12)) := ⟨rfl, rfl, rfl, nd_Work_begin_branch, rfl, by decide +kernel, by decide +kernel⟩
def b_Work_begin_branch (rec : Nat → List D → M D) : DS := dIfS (dTest (dOp pEq (dOp pIdx (dVar 2) (dCst (.int 1))) (dCst (.str "ask")))) (dPut lits (dTup (dCons (dOp pIdx (dVar 2) (dCst (.int 2))) (dCons (dCall 2 f_slot_worth (dCons (dOp pIdx (dVar 2) (dCst (.int 3))) (dCons (dVar 3) (dNil)))) (dCons (dFld [4] "hour_now" (dVar 0)) (dCons (dTup (dNil)) (dNil)))))) (dFld [4] "asks_by_path" (dVar 0)) (dVar 1)) (dIfS (dTest (dOp pLe (dPr pLen (dCons (dVar 1) (dNil))) (dCst (.int (4))))) (dDrop (dMeth 4 "begin_house" 4 (rec 0) (dVar 0) (dCons (dVar 1) (dCons (dOp pIdx (dVar 2) (dCst (.int 2))) (dCons (dPr pTupR (dCons (dLst (dLc (dItems (dOp pIdx (dVar 2) (dCst (.int 3)))) (gN 4) (dYes) (dCall 2 f_slot_worth (dCons (dVar 4) (dCons (dVar 3) (dNil)))) [4])) (dNil))) (dNil)))))) (dNop))
def r_Work_begin_house : Nat → Nat → List D → M D
  | 0, _ => fun _ _ => .bad
  | j + 1, 0 => dFn 4 N_Work_begin_house.length (b_Work_begin_house (r_Work_begin_house j))
  | j + 1, 1 => dFn 3 N_Work_go_on.length (b_Work_go_on (r_Work_begin_house j))
  | j + 1, 2 => dFn 3 N_Work_through_door.length (b_Work_through_door (r_Work_begin_house j))
  | j + 1, 3 => dFn 3 N_Work_begin_want.length (b_Work_begin_want (r_Work_begin_house j))
  | j + 1, 4 => dFn 3 N_Work_behind_want.length (b_Work_behind_want (r_Work_begin_house j))
  | j + 1, 5 => dFn 2 N_Work_call_off.length (b_Work_call_off (r_Work_begin_house j))
  | j + 1, 6 => dFn 2 N_Work_call_house.length (b_Work_call_house (r_Work_begin_house j))
  | j + 1, 7 => dFn 4 N_Work_begin_branch.length (b_Work_begin_branch (r_Work_begin_house j))
  | _ + 1, _ => fun _ _ => .bad
def f_Work_begin_house : List D → M D := r_Work_begin_house 12 0
theorem okb_Work_begin_house (Z : Zf G mg fa fn nmt cls) (B : Tbs G mg base tfs) {j : Nat} {rec : Nat → List D → M D} (h0 : MCal P G.w G mg base 4 "begin_house" (K_Work_begin_house + j) 4 ["self", "path", "name", "given"] (rec 0)) (h1 : MCal P G.w G mg base 4 "go_on" (K_Work_begin_house + j) 3 ["self", "house", "number"] (rec 1)) (h2 : MCal P G.w G mg base 4 "through_door" (K_Work_begin_house + j) 3 ["self", "house", "room"] (rec 2)) (h3 : MCal P G.w G mg base 4 "begin_want" (K_Work_begin_house + j) 3 ["self", "house", "room"] (rec 3)) (h4 : MCal P G.w G mg base 4 "behind_want" (K_Work_begin_house + j) 3 ["self", "house", "room"] (rec 4)) (h5 : MCal P G.w G mg base 4 "call_off" (K_Work_begin_house + j) 2 ["self", "path"] (rec 5)) (h6 : MCal P G.w G mg base 4 "call_house" (K_Work_begin_house + j) 2 ["self", "house"] (rec 6)) (h7 : MCal P G.w G mg base 4 "begin_branch" (K_Work_begin_house + j) 4 ["self", "path", "branch", "held"] (rec 7)) : MCal P G.w G mg base 4 "begin_house" (K_Work_begin_house + j + 1) 4 ["self", "path", "name", "given"] (dFn 4 N_Work_begin_house.length (b_Work_begin_house rec)) := by
  refine mcal_of (k := K_Work_begin_house + j) (N := N_Work_begin_house) (d := b_Work_begin_house rec) Z 31 75 36 (st := mth 25 2) (by rfl) (by rfl) (by rfl) (by rfl) sc_Work_begin_house (by rfl) (fun _ _ _ _ _ _ us hl => match us, hl with | [_, _, _, _], _ => by rfl) fun f cdv A outer s H E hr => ?_
  exact (jss_cons (js_setV (ps_set nd_Work_begin_house rfl (.inl rfl) (je_ix (i_idx rfl) (jr_of (je_cal (ok_machine_of Z B) rfl hr (Nat.le_trans (by decide : 1 ≤ K_Work_begin_house) (Nat.le_add_right _ _)) rfl (takes_of (E := E) rfl rfl rfl rfl) (ja_cons rfl (je_fld (at_all_machines Z) rfl (jr_of (je_var rfl (.inl rfl) rfl rfl)) rfl) (ja_cons rfl (je_var rfl (.inl rfl) rfl rfl) ja_nil)) rfl)) (jr_of cst_int) rfl) rfl)) (jss_cons (js_setV (ps_set nd_Work_begin_house rfl (.inl rfl) (je_make (k := 1) (ok_House___init__ Z B) rfl (hr.mono (Nat.le_trans (by decide : 2 ≤ K_Work_begin_house) (Nat.le_add_right _ _))) (Nat.le_refl _) rfl (takes_of (E := E) rfl rfl rfl rfl) (ja_cons rfl (je_var rfl (.inl rfl) rfl rfl) (ja_cons rfl (je_var rfl (.inl rfl) rfl rfl) (ja_cons rfl (je_fld (at_hour_now Z) rfl (jr_of (je_var rfl (.inl rfl) rfl rfl)) rfl) (ja_cons rfl (je_var rfl (.inl rfl) rfl rfl) (ja_cons rfl (je_new (jl_cat (jr_of (je_lst (jl_listS rfl rfl (Z.free 38 rfl) (jb_cons rfl (jr_of (je_var rfl (.inl rfl) rfl rfl)) jb_nil) rfl))) (jr_of (je_op (o_mul rfl) (jr_of (je_lst (jl_disp (ja_cons rfl cst_int ja_nil)))) (jr_of (je_op (o_sub) (jr_of (je_var rfl (.inl rfl) rfl rfl)) (jr_of (je_callB (c_len rfl) rfl (Z.free 1 rfl) boot_len (jb_cons rfl (jr_of (je_var rfl (.inl rfl) rfl rfl)) jb_nil) rfl)))))))) ja_nil))))) rfl) rfl)) (jss_cons (js_dput (nl := lits) Z.lits (huR hr) (je_var rfl (.inl rfl) rfl rfl) (je_fld (at_houses_by_path Z) rfl (jr_of (je_var rfl (.inl rfl) rfl rfl)) rfl) (je_var rfl (.inl rfl) rfl rfl) rfl) (jss_one (js_drop (je_meth h1 rfl hr (Nat.le_refl _) (takes_of (E := E) rfl rfl rfl rfl) (je_var rfl (.inl rfl) rfl rfl) (ja_cons rfl (je_var rfl (.inl rfl) rfl rfl) (ja_cons rfl cst_int ja_nil)) rfl rfl) rfl)))))
def f_Work_go_on : List D → M D := r_Work_begin_house 12 1
theorem okb_Work_go_on (Z : Zf G mg fa fn nmt cls) (B : Tbs G mg base tfs) {j : Nat} {rec : Nat → List D → M D} (h0 : MCal P G.w G mg base 4 "begin_house" (K_Work_begin_house + j) 4 ["self", "path", "name", "given"] (rec 0)) (h1 : MCal P G.w G mg base 4 "go_on" (K_Work_begin_house + j) 3 ["self", "house", "number"] (rec 1)) (h2 : MCal P G.w G mg base 4 "through_door" (K_Work_begin_house + j) 3 ["self", "house", "room"] (rec 2)) (h3 : MCal P G.w G mg base 4 "begin_want" (K_Work_begin_house + j) 3 ["self", "house", "room"] (rec 3)) (h4 : MCal P G.w G mg base 4 "behind_want" (K_Work_begin_house + j) 3 ["self", "house", "room"] (rec 4)) (h5 : MCal P G.w G mg base 4 "call_off" (K_Work_begin_house + j) 2 ["self", "path"] (rec 5)) (h6 : MCal P G.w G mg base 4 "call_house" (K_Work_begin_house + j) 2 ["self", "house"] (rec 6)) (h7 : MCal P G.w G mg base 4 "begin_branch" (K_Work_begin_house + j) 4 ["self", "path", "branch", "held"] (rec 7)) : MCal P G.w G mg base 4 "go_on" (K_Work_begin_house + j + 1) 3 ["self", "house", "number"] (dFn 3 N_Work_go_on.length (b_Work_go_on rec)) := by
  refine mcal_of (k := K_Work_begin_house + j) (N := N_Work_go_on) (d := b_Work_go_on rec) Z 32 76 36 (st := mth 25 3) (by rfl) (by rfl) (by rfl) (by rfl) sc_Work_go_on (by rfl) (fun _ _ _ _ _ _ us hl => match us, hl with | [_, _, _], _ => by rfl) fun f cdv A outer s H E hr => ?_
  exact (jss_one (js_while (passes_of rfl) (jt_cmp (o_isNot) (jr_of (je_var rfl (.inl rfl) rfl rfl)) (jr_of cst_non) rfl) (jss_cons (js_fld (st_pos := ⟨0, 0, 0, 0⟩) (at_room_now Z) rfl (je_var rfl (.inl rfl) rfl rfl) (je_var rfl (.inl rfl) rfl rfl) rfl) (jss_cons (js_appR rfl (je_fld (at_step_rows Z) rfl (jr_of (je_var rfl (.inl rfl) rfl rfl)) rfl) (je_tup (ja_cons rfl (je_fld (at_hour_now Z) rfl (jr_of (je_var rfl (.inl rfl) rfl rfl)) rfl) (ja_cons rfl (je_var rfl (.inl rfl) rfl rfl) (ja_cons rfl (je_callT (c_tupR rfl) rfl (Z.free 16 rfl) PyProof.Rows.boot_tuple (jb_cons rfl (jr_of (je_fld (at_slots_held Z) rfl (jr_of (je_var rfl (.inl rfl) rfl rfl)) rfl)) jb_nil) rfl) ja_nil)))) rfl rfl rfl rfl rfl) (jss_cons (js_setV (ps_set nd_Work_go_on rfl (.inl rfl) (je_meth (ok_Work_room_of Z B) rfl hr (Nat.le_trans (by decide : 2 ≤ K_Work_begin_house) (Nat.le_add_right _ _)) (takes_of (E := E) rfl rfl rfl rfl) (je_var rfl (.inl rfl) rfl rfl) (ja_cons rfl (je_var rfl (.inl rfl) rfl rfl) ja_nil) rfl rfl) rfl)) (jss_cons (js_for (vs := [0, 1, 2, 3, 4]) (passes_of rfl) rfl (ji_val rfl (je_ix (i_idx rfl) (jr_of (je_var rfl (.inl rfl) rfl rfl)) (jr_of cst_int) rfl)) (jg_name nd_Work_go_on rfl (.inl rfl) (.inl rfl) (by decide)) (jss_one (js_drop (je_meth (ok_Work_do_row Z B) rfl hr (Nat.le_trans (by decide : 15 ≤ K_Work_begin_house) (Nat.le_add_right _ _)) (takes_of (E := E) rfl rfl rfl rfl) (je_var rfl (.inl rfl) rfl rfl) (ja_cons rfl (je_var rfl (.inl rfl) rfl rfl) (ja_cons rfl (je_var rfl (.inl rfl) rfl rfl) ja_nil)) rfl rfl) rfl)) (fun _ => rfl)) (jss_one (js_setV (ps_set nd_Work_go_on rfl (.inl rfl) (je_meth h2 rfl hr (Nat.le_refl _) (takes_of (E := E) rfl rfl rfl rfl) (je_var rfl (.inl rfl) rfl rfl) (ja_cons rfl (je_var rfl (.inl rfl) rfl rfl) (ja_cons rfl (je_var rfl (.inl rfl) rfl rfl) ja_nil)) rfl rfl) rfl)))))))))
def f_Work_through_door : List D → M D := r_Work_begin_house 12 2
theorem okb_Work_through_door (Z : Zf G mg fa fn nmt cls) (B : Tbs G mg base tfs) {j : Nat} {rec : Nat → List D → M D} (h0 : MCal P G.w G mg base 4 "begin_house" (K_Work_begin_house + j) 4 ["self", "path", "name", "given"] (rec 0)) (h1 : MCal P G.w G mg base 4 "go_on" (K_Work_begin_house + j) 3 ["self", "house", "number"] (rec 1)) (h2 : MCal P G.w G mg base 4 "through_door" (K_Work_begin_house + j) 3 ["self", "house", "room"] (rec 2)) (h3 : MCal P G.w G mg base 4 "begin_want" (K_Work_begin_house + j) 3 ["self", "house", "room"] (rec 3)) (h4 : MCal P G.w G mg base 4 "behind_want" (K_Work_begin_house + j) 3 ["self", "house", "room"] (rec 4)) (h5 : MCal P G.w G mg base 4 "call_off" (K_Work_begin_house + j) 2 ["self", "path"] (rec 5)) (h6 : MCal P G.w G mg base 4 "call_house" (K_Work_begin_house + j) 2 ["self", "house"] (rec 6)) (h7 : MCal P G.w G mg base 4 "begin_branch" (K_Work_begin_house + j) 4 ["self", "path", "branch", "held"] (rec 7)) : MCal P G.w G mg base 4 "through_door" (K_Work_begin_house + j + 1) 3 ["self", "house", "room"] (dFn 3 N_Work_through_door.length (b_Work_through_door rec)) := by
  refine mcal_of (k := K_Work_begin_house + j) (N := N_Work_through_door) (d := b_Work_through_door rec) Z 33 77 36 (st := mth 25 5) (by rfl) (by rfl) (by rfl) (by rfl) sc_Work_through_door (by rfl) (fun _ _ _ _ _ _ us hl => match us, hl with | [_, _, _], _ => by rfl) fun f cdv A outer s H E hr => ?_
  exact (jss_cons (js_setV (ps_set nd_Work_through_door rfl (.inl rfl) (je_ix (i_idx rfl) (jr_of (je_var rfl (.inl rfl) rfl rfl)) (jr_of cst_int) rfl) rfl)) (jss_cons (js_setV (ps_set nd_Work_through_door rfl (.inl rfl) (je_callT (c_tupR rfl) rfl (Z.free 16 rfl) PyProof.Rows.boot_tuple (jb_cons rfl (jr_of (je_fld (at_slots_held Z) rfl (jr_of (je_var rfl (.inl rfl) rfl rfl)) rfl)) jb_nil) rfl) rfl)) (jss_cons (js_if (jt_cmp (o_eq rfl (huR hr)) (jr_of (je_ix (i_idx rfl) (jr_of (je_var rfl (.inl rfl) rfl rfl)) (jr_of cst_int) rfl)) (jr_of cst_str) rfl) (jss_one (js_ret (je_ix (i_idx rfl) (jr_of (je_var rfl (.inl rfl) rfl rfl)) (jr_of cst_int) rfl))) jss_nil) (jss_cons (js_if (jt_cmp (o_eq rfl (huR hr)) (jr_of (je_ix (i_idx rfl) (jr_of (je_var rfl (.inl rfl) rfl rfl)) (jr_of cst_int) rfl)) (jr_of cst_str) rfl) (jss_one (js_ret (je_if (jt_cmp (o_ne rfl (huR hr)) (jr_of (je_cal (ok_slot_worth Z B) rfl hr (Nat.le_trans (by decide : 14 ≤ K_Work_begin_house) (Nat.le_add_right _ _)) rfl (takes_of (E := E) rfl rfl rfl rfl) (ja_cons rfl (je_ix (i_idx rfl) (jr_of (je_var rfl (.inl rfl) rfl rfl)) (jr_of cst_int) rfl) (ja_cons rfl (je_var rfl (.inl rfl) rfl rfl) ja_nil)) rfl)) (jr_of cst_int) rfl) (je_ix (i_idx rfl) (jr_of (je_var rfl (.inl rfl) rfl rfl)) (jr_of cst_int) rfl) (je_ix (i_idx rfl) (jr_of (je_var rfl (.inl rfl) rfl rfl)) (jr_of cst_int) rfl)))) jss_nil) (jss_cons (js_if (jt_cmp (o_eq rfl (huR hr)) (jr_of (je_ix (i_idx rfl) (jr_of (je_var rfl (.inl rfl) rfl rfl)) (jr_of cst_int) rfl)) (jr_of cst_str) rfl) (jss_one (js_ret (je_meth (ok_Work_begin_round Z B) rfl hr (Nat.le_trans (by decide : 3 ≤ K_Work_begin_house) (Nat.le_add_right _ _)) (takes_of (E := E) rfl rfl rfl rfl) (je_var rfl (.inl rfl) rfl rfl) (ja_cons rfl (je_var rfl (.inl rfl) rfl rfl) (ja_cons rfl (je_var rfl (.inl rfl) rfl rfl) ja_nil)) rfl rfl))) jss_nil) (jss_cons (js_if (jt_cmp (o_eq rfl (huR hr)) (jr_of (je_ix (i_idx rfl) (jr_of (je_var rfl (.inl rfl) rfl rfl)) (jr_of cst_int) rfl)) (jr_of cst_str) rfl) (jss_one (js_ret (je_meth (ok_Work_end_house Z B) rfl hr (Nat.le_trans (by decide : 1 ≤ K_Work_begin_house) (Nat.le_add_right _ _)) (takes_of (E := E) rfl rfl rfl rfl) (je_var rfl (.inl rfl) rfl rfl) (ja_cons rfl (je_var rfl (.inl rfl) rfl rfl) (ja_cons rfl cst_str (ja_cons rfl (je_cal (ok_slot_worth Z B) rfl hr (Nat.le_trans (by decide : 14 ≤ K_Work_begin_house) (Nat.le_add_right _ _)) rfl (takes_of (E := E) rfl rfl rfl rfl) (ja_cons rfl (je_ix (i_idx rfl) (jr_of (je_var rfl (.inl rfl) rfl rfl)) (jr_of cst_int) rfl) (ja_cons rfl (je_var rfl (.inl rfl) rfl rfl) ja_nil)) rfl) ja_nil))) rfl rfl))) jss_nil) (jss_cons (js_if (jt_cmp (o_eq rfl (huR hr)) (jr_of (je_ix (i_idx rfl) (jr_of (je_var rfl (.inl rfl) rfl rfl)) (jr_of cst_int) rfl)) (jr_of cst_str) rfl) (jss_one (js_ret (je_meth (ok_Work_fault Z B) rfl hr (Nat.le_trans (by decide : 2 ≤ K_Work_begin_house) (Nat.le_add_right _ _)) (takes_of (E := E) rfl rfl rfl rfl) (je_var rfl (.inl rfl) rfl rfl) (ja_cons rfl (je_var rfl (.inl rfl) rfl rfl) (ja_cons rfl (je_var rfl (.inl rfl) rfl rfl) (ja_cons rfl (je_cal (ok_slot_worth Z B) rfl hr (Nat.le_trans (by decide : 14 ≤ K_Work_begin_house) (Nat.le_add_right _ _)) rfl (takes_of (E := E) rfl rfl rfl rfl) (ja_cons rfl (je_ix (i_idx rfl) (jr_of (je_var rfl (.inl rfl) rfl rfl)) (jr_of cst_int) rfl) (ja_cons rfl (je_var rfl (.inl rfl) rfl rfl) ja_nil)) rfl) ja_nil))) rfl rfl))) jss_nil) (jss_cons (js_if (jt_cmp (o_eq rfl (huR hr)) (jr_of (je_ix (i_idx rfl) (jr_of (je_var rfl (.inl rfl) rfl rfl)) (jr_of cst_int) rfl)) (jr_of cst_str) rfl) (jss_cons (js_if (jt_val (jr_of (je_meth (ok_Work_goes_out Z B) rfl hr (Nat.le_trans (by decide : 1 ≤ K_Work_begin_house) (Nat.le_add_right _ _)) (takes_of (E := E) rfl rfl rfl rfl) (je_var rfl (.inl rfl) rfl rfl) (ja_cons rfl (je_var rfl (.inl rfl) rfl rfl) (ja_cons rfl (je_var rfl (.inl rfl) rfl rfl) ja_nil)) rfl rfl)) rfl) (jss_one (js_ret (je_meth (ok_Work_go_out Z B) rfl hr (Nat.le_trans (by decide : 2 ≤ K_Work_begin_house) (Nat.le_add_right _ _)) (takes_of (E := E) rfl rfl rfl rfl) (je_var rfl (.inl rfl) rfl rfl) (ja_cons rfl (je_var rfl (.inl rfl) rfl rfl) (ja_cons rfl (je_var rfl (.inl rfl) rfl rfl) ja_nil)) rfl rfl))) jss_nil) (jss_one (js_ret (je_meth (ok_Work_fault Z B) rfl hr (Nat.le_trans (by decide : 2 ≤ K_Work_begin_house) (Nat.le_add_right _ _)) (takes_of (E := E) rfl rfl rfl rfl) (je_var rfl (.inl rfl) rfl rfl) (ja_cons rfl (je_var rfl (.inl rfl) rfl rfl) (ja_cons rfl (je_var rfl (.inl rfl) rfl rfl) (ja_cons rfl (je_ix (i_idx rfl) (jr_of (je_var rfl (.inl rfl) rfl rfl)) (jr_of (je_ix (i_idx rfl) (jr_of (je_var rfl (.inl rfl) rfl rfl)) (jr_of cst_int) rfl)) rfl) ja_nil))) rfl rfl)))) jss_nil) (jss_one (js_ret (je_meth h3 rfl hr (Nat.le_refl _) (takes_of (E := E) rfl rfl rfl rfl) (je_var rfl (.inl rfl) rfl rfl) (ja_cons rfl (je_var rfl (.inl rfl) rfl rfl) (ja_cons rfl (je_var rfl (.inl rfl) rfl rfl) ja_nil)) rfl rfl)))))))))))
def f_Work_begin_want : List D → M D := r_Work_begin_house 12 3
theorem okb_Work_begin_want (Z : Zf G mg fa fn nmt cls) (B : Tbs G mg base tfs) {j : Nat} {rec : Nat → List D → M D} (h0 : MCal P G.w G mg base 4 "begin_house" (K_Work_begin_house + j) 4 ["self", "path", "name", "given"] (rec 0)) (h1 : MCal P G.w G mg base 4 "go_on" (K_Work_begin_house + j) 3 ["self", "house", "number"] (rec 1)) (h2 : MCal P G.w G mg base 4 "through_door" (K_Work_begin_house + j) 3 ["self", "house", "room"] (rec 2)) (h3 : MCal P G.w G mg base 4 "begin_want" (K_Work_begin_house + j) 3 ["self", "house", "room"] (rec 3)) (h4 : MCal P G.w G mg base 4 "behind_want" (K_Work_begin_house + j) 3 ["self", "house", "room"] (rec 4)) (h5 : MCal P G.w G mg base 4 "call_off" (K_Work_begin_house + j) 2 ["self", "path"] (rec 5)) (h6 : MCal P G.w G mg base 4 "call_house" (K_Work_begin_house + j) 2 ["self", "house"] (rec 6)) (h7 : MCal P G.w G mg base 4 "begin_branch" (K_Work_begin_house + j) 4 ["self", "path", "branch", "held"] (rec 7)) : MCal P G.w G mg base 4 "begin_want" (K_Work_begin_house + j + 1) 3 ["self", "house", "room"] (dFn 3 N_Work_begin_want.length (b_Work_begin_want rec)) := by
  refine mcal_of (k := K_Work_begin_house + j) (N := N_Work_begin_want) (d := b_Work_begin_want rec) Z 34 80 36 (st := mth 25 11) (by rfl) (by rfl) (by rfl) (by rfl) sc_Work_begin_want (by rfl) (fun _ _ _ _ _ _ us hl => match us, hl with | [_, _, _], _ => by rfl) fun f cdv A outer s H E hr => ?_
  exact (jss_cons (js_if (jt_val (jr_of (je_meth (ok_Work_goes_out Z B) rfl hr (Nat.le_trans (by decide : 1 ≤ K_Work_begin_house) (Nat.le_add_right _ _)) (takes_of (E := E) rfl rfl rfl rfl) (je_var rfl (.inl rfl) rfl rfl) (ja_cons rfl (je_var rfl (.inl rfl) rfl rfl) (ja_cons rfl (je_var rfl (.inl rfl) rfl rfl) ja_nil)) rfl rfl)) rfl) (jss_one (js_ret (je_meth (ok_Work_go_out Z B) rfl hr (Nat.le_trans (by decide : 2 ≤ K_Work_begin_house) (Nat.le_add_right _ _)) (takes_of (E := E) rfl rfl rfl rfl) (je_var rfl (.inl rfl) rfl rfl) (ja_cons rfl (je_var rfl (.inl rfl) rfl rfl) (ja_cons rfl (je_var rfl (.inl rfl) rfl rfl) ja_nil)) rfl rfl))) jss_nil) (jss_cons (js_if (jt_cmp (o_ge rfl (huR hr)) (jr_of (je_fld (at_wants_begun Z) rfl (jr_of (je_var rfl (.inl rfl) rfl rfl)) rfl)) (jr_of (je_gint rfl (Z.int 78 rfl))) rfl) (jss_one (js_ret (je_meth (ok_Work_fault Z B) rfl hr (Nat.le_trans (by decide : 2 ≤ K_Work_begin_house) (Nat.le_add_right _ _)) (takes_of (E := E) rfl rfl rfl rfl) (je_var rfl (.inl rfl) rfl rfl) (ja_cons rfl (je_var rfl (.inl rfl) rfl rfl) (ja_cons rfl (je_var rfl (.inl rfl) rfl rfl) (ja_cons rfl (je_gint rfl (Z.int 79 rfl)) ja_nil))) rfl rfl))) jss_nil) (jss_cons (js_fld (st_pos := ⟨0, 0, 0, 0⟩) (at_wants_begun Z) rfl (je_op (o_add rfl) (jr_of (je_fld (at_wants_begun Z) rfl (jr_of (je_var rfl (.inl rfl) rfl rfl)) rfl)) (jr_of cst_int)) (je_var rfl (.inl rfl) rfl rfl) rfl) (jss_cons (js_for (vs := [0, 1, 2, 3, 4]) (passes_of rfl) rfl (ji_zipB rfl rfl (Z.free 19 rfl) (ja_cons rfl (je_meth (ok_House_want_paths Z B) rfl hr (Nat.le_trans (by decide : 2 ≤ K_Work_begin_house) (Nat.le_add_right _ _)) (takes_of (E := E) rfl rfl rfl rfl) (je_var rfl (.inl rfl) rfl rfl) (ja_cons rfl (je_ix (i_idx rfl) (jr_of (je_var rfl (.inl rfl) rfl rfl)) (jr_of cst_int) rfl) ja_nil) rfl rfl) (ja_cons rfl (je_ix (i_idx rfl) (jr_of (je_ix (i_idx rfl) (jr_of (je_var rfl (.inl rfl) rfl rfl)) (jr_of cst_int) rfl)) (jr_of cst_int) rfl) ja_nil)) rfl rfl) (jg_tup rfl rfl (jgs_cons (jg_name nd_Work_begin_want rfl (.inl rfl) (.inl rfl) (by decide)) (jgs_cons (jg_name nd_Work_begin_want rfl (.inl rfl) (.inl rfl) (by decide)) jgs_nil))) (jss_one (js_drop (je_meth h7 rfl hr (Nat.le_refl _) (takes_of (E := E) rfl rfl rfl rfl) (je_var rfl (.inl rfl) rfl rfl) (ja_cons rfl (je_var rfl (.inl rfl) rfl rfl) (ja_cons rfl (je_var rfl (.inl rfl) rfl rfl) (ja_cons rfl (je_callT (c_tupR rfl) rfl (Z.free 16 rfl) PyProof.Rows.boot_tuple (jb_cons rfl (jr_of (je_fld (at_slots_held Z) rfl (jr_of (je_var rfl (.inl rfl) rfl rfl)) rfl)) jb_nil) rfl) ja_nil))) rfl rfl) rfl)) (fun _ => rfl)) (jss_one (js_ret (je_meth h4 rfl hr (Nat.le_refl _) (takes_of (E := E) rfl rfl rfl rfl) (je_var rfl (.inl rfl) rfl rfl) (ja_cons rfl (je_var rfl (.inl rfl) rfl rfl) (ja_cons rfl (je_var rfl (.inl rfl) rfl rfl) ja_nil)) rfl rfl)))))))
def f_Work_behind_want : List D → M D := r_Work_begin_house 12 4
theorem okb_Work_behind_want (Z : Zf G mg fa fn nmt cls) (B : Tbs G mg base tfs) {j : Nat} {rec : Nat → List D → M D} (h0 : MCal P G.w G mg base 4 "begin_house" (K_Work_begin_house + j) 4 ["self", "path", "name", "given"] (rec 0)) (h1 : MCal P G.w G mg base 4 "go_on" (K_Work_begin_house + j) 3 ["self", "house", "number"] (rec 1)) (h2 : MCal P G.w G mg base 4 "through_door" (K_Work_begin_house + j) 3 ["self", "house", "room"] (rec 2)) (h3 : MCal P G.w G mg base 4 "begin_want" (K_Work_begin_house + j) 3 ["self", "house", "room"] (rec 3)) (h4 : MCal P G.w G mg base 4 "behind_want" (K_Work_begin_house + j) 3 ["self", "house", "room"] (rec 4)) (h5 : MCal P G.w G mg base 4 "call_off" (K_Work_begin_house + j) 2 ["self", "path"] (rec 5)) (h6 : MCal P G.w G mg base 4 "call_house" (K_Work_begin_house + j) 2 ["self", "house"] (rec 6)) (h7 : MCal P G.w G mg base 4 "begin_branch" (K_Work_begin_house + j) 4 ["self", "path", "branch", "held"] (rec 7)) : MCal P G.w G mg base 4 "behind_want" (K_Work_begin_house + j + 1) 3 ["self", "house", "room"] (dFn 3 N_Work_behind_want.length (b_Work_behind_want rec)) := by
  refine mcal_of (k := K_Work_begin_house + j) (N := N_Work_behind_want) (d := b_Work_behind_want rec) Z 35 81 36 (st := mth 25 14) (by rfl) (by rfl) (by rfl) (by rfl) sc_Work_behind_want (by rfl) (fun _ _ _ _ _ _ us hl => match us, hl with | [_, _, _], _ => by rfl) fun f cdv A outer s H E hr => ?_
  exact (jss_cons (js_setV (ps_set nd_Work_behind_want rfl (.inl rfl) (je_ix (i_idx rfl) (jr_of (je_var rfl (.inl rfl) rfl rfl)) (jr_of cst_int) rfl) rfl)) (jss_cons (js_setV (ps_set nd_Work_behind_want rfl (.inl rfl) (je_meth (ok_House_want_paths Z B) rfl hr (Nat.le_trans (by decide : 2 ≤ K_Work_begin_house) (Nat.le_add_right _ _)) (takes_of (E := E) rfl rfl rfl rfl) (je_var rfl (.inl rfl) rfl rfl) (ja_cons rfl (je_var rfl (.inl rfl) rfl rfl) ja_nil) rfl rfl) rfl)) (jss_cons (js_setV (ps_set nd_Work_behind_want rfl (.inl rfl) cst_str rfl)) (jss_cons (js_if (jt_not (jt_val (jr_of (je_meth (ok_Work_goes_out Z B) rfl hr (Nat.le_trans (by decide : 1 ≤ K_Work_begin_house) (Nat.le_add_right _ _)) (takes_of (E := E) rfl rfl rfl rfl) (je_var rfl (.inr (.inl rfl)) rfl rfl) (ja_cons rfl (je_var rfl (.inl rfl) rfl rfl) (ja_cons rfl (je_var rfl (.inl rfl) rfl rfl) ja_nil)) rfl rfl)) rfl)) (jss_cons (js_setV (ps_set nd_Work_behind_want rfl (.inl rfl) (je_cal (ok_outcome Z B) rfl hr (Nat.le_trans (by decide : 2 ≤ K_Work_begin_house) (Nat.le_add_right _ _)) rfl (takes_of (E := E) rfl rfl rfl rfl) (ja_cons rfl (je_ix (i_idx rfl) (jr_of (je_var rfl (.inl rfl) rfl rfl)) (jr_of cst_int) rfl) (ja_cons rfl (je_lst (je_lc (own := [("path", 6)]) rfl nd_Work_behind_want (ji_valW rfl (jr_of (je_var rfl (.inl rfl) rfl rfl))) (blkOk_by rfl) (fun _ _ _ _ _ => (jg_name nd_Work_behind_want rfl (.inl rfl) (.inr rfl) (by decide))) (fun _ _ _ _ _ => jts_nil) (fun _ _ _ _ _ => (je_meth (ok_Work_end_of Z B) rfl hr (Nat.le_trans (by decide : 1 ≤ K_Work_begin_house) (Nat.le_add_right _ _)) takes0 (je_var rfl (.inr (.inl rfl)) rfl rfl) (ja_cons rfl (je_var rfl (.inl rfl) rfl rfl) ja_nil) rfl rfl)) (fun _ => rfl))) ja_nil)) rfl) rfl)) (jss_cons (js_if (jt_cmp (o_eq rfl (huR hr)) (jr_of (je_var rfl (.inl rfl) rfl rfl)) (jr_of cst_str) rfl) (jss_one (js_ret cst_non)) jss_nil) (jss_one (js_for (vs := [0, 1, 2, 3, 4, 5, 6, 7]) (passes_of rfl) rfl (ji_val rfl (je_var rfl (.inl rfl) rfl rfl)) (jg_name nd_Work_behind_want rfl (.inl rfl) (.inl rfl) (by decide)) (jss_one (js_drop (je_meth h5 rfl hr (Nat.le_refl _) (takes_of (E := E) rfl rfl rfl rfl) (je_var rfl (.inr (.inl rfl)) rfl rfl) (ja_cons rfl (je_var rfl (.inl rfl) rfl rfl) ja_nil) rfl rfl) rfl)) (fun _ => rfl))))) jss_nil) (jss_cons (js_lcV (ps_setLc (own := [("path", 6)]) rfl nd_Work_behind_want rfl rfl (sw_true rfl rfl rfl rfl) (ji_valW rfl (jr_of (je_var rfl (.inl rfl) rfl rfl))) (blkOk_by rfl) (fun _ _ _ _ _ => (jg_name nd_Work_behind_want rfl (.inl rfl) (.inr rfl) (by decide))) (fun _ _ _ _ _ => jts_nil) (fun _ _ _ _ _ => (je_meth (ok_Work_end_of Z B) rfl hr (Nat.le_trans (by decide : 1 ≤ K_Work_begin_house) (Nat.le_add_right _ _)) takes0 (je_var rfl (.inr (.inl rfl)) rfl rfl) (ja_cons rfl (je_var rfl (.inl rfl) rfl rfl) ja_nil) rfl rfl)) (fun _ => rfl))) (jss_cons (js_if (jt_cmp (o_in rfl (huR hr)) (jr_of (je_tup ja_nil)) (jr_of (je_var rfl (.inl rfl) rfl rfl)) rfl) (jss_one (js_ret cst_non)) jss_nil) (jss_cons (js_if (jt_cmp (o_eq rfl (huR hr)) (jr_of (je_var rfl (.inl rfl) rfl rfl)) (jr_of cst_str) rfl) (jss_one (js_ret (je_meth (ok_Work_go_out Z B) rfl hr (Nat.le_trans (by decide : 2 ≤ K_Work_begin_house) (Nat.le_add_right _ _)) (takes_of (E := E) rfl rfl rfl rfl) (je_var rfl (.inr (.inl rfl)) rfl rfl) (ja_cons rfl (je_var rfl (.inl rfl) rfl rfl) (ja_cons rfl (je_var rfl (.inl rfl) rfl rfl) ja_nil)) rfl rfl))) jss_nil) (jss_cons (js_if (jt_cmp (o_eq rfl (huR hr)) (jr_of (je_var rfl (.inl rfl) rfl rfl)) (jr_of cst_str) rfl) (jss_one (js_ret (je_meth (ok_Work_fault Z B) rfl hr (Nat.le_trans (by decide : 2 ≤ K_Work_begin_house) (Nat.le_add_right _ _)) (takes_of (E := E) rfl rfl rfl rfl) (je_var rfl (.inr (.inl rfl)) rfl rfl) (ja_cons rfl (je_var rfl (.inl rfl) rfl rfl) (ja_cons rfl (je_var rfl (.inl rfl) rfl rfl) (ja_cons rfl (je_cal (ok_first_bad Z B) rfl hr (Nat.le_trans (by decide : 1 ≤ K_Work_begin_house) (Nat.le_add_right _ _)) rfl (takes_of (E := E) rfl rfl rfl rfl) (ja_cons rfl (je_var rfl (.inl rfl) rfl rfl) ja_nil) rfl) ja_nil))) rfl rfl))) jss_nil) (jss_cons (js_fld (st_pos := ⟨0, 0, 0, 0⟩) (at_slots_held Z) rfl (je_cal (ok_slots_behind Z B) rfl hr (Nat.le_trans (by decide : 1 ≤ K_Work_begin_house) (Nat.le_add_right _ _)) rfl (takes_of (E := E) rfl rfl rfl rfl) (ja_cons rfl (je_fld (at_slots_held Z) rfl (jr_of (je_var rfl (.inl rfl) rfl rfl)) rfl) (ja_cons rfl (je_ix (i_idx rfl) (jr_of (je_var rfl (.inl rfl) rfl rfl)) (jr_of cst_int) rfl) (ja_cons rfl (je_var rfl (.inl rfl) rfl rfl) ja_nil))) rfl) (je_var rfl (.inl rfl) rfl rfl) rfl) (jss_one (js_ret (je_ix (i_idx rfl) (jr_of (je_var rfl (.inl rfl) rfl rfl)) (jr_of cst_int) rfl))))))))))))
def f_Work_call_off : List D → M D := r_Work_begin_house 12 5
theorem okb_Work_call_off (Z : Zf G mg fa fn nmt cls) (B : Tbs G mg base tfs) {j : Nat} {rec : Nat → List D → M D} (h0 : MCal P G.w G mg base 4 "begin_house" (K_Work_begin_house + j) 4 ["self", "path", "name", "given"] (rec 0)) (h1 : MCal P G.w G mg base 4 "go_on" (K_Work_begin_house + j) 3 ["self", "house", "number"] (rec 1)) (h2 : MCal P G.w G mg base 4 "through_door" (K_Work_begin_house + j) 3 ["self", "house", "room"] (rec 2)) (h3 : MCal P G.w G mg base 4 "begin_want" (K_Work_begin_house + j) 3 ["self", "house", "room"] (rec 3)) (h4 : MCal P G.w G mg base 4 "behind_want" (K_Work_begin_house + j) 3 ["self", "house", "room"] (rec 4)) (h5 : MCal P G.w G mg base 4 "call_off" (K_Work_begin_house + j) 2 ["self", "path"] (rec 5)) (h6 : MCal P G.w G mg base 4 "call_house" (K_Work_begin_house + j) 2 ["self", "house"] (rec 6)) (h7 : MCal P G.w G mg base 4 "begin_branch" (K_Work_begin_house + j) 4 ["self", "path", "branch", "held"] (rec 7)) : MCal P G.w G mg base 4 "call_off" (K_Work_begin_house + j + 1) 2 ["self", "path"] (dFn 2 N_Work_call_off.length (b_Work_call_off rec)) := by
  refine mcal_of (k := K_Work_begin_house + j) (N := N_Work_call_off) (d := b_Work_call_off rec) Z 36 82 36 (st := mth 25 15) (by rfl) (by rfl) (by rfl) (by rfl) sc_Work_call_off (by rfl) (fun _ _ _ _ _ _ us hl => match us, hl with | [_, _], _ => by rfl) fun f cdv A outer s H E hr => ?_
  exact (jss_one (js_if (jt_din (nl := lits) Z.lits (huR hr) (je_var rfl (.inl rfl) rfl rfl) (je_fld (at_houses_by_path Z) rfl (jr_of (je_var rfl (.inl rfl) rfl rfl)) rfl) rfl) (jss_one (js_drop (je_meth h6 rfl hr (Nat.le_refl _) (takes_of (E := E) rfl rfl rfl rfl) (je_var rfl (.inl rfl) rfl rfl) (ja_cons rfl (je_dget (nl := lits) Z.lits (huR hr) (je_fld (at_houses_by_path Z) rfl (jr_of (je_var rfl (.inl rfl) rfl rfl)) rfl) (je_var rfl (.inl rfl) rfl rfl) (fun _ _ => rfl)) ja_nil) rfl rfl) rfl)) (jss_one (js_if (PW.pt (jw_and (jt_din (nl := lits) Z.lits (huR hr) (je_var rfl (.inl rfl) rfl rfl) (je_fld (at_asks_by_path Z) rfl (jr_of (je_var rfl (.inl rfl) rfl rfl)) rfl) rfl) (jw1_and (jt_cmp (o_eq rfl (huR hr)) (jr_of (je_ix (i_idx rfl) (jr_of (je_dget (nl := lits) Z.lits (huR hr) (je_fld (at_asks_by_path Z) rfl (jr_of (je_var rfl (.inl rfl) rfl rfl)) rfl) (je_var rfl (.inl rfl) rfl rfl) (fun _ _ => rfl))) (jr_of cst_int) rfl)) (jr_of (je_tup ja_nil)) rfl)))) (jss_one (js_drop (je_meth (ok_Work_end_ask Z B) rfl hr (Nat.le_trans (by decide : 1 ≤ K_Work_begin_house) (Nat.le_add_right _ _)) (takes_of (E := E) rfl rfl rfl rfl) (je_var rfl (.inl rfl) rfl rfl) (ja_cons rfl (je_var rfl (.inl rfl) rfl rfl) (ja_cons rfl cst_str (ja_cons rfl cst_int ja_nil))) rfl rfl) rfl)) jss_nil))))
def f_Work_call_house : List D → M D := r_Work_begin_house 12 6
theorem okb_Work_call_house (Z : Zf G mg fa fn nmt cls) (B : Tbs G mg base tfs) {j : Nat} {rec : Nat → List D → M D} (h0 : MCal P G.w G mg base 4 "begin_house" (K_Work_begin_house + j) 4 ["self", "path", "name", "given"] (rec 0)) (h1 : MCal P G.w G mg base 4 "go_on" (K_Work_begin_house + j) 3 ["self", "house", "number"] (rec 1)) (h2 : MCal P G.w G mg base 4 "through_door" (K_Work_begin_house + j) 3 ["self", "house", "room"] (rec 2)) (h3 : MCal P G.w G mg base 4 "begin_want" (K_Work_begin_house + j) 3 ["self", "house", "room"] (rec 3)) (h4 : MCal P G.w G mg base 4 "behind_want" (K_Work_begin_house + j) 3 ["self", "house", "room"] (rec 4)) (h5 : MCal P G.w G mg base 4 "call_off" (K_Work_begin_house + j) 2 ["self", "path"] (rec 5)) (h6 : MCal P G.w G mg base 4 "call_house" (K_Work_begin_house + j) 2 ["self", "house"] (rec 6)) (h7 : MCal P G.w G mg base 4 "begin_branch" (K_Work_begin_house + j) 4 ["self", "path", "branch", "held"] (rec 7)) : MCal P G.w G mg base 4 "call_house" (K_Work_begin_house + j + 1) 2 ["self", "house"] (dFn 2 N_Work_call_house.length (b_Work_call_house rec)) := by
  refine mcal_of (k := K_Work_begin_house + j) (N := N_Work_call_house) (d := b_Work_call_house rec) Z 37 83 36 (st := mth 25 17) (by rfl) (by rfl) (by rfl) (by rfl) sc_Work_call_house (by rfl) (fun _ _ _ _ _ _ us hl => match us, hl with | [_, _], _ => by rfl) fun f cdv A outer s H E hr => ?_
  exact (jss_cons (js_if (PW.pt (jw_or (jt_cmp (o_ne rfl (huR hr)) (jr_of (je_fld (at_house_end Z) rfl (jr_of (je_var rfl (.inl rfl) rfl rfl)) rfl)) (jr_of (je_tup ja_nil)) rfl) (jw1_or (jt_cmp (o_ne rfl (huR hr)) (jr_of (je_fld (at_called_hour Z) rfl (jr_of (je_var rfl (.inl rfl) rfl rfl)) rfl)) (jr_of (je_tup ja_nil)) rfl)))) (jss_one (js_ret cst_bl)) jss_nil) (jss_cons (js_fld (st_pos := ⟨0, 0, 0, 0⟩) (at_called_hour Z) rfl (je_tup (ja_cons rfl (je_fld (at_hour_now Z) rfl (jr_of (je_var rfl (.inl rfl) rfl rfl)) rfl) ja_nil)) (je_var rfl (.inl rfl) rfl rfl) rfl) (jss_cons (js_setV (ps_set nd_Work_call_house rfl (.inl rfl) (je_meth (ok_Work_room_of Z B) rfl hr (Nat.le_trans (by decide : 2 ≤ K_Work_begin_house) (Nat.le_add_right _ _)) (takes_of (E := E) rfl rfl rfl rfl) (je_var rfl (.inl rfl) rfl rfl) (ja_cons rfl (je_var rfl (.inl rfl) rfl rfl) ja_nil) rfl rfl) rfl)) (jss_cons (js_if (jt_cmp (o_ne rfl (huR hr)) (jr_of (je_ix (i_idx rfl) (jr_of (je_var rfl (.inl rfl) rfl rfl)) (jr_of cst_int) rfl)) (jr_of cst_str) rfl) (jss_cons (js_for (vs := [0, 1, 2, 3]) (passes_of rfl) rfl (ji_val rfl (je_meth (ok_House_want_paths Z B) rfl hr (Nat.le_trans (by decide : 2 ≤ K_Work_begin_house) (Nat.le_add_right _ _)) (takes_of (E := E) rfl rfl rfl rfl) (je_var rfl (.inl rfl) rfl rfl) (ja_cons rfl (je_ix (i_idx rfl) (jr_of (je_var rfl (.inl rfl) rfl rfl)) (jr_of cst_int) rfl) ja_nil) rfl rfl)) (jg_name nd_Work_call_house rfl (.inl rfl) (.inl rfl) (by decide)) (jss_one (js_drop (je_meth h5 rfl hr (Nat.le_refl _) (takes_of (E := E) rfl rfl rfl rfl) (je_var rfl (.inl rfl) rfl rfl) (ja_cons rfl (je_var rfl (.inl rfl) rfl rfl) ja_nil) rfl rfl) rfl)) (fun _ => rfl)) (jss_one (js_drop (je_meth h1 rfl hr (Nat.le_refl _) (takes_of (E := E) rfl rfl rfl rfl) (je_var rfl (.inl rfl) rfl rfl) (ja_cons rfl (je_var rfl (.inl rfl) rfl rfl) (ja_cons rfl (je_meth h4 rfl hr (Nat.le_refl _) (takes_of (E := E) rfl rfl rfl rfl) (je_var rfl (.inl rfl) rfl rfl) (ja_cons rfl (je_var rfl (.inl rfl) rfl rfl) (ja_cons rfl (je_var rfl (.inl rfl) rfl rfl) ja_nil)) rfl rfl) ja_nil)) rfl rfl) rfl))) jss_nil) (jss_one (js_ret cst_bl))))))
def f_Work_begin_branch : List D → M D := r_Work_begin_house 12 7
theorem okb_Work_begin_branch (Z : Zf G mg fa fn nmt cls) (B : Tbs G mg base tfs) {j : Nat} {rec : Nat → List D → M D} (h0 : MCal P G.w G mg base 4 "begin_house" (K_Work_begin_house + j) 4 ["self", "path", "name", "given"] (rec 0)) (h1 : MCal P G.w G mg base 4 "go_on" (K_Work_begin_house + j) 3 ["self", "house", "number"] (rec 1)) (h2 : MCal P G.w G mg base 4 "through_door" (K_Work_begin_house + j) 3 ["self", "house", "room"] (rec 2)) (h3 : MCal P G.w G mg base 4 "begin_want" (K_Work_begin_house + j) 3 ["self", "house", "room"] (rec 3)) (h4 : MCal P G.w G mg base 4 "behind_want" (K_Work_begin_house + j) 3 ["self", "house", "room"] (rec 4)) (h5 : MCal P G.w G mg base 4 "call_off" (K_Work_begin_house + j) 2 ["self", "path"] (rec 5)) (h6 : MCal P G.w G mg base 4 "call_house" (K_Work_begin_house + j) 2 ["self", "house"] (rec 6)) (h7 : MCal P G.w G mg base 4 "begin_branch" (K_Work_begin_house + j) 4 ["self", "path", "branch", "held"] (rec 7)) : MCal P G.w G mg base 4 "begin_branch" (K_Work_begin_house + j + 1) 4 ["self", "path", "branch", "held"] (dFn 4 N_Work_begin_branch.length (b_Work_begin_branch rec)) := by
  refine mcal_of (k := K_Work_begin_house + j) (N := N_Work_begin_branch) (d := b_Work_begin_branch rec) Z 38 85 36 (st := mth 25 12) (by rfl) (by rfl) (by rfl) (by rfl) sc_Work_begin_branch (by rfl) (fun _ _ _ _ _ _ us hl => match us, hl with | [_, _, _, _], _ => by rfl) fun f cdv A outer s H E hr => ?_
  exact (jss_one (js_if (jt_cmp (o_eq rfl (huR hr)) (jr_of (je_ix (i_idx rfl) (jr_of (je_var rfl (.inl rfl) rfl rfl)) (jr_of cst_int) rfl)) (jr_of cst_str) rfl) (jss_one (js_dput (nl := lits) Z.lits (huR hr) (je_tup (ja_cons rfl (je_ix (i_idx rfl) (jr_of (je_var rfl (.inl rfl) rfl rfl)) (jr_of cst_int) rfl) (ja_cons rfl (je_cal (ok_slot_worth Z B) rfl hr (Nat.le_trans (by decide : 14 ≤ K_Work_begin_house) (Nat.le_add_right _ _)) rfl (takes_of (E := E) rfl rfl rfl rfl) (ja_cons rfl (je_ix (i_idx rfl) (jr_of (je_var rfl (.inl rfl) rfl rfl)) (jr_of cst_int) rfl) (ja_cons rfl (je_var rfl (.inr (.inl rfl)) rfl rfl) ja_nil)) rfl) (ja_cons rfl (je_fld (at_hour_now Z) rfl (jr_of (je_var rfl (.inl rfl) rfl rfl)) rfl) (ja_cons rfl (je_tup ja_nil) ja_nil))))) (je_fld (at_asks_by_path Z) rfl (jr_of (je_var rfl (.inl rfl) rfl rfl)) rfl) (je_var rfl (.inl rfl) rfl rfl) rfl)) (jss_one (js_if (jt_cmp (o_le rfl (huR hr)) (jr_of (je_callB (c_len rfl) rfl (Z.free 1 rfl) boot_len (jb_cons rfl (jr_of (je_var rfl (.inl rfl) rfl rfl)) jb_nil) rfl)) (jr_of (je_gint rfl (Z.int 84 rfl))) rfl) (jss_one (js_drop (je_meth h0 rfl hr (Nat.le_refl _) (takes_of (E := E) rfl rfl rfl rfl) (je_var rfl (.inl rfl) rfl rfl) (ja_cons rfl (je_var rfl (.inl rfl) rfl rfl) (ja_cons rfl (je_ix (i_idx rfl) (jr_of (je_var rfl (.inl rfl) rfl rfl)) (jr_of cst_int) rfl) (ja_cons rfl (je_callT (c_tupR rfl) rfl (Z.free 16 rfl) PyProof.Rows.boot_tuple (jb_cons rfl (jr_of (je_lst (je_lc (own := [("one", 4)]) rfl nd_Work_begin_branch (ji_valW rfl (jr_of (je_ix (i_idx rfl) (jr_of (je_var rfl (.inl rfl) rfl rfl)) (jr_of cst_int) rfl))) (blkOk_by rfl) (fun _ _ _ _ _ => (jg_name nd_Work_begin_branch rfl (.inl rfl) (.inr rfl) (by decide))) (fun _ _ _ _ _ => jts_nil) (fun _ _ _ _ _ => (je_cal (ok_slot_worth Z B) rfl hr (Nat.le_trans (by decide : 14 ≤ K_Work_begin_house) (Nat.le_add_right _ _)) rfl takes0 (ja_cons rfl (je_var rfl (.inl rfl) rfl rfl) (ja_cons rfl (je_var rfl (.inr (.inl rfl)) rfl rfl) ja_nil)) rfl)) (fun _ => rfl)))) jb_nil) rfl) ja_nil))) rfl rfl) rfl)) jss_nil))))
theorem okr_Work_begin_house (Z : Zf G mg fa fn nmt cls) (B : Tbs G mg base tfs) : ∀ j : Nat, (MCal P G.w G mg base 4 "begin_house" (K_Work_begin_house + j) 4 ["self", "path", "name", "given"] (r_Work_begin_house j 0)) ∧ (MCal P G.w G mg base 4 "go_on" (K_Work_begin_house + j) 3 ["self", "house", "number"] (r_Work_begin_house j 1)) ∧ (MCal P G.w G mg base 4 "through_door" (K_Work_begin_house + j) 3 ["self", "house", "room"] (r_Work_begin_house j 2)) ∧ (MCal P G.w G mg base 4 "begin_want" (K_Work_begin_house + j) 3 ["self", "house", "room"] (r_Work_begin_house j 3)) ∧ (MCal P G.w G mg base 4 "behind_want" (K_Work_begin_house + j) 3 ["self", "house", "room"] (r_Work_begin_house j 4)) ∧ (MCal P G.w G mg base 4 "call_off" (K_Work_begin_house + j) 2 ["self", "path"] (r_Work_begin_house j 5)) ∧ (MCal P G.w G mg base 4 "call_house" (K_Work_begin_house + j) 2 ["self", "house"] (r_Work_begin_house j 6)) ∧ (MCal P G.w G mg base 4 "begin_branch" (K_Work_begin_house + j) 4 ["self", "path", "branch", "held"] (r_Work_begin_house j 7))
  | 0 => ⟨(mcal_bad (k := 15) (N := N_Work_begin_house) Z 31 75 36 (st := mth 25 2) (by rfl) (by rfl) (by rfl) (by rfl) sc_Work_begin_house (by rfl) (fun _ _ _ _ _ _ us hl => match us, hl with | [_, _, _, _], _ => by rfl)), (mcal_bad (k := 15) (N := N_Work_go_on) Z 32 76 36 (st := mth 25 3) (by rfl) (by rfl) (by rfl) (by rfl) sc_Work_go_on (by rfl) (fun _ _ _ _ _ _ us hl => match us, hl with | [_, _, _], _ => by rfl)), (mcal_bad (k := 15) (N := N_Work_through_door) Z 33 77 36 (st := mth 25 5) (by rfl) (by rfl) (by rfl) (by rfl) sc_Work_through_door (by rfl) (fun _ _ _ _ _ _ us hl => match us, hl with | [_, _, _], _ => by rfl)), (mcal_bad (k := 15) (N := N_Work_begin_want) Z 34 80 36 (st := mth 25 11) (by rfl) (by rfl) (by rfl) (by rfl) sc_Work_begin_want (by rfl) (fun _ _ _ _ _ _ us hl => match us, hl with | [_, _, _], _ => by rfl)), (mcal_bad (k := 15) (N := N_Work_behind_want) Z 35 81 36 (st := mth 25 14) (by rfl) (by rfl) (by rfl) (by rfl) sc_Work_behind_want (by rfl) (fun _ _ _ _ _ _ us hl => match us, hl with | [_, _, _], _ => by rfl)), (mcal_bad (k := 15) (N := N_Work_call_off) Z 36 82 36 (st := mth 25 15) (by rfl) (by rfl) (by rfl) (by rfl) sc_Work_call_off (by rfl) (fun _ _ _ _ _ _ us hl => match us, hl with | [_, _], _ => by rfl)), (mcal_bad (k := 15) (N := N_Work_call_house) Z 37 83 36 (st := mth 25 17) (by rfl) (by rfl) (by rfl) (by rfl) sc_Work_call_house (by rfl) (fun _ _ _ _ _ _ us hl => match us, hl with | [_, _], _ => by rfl)), (mcal_bad (k := 15) (N := N_Work_begin_branch) Z 38 85 36 (st := mth 25 12) (by rfl) (by rfl) (by rfl) (by rfl) sc_Work_begin_branch (by rfl) (fun _ _ _ _ _ _ us hl => match us, hl with | [_, _, _, _], _ => by rfl))⟩
  | j + 1 => by
    obtain ⟨h0, h1, h2, h3, h4, h5, h6, h7⟩ := okr_Work_begin_house Z B j
    exact ⟨okb_Work_begin_house Z B h0 h1 h2 h3 h4 h5 h6 h7, okb_Work_go_on Z B h0 h1 h2 h3 h4 h5 h6 h7, okb_Work_through_door Z B h0 h1 h2 h3 h4 h5 h6 h7, okb_Work_begin_want Z B h0 h1 h2 h3 h4 h5 h6 h7, okb_Work_behind_want Z B h0 h1 h2 h3 h4 h5 h6 h7, okb_Work_call_off Z B h0 h1 h2 h3 h4 h5 h6 h7, okb_Work_call_house Z B h0 h1 h2 h3 h4 h5 h6 h7, okb_Work_begin_branch Z B h0 h1 h2 h3 h4 h5 h6 h7⟩
theorem ok_Work_begin_house (Z : Zf G mg fa fn nmt cls) (B : Tbs G mg base tfs) : MCal P G.w G mg base 4 "begin_house" 28 4 ["self", "path", "name", "given"] f_Work_begin_house := (okr_Work_begin_house Z B 12).1
theorem ok_Work_go_on (Z : Zf G mg fa fn nmt cls) (B : Tbs G mg base tfs) : MCal P G.w G mg base 4 "go_on" 28 3 ["self", "house", "number"] f_Work_go_on := (okr_Work_begin_house Z B 12).2.1
theorem ok_Work_through_door (Z : Zf G mg fa fn nmt cls) (B : Tbs G mg base tfs) : MCal P G.w G mg base 4 "through_door" 28 3 ["self", "house", "room"] f_Work_through_door := (okr_Work_begin_house Z B 12).2.2.1
theorem ok_Work_begin_want (Z : Zf G mg fa fn nmt cls) (B : Tbs G mg base tfs) : MCal P G.w G mg base 4 "begin_want" 28 3 ["self", "house", "room"] f_Work_begin_want := (okr_Work_begin_house Z B 12).2.2.2.1
theorem ok_Work_behind_want (Z : Zf G mg fa fn nmt cls) (B : Tbs G mg base tfs) : MCal P G.w G mg base 4 "behind_want" 28 3 ["self", "house", "room"] f_Work_behind_want := (okr_Work_begin_house Z B 12).2.2.2.2.1
theorem ok_Work_call_off (Z : Zf G mg fa fn nmt cls) (B : Tbs G mg base tfs) : MCal P G.w G mg base 4 "call_off" 28 2 ["self", "path"] f_Work_call_off := (okr_Work_begin_house Z B 12).2.2.2.2.2.1
theorem ok_Work_call_house (Z : Zf G mg fa fn nmt cls) (B : Tbs G mg base tfs) : MCal P G.w G mg base 4 "call_house" 28 2 ["self", "house"] f_Work_call_house := (okr_Work_begin_house Z B 12).2.2.2.2.2.2.1
theorem ok_Work_begin_branch (Z : Zf G mg fa fn nmt cls) (B : Tbs G mg base tfs) : MCal P G.w G mg base 4 "begin_branch" 28 4 ["self", "path", "branch", "held"] f_Work_begin_branch := (okr_Work_begin_house Z B 12).2.2.2.2.2.2.2
def N_Work_take_answer : List Str := ["self", "path", "word", "number", "house"]
theorem nd_Work_take_answer : N_Work_take_answer.Nodup := by decide +kernel
theorem sc_Work_take_answer : FnScope N_Work_take_answer ["self", "path", "word", "number"] (defScope (mth 25 18)) := ⟨rfl, rfl, rfl, nd_Work_take_answer, rfl, by decide +kernel, by decide +kernel⟩
def b_Work_take_answer : DS := dSeq (dIfS (dOr (dTest (dOp (pNotInD lits) (dVar 1) (dFld [4] "asks_by_path" (dVar 0)))) (dTest (dOp pNe (dOp pIdx (dOp (pGet lits) (dFld [4] "asks_by_path" (dVar 0)) (dVar 1)) (dCst (.int 3))) (dTup (dNil))))) (dRet (dCst (.bl false))) (dNop)) (dSeq (dDrop (dMeth 4 "end_ask" 4 f_Work_end_ask (dVar 0) (dCons (dVar 1) (dCons (dVar 2) (dCons (dVar 3) (dNil)))))) (dSeq (dSet 4 (qV (dOp (pGet lits) (dFld [4] "houses_by_path" (dVar 0)) (dSl (dVar 1) (dNo) (dSo (dNeg (dCst (.int 2)))))))) (dSeq (dDrop (dMeth 4 "go_on" 3 f_Work_go_on (dVar 0) (dCons (dVar 4) (dCons (dMeth 4 "behind_want" 3 f_Work_behind_want (dVar 0) (dCons (dVar 4) (dCons (dMeth 4 "room_of" 2 f_Work_room_of (dVar 0) (dCons (dVar 4) (dNil))) (dNil)))) (dNil))))) (dSeq (whRun (dAnd (dTest (dOp pNe (dFld [3] "house_end" (dVar 4)) (dTup (dNil)))) (dTest (dOp pNe (dFld [3] "house_path" (dVar 4)) (dTup (dNil))))) (dSeq (dSet 4 (qV (dOp (pGet lits) (dFld [4] "houses_by_path" (dVar 0)) (dSl (dFld [3] "house_path" (dVar 4)) (dNo) (dSo (dNeg (dCst (.int 2)))))))) (dDrop (dMeth 4 "go_on" 3 f_Work_go_on (dVar 0) (dCons (dVar 4) (dCons (dMeth 4 "behind_want" 3 f_Work_behind_want (dVar 0) (dCons (dVar 4) (dCons (dMeth 4 "room_of" 2 f_Work_room_of (dVar 0) (dCons (dVar 4) (dNil))) (dNil)))) (dNil)))))) 100000) (dRet (dCst (.bl true)))))))
def f_Work_take_answer : List D → M D := dFn 4 N_Work_take_answer.length b_Work_take_answer
theorem ok_Work_take_answer (Z : Zf G mg fa fn nmt cls) (B : Tbs G mg base tfs) : MCal P G.w G mg base 4 "take_answer" 29 4 ["self", "path", "word", "number"] f_Work_take_answer := by
  refine mcal_of (k := 28) (N := N_Work_take_answer) (d := b_Work_take_answer) Z 39 86 36 (st := mth 25 18) (by rfl) (by rfl) (by rfl) (by rfl) sc_Work_take_answer (by rfl) (fun _ _ _ _ _ _ us hl => match us, hl with | [_, _, _, _], _ => by rfl) fun f cdv A outer s H E hr => ?_
  exact (jss_cons (js_if (PW.pt (jw_or (jt_dnotin (nl := lits) Z.lits (huR hr) (je_var rfl (.inl rfl) rfl rfl) (je_fld (at_asks_by_path Z) rfl (jr_of (je_var rfl (.inl rfl) rfl rfl)) rfl) rfl) (jw1_or (jt_cmp (o_ne rfl (huR hr)) (jr_of (je_ix (i_idx rfl) (jr_of (je_dget (nl := lits) Z.lits (huR hr) (je_fld (at_asks_by_path Z) rfl (jr_of (je_var rfl (.inl rfl) rfl rfl)) rfl) (je_var rfl (.inl rfl) rfl rfl) (fun _ _ => rfl))) (jr_of cst_int) rfl)) (jr_of (je_tup ja_nil)) rfl)))) (jss_one (js_ret cst_bl)) jss_nil) (jss_cons (js_drop (je_meth (ok_Work_end_ask Z B) rfl hr (by decide) (takes_of (E := E) rfl rfl rfl rfl) (je_var rfl (.inl rfl) rfl rfl) (ja_cons rfl (je_var rfl (.inl rfl) rfl rfl) (ja_cons rfl (je_var rfl (.inl rfl) rfl rfl) (ja_cons rfl (je_var rfl (.inl rfl) rfl rfl) ja_nil))) rfl rfl) rfl) (jss_cons (js_setV (ps_set nd_Work_take_answer rfl (.inl rfl) (je_dget (nl := lits) Z.lits (huR hr) (je_fld (at_houses_by_path Z) rfl (jr_of (je_var rfl (.inl rfl) rfl rfl)) rfl) (je_sl rfl (jr_of (je_var rfl (.inl rfl) rfl rfl)) jo_none (jo_some (je_neg cst_int))) (fun _ _ => rfl)) rfl)) (jss_cons (js_drop (je_meth (ok_Work_go_on Z B) rfl hr (by decide) (takes_of (E := E) rfl rfl rfl rfl) (je_var rfl (.inl rfl) rfl rfl) (ja_cons rfl (je_var rfl (.inl rfl) rfl rfl) (ja_cons rfl (je_meth (ok_Work_behind_want Z B) rfl hr (by decide) (takes_of (E := E) rfl rfl rfl rfl) (je_var rfl (.inl rfl) rfl rfl) (ja_cons rfl (je_var rfl (.inl rfl) rfl rfl) (ja_cons rfl (je_meth (ok_Work_room_of Z B) rfl hr (by decide) (takes_of (E := E) rfl rfl rfl rfl) (je_var rfl (.inl rfl) rfl rfl) (ja_cons rfl (je_var rfl (.inl rfl) rfl rfl) ja_nil) rfl rfl) ja_nil)) rfl rfl) ja_nil)) rfl rfl) rfl) (jss_cons (js_while (passes_of rfl) (PW.pt (jw_and (jt_cmp (o_ne rfl (huR hr)) (jr_of (je_fld (at_house_end Z) rfl (jr_of (je_var rfl (.inl rfl) rfl rfl)) rfl)) (jr_of (je_tup ja_nil)) rfl) (jw1_and (jt_cmp (o_ne rfl (huR hr)) (jr_of (je_fld (at_house_path Z) rfl (jr_of (je_var rfl (.inl rfl) rfl rfl)) rfl)) (jr_of (je_tup ja_nil)) rfl)))) (jss_cons (js_setV (ps_set nd_Work_take_answer rfl (.inl rfl) (je_dget (nl := lits) Z.lits (huR hr) (je_fld (at_houses_by_path Z) rfl (jr_of (je_var rfl (.inl rfl) rfl rfl)) rfl) (je_sl rfl (jr_of (je_fld (at_house_path Z) rfl (jr_of (je_var rfl (.inl rfl) rfl rfl)) rfl)) jo_none (jo_some (je_neg cst_int))) (fun _ _ => rfl)) rfl)) (jss_one (js_drop (je_meth (ok_Work_go_on Z B) rfl hr (by decide) (takes_of (E := E) rfl rfl rfl rfl) (je_var rfl (.inl rfl) rfl rfl) (ja_cons rfl (je_var rfl (.inl rfl) rfl rfl) (ja_cons rfl (je_meth (ok_Work_behind_want Z B) rfl hr (by decide) (takes_of (E := E) rfl rfl rfl rfl) (je_var rfl (.inl rfl) rfl rfl) (ja_cons rfl (je_var rfl (.inl rfl) rfl rfl) (ja_cons rfl (je_meth (ok_Work_room_of Z B) rfl hr (by decide) (takes_of (E := E) rfl rfl rfl rfl) (je_var rfl (.inl rfl) rfl rfl) (ja_cons rfl (je_var rfl (.inl rfl) rfl rfl) ja_nil) rfl rfl) ja_nil)) rfl rfl) ja_nil)) rfl rfl) rfl)))) (jss_one (js_ret cst_bl)))))))
def N_Work_take_event : List Str := ["self", "event"]
theorem nd_Work_take_event : N_Work_take_event.Nodup := by decide +kernel
theorem sc_Work_take_event : FnScope N_Work_take_event ["self", "event"] (defScope (mth 25 19)) := ⟨rfl, rfl, rfl, nd_Work_take_event, rfl, by decide +kernel, by decide +kernel⟩
def b_Work_take_event : DS := dSeq (dSetF [4] "hour_now" (dOp pAdd (dFld [4] "hour_now" (dVar 0)) (dCst (.int 1))) (dVar 0)) (dSeq (dIfS (dTest (dOp pEq (dOp pIdx (dVar 1) (dCst (.int 0))) (dCst (.str "off")))) (dRet (dMeth 4 "call_house" 2 f_Work_call_house (dVar 0) (dCons (dOp (pGet lits) (dFld [4] "houses_by_path" (dVar 0)) (dTup (dNil))) (dNil)))) (dNop)) (dRet (dMeth 4 "take_answer" 4 f_Work_take_answer (dVar 0) (dCons (dOp pIdx (dVar 1) (dCst (.int 1))) (dCons (dIf (dTest (dOp pIdx (dVar 1) (dCst (.int 2)))) (dCst (.str "good")) (dCst (.str "bad"))) (dCons (dOp pIdx (dVar 1) (dCst (.int 3))) (dNil)))))))
def f_Work_take_event : List D → M D := dFn 2 N_Work_take_event.length b_Work_take_event
theorem ok_Work_take_event (Z : Zf G mg fa fn nmt cls) (B : Tbs G mg base tfs) : MCal P G.w G mg base 4 "take_event" 30 2 ["self", "event"] f_Work_take_event := by
  refine mcal_of (k := 29) (N := N_Work_take_event) (d := b_Work_take_event) Z 40 87 36 (st := mth 25 19) (by rfl) (by rfl) (by rfl) (by rfl) sc_Work_take_event (by rfl) (fun _ _ _ _ _ _ us hl => match us, hl with | [_, _], _ => by rfl) fun f cdv A outer s H E hr => ?_
  exact (jss_cons (js_fld (st_pos := ⟨0, 0, 0, 0⟩) (at_hour_now Z) rfl (je_op (o_add rfl) (jr_of (je_fld (at_hour_now Z) rfl (jr_of (je_var rfl (.inl rfl) rfl rfl)) rfl)) (jr_of cst_int)) (je_var rfl (.inl rfl) rfl rfl) rfl) (jss_cons (js_if (jt_cmp (o_eq rfl (huR hr)) (jr_of (je_ix (i_idx rfl) (jr_of (je_var rfl (.inl rfl) rfl rfl)) (jr_of cst_int) rfl)) (jr_of cst_str) rfl) (jss_one (js_ret (je_meth (ok_Work_call_house Z B) rfl hr (by decide) (takes_of (E := E) rfl rfl rfl rfl) (je_var rfl (.inl rfl) rfl rfl) (ja_cons rfl (je_dget (nl := lits) Z.lits (huR hr) (je_fld (at_houses_by_path Z) rfl (jr_of (je_var rfl (.inl rfl) rfl rfl)) rfl) (je_tup ja_nil) (fun _ _ => rfl)) ja_nil) rfl rfl))) jss_nil) (jss_one (js_ret (je_meth (ok_Work_take_answer Z B) rfl hr (by decide) (takes_of (E := E) rfl rfl rfl rfl) (je_var rfl (.inl rfl) rfl rfl) (ja_cons rfl (je_ix (i_idx rfl) (jr_of (je_var rfl (.inl rfl) rfl rfl)) (jr_of cst_int) rfl) (ja_cons rfl (je_if (jt_val (jr_of (je_ix (i_idx rfl) (jr_of (je_var rfl (.inl rfl) rfl rfl)) (jr_of cst_int) rfl)) rfl) cst_str cst_str) (ja_cons rfl (je_ix (i_idx rfl) (jr_of (je_var rfl (.inl rfl) rfl rfl)) (jr_of cst_int) rfl) ja_nil))) rfl rfl)))))
def N_worked : List Str := ["machines", "name", "args", "events", "work", "event"]
theorem nd_worked : N_worked.Nodup := by decide +kernel
theorem sc_worked : FnScope N_worked ["machines", "name", "args", "events"] (defScope (top 31)) := ⟨rfl, rfl, rfl, nd_worked, rfl, by decide +kernel, by decide +kernel⟩
def b_worked : DS := dSeq (dIfS (dTest (dOp pNe (dOp pIdx (dCall 2 f_machine_of (dCons (dVar 0) (dCons (dVar 1) (dNil)))) (dCst (.int 1))) (dPr pLen (dCons (dVar 2) (dNil))))) (dRaise 0) (dNop)) (dSeq (dSet 4 (qV (dMake 4 3 f_Work___init__ (dCons (dVar 0) (dCons (dCst (.int 0)) (dNil)))))) (dSeq (dDrop (dMeth 4 "begin_house" 4 f_Work_begin_house (dVar 4) (dCons (dTup (dNil)) (dCons (dVar 1) (dCons (dPr pTupR (dCons (dVar 2) (dNil))) (dNil)))))) (dSeq (dFor (dItems (dVar 3)) (gN 5) (dDrop (dMeth 4 "take_event" 2 f_Work_take_event (dVar 4) (dCons (dVar 5) (dNil))))) (dRet (dVar 4)))))
def f_worked : List D → M D := dFn 4 N_worked.length b_worked
theorem ok_worked (Z : Zf G mg fa fn nmt cls) (B : Tbs G mg base tfs) : Callee P G.w G mg base "worked" 31 4 ["machines", "name", "args", "events"] f_worked := by
  refine callee_ofA (k := 30) (N := N_worked) (d := b_worked) Z 41 88 (st := top 31) (by rfl) (by rfl) sc_worked (by rfl) (fun _ _ _ _ _ _ us hl => match us, hl with | [_, _, _, _], _ => by rfl) fun f cdv A outer s H E hr => ?_
  exact (jss_cons (js_if (jt_cmp (o_ne rfl (huR hr)) (jr_of (je_ix (i_idx rfl) (jr_of (je_cal (ok_machine_of Z B) rfl hr (by decide) rfl (takes_of (E := E) rfl rfl rfl rfl) (ja_cons rfl (je_var rfl (.inl rfl) rfl rfl) (ja_cons rfl (je_var rfl (.inl rfl) rfl rfl) ja_nil)) rfl)) (jr_of cst_int) rfl)) (jr_of (je_callB (c_len rfl) rfl (Z.free 1 rfl) boot_len (jb_cons rfl (jr_of (je_var rfl (.inl rfl) rfl rfl)) jb_nil) rfl)) rfl) (jss_one (js_raise rfl (takes_of (E := E) rfl rfl rfl rfl) (xc_of Z 50 51 rfl rfl rfl) rfl rfl)) jss_nil) (jss_cons (js_setV (ps_set nd_worked rfl (.inl rfl) (je_make (k := 1) (ok_Work___init__ Z B) rfl (hr.mono (by decide)) (Nat.le_refl _) rfl (takes_of (E := E) rfl rfl rfl rfl) (ja_cons rfl (je_var rfl (.inl rfl) rfl rfl) (ja_cons rfl cst_int ja_nil)) rfl) rfl)) (jss_cons (js_drop (je_meth (ok_Work_begin_house Z B) rfl hr (by decide) (takes_of (E := E) rfl rfl rfl rfl) (je_var rfl (.inl rfl) rfl rfl) (ja_cons rfl (je_tup ja_nil) (ja_cons rfl (je_var rfl (.inl rfl) rfl rfl) (ja_cons rfl (je_callT (c_tupR rfl) rfl (Z.free 16 rfl) PyProof.Rows.boot_tuple (jb_cons rfl (jr_of (je_var rfl (.inl rfl) rfl rfl)) jb_nil) rfl) ja_nil))) rfl rfl) rfl) (jss_cons (js_for (vs := [0, 1, 2, 3, 4, 5]) (passes_of rfl) rfl (ji_val rfl (je_var rfl (.inl rfl) rfl rfl)) (jg_name nd_worked rfl (.inl rfl) (.inl rfl) (by decide)) (jss_one (js_drop (je_meth (ok_Work_take_event Z B) rfl hr (by decide) (takes_of (E := E) rfl rfl rfl rfl) (je_var rfl (.inl rfl) rfl rfl) (ja_cons rfl (je_var rfl (.inl rfl) rfl rfl) ja_nil) rfl rfl) rfl)) (fun _ => rfl)) (jss_one (js_ret (je_var rfl (.inl rfl) rfl rfl)))))))
def N_begun : List Str := ["machines", "name", "args"]
theorem nd_begun : N_begun.Nodup := by decide +kernel
theorem sc_begun : FnScope N_begun ["machines", "name", "args"] (defScope (top 32)) := ⟨rfl, rfl, rfl, nd_begun, rfl, by decide +kernel, by decide +kernel⟩
def b_begun : DS := dRet (dCall 1 f_hall_of (dCons (dCall 4 f_worked (dCons (dVar 0) (dCons (dVar 1) (dCons (dVar 2) (dCons (dTup (dNil)) (dNil)))))) (dNil)))
def f_z_begun : List D → M D := dFn 3 N_begun.length b_begun
theorem ok_z_begun (Z : Zf G mg fa fn nmt cls) (B : Tbs G mg base tfs) : Callee P G.w G mg base "begun" 32 3 ["machines", "name", "args"] f_z_begun := by
  refine callee_ofA (k := 31) (N := N_begun) (d := b_begun) Z 42 89 (st := top 32) (by rfl) (by rfl) sc_begun (by rfl) (fun _ _ _ _ _ _ us hl => match us, hl with | [_, _, _], _ => by rfl) fun f cdv A outer s H E hr => ?_
  exact (jss_one (js_ret (je_cal (ok_hall_of Z B) rfl hr (by decide) rfl (takes_of (E := E) rfl rfl rfl rfl) (ja_cons rfl (je_cal (ok_worked Z B) rfl hr (by decide) rfl (takes_of (E := E) rfl rfl rfl rfl) (ja_cons rfl (je_var rfl (.inl rfl) rfl rfl) (ja_cons rfl (je_var rfl (.inl rfl) rfl rfl) (ja_cons rfl (je_var rfl (.inl rfl) rfl rfl) (ja_cons rfl (je_tup ja_nil) ja_nil)))) rfl) ja_nil) rfl)))
def f_begun : List D → M D := iso f_z_begun
theorem ok_begun (Z : Zf G mg fa fn nmt cls) (B : Tbs G mg base tfs) : Callee P G.w G mg base "begun" 32 3 ["machines", "name", "args"] f_begun := callee_iso (ok_z_begun Z B)
def N_is_number_to : List Str := ["value", "low", "high"]
theorem nd_is_number_to : N_is_number_to.Nodup := by decide +kernel
theorem sc_is_number_to : FnScope N_is_number_to ["value", "low", "high"] (defScope (top 51)) := ⟨rfl, rfl, rfl, nd_is_number_to, rfl, by decide +kernel, by decide +kernel⟩
def b_is_number_to : DS := dRet (dAndV (dPr pIsi (dCons (dVar 0) (dCons (dCst (.ty "int")) (dNil)))) (dAndV (dNotV (dPr pIsi (dCons (dVar 0) (dCons (dCst (.ty "bool")) (dNil))))) (dChain pLe pLe (dVar 1) (dVar 0) (dVar 2))))
def f_is_number_to : List D → M D := dFn 3 N_is_number_to.length b_is_number_to
theorem ok_is_number_to (Z : Zf G mg fa fn nmt cls) (B : Tbs G mg base tfs) : Callee P G.w G mg base "is_number_to" 1 3 ["value", "low", "high"] f_is_number_to := by
  refine callee_ofA (k := 0) (N := N_is_number_to) (d := b_is_number_to) Z 43 90 (st := top 51) (by rfl) (by rfl) sc_is_number_to (by rfl) (fun _ _ _ _ _ _ us hl => match us, hl with | [_, _, _], _ => by rfl) fun f cdv A outer s H E hr => ?_
  exact (jss_one (js_ret (je_and (je_callB (c_isi rfl) rfl (Z.free 8 rfl) PyProof.Rows.boot_isinstance (jb_cons rfl (jr_of (je_var rfl (.inl rfl) rfl rfl)) (jb_cons rfl (jr_of (je_ty rfl (Z.free 2 rfl) PyProof.Rows.boot_int (by decide) (by decide))) jb_nil)) rfl) (je_and (je_not (je_callB (c_isi rfl) rfl (Z.free 8 rfl) PyProof.Rows.boot_isinstance (jb_cons rfl (jr_of (je_var rfl (.inl rfl) rfl rfl)) (jb_cons rfl (jr_of (je_ty rfl (Z.free 9 rfl) PyProof.Rows.boot_bool (by decide) (by decide))) jb_nil)) rfl)) (pe_one (je_chain (o_le rfl (huR hr)) (o_le rfl (huR hr)) (jr_of (je_var rfl (.inl rfl) rfl rfl)) (jr_of (je_var rfl (.inl rfl) rfl rfl)) (jr_of (je_var rfl (.inl rfl) rfl rfl)) rfl))))))
def N_is_run_pair : List Str := ["value", "number"]
theorem nd_is_run_pair : N_is_run_pair.Nodup := by decide +kernel
theorem sc_is_run_pair : FnScope N_is_run_pair ["value"] (defScope (top 66)) := ⟨rfl, rfl, rfl, nd_is_run_pair, rfl, by decide +kernel, by decide +kernel⟩
def b_is_run_pair : DS := dSeq (dIfS (dOr (dNot (dTest (dPr pIsi (dCons (dVar 0) (dCons (dCst (.ty "tuple")) (dNil)))))) (dOr (dTest (dOp pNe (dPr pLen (dCons (dVar 0) (dNil))) (dCst (.int 2)))) (dNot (dTest (dPr pIsi (dCons (dOp pIdx (dVar 0) (dCst (.int 0))) (dCons (dCst (.ty "str")) (dNil)))))))) (dRet (dCst (.bl false))) (dNop)) (dRet (dAndV (dPr pIsi (dCons (dOp pIdx (dVar 0) (dCst (.int 1))) (dCons (dCst (.ty "tuple")) (dNil)))) (dPr pAll (dCons (dLst (dLc (dItems (dOp pIdx (dVar 0) (dCst (.int 1)))) (gN 1) (dYes) (dCall 3 f_is_number_to (dCons (dVar 1) (dCons (dCst (.int 0)) (dCons (dCst (.int (1000000006))) (dNil))))) [1])) (dNil)))))
def f_is_run_pair : List D → M D := dFn 1 N_is_run_pair.length b_is_run_pair
theorem ok_is_run_pair (Z : Zf G mg fa fn nmt cls) (B : Tbs G mg base tfs) : Callee P G.w G mg base "is_run_pair" 2 1 ["value"] f_is_run_pair := by
  refine callee_ofA (k := 1) (N := N_is_run_pair) (d := b_is_run_pair) Z 44 91 (st := top 66) (by rfl) (by rfl) sc_is_run_pair (by rfl) (fun _ _ _ _ _ _ us hl => match us, hl with | [_], _ => by rfl) fun f cdv A outer s H E hr => ?_
  exact (jss_cons (js_if (PW.pt (jw_or (jt_not (jt_val (jr_of (je_callB (c_isi rfl) rfl (Z.free 8 rfl) PyProof.Rows.boot_isinstance (jb_cons rfl (jr_of (je_var rfl (.inl rfl) rfl rfl)) (jb_cons rfl (jr_of (je_ty rfl (Z.free 16 rfl) PyProof.Rows.boot_tuple (by decide) (by decide))) jb_nil)) rfl)) rfl)) (jw_or (jt_cmp (o_ne rfl (huR hr)) (jr_of (je_callB (c_len rfl) rfl (Z.free 1 rfl) boot_len (jb_cons rfl (jr_of (je_var rfl (.inl rfl) rfl rfl)) jb_nil) rfl)) (jr_of cst_int) rfl) (jw1_or (jt_not (jt_val (jr_of (je_callB (c_isi rfl) rfl (Z.free 8 rfl) PyProof.Rows.boot_isinstance (jb_cons rfl (jr_of (je_ix (i_idx rfl) (jr_of (je_var rfl (.inl rfl) rfl rfl)) (jr_of cst_int) rfl)) (jb_cons rfl (jr_of (je_ty rfl (Z.free 12 rfl) PyProof.Rows.boot_str (by decide) (by decide))) jb_nil)) rfl)) rfl)))))) (jss_one (js_ret cst_bl)) jss_nil) (jss_one (js_ret (je_and (je_callB (c_isi rfl) rfl (Z.free 8 rfl) PyProof.Rows.boot_isinstance (jb_cons rfl (jr_of (je_ix (i_idx rfl) (jr_of (je_var rfl (.inl rfl) rfl rfl)) (jr_of cst_int) rfl)) (jb_cons rfl (jr_of (je_ty rfl (Z.free 16 rfl) PyProof.Rows.boot_tuple (by decide) (by decide))) jb_nil)) rfl) (pe_one (je_callB (c_all rfl rfl) rfl (Z.free 14 rfl) PyProof.Rows.boot_all (jb_cons rfl (jr_of (je_lst (je_lc (own := [("number", 1)]) rfl nd_is_run_pair (ji_valW rfl (jr_of (je_ix (i_idx rfl) (jr_of (je_var rfl (.inl rfl) rfl rfl)) (jr_of cst_int) rfl))) (blkOk_by rfl) (fun _ _ _ _ _ => (jg_name nd_is_run_pair rfl (.inl rfl) (.inr rfl) (by decide))) (fun _ _ _ _ _ => jts_nil) (fun _ _ _ _ _ => (je_cal (ok_is_number_to Z B) rfl hr (by decide) rfl takes0 (ja_cons rfl (je_var rfl (.inl rfl) rfl rfl) (ja_cons rfl cst_int (ja_cons rfl (je_gint rfl (Z.int 10 rfl)) ja_nil))) rfl)) (fun _ => rfl)))) jb_nil) rfl))))))
def N_need_runs : List Str := ["machines", "runs", "world", "name", "args", "run"]
theorem nd_need_runs : N_need_runs.Nodup := by decide +kernel
theorem sc_need_runs : FnScope N_need_runs ["machines", "runs", "world"] (defScope (top 67)) := ⟨rfl, rfl, rfl, nd_need_runs, rfl, by decide +kernel, by decide +kernel⟩
def b_need_runs : DS := dSeq (dIfS (dOr (dNot (dTest (dPr pIsi (dCons (dVar 1) (dCons (dCst (.ty "tuple")) (dNil)))))) (dOr (dNot (dTest (dChain pLe pLe (dCst (.int 1)) (dPr pLen (dCons (dVar 1) (dNil))) (dCst (.int (6)))))) (dNot (dTest (dPr pAll (dCons (dLst (dLc (dItems (dVar 1)) (gN 5) (dYes) (dCall 1 f_is_run_pair (dCons (dVar 5) (dNil))) [5])) (dNil))))))) (dRaise 1) (dNop)) (dSeq (dFor (dItems (dVar 1)) (gT 2 (gsC (gN 3) (gsC (gN 4) (gs0)))) (dDrop (dCall 3 f_begun (dCons (dVar 0) (dCons (dVar 3) (dCons (dVar 4) (dNil))))))) (dDrop (dCall 1 f_need_world (dCons (dVar 2) (dNil)))))
def f_need_runs : List D → M D := dFn 3 N_need_runs.length b_need_runs
theorem ok_need_runs (Z : Zf G mg fa fn nmt cls) (B : Tbs G mg base tfs) : Callee P G.w G mg base "need_runs" 33 3 ["machines", "runs", "world"] f_need_runs := by
  refine callee_ofA (k := 32) (N := N_need_runs) (d := b_need_runs) Z 45 93 (st := top 67) (by rfl) (by rfl) sc_need_runs (by rfl) (fun _ _ _ _ _ _ us hl => match us, hl with | [_, _, _], _ => by rfl) fun f cdv A outer s H E hr => ?_
  exact (jss_cons (js_if (PW.pt (jw_or (jt_not (jt_val (jr_of (je_callB (c_isi rfl) rfl (Z.free 8 rfl) PyProof.Rows.boot_isinstance (jb_cons rfl (jr_of (je_var rfl (.inl rfl) rfl rfl)) (jb_cons rfl (jr_of (je_ty rfl (Z.free 16 rfl) PyProof.Rows.boot_tuple (by decide) (by decide))) jb_nil)) rfl)) rfl)) (jw_or (jt_not (jt_chain (o_le rfl (huR hr)) (o_le rfl (huR hr)) (jr_of cst_int) (jr_of (je_callB (c_len rfl) rfl (Z.free 1 rfl) boot_len (jb_cons rfl (jr_of (je_var rfl (.inl rfl) rfl rfl)) jb_nil) rfl)) (jr_of (je_gint rfl (Z.int 92 rfl))) rfl)) (jw1_or (jt_not (jt_val (jr_of (je_callB (c_all rfl rfl) rfl (Z.free 14 rfl) PyProof.Rows.boot_all (jb_cons rfl (jr_of (je_lst (je_lc (own := [("run", 5)]) rfl nd_need_runs (ji_valW rfl (jr_of (je_var rfl (.inl rfl) rfl rfl))) (blkOk_by rfl) (fun _ _ _ _ _ => (jg_name nd_need_runs rfl (.inl rfl) (.inr rfl) (by decide))) (fun _ _ _ _ _ => jts_nil) (fun _ _ _ _ _ => (je_cal (ok_is_run_pair Z B) rfl hr (by decide) rfl takes0 (ja_cons rfl (je_var rfl (.inl rfl) rfl rfl) ja_nil) rfl)) (fun _ => rfl)))) jb_nil) rfl)) rfl)))))) (jss_one (js_raise rfl (takes_of (E := E) rfl rfl rfl rfl) (xc_of Z 21 22 rfl rfl rfl) rfl rfl)) jss_nil) (jss_cons (js_for (vs := [0, 1, 2, 3, 4, 5]) (passes_of rfl) rfl (ji_val rfl (je_var rfl (.inl rfl) rfl rfl)) (jg_tup rfl rfl (jgs_cons (jg_name nd_need_runs rfl (.inl rfl) (.inl rfl) (by decide)) (jgs_cons (jg_name nd_need_runs rfl (.inl rfl) (.inl rfl) (by decide)) jgs_nil))) (jss_one (js_drop (je_cal (ok_begun Z B) rfl hr (by decide) rfl (takes_of (E := E) rfl rfl rfl rfl) (ja_cons rfl (je_var rfl (.inl rfl) rfl rfl) (ja_cons rfl (je_var rfl (.inl rfl) rfl rfl) (ja_cons rfl (je_var rfl (.inl rfl) rfl rfl) ja_nil))) rfl) rfl)) (fun _ => rfl)) (jss_one (js_drop (je_cal (ok_need_world Z B) rfl hr (by decide) rfl (takes_of (E := E) rfl rfl rfl rfl) (ja_cons rfl (je_var rfl (.inl rfl) rfl rfl) ja_nil) rfl) rfl))))
def N_need_hands : List Str := ["hands"]
theorem nd_need_hands : N_need_hands.Nodup := by decide +kernel
theorem sc_need_hands : FnScope N_need_hands ["hands"] (defScope (top 68)) := ⟨rfl, rfl, rfl, nd_need_hands, rfl, by decide +kernel, by decide +kernel⟩
def b_need_hands : DS := dIfS (dNot (dTest (dCall 3 f_is_number_to (dCons (dVar 0) (dCons (dCst (.int 1)) (dCons (dCst (.int (3))) (dNil))))))) (dRaise 2) (dNop)
def f_need_hands : List D → M D := dFn 1 N_need_hands.length b_need_hands
theorem ok_need_hands (Z : Zf G mg fa fn nmt cls) (B : Tbs G mg base tfs) : Callee P G.w G mg base "need_hands" 2 1 ["hands"] f_need_hands := by
  refine callee_ofA (k := 1) (N := N_need_hands) (d := b_need_hands) Z 46 97 (st := top 68) (by rfl) (by rfl) sc_need_hands (by rfl) (fun _ _ _ _ _ _ us hl => match us, hl with | [_], _ => by rfl) fun f cdv A outer s H E hr => ?_
  exact (jss_one (js_if (jt_not (jt_val (jr_of (je_cal (ok_is_number_to Z B) rfl hr (by decide) rfl (takes_of (E := E) rfl rfl rfl rfl) (ja_cons rfl (je_var rfl (.inl rfl) rfl rfl) (ja_cons rfl cst_int (ja_cons rfl (je_gint rfl (Z.int 94 rfl)) ja_nil))) rfl)) rfl)) (jss_one (js_raise rfl (takes_of (E := E) rfl rfl rfl rfl) (xc_of Z 95 96 rfl rfl rfl) rfl rfl)) jss_nil))
def N_need_way : List Str := ["way"]
theorem nd_need_way : N_need_way.Nodup := by decide +kernel
theorem sc_need_way : FnScope N_need_way ["way"] (defScope (top 69)) := ⟨rfl, rfl, rfl, nd_need_way, rfl, by decide +kernel, by decide +kernel⟩
def b_need_way : DS := dIfS (dOr (dNot (dTest (dPr pIsi (dCons (dVar 0) (dCons (dCst (.ty "str")) (dNil)))))) (dTest (dOp pNotIn (dVar 0) (dTup (dCons (dCst (.str "rounds")) (dCons (dCst (.str "age")) (dNil))))))) (dRaise 1) (dNop)
def f_need_way : List D → M D := dFn 1 N_need_way.length b_need_way
theorem ok_need_way (Z : Zf G mg fa fn nmt cls) (B : Tbs G mg base tfs) : Callee P G.w G mg base "need_way" 1 1 ["way"] f_need_way := by
  refine callee_ofA (k := 0) (N := N_need_way) (d := b_need_way) Z 47 100 (st := top 69) (by rfl) (by rfl) sc_need_way (by rfl) (fun _ _ _ _ _ _ us hl => match us, hl with | [_], _ => by rfl) fun f cdv A outer s H E hr => ?_
  exact (jss_one (js_if (PW.pt (jw_or (jt_not (jt_val (jr_of (je_callB (c_isi rfl) rfl (Z.free 8 rfl) PyProof.Rows.boot_isinstance (jb_cons rfl (jr_of (je_var rfl (.inl rfl) rfl rfl)) (jb_cons rfl (jr_of (je_ty rfl (Z.free 12 rfl) PyProof.Rows.boot_str (by decide) (by decide))) jb_nil)) rfl)) rfl)) (jw1_or (jt_cmp (o_notIn rfl (huR hr)) (jr_of (je_var rfl (.inl rfl) rfl rfl)) (jr_of (je_tup (ja_cons rfl (je_gstr rfl (Z.str 99 rfl)) (ja_cons rfl (je_gstr rfl (Z.str 98 rfl)) ja_nil)))) rfl)))) (jss_one (js_raise rfl (takes_of (E := E) rfl rfl rfl rfl) (xc_of Z 21 22 rfl rfl rfl) rfl rfl)) jss_nil))
def N_need_all : List Str := ["machines", "runs", "world", "hands", "turns", "way"]
theorem nd_need_all : N_need_all.Nodup := by decide +kernel
theorem sc_need_all : FnScope N_need_all ["machines", "runs", "world", "hands", "turns", "way"] (defScope (top 70)) := ⟨rfl, rfl, rfl, nd_need_all, rfl, by decide +kernel, by decide +kernel⟩
def b_need_all : DS := dSeq (dDrop (dCall 3 f_need_runs (dCons (dVar 0) (dCons (dVar 1) (dCons (dVar 2) (dNil)))))) (dSeq (dDrop (dCall 1 f_need_hands (dCons (dVar 3) (dNil)))) (dSeq (dIfS (dNot (dTest (dCall 3 f_is_number_to (dCons (dVar 4) (dCons (dCst (.int 0)) (dCons (dCst (.int (60))) (dNil))))))) (dRaise 2) (dNop)) (dDrop (dCall 1 f_need_way (dCons (dVar 5) (dNil))))))
def f_need_all : List D → M D := dFn 6 N_need_all.length b_need_all
theorem ok_need_all (Z : Zf G mg fa fn nmt cls) (B : Tbs G mg base tfs) : Callee P G.w G mg base "need_all" 34 6 ["machines", "runs", "world", "hands", "turns", "way"] f_need_all := by
  refine callee_ofA (k := 33) (N := N_need_all) (d := b_need_all) Z 48 102 (st := top 70) (by rfl) (by rfl) sc_need_all (by rfl) (fun _ _ _ _ _ _ us hl => match us, hl with | [_, _, _, _, _, _], _ => by rfl) fun f cdv A outer s H E hr => ?_
  exact (jss_cons (js_drop (je_cal (ok_need_runs Z B) rfl hr (by decide) rfl (takes_of (E := E) rfl rfl rfl rfl) (ja_cons rfl (je_var rfl (.inl rfl) rfl rfl) (ja_cons rfl (je_var rfl (.inl rfl) rfl rfl) (ja_cons rfl (je_var rfl (.inl rfl) rfl rfl) ja_nil))) rfl) rfl) (jss_cons (js_drop (je_cal (ok_need_hands Z B) rfl hr (by decide) rfl (takes_of (E := E) rfl rfl rfl rfl) (ja_cons rfl (je_var rfl (.inl rfl) rfl rfl) ja_nil) rfl) rfl) (jss_cons (js_if (jt_not (jt_val (jr_of (je_cal (ok_is_number_to Z B) rfl hr (by decide) rfl (takes_of (E := E) rfl rfl rfl rfl) (ja_cons rfl (je_var rfl (.inl rfl) rfl rfl) (ja_cons rfl cst_int (ja_cons rfl (je_gint rfl (Z.int 101 rfl)) ja_nil))) rfl)) rfl)) (jss_one (js_raise rfl (takes_of (E := E) rfl rfl rfl rfl) (xc_of Z 95 96 rfl rfl rfl) rfl rfl)) jss_nil) (jss_one (js_drop (je_cal (ok_need_way Z B) rfl hr (by decide) rfl (takes_of (E := E) rfl rfl rfl rfl) (ja_cons rfl (je_var rfl (.inl rfl) rfl rfl) ja_nil) rfl) rfl)))))
def N_answers_in : List Str := ["world", "found", "who", "number", "good", "answer"]
theorem nd_answers_in : N_answers_in.Nodup := by decide +kernel
theorem sc_answers_in : FnScope N_answers_in ["world"] (defScope (top 37)) := ⟨rfl, rfl, rfl, nd_answers_in, rfl, by decide +kernel, by decide +kernel⟩
def b_answers_in : DS := dSeq (dSet 1 (qV (dNewO (.dT [])))) (dSeq (dFor (dItems (dVar 0)) (gT 4 (gsC (gN 2) (gsC (gN 3) (gsC (gN 4) (gsC (gN 5) (gs0)))))) (dPut lits (dTup (dCons (dVar 4) (dCons (dVar 5) (dNil)))) (dVar 1) (dTup (dCons (dVar 2) (dCons (dVar 3) (dNil)))))) (dRet (dVar 1)))
def f_answers_in : List D → M D := dFn 1 N_answers_in.length b_answers_in
theorem ok_answers_in (Z : Zf G mg fa fn nmt cls) (B : Tbs G mg base tfs) : Callee P G.w G mg base "answers_in" 1 1 ["world"] f_answers_in := by
  refine callee_ofA (k := 0) (N := N_answers_in) (d := b_answers_in) Z 49 103 (st := top 37) (by rfl) (by rfl) sc_answers_in (by rfl) (fun _ _ _ _ _ _ us hl => match us, hl with | [_], _ => by rfl) fun f cdv A outer s H E hr => ?_
  exact (jss_cons (js_setV (ps_set nd_answers_in rfl (.inl rfl) je_dT rfl)) (jss_cons (js_for (vs := [0, 1, 2, 3, 4, 5]) (passes_of rfl) rfl (ji_val rfl (je_var rfl (.inl rfl) rfl rfl)) (jg_tup rfl rfl (jgs_cons (jg_name nd_answers_in rfl (.inl rfl) (.inl rfl) (by decide)) (jgs_cons (jg_name nd_answers_in rfl (.inl rfl) (.inl rfl) (by decide)) (jgs_cons (jg_name nd_answers_in rfl (.inl rfl) (.inl rfl) (by decide)) (jgs_cons (jg_name nd_answers_in rfl (.inl rfl) (.inl rfl) (by decide)) jgs_nil))))) (jss_one (js_dput (nl := lits) Z.lits (huR hr) (je_tup (ja_cons rfl (je_var rfl (.inl rfl) rfl rfl) (ja_cons rfl (je_var rfl (.inl rfl) rfl rfl) ja_nil))) (je_var rfl (.inl rfl) rfl rfl) (je_tup (ja_cons rfl (je_var rfl (.inl rfl) rfl rfl) (ja_cons rfl (je_var rfl (.inl rfl) rfl rfl) ja_nil))) rfl)) (fun _ => rfl)) (jss_one (js_ret (je_var rfl (.inl rfl) rfl rfl)))))
def N_result : List Str := ["hall", "end"]
theorem nd_result : N_result.Nodup := by decide +kernel
theorem sc_result : FnScope N_result ["hall"] (defScope (top 35)) := ⟨rfl, rfl, rfl, nd_result, rfl, by decide +kernel, by decide +kernel⟩
def b_result : DS := dSeq (dSet 1 (qV (dOp pIdx (dOp pIdx (dOp pIdx (dVar 0) (dCst (.int 1))) (dCst (.int 0))) (dCst (.int 3))))) (dSeq (dIfS (dTest (dOp pEq (dVar 1) (dTup (dNil)))) (dRet (dCst .non)) (dNop)) (dRet (dSl (dVar 1) (dNo) (dSo (dCst (.int 2))))))
def f_z_result : List D → M D := dFn 1 N_result.length b_result
theorem ok_z_result (Z : Zf G mg fa fn nmt cls) (B : Tbs G mg base tfs) : Callee P G.w G mg base "result" 1 1 ["hall"] f_z_result := by
  refine callee_ofA (k := 0) (N := N_result) (d := b_result) Z 50 104 (st := top 35) (by rfl) (by rfl) sc_result (by rfl) (fun _ _ _ _ _ _ us hl => match us, hl with | [_], _ => by rfl) fun f cdv A outer s H E hr => ?_
  exact (jss_cons (js_setV (ps_set nd_result rfl (.inl rfl) (je_ix (i_idx rfl) (jr_of (je_ix (i_idx rfl) (jr_of (je_ix (i_idx rfl) (jr_of (je_var rfl (.inl rfl) rfl rfl)) (jr_of cst_int) rfl)) (jr_of cst_int) rfl)) (jr_of cst_int) rfl) rfl)) (jss_cons (js_if (jt_cmp (o_eq rfl (huR hr)) (jr_of (je_var rfl (.inl rfl) rfl rfl)) (jr_of (je_tup ja_nil)) rfl) (jss_one (js_ret cst_non)) jss_nil) (jss_one (js_ret (je_sl rfl (jr_of (je_var rfl (.inl rfl) rfl rfl)) jo_none (jo_some cst_int))))))
def f_result : List D → M D := iso f_z_result
theorem ok_result (Z : Zf G mg fa fn nmt cls) (B : Tbs G mg base tfs) : Callee P G.w G mg base "result" 1 1 ["hall"] f_result := callee_iso (ok_z_result Z B)
def N_Served_note_end : List Str := ["self", "hall"]
theorem nd_Served_note_end : N_Served_note_end.Nodup := by decide +kernel
theorem sc_Served_note_end : FnScope N_Served_note_end ["self"] (defScope (mth 64 2)) := ⟨rfl, rfl, rfl, nd_Served_note_end, rfl, by decide +kernel, by decide +kernel⟩
def b_Served_note_end : DS := dIfS (dAnd (dTest (dOp pIs (dFld [5] "all_ended_at" (dVar 0)) (dCst .non))) (dTest (dPr pAll (dCons (dLst (dLcX (dFld [5] "own_halls" (dVar 0)) (gN 1) (dYes) (dOp pIsNot (dCall 1 f_result (dCons (dVar 1) (dNil))) (dCst .non)) [1])) (dNil))))) (dSetF [5] "all_ended_at" (dFld [5] "turn_now" (dVar 0)) (dVar 0)) (dNop)
def f_Served_note_end : List D → M D := dFn 1 N_Served_note_end.length b_Served_note_end
theorem ok_Served_note_end (Z : Zf G mg fa fn nmt cls) (B : Tbs G mg base tfs) : MCal P G.w G mg base 5 "note_end" 2 1 ["self"] f_Served_note_end := by
  refine mcal_of (k := 1) (N := N_Served_note_end) (d := b_Served_note_end) Z 51 109 105 (st := mth 64 2) (by rfl) (by rfl) (by rfl) (by rfl) sc_Served_note_end (by rfl) (fun _ _ _ _ _ _ us hl => match us, hl with | [_], _ => by rfl) fun f cdv A outer s H E hr => ?_
  exact (jss_one (js_if (PW.pt (jw_and (jt_cmp (o_is) (jr_of (je_fld (at_all_ended_at Z) rfl (jr_of (je_var rfl (.inl rfl) rfl rfl)) rfl)) (jr_of cst_non) rfl) (jw1_and (jt_val (jr_of (je_callB (c_all rfl rfl) rfl (Z.free 14 rfl) PyProof.Rows.boot_all (jb_cons rfl (jr_of (je_lst (je_lcX (own := [("hall", 1)]) rfl nd_Served_note_end (ji_X rfl (je_fld (at_own_halls Z) rfl (jr_of (je_var rfl (.inl rfl) rfl rfl)) rfl)) (blkOk_by rfl) (fun _ _ _ _ _ => (jg_name nd_Served_note_end rfl (.inl rfl) (.inr rfl) (by decide))) (fun _ _ _ _ _ => jts_nil) (fun _ _ _ _ _ => (je_cmp (o_isNot) (jr_of (je_cal (ok_result Z B) rfl hr (by decide) rfl takes0 (ja_cons rfl (je_var rfl (.inl rfl) rfl rfl) ja_nil) rfl)) (jr_of cst_non) rfl)) (fun _ => rfl)))) jb_nil) rfl)) rfl)))) (jss_one (js_fld (st_pos := ⟨0, 0, 0, 0⟩) (at_all_ended_at Z) rfl (je_fld (at_turn_now Z) rfl (jr_of (je_var rfl (.inl rfl) rfl rfl)) rfl) (je_var rfl (.inl rfl) rfl rfl) rfl)) jss_nil))
def N_waiting : List Str := ["hall", "path", "who", "number", "sent", "end"]
theorem nd_waiting : N_waiting.Nodup := by decide +kernel
theorem sc_waiting : FnScope N_waiting ["hall"] (defScope (top 34)) := ⟨rfl, rfl, rfl, nd_waiting, rfl, by decide +kernel, by decide +kernel⟩
def b_waiting : DS := dRet (dPr pTupR (dCons (dLst (dLc (dItems (dOp pIdx (dVar 0) (dCst (.int 2)))) (gT 5 (gsC (gN 1) (gsC (gN 2) (gsC (gN 3) (gsC (gN 4) (gsC (gN 5) (gs0))))))) (dTest (dOp pEq (dVar 5) (dTup (dNil)))) (dTup (dCons (dVar 1) (dCons (dVar 2) (dCons (dVar 3) (dNil))))) [1, 2, 3, 4, 5])) (dNil)))
def f_z_waiting : List D → M D := dFn 1 N_waiting.length b_waiting
theorem ok_z_waiting (Z : Zf G mg fa fn nmt cls) (B : Tbs G mg base tfs) : Callee P G.w G mg base "waiting" 1 1 ["hall"] f_z_waiting := by
  refine callee_ofA (k := 0) (N := N_waiting) (d := b_waiting) Z 52 110 (st := top 34) (by rfl) (by rfl) sc_waiting (by rfl) (fun _ _ _ _ _ _ us hl => match us, hl with | [_], _ => by rfl) fun f cdv A outer s H E hr => ?_
  exact (jss_one (js_ret (je_callT (c_tupR rfl) rfl (Z.free 16 rfl) PyProof.Rows.boot_tuple (jb_cons rfl (jr_of (je_lst (je_lc (own := [("path", 1), ("who", 2), ("number", 3), ("sent", 4), ("end", 5)]) rfl nd_waiting (ji_valW rfl (jr_of (je_ix (i_idx rfl) (jr_of (je_var rfl (.inl rfl) rfl rfl)) (jr_of cst_int) rfl))) (blkOk_by rfl) (fun _ _ _ _ _ => (jg_tup rfl rfl (jgs_cons (jg_name nd_waiting rfl (.inl rfl) (.inr rfl) (by decide)) (jgs_cons (jg_name nd_waiting rfl (.inl rfl) (.inr rfl) (by decide)) (jgs_cons (jg_name nd_waiting rfl (.inl rfl) (.inr rfl) (by decide)) (jgs_cons (jg_name nd_waiting rfl (.inl rfl) (.inr rfl) (by decide)) (jgs_cons (jg_name nd_waiting rfl (.inl rfl) (.inr rfl) (by decide)) jgs_nil))))))) (fun _ _ _ _ _ => (jts_one (jt_cmp (o_eq rfl (huR hr)) (jr_of (je_var rfl (.inl rfl) rfl rfl)) (jr_of (je_tup ja_nil)) rfl))) (fun _ _ _ _ _ => (je_tup (ja_cons rfl (je_var rfl (.inl rfl) rfl rfl) (ja_cons rfl (je_var rfl (.inl rfl) rfl rfl) (ja_cons rfl (je_var rfl (.inl rfl) rfl rfl) ja_nil))))) (fun _ => rfl)))) jb_nil) rfl)))
def f_waiting : List D → M D := iso f_z_waiting
theorem ok_waiting (Z : Zf G mg fa fn nmt cls) (B : Tbs G mg base tfs) : Callee P G.w G mg base "waiting" 1 1 ["hall"] f_waiting := callee_iso (ok_z_waiting Z B)
def N_Served_note_asks : List Str := ["self", "run", "path", "who", "number"]
theorem nd_Served_note_asks : N_Served_note_asks.Nodup := by decide +kernel
theorem sc_Served_note_asks : FnScope N_Served_note_asks ["self", "run"] (defScope (mth 64 1)) := ⟨rfl, rfl, rfl, nd_Served_note_asks, rfl, by decide +kernel, by decide +kernel⟩
def b_Served_note_asks : DS := dFor (dItems (dCall 1 f_waiting (dCons (dOp pIdx (dFld [5] "own_halls" (dVar 0)) (dVar 1)) (dNil)))) (gT 3 (gsC (gN 2) (gsC (gN 3) (gsC (gN 4) (gs0))))) (dIfS (dTest (dOp pNotInN (dTup (dCons (dVar 1) (dCons (dVar 2) (dNil)))) (dFld [5] "came_at" (dVar 0)))) (dPutN (dFld [5] "turn_now" (dVar 0)) (dFld [5] "came_at" (dVar 0)) (dTup (dCons (dVar 1) (dCons (dVar 2) (dNil))))) (dNop))
def f_Served_note_asks : List D → M D := dFn 2 N_Served_note_asks.length b_Served_note_asks
theorem ok_Served_note_asks (Z : Zf G mg fa fn nmt cls) (B : Tbs G mg base tfs) : MCal P G.w G mg base 5 "note_asks" 2 2 ["self", "run"] f_Served_note_asks := by
  refine mcal_of (k := 1) (N := N_Served_note_asks) (d := b_Served_note_asks) Z 53 112 105 (st := mth 64 1) (by rfl) (by rfl) (by rfl) (by rfl) sc_Served_note_asks (by rfl) (fun _ _ _ _ _ _ us hl => match us, hl with | [_, _], _ => by rfl) fun f cdv A outer s H E hr => ?_
  exact (jss_one (js_for (vs := [0, 1, 2, 3, 4]) (passes_of rfl) rfl (ji_val rfl (je_cal (ok_waiting Z B) rfl hr (by decide) rfl (takes_of (E := E) rfl rfl rfl rfl) (ja_cons rfl (je_ix (i_idx rfl) (jr_of (je_fld (at_own_halls Z) rfl (jr_of (je_var rfl (.inl rfl) rfl rfl)) rfl)) (jr_of (je_var rfl (.inl rfl) rfl rfl)) rfl) ja_nil) rfl)) (jg_tup rfl rfl (jgs_cons (jg_name nd_Served_note_asks rfl (.inl rfl) (.inl rfl) (by decide)) (jgs_cons (jg_name nd_Served_note_asks rfl (.inl rfl) (.inl rfl) (by decide)) (jgs_cons (jg_name nd_Served_note_asks rfl (.inl rfl) (.inl rfl) (by decide)) jgs_nil)))) (jss_one (js_if (jt_nnin rfl rfl (huR hr) (je_tup (ja_cons rfl (je_var rfl (.inl rfl) rfl rfl) (ja_cons rfl (je_var rfl (.inl rfl) rfl rfl) ja_nil))) (je_fld (at_came_at Z) rfl (jr_of (je_var rfl (.inl rfl) rfl rfl)) rfl) rfl) (jss_one (js_nput rfl rfl (huR hr) (je_fld (at_turn_now Z) rfl (jr_of (je_var rfl (.inl rfl) rfl rfl)) rfl) (je_fld (at_came_at Z) rfl (jr_of (je_var rfl (.inl rfl) rfl rfl)) rfl) (je_tup (ja_cons rfl (je_var rfl (.inl rfl) rfl rfl) (ja_cons rfl (je_var rfl (.inl rfl) rfl rfl) ja_nil))) rfl)) jss_nil)) (fun _ => rfl)))
def N_Served___init__ : List Str := ["self", "machines", "runs", "world", "run", "name", "args"]
theorem nd_Served___init__ : N_Served___init__.Nodup := by decide +kernel
theorem sc_Served___init__ : FnScope N_Served___init__ ["self", "machines", "runs", "world"] (defScope (mth 64 0)) := ⟨rfl, rfl, rfl, nd_Served___init__, rfl, by decide +kernel, by decide +kernel⟩
def b_Served___init__ : DS := dSeq (dSetF [5] "own_machines" (dVar 1) (dVar 0)) (dSeq (dSetF [5] "own_answers" (dCall 1 f_answers_in (dCons (dVar 3) (dNil))) (dVar 0)) (dSeq (dSetF [5] "own_halls" (dNew (dLc (dItems (dVar 2)) (gT 2 (gsC (gN 5) (gsC (gN 6) (gs0)))) (dYes) (dCall 3 f_begun (dCons (dVar 1) (dCons (dVar 5) (dCons (dVar 6) (dNil))))) [5, 6])) (dVar 0)) (dSeq (dSetF [5] "came_at" (dNewO (.dN [])) (dVar 0)) (dSeq (dSetF [5] "last_run" (dOp pSub (dPr pLen (dCons (dVar 2) (dNil))) (dCst (.int 1))) (dVar 0)) (dSeq (dSetF [5] "turn_now" (dCst (.int 0)) (dVar 0)) (dSeq (dSetF [5] "served_rows" (dNew (dDisp (dNil))) (dVar 0)) (dSeq (dSetF [5] "own_events" (dNew (dLc (dItems (dVar 2)) (gN 4) (dYes) (dTup (dNil)) [4])) (dVar 0)) (dSeq (dSetF [5] "all_ended_at" (dCst .non) (dVar 0)) (dSeq (dFor (dRg rg1 (dCons (dPr pLen (dCons (dVar 2) (dNil))) (dNil))) (gN 4) (dDrop (dMeth 5 "note_asks" 2 f_Served_note_asks (dVar 0) (dCons (dVar 4) (dNil))))) (dDrop (dMeth 5 "note_end" 1 f_Served_note_end (dVar 0) dNil)))))))))))
def f_Served___init__ : List D → M D := dFn 4 N_Served___init__.length b_Served___init__
theorem ok_Served___init__ (Z : Zf G mg fa fn nmt cls) (B : Tbs G mg base tfs) : KCal P G.w G mg base 5 "Served" 33 4 ["self", "machines", "runs", "world"] f_Served___init__ := by
  refine kcal_of (k := 32) (N := N_Served___init__) (d := b_Served___init__) Z 54 118 119 (st := mth 64 0) (by rfl) (by rfl) (by rfl) (by rfl) sc_Served___init__ (by rfl) (fun _ _ _ _ _ _ us hl => match us, hl with | [_, _, _, _], _ => by rfl) fun f cdv A outer s H E hr => ?_
  exact (jss_cons (js_fld (st_pos := ⟨0, 0, 0, 0⟩) (at_own_machines Z) rfl (je_var rfl (.inr (.inl rfl)) rfl rfl) (je_var rfl (.inl rfl) rfl rfl) rfl) (jss_cons (js_fld (st_pos := ⟨0, 0, 0, 0⟩) (at_own_answers Z) rfl (je_cal (ok_answers_in Z B) rfl hr (by decide) rfl (takes_of (E := E) rfl rfl rfl rfl) (ja_cons rfl (je_var rfl (.inl rfl) rfl rfl) ja_nil) rfl) (je_var rfl (.inl rfl) rfl rfl) rfl) (jss_cons (js_fld (st_pos := ⟨0, 0, 0, 0⟩) (at_own_halls Z) rfl (je_new (je_lc (own := [("name", 5), ("args", 6)]) rfl nd_Served___init__ (ji_valW rfl (jr_of (je_var rfl (.inl rfl) rfl rfl))) (blkOk_by rfl) (fun _ _ _ _ _ => (jg_tup rfl rfl (jgs_cons (jg_name nd_Served___init__ rfl (.inl rfl) (.inr rfl) (by decide)) (jgs_cons (jg_name nd_Served___init__ rfl (.inl rfl) (.inr rfl) (by decide)) jgs_nil)))) (fun _ _ _ _ _ => jts_nil) (fun _ _ _ _ _ => (je_cal (ok_begun Z B) rfl hr (by decide) rfl takes0 (ja_cons rfl (je_var rfl (.inr (.inl rfl)) rfl rfl) (ja_cons rfl (je_var rfl (.inl rfl) rfl rfl) (ja_cons rfl (je_var rfl (.inl rfl) rfl rfl) ja_nil))) rfl)) (fun _ => rfl))) (je_var rfl (.inl rfl) rfl rfl) rfl) (jss_cons (js_fld (st_pos := ⟨0, 0, 0, 0⟩) (at_came_at Z) rfl (je_dN rfl) (je_var rfl (.inl rfl) rfl rfl) rfl) (jss_cons (js_fld (st_pos := ⟨0, 0, 0, 0⟩) (at_last_run Z) rfl (je_op (o_sub) (jr_of (je_callB (c_len rfl) rfl (Z.free 1 rfl) boot_len (jb_cons rfl (jr_of (je_var rfl (.inl rfl) rfl rfl)) jb_nil) rfl)) (jr_of cst_int)) (je_var rfl (.inl rfl) rfl rfl) rfl) (jss_cons (js_fld (st_pos := ⟨0, 0, 0, 0⟩) (at_turn_now Z) rfl cst_int (je_var rfl (.inl rfl) rfl rfl) rfl) (jss_cons (js_fld (st_pos := ⟨0, 0, 0, 0⟩) (at_served_rows Z) rfl (je_new (jl_disp ja_nil)) (je_var rfl (.inl rfl) rfl rfl) rfl) (jss_cons (js_fld (st_pos := ⟨0, 0, 0, 0⟩) (at_own_events Z) rfl (je_new (je_lc (own := [("run", 4)]) rfl nd_Served___init__ (ji_valW rfl (jr_of (je_var rfl (.inl rfl) rfl rfl))) (blkOk_by rfl) (fun _ _ _ _ _ => (jg_name nd_Served___init__ rfl (.inl rfl) (.inr rfl) (by decide))) (fun _ _ _ _ _ => jts_nil) (fun _ _ _ _ _ => (je_tup ja_nil)) (fun _ => rfl))) (je_var rfl (.inl rfl) rfl rfl) rfl) (jss_cons (js_fld (st_pos := ⟨0, 0, 0, 0⟩) (at_all_ended_at Z) rfl cst_non (je_var rfl (.inl rfl) rfl rfl) rfl) (jss_cons (js_for (vs := [0, 1, 2, 3, 4, 5, 6]) (passes_of rfl) rfl (ji_rg1 rfl (Z.free 55 rfl) (ja_cons rfl (je_callB (c_len rfl) rfl (Z.free 1 rfl) boot_len (jb_cons rfl (jr_of (je_var rfl (.inl rfl) rfl rfl)) jb_nil) rfl) ja_nil) rfl) (jg_name nd_Served___init__ rfl (.inl rfl) (.inl rfl) (by decide)) (jss_one (js_drop (je_meth (ok_Served_note_asks Z B) rfl hr (by decide) (takes_of (E := E) rfl rfl rfl rfl) (je_var rfl (.inl rfl) rfl rfl) (ja_cons rfl (je_var rfl (.inl rfl) rfl rfl) ja_nil) rfl rfl) rfl)) (fun _ => rfl)) (jss_one (js_drop (je_meth0 (ok_Served_note_end Z B) rfl hr (by decide) (takes_of (E := E) rfl rfl rfl rfl) (je_var rfl (.inl rfl) rfl rfl) rfl) rfl))))))))))))
def N_Served_free_asks : List Str := ["self", "run", "path", "who", "number"]
theorem nd_Served_free_asks : N_Served_free_asks.Nodup := by decide +kernel
theorem sc_Served_free_asks : FnScope N_Served_free_asks ["self", "run"] (defScope (mth 64 3)) := ⟨rfl, rfl, rfl, nd_Served_free_asks, rfl, by decide +kernel, by decide +kernel⟩
def b_Served_free_asks : DS := dRet (dLst (dLc (dItems (dCall 1 f_waiting (dCons (dOp pIdx (dFld [5] "own_halls" (dVar 0)) (dVar 1)) (dNil)))) (gT 3 (gsC (gN 2) (gsC (gN 3) (gsC (gN 4) (gs0))))) (dTest (dOp (pInD lits) (dTup (dCons (dVar 3) (dCons (dVar 4) (dNil)))) (dFld [5] "own_answers" (dVar 0)))) (dVar 2) [2, 3, 4]))
def f_Served_free_asks : List D → M D := dFn 2 N_Served_free_asks.length b_Served_free_asks
theorem ok_Served_free_asks (Z : Zf G mg fa fn nmt cls) (B : Tbs G mg base tfs) : MCal P G.w G mg base 5 "free_asks" 2 2 ["self", "run"] f_Served_free_asks := by
  refine mcal_of (k := 1) (N := N_Served_free_asks) (d := b_Served_free_asks) Z 55 120 105 (st := mth 64 3) (by rfl) (by rfl) (by rfl) (by rfl) sc_Served_free_asks (by rfl) (fun _ _ _ _ _ _ us hl => match us, hl with | [_, _], _ => by rfl) fun f cdv A outer s H E hr => ?_
  exact (jss_one (js_ret (je_lst (je_lc (own := [("path", 2), ("who", 3), ("number", 4)]) rfl nd_Served_free_asks (ji_valW rfl (jr_of (je_cal (ok_waiting Z B) rfl hr (by decide) rfl (takes_of (E := E) rfl rfl rfl rfl) (ja_cons rfl (je_ix (i_idx rfl) (jr_of (je_fld (at_own_halls Z) rfl (jr_of (je_var rfl (.inr (.inl rfl)) rfl rfl)) rfl)) (jr_of (je_var rfl (.inl rfl) rfl rfl)) rfl) ja_nil) rfl))) (blkOk_by rfl) (fun _ _ _ _ _ => (jg_tup rfl rfl (jgs_cons (jg_name nd_Served_free_asks rfl (.inl rfl) (.inr rfl) (by decide)) (jgs_cons (jg_name nd_Served_free_asks rfl (.inl rfl) (.inr rfl) (by decide)) (jgs_cons (jg_name nd_Served_free_asks rfl (.inl rfl) (.inr rfl) (by decide)) jgs_nil))))) (fun _ _ _ _ _ => (jts_one (jt_din (nl := lits) Z.lits (huR hr) (je_tup (ja_cons rfl (je_var rfl (.inl rfl) rfl rfl) (ja_cons rfl (je_var rfl (.inl rfl) rfl rfl) ja_nil))) (je_fld (at_own_answers Z) rfl (jr_of (je_var rfl (.inr (.inl rfl)) rfl rfl)) rfl) rfl))) (fun _ _ _ _ _ => (je_var rfl (.inl rfl) rfl rfl)) (fun _ => rfl)))))
def N_Served_by_rounds : List Str := ["self", "hands", "found", "many", "step", "run", "paths"]
theorem nd_Served_by_rounds : N_Served_by_rounds.Nodup := by decide +kernel
theorem sc_Served_by_rounds : FnScope N_Served_by_rounds ["self", "hands"] (defScope (mth 64 4)) := ⟨rfl, rfl, rfl, nd_Served_by_rounds, rfl, by decide +kernel, by decide +kernel⟩
def b_Served_by_rounds : DS := dSeq (dPar2 2 3 (qO (dDisp (dNil))) (qV (dPr pLen (dCons (dFld [5] "own_halls" (dVar 0)) (dNil))))) (dSeq (dFor (dRg rg1 (dCons (dVar 3) (dNil))) (gN 4) (dSeq (dSet 5 (qV (dOp pMod (dOp pAdd (dOp pAdd (dFld [5] "last_run" (dVar 0)) (dCst (.int 1))) (dVar 4)) (dVar 3)))) (dSeq (dSet 6 (qV (dMeth 5 "free_asks" 2 f_Served_free_asks (dVar 0) (dCons (dVar 5) (dNil))))) (dIfS (dAnd (dTest (dOp pNe (dVar 6) (dLst (dDisp (dNil))))) (dTest (dOp pLt (dPr pLen (dCons (dRd 2) (dNil))) (dVar 1)))) (dOwn 2 fApp (dTup (dCons (dVar 5) (dCons (dOp pIdx (dVar 6) (dCst (.int 0))) (dNil))))) (dNop))))) (dSeq (dFrz 2) (dRet (dVar 2))))
def f_Served_by_rounds : List D → M D := dFn 2 N_Served_by_rounds.length b_Served_by_rounds
theorem ok_Served_by_rounds (Z : Zf G mg fa fn nmt cls) (B : Tbs G mg base tfs) : MCal P G.w G mg base 5 "by_rounds" 3 2 ["self", "hands"] f_Served_by_rounds := by
  refine mcal_of (k := 2) (N := N_Served_by_rounds) (d := b_Served_by_rounds) Z 56 121 105 (st := mth 64 4) (by rfl) (by rfl) (by rfl) (by rfl) sc_Served_by_rounds (by rfl) (fun _ _ _ _ _ _ us hl => match us, hl with | [_, _], _ => by rfl) fun f cdv A outer s H E hr => ?_
  exact (jss_cons (js_par2 (ps_par rfl nd_Served_by_rounds rfl rfl (by decide) rfl rfl (pa_cons (qO_of (jl_disp ja_nil)) (pa_cons (qV_of (je_callB (c_len rfl) rfl (Z.free 1 rfl) boot_len (jb_cons rfl (jr_of (je_fld (at_own_halls Z) rfl (jr_of (je_var rfl (.inl rfl) rfl rfl)) rfl)) jb_nil) rfl)) pa_nil)) rfl)) (jss_cons (js_for (vs := [0, 1, 2, 3, 4, 5, 6]) (passes_of rfl) rfl (ji_rg1 rfl (Z.free 55 rfl) (ja_cons rfl (je_var rfl (.inl rfl) rfl rfl) ja_nil) rfl) (jg_name nd_Served_by_rounds rfl (.inl rfl) (.inl rfl) (by decide)) (jss_cons (js_setV (ps_set nd_Served_by_rounds rfl (.inl rfl) (je_op (o_mod) (jr_of (je_op (o_add rfl) (jr_of (je_op (o_add rfl) (jr_of (je_fld (at_last_run Z) rfl (jr_of (je_var rfl (.inl rfl) rfl rfl)) rfl)) (jr_of cst_int))) (jr_of (je_var rfl (.inl rfl) rfl rfl)))) (jr_of (je_var rfl (.inl rfl) rfl rfl))) rfl)) (jss_cons (js_setV (ps_set nd_Served_by_rounds rfl (.inl rfl) (je_meth (ok_Served_free_asks Z B) rfl hr (by decide) (takes_of (E := E) rfl rfl rfl rfl) (je_var rfl (.inl rfl) rfl rfl) (ja_cons rfl (je_var rfl (.inl rfl) rfl rfl) ja_nil) rfl rfl) rfl)) (jss_one (js_if (PW.pt (jw_and (jt_cmp (o_ne rfl (huR hr)) (jr_of (je_var rfl (.inl rfl) rfl rfl)) (jr_of (je_lst (jl_disp ja_nil))) rfl) (jw1_and (jt_cmp (o_lt rfl (huR hr)) (jr_of (je_callB (c_len rfl) rfl (Z.free 1 rfl) boot_len (jb_cons rfl (jr_rd rfl (.inl rfl) rfl rfl) jb_nil) rfl)) (jr_of (je_var rfl (.inl rfl) rfl rfl)) rfl)))) (jss_one (js_app rfl rfl (.inl rfl) rfl rfl (je_tup (ja_cons rfl (je_var rfl (.inl rfl) rfl rfl) (ja_cons rfl (je_ix (i_idx rfl) (jr_of (je_var rfl (.inl rfl) rfl rfl)) (jr_of cst_int) rfl) ja_nil))) rfl rfl rfl rfl rfl)) jss_nil)))) (fun _ => rfl)) (jss_frz (jss_one (js_ret (je_var rfl (.inl rfl) rfl rfl))))))
def N_Served_by_age : List Str := ["self", "hands", "found", "run", "some", "path", "came"]
theorem nd_Served_by_age : N_Served_by_age.Nodup := by decide +kernel
theorem sc_Served_by_age : FnScope N_Served_by_age ["self", "hands"] (defScope (mth 64 5)) := ⟨rfl, rfl, rfl, nd_Served_by_age, rfl, by decide +kernel, by decide +kernel⟩
def b_Served_by_age : DS := dSeq (dSet 2 (qO (dDisp (dNil)))) (dSeq (dFor (dRg rg1 (dCons (dPr pLen (dCons (dFld [5] "own_halls" (dVar 0)) (dNil))) (dNil))) (gN 3) (dSeq (dSet 4 (qV (dLst (dPrL qSort (dCons (dLst (dLc (dItems (dMeth 5 "free_asks" 2 f_Served_free_asks (dVar 0) (dCons (dVar 3) (dNil)))) (gN 5) (dYes) (dTup (dCons (dOp pGetN (dFld [5] "came_at" (dVar 0)) (dTup (dCons (dVar 3) (dCons (dVar 5) (dNil))))) (dCons (dVar 5) (dNil)))) [5])) (dNil)))))) (dIfS (dTest (dOp pNe (dVar 4) (dLst (dDisp (dNil))))) (dOwn 2 fApp (dTup (dCons (dOp pIdx (dOp pIdx (dVar 4) (dCst (.int 0))) (dCst (.int 0))) (dCons (dVar 3) (dCons (dOp pIdx (dOp pIdx (dVar 4) (dCst (.int 0))) (dCst (.int 1))) (dNil)))))) (dNop)))) (dRet (dLst (dLc (dItems (dSl (dLst (dPrL qSort (dCons (dRd 2) (dNil)))) (dNo) (dSo (dVar 1)))) (gT 3 (gsC (gN 6) (gsC (gN 3) (gsC (gN 5) (gs0))))) (dYes) (dTup (dCons (dVar 3) (dCons (dVar 5) (dNil)))) [6, 3, 5]))))
def f_Served_by_age : List D → M D := dFn 2 N_Served_by_age.length b_Served_by_age
theorem ok_Served_by_age (Z : Zf G mg fa fn nmt cls) (B : Tbs G mg base tfs) : MCal P G.w G mg base 5 "by_age" 3 2 ["self", "hands"] f_Served_by_age := by
  refine mcal_of (k := 2) (N := N_Served_by_age) (d := b_Served_by_age) Z 57 122 105 (st := mth 64 5) (by rfl) (by rfl) (by rfl) (by rfl) sc_Served_by_age (by rfl) (fun _ _ _ _ _ _ us hl => match us, hl with | [_, _], _ => by rfl) fun f cdv A outer s H E hr => ?_
  exact (jss_cons (js_setO (ps_set nd_Served_by_age rfl (.inl rfl) (jl_disp ja_nil) rfl)) (jss_cons (js_for (vs := [0, 1, 2, 3, 4, 5, 6]) (passes_of rfl) rfl (ji_rg1 rfl (Z.free 55 rfl) (ja_cons rfl (je_callB (c_len rfl) rfl (Z.free 1 rfl) boot_len (jb_cons rfl (jr_of (je_fld (at_own_halls Z) rfl (jr_of (je_var rfl (.inr (.inl rfl)) rfl rfl)) rfl)) jb_nil) rfl) ja_nil) rfl) (jg_name nd_Served_by_age rfl (.inr rfl) (.inl rfl) (by decide)) (jss_cons (js_setV (ps_set nd_Served_by_age rfl (.inl rfl) (je_lst (jl_sort rfl (huR hr) rfl (Z.free 39 rfl) (jb_cons rfl (jr_of (je_lst (je_lc (own := [("path", 5)]) rfl nd_Served_by_age (ji_valW rfl (jr_of (je_meth (ok_Served_free_asks Z B) rfl hr (by decide) (takes_of (E := E) rfl rfl rfl rfl) (je_var rfl (.inr (.inl rfl)) rfl rfl) (ja_cons rfl (je_var rfl (.inr (.inl rfl)) rfl rfl) ja_nil) rfl rfl))) (blkOk_by rfl) (fun _ _ _ _ _ => (jg_name nd_Served_by_age rfl (.inl rfl) (.inr rfl) (by decide))) (fun _ _ _ _ _ => jts_nil) (fun _ _ _ _ _ => (je_tup (ja_cons rfl (je_nget rfl rfl (huR hr) (je_fld (at_came_at Z) rfl (jr_of (je_var rfl (.inr (.inl rfl)) rfl rfl)) rfl) (je_tup (ja_cons rfl (je_var rfl (.inr (.inl rfl)) rfl rfl) (ja_cons rfl (je_var rfl (.inl rfl) rfl rfl) ja_nil))) (fun _ _ => rfl)) (ja_cons rfl (je_var rfl (.inl rfl) rfl rfl) ja_nil)))) (fun _ => rfl)))) jb_nil) rfl)) rfl)) (jss_one (js_if (jt_cmp (o_ne rfl (huR hr)) (jr_of (je_var rfl (.inl rfl) rfl rfl)) (jr_of (je_lst (jl_disp ja_nil))) rfl) (jss_one (js_app rfl rfl (.inl rfl) rfl rfl (je_tup (ja_cons rfl (je_ix (i_idx rfl) (jr_of (je_ix (i_idx rfl) (jr_of (je_var rfl (.inl rfl) rfl rfl)) (jr_of cst_int) rfl)) (jr_of cst_int) rfl) (ja_cons rfl (je_var rfl (.inr (.inl rfl)) rfl rfl) (ja_cons rfl (je_ix (i_idx rfl) (jr_of (je_ix (i_idx rfl) (jr_of (je_var rfl (.inl rfl) rfl rfl)) (jr_of cst_int) rfl)) (jr_of cst_int) rfl) ja_nil)))) rfl rfl rfl rfl rfl)) jss_nil))) (fun _ => rfl)) (jss_one (js_ret (je_lst (je_lc (own := [("came", 6), ("run", 3), ("path", 5)]) rfl nd_Served_by_age (ji_valW rfl (jr_of (je_sl rfl (jr_of (je_lst (jl_sort rfl (huR hr) rfl (Z.free 39 rfl) (jb_cons rfl (jr_rd rfl (.inl rfl) rfl rfl) jb_nil) rfl))) jo_none (jo_some (je_var rfl (.inl rfl) rfl rfl))))) (blkOk_by rfl) (fun _ _ _ _ _ => (jg_tup rfl rfl (jgs_cons (jg_name nd_Served_by_age rfl (.inl rfl) (.inr rfl) (by decide)) (jgs_cons (jg_name nd_Served_by_age rfl (.inl rfl) (.inr rfl) (by decide)) (jgs_cons (jg_name nd_Served_by_age rfl (.inl rfl) (.inr rfl) (by decide)) jgs_nil))))) (fun _ _ _ _ _ => jts_nil) (fun _ _ _ _ _ => (je_tup (ja_cons rfl (je_var rfl (.inl rfl) rfl rfl) (ja_cons rfl (je_var rfl (.inl rfl) rfl rfl) ja_nil)))) (fun _ => rfl)))))))
def N_house_again : List Str := ["row", "path", "name", "begun_at", "end", "diary", "state", "house"]
theorem nd_house_again : N_house_again.Nodup := by decide +kernel
theorem sc_house_again : FnScope N_house_again ["row"] (defScope (top 29)) := ⟨rfl, rfl, rfl, nd_house_again, rfl, by decide +kernel, by decide +kernel⟩
def b_house_again : DS := dSeq (dBnd (dVar 0) (gT 6 (gsC (gN 1) (gsC (gN 2) (gsC (gN 3) (gsC (gN 4) (gsC (gN 5) (gsC (gN 6) (gs0))))))))) (dSeq (dSet 7 (qV (dMake 3 6 f_House___init__ (dCons (dVar 1) (dCons (dVar 2) (dCons (dVar 3) (dCons (dTup (dNil)) (dCons (dNew (dDisp (dNil))) (dNil))))))))) (dSeq (dSetF [3] "house_end" (dVar 4) (dVar 7)) (dSeq (dSetF [3] "diary_rows" (dNew (dPrL qListS (dCons (dVar 5) (dNil)))) (dVar 7)) (dSeq (dIfS (dTest (dOp pNe (dVar 6) (dTup (dNil)))) (dSeq (dSetF [3] "room_now" (dOp pIdx (dVar 6) (dCst (.int 0))) (dVar 7)) (dSeq (dSetF [3] "slots_held" (dNew (dPrL qListS (dCons (dOp pIdx (dVar 6) (dCst (.int 1))) (dNil)))) (dVar 7)) (dSeq (dSetF [3] "wants_begun" (dOp pIdx (dVar 6) (dCst (.int 2))) (dVar 7)) (dSeq (dSetF [3] "rounds_begun" (dOp pIdx (dVar 6) (dCst (.int 3))) (dVar 7)) (dIfS (dTest (dOp pIdx (dVar 6) (dCst (.int 4)))) (dSetF [3] "called_hour" (dTup (dCons (dCst (.int 0)) (dNil))) (dVar 7)) (dNop)))))) (dNop)) (dRet (dVar 7))))))
def f_house_again : List D → M D := dFn 1 N_house_again.length b_house_again
theorem ok_house_again (Z : Zf G mg fa fn nmt cls) (B : Tbs G mg base tfs) : Callee P G.w G mg base "house_again" 3 1 ["row"] f_house_again := by
  refine callee_ofA (k := 2) (N := N_house_again) (d := b_house_again) Z 58 123 (st := top 29) (by rfl) (by rfl) sc_house_again (by rfl) (fun _ _ _ _ _ _ us hl => match us, hl with | [_], _ => by rfl) fun f cdv A outer s H E hr => ?_
  exact (jss_cons (js_bnd (vs := [0, 1, 2, 3, 4, 5, 6, 7]) (ps_asg (je_var rfl (.inl rfl) rfl rfl) (jg_tup rfl rfl (jgs_cons (jg_name nd_house_again rfl (.inl rfl) (.inl rfl) (by decide)) (jgs_cons (jg_name nd_house_again rfl (.inl rfl) (.inl rfl) (by decide)) (jgs_cons (jg_name nd_house_again rfl (.inl rfl) (.inl rfl) (by decide)) (jgs_cons (jg_name nd_house_again rfl (.inl rfl) (.inl rfl) (by decide)) (jgs_cons (jg_name nd_house_again rfl (.inl rfl) (.inl rfl) (by decide)) (jgs_cons (jg_name nd_house_again rfl (.inl rfl) (.inl rfl) (by decide)) jgs_nil))))))))) (jss_cons (js_setV (ps_set nd_house_again rfl (.inl rfl) (je_make (k := 1) (ok_House___init__ Z B) rfl (hr.mono (by decide)) (Nat.le_refl _) rfl (takes_of (E := E) rfl rfl rfl rfl) (ja_cons rfl (je_var rfl (.inl rfl) rfl rfl) (ja_cons rfl (je_var rfl (.inl rfl) rfl rfl) (ja_cons rfl (je_var rfl (.inl rfl) rfl rfl) (ja_cons rfl (je_tup ja_nil) (ja_cons rfl (je_new (jl_disp ja_nil)) ja_nil))))) rfl) rfl)) (jss_cons (js_fld (st_pos := ⟨0, 0, 0, 0⟩) (at_house_end Z) rfl (je_var rfl (.inl rfl) rfl rfl) (je_var rfl (.inl rfl) rfl rfl) rfl) (jss_cons (js_fld (st_pos := ⟨0, 0, 0, 0⟩) (at_diary_rows Z) rfl (je_new (jl_listS rfl rfl (Z.free 38 rfl) (jb_cons rfl (jr_of (je_var rfl (.inl rfl) rfl rfl)) jb_nil) rfl)) (je_var rfl (.inl rfl) rfl rfl) rfl) (jss_cons (js_if (jt_cmp (o_ne rfl (huR hr)) (jr_of (je_var rfl (.inl rfl) rfl rfl)) (jr_of (je_tup ja_nil)) rfl) (jss_cons (js_fld (st_pos := ⟨0, 0, 0, 0⟩) (at_room_now Z) rfl (je_ix (i_idx rfl) (jr_of (je_var rfl (.inl rfl) rfl rfl)) (jr_of cst_int) rfl) (je_var rfl (.inl rfl) rfl rfl) rfl) (jss_cons (js_fld (st_pos := ⟨0, 0, 0, 0⟩) (at_slots_held Z) rfl (je_new (jl_listS rfl rfl (Z.free 38 rfl) (jb_cons rfl (jr_of (je_ix (i_idx rfl) (jr_of (je_var rfl (.inl rfl) rfl rfl)) (jr_of cst_int) rfl)) jb_nil) rfl)) (je_var rfl (.inl rfl) rfl rfl) rfl) (jss_cons (js_fld (st_pos := ⟨0, 0, 0, 0⟩) (at_wants_begun Z) rfl (je_ix (i_idx rfl) (jr_of (je_var rfl (.inl rfl) rfl rfl)) (jr_of cst_int) rfl) (je_var rfl (.inl rfl) rfl rfl) rfl) (jss_cons (js_fld (st_pos := ⟨0, 0, 0, 0⟩) (at_rounds_begun Z) rfl (je_ix (i_idx rfl) (jr_of (je_var rfl (.inl rfl) rfl rfl)) (jr_of cst_int) rfl) (je_var rfl (.inl rfl) rfl rfl) rfl) (jss_one (js_if (jt_val (jr_of (je_ix (i_idx rfl) (jr_of (je_var rfl (.inl rfl) rfl rfl)) (jr_of cst_int) rfl)) rfl) (jss_one (js_fld (st_pos := ⟨0, 0, 0, 0⟩) (at_called_hour Z) rfl (je_tup (ja_cons rfl cst_int ja_nil)) (je_var rfl (.inl rfl) rfl rfl) rfl)) jss_nil)))))) jss_nil) (jss_one (js_ret (je_var rfl (.inl rfl) rfl rfl))))))))
def N_work_again : List Str := ["machines", "hall", "work", "row", "ask"]
theorem nd_work_again : N_work_again.Nodup := by decide +kernel
theorem sc_work_again : FnScope N_work_again ["machines", "hall"] (defScope (top 30)) := ⟨rfl, rfl, rfl, nd_work_again, rfl, by decide +kernel, by decide +kernel⟩
def b_work_again : DS := dSeq (dSet 2 (qV (dMake 4 3 f_Work___init__ (dCons (dVar 0) (dCons (dOp pIdx (dVar 1) (dCst (.int 0))) (dNil)))))) (dSeq (dFor (dItems (dOp pIdx (dVar 1) (dCst (.int 1)))) (gN 3) (dPut lits (dCall 1 f_house_again (dCons (dVar 3) (dNil))) (dFld [4] "houses_by_path" (dVar 2)) (dOp pIdx (dVar 3) (dCst (.int 0))))) (dSeq (dFor (dItems (dOp pIdx (dVar 1) (dCst (.int 2)))) (gN 4) (dPut lits (dSl (dVar 4) (dSo (dCst (.int 1))) (dNo)) (dFld [4] "asks_by_path" (dVar 2)) (dOp pIdx (dVar 4) (dCst (.int 0))))) (dRet (dVar 2))))
def f_work_again : List D → M D := dFn 2 N_work_again.length b_work_again
theorem ok_work_again (Z : Zf G mg fa fn nmt cls) (B : Tbs G mg base tfs) : Callee P G.w G mg base "work_again" 4 2 ["machines", "hall"] f_work_again := by
  refine callee_ofA (k := 3) (N := N_work_again) (d := b_work_again) Z 59 124 (st := top 30) (by rfl) (by rfl) sc_work_again (by rfl) (fun _ _ _ _ _ _ us hl => match us, hl with | [_, _], _ => by rfl) fun f cdv A outer s H E hr => ?_
  exact (jss_cons (js_setV (ps_set nd_work_again rfl (.inl rfl) (je_make (k := 1) (ok_Work___init__ Z B) rfl (hr.mono (by decide)) (Nat.le_refl _) rfl (takes_of (E := E) rfl rfl rfl rfl) (ja_cons rfl (je_var rfl (.inl rfl) rfl rfl) (ja_cons rfl (je_ix (i_idx rfl) (jr_of (je_var rfl (.inl rfl) rfl rfl)) (jr_of cst_int) rfl) ja_nil)) rfl) rfl)) (jss_cons (js_for (vs := [0, 1, 2, 3, 4]) (passes_of rfl) rfl (ji_val rfl (je_ix (i_idx rfl) (jr_of (je_var rfl (.inl rfl) rfl rfl)) (jr_of cst_int) rfl)) (jg_name nd_work_again rfl (.inl rfl) (.inl rfl) (by decide)) (jss_one (js_dput (nl := lits) Z.lits (huR hr) (je_cal (ok_house_again Z B) rfl hr (by decide) rfl (takes_of (E := E) rfl rfl rfl rfl) (ja_cons rfl (je_var rfl (.inl rfl) rfl rfl) ja_nil) rfl) (je_fld (at_houses_by_path Z) rfl (jr_of (je_var rfl (.inl rfl) rfl rfl)) rfl) (je_ix (i_idx rfl) (jr_of (je_var rfl (.inl rfl) rfl rfl)) (jr_of cst_int) rfl) rfl)) (fun _ => rfl)) (jss_cons (js_for (vs := [0, 1, 2, 3, 4]) (passes_of rfl) rfl (ji_val rfl (je_ix (i_idx rfl) (jr_of (je_var rfl (.inl rfl) rfl rfl)) (jr_of cst_int) rfl)) (jg_name nd_work_again rfl (.inl rfl) (.inl rfl) (by decide)) (jss_one (js_dput (nl := lits) Z.lits (huR hr) (je_sl rfl (jr_of (je_var rfl (.inl rfl) rfl rfl)) (jo_some cst_int) jo_none) (je_fld (at_asks_by_path Z) rfl (jr_of (je_var rfl (.inl rfl) rfl rfl)) rfl) (je_ix (i_idx rfl) (jr_of (je_var rfl (.inl rfl) rfl rfl)) (jr_of cst_int) rfl) rfl)) (fun _ => rfl)) (jss_one (js_ret (je_var rfl (.inl rfl) rfl rfl))))))
def N_come : List Str := ["machines", "hall", "event", "work", "word"]
theorem nd_come : N_come.Nodup := by decide +kernel
theorem sc_come : FnScope N_come ["machines", "hall", "event"] (defScope (top 33)) := ⟨rfl, rfl, rfl, nd_come, rfl, by decide +kernel, by decide +kernel⟩
def b_come : DS := dSeq (dSet 3 (qV (dCall 2 f_work_again (dCons (dVar 0) (dCons (dVar 1) (dNil)))))) (dSeq (dSet 4 (qV (dCst (.str "late")))) (dSeq (dIfS (dTest (dMeth 4 "take_event" 2 f_Work_take_event (dVar 3) (dCons (dVar 2) (dNil)))) (dSet 4 (qV (dCst (.str "taken")))) (dNop)) (dRet (dTup (dCons (dCall 1 f_hall_of (dCons (dVar 3) (dNil))) (dCons (dVar 4) (dNil)))))))
def f_z_come : List D → M D := dFn 3 N_come.length b_come
theorem ok_z_come (Z : Zf G mg fa fn nmt cls) (B : Tbs G mg base tfs) : Callee P G.w G mg base "come" 31 3 ["machines", "hall", "event"] f_z_come := by
  refine callee_ofA (k := 30) (N := N_come) (d := b_come) Z 60 125 (st := top 33) (by rfl) (by rfl) sc_come (by rfl) (fun _ _ _ _ _ _ us hl => match us, hl with | [_, _, _], _ => by rfl) fun f cdv A outer s H E hr => ?_
  exact (jss_cons (js_setV (ps_set nd_come rfl (.inl rfl) (je_cal (ok_work_again Z B) rfl hr (by decide) rfl (takes_of (E := E) rfl rfl rfl rfl) (ja_cons rfl (je_var rfl (.inl rfl) rfl rfl) (ja_cons rfl (je_var rfl (.inl rfl) rfl rfl) ja_nil)) rfl) rfl)) (jss_cons (js_setV (ps_set nd_come rfl (.inl rfl) cst_str rfl)) (jss_cons (js_if (jt_val (jr_of (je_meth (ok_Work_take_event Z B) rfl hr (by decide) (takes_of (E := E) rfl rfl rfl rfl) (je_var rfl (.inl rfl) rfl rfl) (ja_cons rfl (je_var rfl (.inl rfl) rfl rfl) ja_nil) rfl rfl)) rfl) (jss_one (js_setV (ps_set nd_come rfl (.inl rfl) cst_str rfl))) jss_nil) (jss_one (js_ret (je_tup (ja_cons rfl (je_cal (ok_hall_of Z B) rfl hr (by decide) rfl (takes_of (E := E) rfl rfl rfl rfl) (ja_cons rfl (je_var rfl (.inl rfl) rfl rfl) ja_nil) rfl) (ja_cons rfl (je_var rfl (.inl rfl) rfl rfl) ja_nil))))))))
def f_come : List D → M D := iso f_z_come
theorem ok_come (Z : Zf G mg fa fn nmt cls) (B : Tbs G mg base tfs) : Callee P G.w G mg base "come" 31 3 ["machines", "hall", "event"] f_come := callee_iso (ok_z_come Z B)
def N_Served_serve : List Str := ["self", "run", "path", "asked", "event", "one", "who", "number"]
theorem nd_Served_serve : N_Served_serve.Nodup := by decide +kernel
theorem sc_Served_serve : FnScope N_Served_serve ["self", "run", "path"] (defScope (mth 64 6)) := ⟨rfl, rfl, rfl, nd_Served_serve, rfl, by decide +kernel, by decide +kernel⟩
def b_Served_serve : DS := dSeq (dSet 3 (qV (dDc (dItems (dCall 1 f_waiting (dCons (dOp pIdx (dFld [5] "own_halls" (dVar 0)) (dVar 1)) (dNil)))) (gT 3 (gsC (gN 5) (gsC (gN 6) (gsC (gN 7) (gs0))))) (dYes) (dVar 5) (dTup (dCons (dVar 6) (dCons (dVar 7) (dNil)))) [5, 6, 7]))) (dSeq (dSet 4 (qV (dTup (dCons (dCst (.str "answer")) (dCons (dVar 2) (dStar (dOp (pGet lits) (dFld [5] "own_answers" (dVar 0)) (dOp pGetN (dVar 3) (dVar 2))) (dNil))))))) (dSeq (dSto (dOp pIdx (dCall 3 f_come (dCons (dFld [5] "own_machines" (dVar 0)) (dCons (dOp pIdx (dFld [5] "own_halls" (dVar 0)) (dVar 1)) (dCons (dVar 4) (dNil))))) (dCst (.int 0))) (dFld [5] "own_halls" (dVar 0)) (dVar 1)) (dSeq (dSto (dTup (dStar (dOp pIdx (dFld [5] "own_events" (dVar 0)) (dVar 1)) (dCons (dVar 4) (dNil)))) (dFld [5] "own_events" (dVar 0)) (dVar 1)) (dSeq (dAppR (dFld [5] "served_rows" (dVar 0)) (dTup (dCons (dFld [5] "turn_now" (dVar 0)) (dCons (dVar 1) (dCons (dVar 2) (dNil)))))) (dSeq (dSetF [5] "last_run" (dVar 1) (dVar 0)) (dDrop (dMeth 5 "note_asks" 2 f_Served_note_asks (dVar 0) (dCons (dVar 1) (dNil)))))))))
def f_Served_serve : List D → M D := dFn 3 N_Served_serve.length b_Served_serve
theorem ok_Served_serve (Z : Zf G mg fa fn nmt cls) (B : Tbs G mg base tfs) : MCal P G.w G mg base 5 "serve" 32 3 ["self", "run", "path"] f_Served_serve := by
  refine mcal_of (k := 31) (N := N_Served_serve) (d := b_Served_serve) Z 61 126 105 (st := mth 64 6) (by rfl) (by rfl) (by rfl) (by rfl) sc_Served_serve (by rfl) (fun _ _ _ _ _ _ us hl => match us, hl with | [_, _, _], _ => by rfl) fun f cdv A outer s H E hr => ?_
  exact (jss_cons (js_dcV (ps_setDN (own := [("one", 5), ("who", 6), ("number", 7)]) rfl rfl (huR hr) rfl nd_Served_serve rfl rfl (sw_dict rfl rfl rfl rfl) (ji_valW rfl (jr_of (je_cal (ok_waiting Z B) rfl hr (by decide) rfl (takes_of (E := E) rfl rfl rfl rfl) (ja_cons rfl (je_ix (i_idx rfl) (jr_of (je_fld (at_own_halls Z) rfl (jr_of (je_var rfl (.inl rfl) rfl rfl)) rfl)) (jr_of (je_var rfl (.inl rfl) rfl rfl)) rfl) ja_nil) rfl))) (blkOk_by rfl) (fun _ _ _ _ _ => (jg_tup rfl rfl (jgs_cons (jg_name nd_Served_serve rfl (.inl rfl) (.inr rfl) (by decide)) (jgs_cons (jg_name nd_Served_serve rfl (.inl rfl) (.inr rfl) (by decide)) (jgs_cons (jg_name nd_Served_serve rfl (.inl rfl) (.inr rfl) (by decide)) jgs_nil))))) (fun _ _ _ _ _ => jts_nil) (fun _ _ _ _ _ => (je_var rfl (.inl rfl) rfl rfl)) (fun _ _ _ _ _ => (je_tup (ja_cons rfl (je_var rfl (.inl rfl) rfl rfl) (ja_cons rfl (je_var rfl (.inl rfl) rfl rfl) ja_nil)))) (fun _ => rfl))) (jss_cons (js_setV (ps_set nd_Served_serve rfl (.inl rfl) (je_tup (ja_cons rfl cst_str (ja_cons rfl (je_var rfl (.inl rfl) rfl rfl) (ja_star rfl (jr_of (je_dget (nl := lits) Z.lits (huR hr) (je_fld (at_own_answers Z) rfl (jr_of (je_var rfl (.inl rfl) rfl rfl)) rfl) (je_nget rfl rfl (huR hr) (je_var rfl (.inl rfl) rfl rfl) (je_var rfl (.inl rfl) rfl rfl) (fun _ _ => rfl)) (fun _ _ => rfl))) ja_nil)))) rfl)) (jss_cons (js_sto rfl (je_ix (i_idx rfl) (jr_of (je_cal (ok_come Z B) rfl hr (by decide) rfl (takes_of (E := E) rfl rfl rfl rfl) (ja_cons rfl (je_fld (at_own_machines Z) rfl (jr_of (je_var rfl (.inl rfl) rfl rfl)) rfl) (ja_cons rfl (je_ix (i_idx rfl) (jr_of (je_fld (at_own_halls Z) rfl (jr_of (je_var rfl (.inl rfl) rfl rfl)) rfl)) (jr_of (je_var rfl (.inl rfl) rfl rfl)) rfl) (ja_cons rfl (je_var rfl (.inl rfl) rfl rfl) ja_nil))) rfl)) (jr_of cst_int) rfl) (je_fld (at_own_halls Z) rfl (jr_of (je_var rfl (.inl rfl) rfl rfl)) rfl) (je_var rfl (.inl rfl) rfl rfl) rfl rfl rfl (fun _ => rfl)) (jss_cons (js_sto rfl (je_tup (ja_star rfl (jr_of (je_ix (i_idx rfl) (jr_of (je_fld (at_own_events Z) rfl (jr_of (je_var rfl (.inl rfl) rfl rfl)) rfl)) (jr_of (je_var rfl (.inl rfl) rfl rfl)) rfl)) (ja_cons rfl (je_var rfl (.inl rfl) rfl rfl) ja_nil))) (je_fld (at_own_events Z) rfl (jr_of (je_var rfl (.inl rfl) rfl rfl)) rfl) (je_var rfl (.inl rfl) rfl rfl) rfl rfl rfl (fun _ => rfl)) (jss_cons (js_appR rfl (je_fld (at_served_rows Z) rfl (jr_of (je_var rfl (.inl rfl) rfl rfl)) rfl) (je_tup (ja_cons rfl (je_fld (at_turn_now Z) rfl (jr_of (je_var rfl (.inl rfl) rfl rfl)) rfl) (ja_cons rfl (je_var rfl (.inl rfl) rfl rfl) (ja_cons rfl (je_var rfl (.inl rfl) rfl rfl) ja_nil)))) rfl rfl rfl rfl rfl) (jss_cons (js_fld (st_pos := ⟨0, 0, 0, 0⟩) (at_last_run Z) rfl (je_var rfl (.inl rfl) rfl rfl) (je_var rfl (.inl rfl) rfl rfl) rfl) (jss_one (js_drop (je_meth (ok_Served_note_asks Z B) rfl hr (by decide) (takes_of (E := E) rfl rfl rfl rfl) (je_var rfl (.inl rfl) rfl rfl) (ja_cons rfl (je_var rfl (.inl rfl) rfl rfl) ja_nil) rfl rfl) rfl))))))))
def N_Served_do_turn : List Str := ["self", "hands", "way", "run", "path"]
theorem nd_Served_do_turn : N_Served_do_turn.Nodup := by decide +kernel
theorem sc_Served_do_turn : FnScope N_Served_do_turn ["self", "hands", "way"] (defScope (mth 64 7)) := ⟨rfl, rfl, rfl, nd_Served_do_turn, rfl, by decide +kernel, by decide +kernel⟩
def b_Served_do_turn : DS := dSeq (dAugF [5] "turn_now" (dVar 0) (dCst (.int 1))) (dSeq (dFor (dItems (dIf (dTest (dOp pEq (dVar 2) (dCst (.str "rounds")))) (dMeth 5 "by_rounds" 2 f_Served_by_rounds (dVar 0) (dCons (dVar 1) (dNil))) (dMeth 5 "by_age" 2 f_Served_by_age (dVar 0) (dCons (dVar 1) (dNil))))) (gT 2 (gsC (gN 3) (gsC (gN 4) (gs0)))) (dDrop (dMeth 5 "serve" 3 f_Served_serve (dVar 0) (dCons (dVar 3) (dCons (dVar 4) (dNil)))))) (dDrop (dMeth 5 "note_end" 1 f_Served_note_end (dVar 0) dNil)))
def f_Served_do_turn : List D → M D := dFn 3 N_Served_do_turn.length b_Served_do_turn
theorem ok_Served_do_turn (Z : Zf G mg fa fn nmt cls) (B : Tbs G mg base tfs) : MCal P G.w G mg base 5 "do_turn" 33 3 ["self", "hands", "way"] f_Served_do_turn := by
  refine mcal_of (k := 32) (N := N_Served_do_turn) (d := b_Served_do_turn) Z 62 127 105 (st := mth 64 7) (by rfl) (by rfl) (by rfl) (by rfl) sc_Served_do_turn (by rfl) (fun _ _ _ _ _ _ us hl => match us, hl with | [_, _, _], _ => by rfl) fun f cdv A outer s H E hr => ?_
  exact (jss_cons (js_augF (at_turn_now Z) rfl (je_var rfl (.inl rfl) rfl rfl) cst_int) (jss_cons (js_for (vs := [0, 1, 2, 3, 4]) (passes_of rfl) rfl (ji_val rfl (je_if (jt_cmp (o_eq rfl (huR hr)) (jr_of (je_var rfl (.inl rfl) rfl rfl)) (jr_of (je_gstr rfl (Z.str 99 rfl))) rfl) (je_meth (ok_Served_by_rounds Z B) rfl hr (by decide) (takes_of (E := E) rfl rfl rfl rfl) (je_var rfl (.inl rfl) rfl rfl) (ja_cons rfl (je_var rfl (.inl rfl) rfl rfl) ja_nil) rfl rfl) (je_meth (ok_Served_by_age Z B) rfl hr (by decide) (takes_of (E := E) rfl rfl rfl rfl) (je_var rfl (.inl rfl) rfl rfl) (ja_cons rfl (je_var rfl (.inl rfl) rfl rfl) ja_nil) rfl rfl))) (jg_tup rfl rfl (jgs_cons (jg_name nd_Served_do_turn rfl (.inl rfl) (.inl rfl) (by decide)) (jgs_cons (jg_name nd_Served_do_turn rfl (.inl rfl) (.inl rfl) (by decide)) jgs_nil))) (jss_one (js_drop (je_meth (ok_Served_serve Z B) rfl hr (by decide) (takes_of (E := E) rfl rfl rfl rfl) (je_var rfl (.inl rfl) rfl rfl) (ja_cons rfl (je_var rfl (.inl rfl) rfl rfl) (ja_cons rfl (je_var rfl (.inl rfl) rfl rfl) ja_nil)) rfl rfl) rfl)) (fun _ => rfl)) (jss_one (js_drop (je_meth0 (ok_Served_note_end Z B) rfl hr (by decide) (takes_of (E := E) rfl rfl rfl rfl) (je_var rfl (.inl rfl) rfl rfl) rfl) rfl))))
def N_all_served : List Str := ["machines", "runs", "world", "hands", "turns", "way", "found", "turn"]
theorem nd_all_served : N_all_served.Nodup := by decide +kernel
theorem sc_all_served : FnScope N_all_served ["machines", "runs", "world", "hands", "turns", "way"] (defScope (top 65)) := ⟨rfl, rfl, rfl, nd_all_served, rfl, by decide +kernel, by decide +kernel⟩
def b_all_served : DS := dSeq (dSet 6 (qV (dMake 5 4 f_Served___init__ (dCons (dVar 0) (dCons (dVar 1) (dCons (dVar 2) (dNil))))))) (dSeq (dFor (dRg rg1 (dCons (dVar 4) (dNil))) (gN 7) (dDrop (dMeth 5 "do_turn" 3 f_Served_do_turn (dVar 6) (dCons (dVar 3) (dCons (dVar 5) (dNil)))))) (dRet (dVar 6)))
def f_all_served : List D → M D := dFn 6 N_all_served.length b_all_served
theorem ok_all_served (Z : Zf G mg fa fn nmt cls) (B : Tbs G mg base tfs) : Callee P G.w G mg base "all_served" 35 6 ["machines", "runs", "world", "hands", "turns", "way"] f_all_served := by
  refine callee_ofA (k := 34) (N := N_all_served) (d := b_all_served) Z 63 128 (st := top 65) (by rfl) (by rfl) sc_all_served (by rfl) (fun _ _ _ _ _ _ us hl => match us, hl with | [_, _, _, _, _, _], _ => by rfl) fun f cdv A outer s H E hr => ?_
  exact (jss_cons (js_setV (ps_set nd_all_served rfl (.inl rfl) (je_make (k := 33) (ok_Served___init__ Z B) rfl (hr.mono (by decide)) (Nat.le_refl _) rfl (takes_of (E := E) rfl rfl rfl rfl) (ja_cons rfl (je_var rfl (.inl rfl) rfl rfl) (ja_cons rfl (je_var rfl (.inl rfl) rfl rfl) (ja_cons rfl (je_var rfl (.inl rfl) rfl rfl) ja_nil))) rfl) rfl)) (jss_cons (js_for (vs := [0, 1, 2, 3, 4, 5, 6, 7]) (passes_of rfl) rfl (ji_rg1 rfl (Z.free 55 rfl) (ja_cons rfl (je_var rfl (.inl rfl) rfl rfl) ja_nil) rfl) (jg_name nd_all_served rfl (.inl rfl) (.inl rfl) (by decide)) (jss_one (js_drop (je_meth (ok_Served_do_turn Z B) rfl hr (by decide) (takes_of (E := E) rfl rfl rfl rfl) (je_var rfl (.inl rfl) rfl rfl) (ja_cons rfl (je_var rfl (.inl rfl) rfl rfl) (ja_cons rfl (je_var rfl (.inl rfl) rfl rfl) ja_nil)) rfl rfl) rfl)) (fun _ => rfl)) (jss_one (js_ret (je_var rfl (.inl rfl) rfl rfl)))))
def N_served : List Str := ["machines", "runs", "world", "hands", "turns", "way", "found"]
theorem nd_served : N_served.Nodup := by decide +kernel
theorem sc_served : FnScope N_served ["machines", "runs", "world", "hands", "turns", "way"] (defScope (top 71)) := ⟨rfl, rfl, rfl, nd_served, rfl, by decide +kernel, by decide +kernel⟩
def b_served : DS := dSeq (dDrop (dCall 6 f_need_all (dCons (dVar 0) (dCons (dVar 1) (dCons (dVar 2) (dCons (dVar 3) (dCons (dVar 4) (dCons (dVar 5) (dNil))))))))) (dSeq (dSet 6 (qV (dCall 6 f_all_served (dCons (dVar 0) (dCons (dVar 1) (dCons (dVar 2) (dCons (dVar 3) (dCons (dVar 4) (dCons (dVar 5) (dNil)))))))))) (dRet (dTup (dCons (dPr pTupR (dCons (dFld [5] "own_halls" (dVar 6)) (dNil))) (dCons (dPr pTupR (dCons (dFld [5] "served_rows" (dVar 6)) (dNil))) (dNil))))))
def f_served : List D → M D := dFn 6 N_served.length b_served
theorem ok_served (Z : Zf G mg fa fn nmt cls) (B : Tbs G mg base tfs) : Callee P G.w G mg base "served" 36 6 ["machines", "runs", "world", "hands", "turns", "way"] f_served := by
  refine callee_ofA (k := 35) (N := N_served) (d := b_served) Z 64 129 (st := top 71) (by rfl) (by rfl) sc_served (by rfl) (fun _ _ _ _ _ _ us hl => match us, hl with | [_, _, _, _, _, _], _ => by rfl) fun f cdv A outer s H E hr => ?_
  exact (jss_cons (js_drop (je_cal (ok_need_all Z B) rfl hr (by decide) rfl (takes_of (E := E) rfl rfl rfl rfl) (ja_cons rfl (je_var rfl (.inl rfl) rfl rfl) (ja_cons rfl (je_var rfl (.inl rfl) rfl rfl) (ja_cons rfl (je_var rfl (.inl rfl) rfl rfl) (ja_cons rfl (je_var rfl (.inl rfl) rfl rfl) (ja_cons rfl (je_var rfl (.inl rfl) rfl rfl) (ja_cons rfl (je_var rfl (.inl rfl) rfl rfl) ja_nil)))))) rfl) rfl) (jss_cons (js_setV (ps_set nd_served rfl (.inl rfl) (je_cal (ok_all_served Z B) rfl hr (by decide) rfl (takes_of (E := E) rfl rfl rfl rfl) (ja_cons rfl (je_var rfl (.inl rfl) rfl rfl) (ja_cons rfl (je_var rfl (.inl rfl) rfl rfl) (ja_cons rfl (je_var rfl (.inl rfl) rfl rfl) (ja_cons rfl (je_var rfl (.inl rfl) rfl rfl) (ja_cons rfl (je_var rfl (.inl rfl) rfl rfl) (ja_cons rfl (je_var rfl (.inl rfl) rfl rfl) ja_nil)))))) rfl) rfl)) (jss_one (js_ret (je_tup (ja_cons rfl (je_callT (c_tupR rfl) rfl (Z.free 16 rfl) PyProof.Rows.boot_tuple (jb_cons rfl (jr_of (je_fld (at_own_halls Z) rfl (jr_of (je_var rfl (.inl rfl) rfl rfl)) rfl)) jb_nil) rfl) (ja_cons rfl (je_callT (c_tupR rfl) rfl (Z.free 16 rfl) PyProof.Rows.boot_tuple (jb_cons rfl (jr_of (je_fld (at_served_rows Z) rfl (jr_of (je_var rfl (.inl rfl) rfl rfl)) rfl)) jb_nil) rfl) ja_nil)))))))
def N_own_events : List Str := ["machines", "runs", "world", "hands", "turns", "way", "run"]
theorem nd_own_events : N_own_events.Nodup := by decide +kernel
theorem sc_own_events : FnScope N_own_events ["machines", "runs", "world", "hands", "turns", "way", "run"] (defScope (top 72)) := ⟨rfl, rfl, rfl, nd_own_events, rfl, by decide +kernel, by decide +kernel⟩
def b_own_events : DS := dSeq (dDrop (dCall 6 f_need_all (dCons (dVar 0) (dCons (dVar 1) (dCons (dVar 2) (dCons (dVar 3) (dCons (dVar 4) (dCons (dVar 5) (dNil))))))))) (dSeq (dIfS (dNot (dTest (dCall 3 f_is_number_to (dCons (dVar 6) (dCons (dCst (.int 0)) (dCons (dOp pSub (dPr pLen (dCons (dVar 1) (dNil))) (dCst (.int 1))) (dNil))))))) (dRaise 2) (dNop)) (dRet (dOp pIdx (dFld [5] "own_events" (dCall 6 f_all_served (dCons (dVar 0) (dCons (dVar 1) (dCons (dVar 2) (dCons (dVar 3) (dCons (dVar 4) (dCons (dVar 5) (dNil))))))))) (dVar 6))))
def f_own_events : List D → M D := dFn 7 N_own_events.length b_own_events
theorem ok_own_events (Z : Zf G mg fa fn nmt cls) (B : Tbs G mg base tfs) : Callee P G.w G mg base "own_events" 36 7 ["machines", "runs", "world", "hands", "turns", "way", "run"] f_own_events := by
  refine callee_ofA (k := 35) (N := N_own_events) (d := b_own_events) Z 65 130 (st := top 72) (by rfl) (by rfl) sc_own_events (by rfl) (fun _ _ _ _ _ _ us hl => match us, hl with | [_, _, _, _, _, _, _], _ => by rfl) fun f cdv A outer s H E hr => ?_
  exact (jss_cons (js_drop (je_cal (ok_need_all Z B) rfl hr (by decide) rfl (takes_of (E := E) rfl rfl rfl rfl) (ja_cons rfl (je_var rfl (.inl rfl) rfl rfl) (ja_cons rfl (je_var rfl (.inl rfl) rfl rfl) (ja_cons rfl (je_var rfl (.inl rfl) rfl rfl) (ja_cons rfl (je_var rfl (.inl rfl) rfl rfl) (ja_cons rfl (je_var rfl (.inl rfl) rfl rfl) (ja_cons rfl (je_var rfl (.inl rfl) rfl rfl) ja_nil)))))) rfl) rfl) (jss_cons (js_if (jt_not (jt_val (jr_of (je_cal (ok_is_number_to Z B) rfl hr (by decide) rfl (takes_of (E := E) rfl rfl rfl rfl) (ja_cons rfl (je_var rfl (.inl rfl) rfl rfl) (ja_cons rfl cst_int (ja_cons rfl (je_op (o_sub) (jr_of (je_callB (c_len rfl) rfl (Z.free 1 rfl) boot_len (jb_cons rfl (jr_of (je_var rfl (.inl rfl) rfl rfl)) jb_nil) rfl)) (jr_of cst_int)) ja_nil))) rfl)) rfl)) (jss_one (js_raise rfl (takes_of (E := E) rfl rfl rfl rfl) (xc_of Z 95 96 rfl rfl rfl) rfl rfl)) jss_nil) (jss_one (js_ret (je_ix (i_idx rfl) (jr_of (je_fld (at_own_events Z) rfl (jr_of (je_cal (ok_all_served Z B) rfl hr (by decide) rfl (takes_of (E := E) rfl rfl rfl rfl) (ja_cons rfl (je_var rfl (.inl rfl) rfl rfl) (ja_cons rfl (je_var rfl (.inl rfl) rfl rfl) (ja_cons rfl (je_var rfl (.inl rfl) rfl rfl) (ja_cons rfl (je_var rfl (.inl rfl) rfl rfl) (ja_cons rfl (je_var rfl (.inl rfl) rfl rfl) (ja_cons rfl (je_var rfl (.inl rfl) rfl rfl) ja_nil)))))) rfl)) rfl)) (jr_of (je_var rfl (.inl rfl) rfl rfl)) rfl)))))
def N_ended_paper : List Str := ["machines", "runs", "world", "hands", "turns", "way", "found", "run", "hall"]
theorem nd_ended_paper : N_ended_paper.Nodup := by decide +kernel
theorem sc_ended_paper : FnScope N_ended_paper ["machines", "runs", "world", "hands", "turns", "way"] (defScope (top 73)) := ⟨rfl, rfl, rfl, nd_ended_paper, rfl, by decide +kernel, by decide +kernel⟩
def b_ended_paper : DS := dSeq (dDrop (dCall 6 f_need_all (dCons (dVar 0) (dCons (dVar 1) (dCons (dVar 2) (dCons (dVar 3) (dCons (dVar 4) (dCons (dVar 5) (dNil))))))))) (dSeq (dSet 6 (qV (dCall 6 f_all_served (dCons (dVar 0) (dCons (dVar 1) (dCons (dVar 2) (dCons (dVar 3) (dCons (dVar 4) (dCons (dVar 5) (dNil)))))))))) (dSeq (dIfS (dTest (dOp pIsNot (dFld [5] "all_ended_at" (dVar 6)) (dCst .non))) (dRet (dTup (dCons (dCst (.str "all")) (dCons (dFld [5] "all_ended_at" (dVar 6)) (dNil))))) (dNop)) (dRet (dTup (dCons (dCst (.str "some")) (dCons (dPr pTupR (dCons (dLst (dLc (dRg en1 (dCons (dFld [5] "own_halls" (dVar 6)) (dNil))) (gT 2 (gsC (gN 7) (gsC (gN 8) (gs0)))) (dTest (dOp pIs (dCall 1 f_result (dCons (dVar 8) (dNil))) (dCst .non))) (dVar 7) [7, 8])) (dNil))) (dNil)))))))
def f_ended_paper : List D → M D := dFn 6 N_ended_paper.length b_ended_paper
theorem ok_ended_paper (Z : Zf G mg fa fn nmt cls) (B : Tbs G mg base tfs) : Callee P G.w G mg base "ended_paper" 36 6 ["machines", "runs", "world", "hands", "turns", "way"] f_ended_paper := by
  refine callee_ofA (k := 35) (N := N_ended_paper) (d := b_ended_paper) Z 66 132 (st := top 73) (by rfl) (by rfl) sc_ended_paper (by rfl) (fun _ _ _ _ _ _ us hl => match us, hl with | [_, _, _, _, _, _], _ => by rfl) fun f cdv A outer s H E hr => ?_
  exact (jss_cons (js_drop (je_cal (ok_need_all Z B) rfl hr (by decide) rfl (takes_of (E := E) rfl rfl rfl rfl) (ja_cons rfl (je_var rfl (.inl rfl) rfl rfl) (ja_cons rfl (je_var rfl (.inl rfl) rfl rfl) (ja_cons rfl (je_var rfl (.inl rfl) rfl rfl) (ja_cons rfl (je_var rfl (.inl rfl) rfl rfl) (ja_cons rfl (je_var rfl (.inl rfl) rfl rfl) (ja_cons rfl (je_var rfl (.inl rfl) rfl rfl) ja_nil)))))) rfl) rfl) (jss_cons (js_setV (ps_set nd_ended_paper rfl (.inl rfl) (je_cal (ok_all_served Z B) rfl hr (by decide) rfl (takes_of (E := E) rfl rfl rfl rfl) (ja_cons rfl (je_var rfl (.inl rfl) rfl rfl) (ja_cons rfl (je_var rfl (.inl rfl) rfl rfl) (ja_cons rfl (je_var rfl (.inl rfl) rfl rfl) (ja_cons rfl (je_var rfl (.inl rfl) rfl rfl) (ja_cons rfl (je_var rfl (.inl rfl) rfl rfl) (ja_cons rfl (je_var rfl (.inl rfl) rfl rfl) ja_nil)))))) rfl) rfl)) (jss_cons (js_if (jt_cmp (o_isNot) (jr_of (je_fld (at_all_ended_at Z) rfl (jr_of (je_var rfl (.inl rfl) rfl rfl)) rfl)) (jr_of cst_non) rfl) (jss_one (js_ret (je_tup (ja_cons rfl cst_str (ja_cons rfl (je_fld (at_all_ended_at Z) rfl (jr_of (je_var rfl (.inl rfl) rfl rfl)) rfl) ja_nil))))) jss_nil) (jss_one (js_ret (je_tup (ja_cons rfl cst_str (ja_cons rfl (je_callT (c_tupR rfl) rfl (Z.free 16 rfl) PyProof.Rows.boot_tuple (jb_cons rfl (jr_of (je_lst (je_lc (own := [("run", 7), ("hall", 8)]) rfl nd_ended_paper (jiw_of (ji_enum rfl rfl (Z.free 131 rfl) (ja_cons rfl (je_fld (at_own_halls Z) rfl (jr_of (je_var rfl (.inl rfl) rfl rfl)) rfl) ja_nil) rfl)) (blkOk_by rfl) (fun _ _ _ _ _ => (jg_tup rfl rfl (jgs_cons (jg_name nd_ended_paper rfl (.inl rfl) (.inr rfl) (by decide)) (jgs_cons (jg_name nd_ended_paper rfl (.inl rfl) (.inr rfl) (by decide)) jgs_nil)))) (fun _ _ _ _ _ => (jts_one (jt_cmp (o_is) (jr_of (je_cal (ok_result Z B) rfl hr (by decide) rfl takes0 (ja_cons rfl (je_var rfl (.inl rfl) rfl rfl) ja_nil) rfl)) (jr_of cst_non) rfl))) (fun _ _ _ _ _ => (je_var rfl (.inl rfl) rfl rfl)) (fun _ => rfl)))) jb_nil) rfl) ja_nil))))))))
def N_Served_waits : List Str := ["self", "turn", "run", "path"]
theorem nd_Served_waits : N_Served_waits.Nodup := by decide +kernel
theorem sc_Served_waits : FnScope N_Served_waits ["self"] (defScope (mth 64 8)) := ⟨rfl, rfl, rfl, nd_Served_waits, rfl, by decide +kernel, by decide +kernel⟩
def b_Served_waits : DS := dRet (dLst (dLcX (dFld [5] "served_rows" (dVar 0)) (gT 3 (gsC (gN 1) (gsC (gN 2) (gsC (gN 3) (gs0))))) (dYes) (dOp pSub (dOp pSub (dVar 1) (dOp pGetN (dFld [5] "came_at" (dVar 0)) (dTup (dCons (dVar 2) (dCons (dVar 3) (dNil)))))) (dCst (.int 1))) [1, 2, 3]))
def f_Served_waits : List D → M D := dFn 1 N_Served_waits.length b_Served_waits
theorem ok_Served_waits (Z : Zf G mg fa fn nmt cls) (B : Tbs G mg base tfs) : MCal P G.w G mg base 5 "waits" 1 1 ["self"] f_Served_waits := by
  refine mcal_of (k := 0) (N := N_Served_waits) (d := b_Served_waits) Z 67 133 105 (st := mth 64 8) (by rfl) (by rfl) (by rfl) (by rfl) sc_Served_waits (by rfl) (fun _ _ _ _ _ _ us hl => match us, hl with | [_], _ => by rfl) fun f cdv A outer s H E hr => ?_
  exact (jss_one (js_ret (je_lst (je_lcX (own := [("turn", 1), ("run", 2), ("path", 3)]) rfl nd_Served_waits (ji_X rfl (je_fld (at_served_rows Z) rfl (jr_of (je_var rfl (.inr (.inl rfl)) rfl rfl)) rfl)) (blkOk_by rfl) (fun _ _ _ _ _ => (jg_tup rfl rfl (jgs_cons (jg_name nd_Served_waits rfl (.inl rfl) (.inr rfl) (by decide)) (jgs_cons (jg_name nd_Served_waits rfl (.inl rfl) (.inr rfl) (by decide)) (jgs_cons (jg_name nd_Served_waits rfl (.inl rfl) (.inr rfl) (by decide)) jgs_nil))))) (fun _ _ _ _ _ => jts_nil) (fun _ _ _ _ _ => (je_op (o_sub) (jr_of (je_op (o_sub) (jr_of (je_var rfl (.inl rfl) rfl rfl)) (jr_of (je_nget rfl rfl (huR hr) (je_fld (at_came_at Z) rfl (jr_of (je_var rfl (.inr (.inl rfl)) rfl rfl)) rfl) (je_tup (ja_cons rfl (je_var rfl (.inl rfl) rfl rfl) (ja_cons rfl (je_var rfl (.inl rfl) rfl rfl) ja_nil))) (fun _ _ => rfl))))) (jr_of cst_int))) (fun _ => rfl)))))
def N_longest_wait : List Str := ["machines", "runs", "world", "hands", "turns", "way"]
theorem nd_longest_wait : N_longest_wait.Nodup := by decide +kernel
theorem sc_longest_wait : FnScope N_longest_wait ["machines", "runs", "world", "hands", "turns", "way"] (defScope (top 74)) := ⟨rfl, rfl, rfl, nd_longest_wait, rfl, by decide +kernel, by decide +kernel⟩
def b_longest_wait : DS := dSeq (dDrop (dCall 6 f_need_all (dCons (dVar 0) (dCons (dVar 1) (dCons (dVar 2) (dCons (dVar 3) (dCons (dVar 4) (dCons (dVar 5) (dNil))))))))) (dBad)
def f_longest_wait : List D → M D := dFn 6 N_longest_wait.length b_longest_wait
theorem ok_longest_wait (Z : Zf G mg fa fn nmt cls) (B : Tbs G mg base tfs) : Callee P G.w G mg base "longest_wait" 35 6 ["machines", "runs", "world", "hands", "turns", "way"] f_longest_wait := by
  refine callee_ofA (k := 34) (N := N_longest_wait) (d := b_longest_wait) Z 68 134 (st := top 74) (by rfl) (by rfl) sc_longest_wait (by rfl) (fun _ _ _ _ _ _ us hl => match us, hl with | [_, _, _, _, _, _], _ => by rfl) fun f cdv A outer s H E hr => ?_
  exact (jss_cons (js_drop (je_cal (ok_need_all Z B) rfl hr (by decide) rfl (takes_of (E := E) rfl rfl rfl rfl) (ja_cons rfl (je_var rfl (.inl rfl) rfl rfl) (ja_cons rfl (je_var rfl (.inl rfl) rfl rfl) (ja_cons rfl (je_var rfl (.inl rfl) rfl rfl) (ja_cons rfl (je_var rfl (.inl rfl) rfl rfl) (ja_cons rfl (je_var rfl (.inl rfl) rfl rfl) (ja_cons rfl (je_var rfl (.inl rfl) rfl rfl) ja_nil)))))) rfl) rfl) (jss_one js_bad))
def N__law_asked : List Str := ["machines", "runs", "world", "hands", "turns", "way", "number", "found"]
theorem nd__law_asked : N__law_asked.Nodup := by decide +kernel
theorem sc__law_asked : FnScope N__law_asked ["machines", "runs", "world", "hands", "turns", "way", "number"] (defScope (top 105)) := ⟨rfl, rfl, rfl, nd__law_asked, rfl, by decide +kernel, by decide +kernel⟩
def s__law_asked_0 : DS := dSet 7 (qO (dDisp (dCons (dTold em hs__law_met "told" (dCall 6 f_served (dCons (dVar 0) (dCons (dVar 1) (dCons (dVar 2) (dCons (dVar 3) (dCons (dVar 4) (dCons (dVar 5) (dNil))))))))) (dNil))))
def s__law_asked_1 : DS := dOwn 7 fApp (dTold em hs__law_met "told" (dCall 7 f_own_events (dCons (dVar 0) (dCons (dVar 1) (dCons (dVar 2) (dCons (dVar 3) (dCons (dVar 4) (dCons (dVar 5) (dCons (dVar 6) (dNil))))))))))
def s__law_asked_2 : DS := dOwn 7 fApp (dTold em hs__law_met "told" (dCall 6 f_ended_paper (dCons (dVar 0) (dCons (dVar 1) (dCons (dVar 2) (dCons (dVar 3) (dCons (dVar 4) (dCons (dVar 5) (dNil)))))))))
def s__law_asked_3 : DS := dOwn 7 fApp (dTold em hs__law_met "told" (dCall 6 f_longest_wait (dCons (dVar 0) (dCons (dVar 1) (dCons (dVar 2) (dCons (dVar 3) (dCons (dVar 4) (dCons (dVar 5) (dNil)))))))))
def s__law_asked_4 : DS := dFrz 7
def s__law_asked_5 : DS := dRet (dVar 7)
def r__law_asked_5 : DS := s__law_asked_5
def r__law_asked_4 : DS := dSeq s__law_asked_4 r__law_asked_5
def r__law_asked_3 : DS := dSeq s__law_asked_3 r__law_asked_4
def r__law_asked_2 : DS := dSeq s__law_asked_2 r__law_asked_3
def r__law_asked_1 : DS := dSeq s__law_asked_1 r__law_asked_2
def r__law_asked_0 : DS := dSeq s__law_asked_0 r__law_asked_1
def b__law_asked : DS := r__law_asked_0
def f__law_asked : List D → M D := dFn 7 N__law_asked.length b__law_asked
theorem ok__law_asked (Z : Zf G mg fa fn nmt cls) (B : Tbs G mg base tfs) : Callee P G.w G mg base "_law_asked" 39 7 ["machines", "runs", "world", "hands", "turns", "way", "number"] f__law_asked := by
  refine callee_ofL (k := 38) (N := N__law_asked) (d := b__law_asked) Z B 69 135 (st := top 105) (by decide) (by rfl) (by rfl) sc__law_asked (by rfl) (fun _ _ _ _ _ _ us hl => match us, hl with | [_, _, _, _, _, _, _], _ => by rfl) fun f cdv c0 T0 hc0 tb0 mt0 hu0 A outer s H E hr => ?_
  delta b__law_asked r__law_asked_0 s__law_asked_0 r__law_asked_1 s__law_asked_1 r__law_asked_2 s__law_asked_2 r__law_asked_3 s__law_asked_3 r__law_asked_4 s__law_asked_4 r__law_asked_5 s__law_asked_5
  exact (jss_cons (js_setO (ps_set nd__law_asked rfl (.inl rfl) (jl_disp (ja_cons rfl (je_told (k := 36) (td__law_met Z) rfl sc__law_met rfl (.inl rfl) rfl hr (by decide) rfl (em_ok Z) (fun Y hs hm => (.cons (Z.ads 0 "NoErrand" rfl) ((congrFun hm _).trans (Z.glo 51 rfl)) (gl_sc hs rfl) rfl (.cons (Z.ads 1 "BadThing" rfl) ((congrFun hm _).trans (Z.glo 22 rfl)) (gl_sc hs rfl) rfl (.cons (Z.ads 2 "BadNumber" rfl) ((congrFun hm _).trans (Z.glo 96 rfl)) (gl_sc hs rfl) rfl .nil)))) (fun _ => rfl) tb0 hc0 mt0 hu0 (LamX.lamS_by rfl) rfl (fun _ _ _ _ _ => by rfl) (fun A outer s H E f c0 hr => (je_cal (ok_served Z B) rfl hr (by decide) rfl (takes_of (E := E) rfl rfl rfl rfl) (ja_cons rfl (je_var rfl (.inr (.inr rfl)) rfl rfl) (ja_cons rfl (je_var rfl (.inr (.inr rfl)) rfl rfl) (ja_cons rfl (je_var rfl (.inr (.inr rfl)) rfl rfl) (ja_cons rfl (je_var rfl (.inr (.inr rfl)) rfl rfl) (ja_cons rfl (je_var rfl (.inr (.inr rfl)) rfl rfl) (ja_cons rfl (je_var rfl (.inr (.inr rfl)) rfl rfl) ja_nil)))))) rfl))) ja_nil)) rfl)) (jss_cons (js_app rfl rfl (.inl rfl) rfl rfl (je_told (k := 36) (td__law_met Z) rfl sc__law_met rfl (.inl rfl) rfl hr (by decide) rfl (em_ok Z) (fun Y hs hm => (.cons (Z.ads 0 "NoErrand" rfl) ((congrFun hm _).trans (Z.glo 51 rfl)) (gl_sc hs rfl) rfl (.cons (Z.ads 1 "BadThing" rfl) ((congrFun hm _).trans (Z.glo 22 rfl)) (gl_sc hs rfl) rfl (.cons (Z.ads 2 "BadNumber" rfl) ((congrFun hm _).trans (Z.glo 96 rfl)) (gl_sc hs rfl) rfl .nil)))) (fun _ => rfl) tb0 hc0 mt0 hu0 (LamX.lamS_by rfl) rfl (fun _ _ _ _ _ => by rfl) (fun A outer s H E f c0 hr => (je_cal (ok_own_events Z B) rfl hr (by decide) rfl (takes_of (E := E) rfl rfl rfl rfl) (ja_cons rfl (je_var rfl (.inr (.inr rfl)) rfl rfl) (ja_cons rfl (je_var rfl (.inr (.inr rfl)) rfl rfl) (ja_cons rfl (je_var rfl (.inr (.inr rfl)) rfl rfl) (ja_cons rfl (je_var rfl (.inr (.inr rfl)) rfl rfl) (ja_cons rfl (je_var rfl (.inr (.inr rfl)) rfl rfl) (ja_cons rfl (je_var rfl (.inr (.inr rfl)) rfl rfl) (ja_cons rfl (je_var rfl (.inr (.inr rfl)) rfl rfl) ja_nil))))))) rfl))) rfl rfl rfl rfl rfl) (jss_cons (js_app rfl rfl (.inl rfl) rfl rfl (je_told (k := 36) (td__law_met Z) rfl sc__law_met rfl (.inl rfl) rfl hr (by decide) rfl (em_ok Z) (fun Y hs hm => (.cons (Z.ads 0 "NoErrand" rfl) ((congrFun hm _).trans (Z.glo 51 rfl)) (gl_sc hs rfl) rfl (.cons (Z.ads 1 "BadThing" rfl) ((congrFun hm _).trans (Z.glo 22 rfl)) (gl_sc hs rfl) rfl (.cons (Z.ads 2 "BadNumber" rfl) ((congrFun hm _).trans (Z.glo 96 rfl)) (gl_sc hs rfl) rfl .nil)))) (fun _ => rfl) tb0 hc0 mt0 hu0 (LamX.lamS_by rfl) rfl (fun _ _ _ _ _ => by rfl) (fun A outer s H E f c0 hr => (je_cal (ok_ended_paper Z B) rfl hr (by decide) rfl (takes_of (E := E) rfl rfl rfl rfl) (ja_cons rfl (je_var rfl (.inr (.inr rfl)) rfl rfl) (ja_cons rfl (je_var rfl (.inr (.inr rfl)) rfl rfl) (ja_cons rfl (je_var rfl (.inr (.inr rfl)) rfl rfl) (ja_cons rfl (je_var rfl (.inr (.inr rfl)) rfl rfl) (ja_cons rfl (je_var rfl (.inr (.inr rfl)) rfl rfl) (ja_cons rfl (je_var rfl (.inr (.inr rfl)) rfl rfl) ja_nil)))))) rfl))) rfl rfl rfl rfl rfl) (jss_cons (js_app rfl rfl (.inl rfl) rfl rfl (je_told (k := 35) (td__law_met Z) rfl sc__law_met rfl (.inl rfl) rfl hr (by decide) rfl (em_ok Z) (fun Y hs hm => (.cons (Z.ads 0 "NoErrand" rfl) ((congrFun hm _).trans (Z.glo 51 rfl)) (gl_sc hs rfl) rfl (.cons (Z.ads 1 "BadThing" rfl) ((congrFun hm _).trans (Z.glo 22 rfl)) (gl_sc hs rfl) rfl (.cons (Z.ads 2 "BadNumber" rfl) ((congrFun hm _).trans (Z.glo 96 rfl)) (gl_sc hs rfl) rfl .nil)))) (fun _ => rfl) tb0 hc0 mt0 hu0 (LamX.lamS_by rfl) rfl (fun _ _ _ _ _ => by rfl) (fun A outer s H E f c0 hr => (je_cal (ok_longest_wait Z B) rfl hr (by decide) rfl (takes_of (E := E) rfl rfl rfl rfl) (ja_cons rfl (je_var rfl (.inr (.inr rfl)) rfl rfl) (ja_cons rfl (je_var rfl (.inr (.inr rfl)) rfl rfl) (ja_cons rfl (je_var rfl (.inr (.inr rfl)) rfl rfl) (ja_cons rfl (je_var rfl (.inr (.inr rfl)) rfl rfl) (ja_cons rfl (je_var rfl (.inr (.inr rfl)) rfl rfl) (ja_cons rfl (je_var rfl (.inr (.inr rfl)) rfl rfl) ja_nil)))))) rfl))) rfl rfl rfl rfl rfl) (jss_frz (jss_one (js_ret (je_var rfl (.inl rfl) rfl rfl))))))))
def N_blocks_of_programs : List Str := ["row"]
theorem nd_blocks_of_programs : N_blocks_of_programs.Nodup := by decide +kernel
theorem sc_blocks_of_programs : FnScope N_blocks_of_programs ["row"] (defScope (top 44)) := ⟨rfl, rfl, rfl, nd_blocks_of_programs, rfl, by decide +kernel, by decide +kernel⟩
def b_blocks_of_programs : DS := dSeq (dIfS (dTest (dOp pEq (dOp pIdx (dVar 0) (dCst (.int 0))) (dCst (.str "if")))) (dRet (dTup (dCons (dOp pIdx (dVar 0) (dCst (.int 2))) (dCons (dOp pIdx (dVar 0) (dCst (.int 3))) (dNil))))) (dNop)) (dSeq (dIfS (dTest (dOp pEq (dOp pIdx (dVar 0) (dCst (.int 0))) (dCst (.str "while")))) (dRet (dTup (dCons (dOp pIdx (dVar 0) (dCst (.int 2))) (dNil)))) (dNop)) (dSeq (dIfS (dTest (dOp pEq (dOp pIdx (dVar 0) (dCst (.int 0))) (dCst (.str "try")))) (dRet (dTup (dCons (dOp pIdx (dVar 0) (dCst (.int 1))) (dCons (dOp pIdx (dVar 0) (dCst (.int 3))) (dNil))))) (dNop)) (dSeq (dIfS (dTest (dOp pEq (dOp pIdx (dVar 0) (dCst (.int 0))) (dCst (.str "do")))) (dRet (dTup (dCons (dOp pIdx (dVar 0) (dCst (.int 1))) (dCons (dOp pIdx (dVar 0) (dCst (.int 2))) (dNil))))) (dNop)) (dRet (dTup (dNil))))))
def f_blocks_of_programs : List D → M D := dFn 1 N_blocks_of_programs.length b_blocks_of_programs
theorem ok_blocks_of_programs (Z : Zf G mg fa fn nmt cls) (B : Tbs G mg base tfs) : Callee P G.w G mg base "blocks_of_programs" 1 1 ["row"] f_blocks_of_programs := by
  refine callee_ofA (k := 0) (N := N_blocks_of_programs) (d := b_blocks_of_programs) Z 70 136 (st := top 44) (by rfl) (by rfl) sc_blocks_of_programs (by rfl) (fun _ _ _ _ _ _ us hl => match us, hl with | [_], _ => by rfl) fun f cdv A outer s H E hr => ?_
  exact (jss_cons (js_if (jt_cmp (o_eq rfl (huR hr)) (jr_of (je_ix (i_idx rfl) (jr_of (je_var rfl (.inl rfl) rfl rfl)) (jr_of cst_int) rfl)) (jr_of cst_str) rfl) (jss_one (js_ret (je_tup (ja_cons rfl (je_ix (i_idx rfl) (jr_of (je_var rfl (.inl rfl) rfl rfl)) (jr_of cst_int) rfl) (ja_cons rfl (je_ix (i_idx rfl) (jr_of (je_var rfl (.inl rfl) rfl rfl)) (jr_of cst_int) rfl) ja_nil))))) jss_nil) (jss_cons (js_if (jt_cmp (o_eq rfl (huR hr)) (jr_of (je_ix (i_idx rfl) (jr_of (je_var rfl (.inl rfl) rfl rfl)) (jr_of cst_int) rfl)) (jr_of cst_str) rfl) (jss_one (js_ret (je_tup (ja_cons rfl (je_ix (i_idx rfl) (jr_of (je_var rfl (.inl rfl) rfl rfl)) (jr_of cst_int) rfl) ja_nil)))) jss_nil) (jss_cons (js_if (jt_cmp (o_eq rfl (huR hr)) (jr_of (je_ix (i_idx rfl) (jr_of (je_var rfl (.inl rfl) rfl rfl)) (jr_of cst_int) rfl)) (jr_of cst_str) rfl) (jss_one (js_ret (je_tup (ja_cons rfl (je_ix (i_idx rfl) (jr_of (je_var rfl (.inl rfl) rfl rfl)) (jr_of cst_int) rfl) (ja_cons rfl (je_ix (i_idx rfl) (jr_of (je_var rfl (.inl rfl) rfl rfl)) (jr_of cst_int) rfl) ja_nil))))) jss_nil) (jss_cons (js_if (jt_cmp (o_eq rfl (huR hr)) (jr_of (je_ix (i_idx rfl) (jr_of (je_var rfl (.inl rfl) rfl rfl)) (jr_of cst_int) rfl)) (jr_of cst_str) rfl) (jss_one (js_ret (je_tup (ja_cons rfl (je_ix (i_idx rfl) (jr_of (je_var rfl (.inl rfl) rfl rfl)) (jr_of cst_int) rfl) (ja_cons rfl (je_ix (i_idx rfl) (jr_of (je_var rfl (.inl rfl) rfl rfl)) (jr_of cst_int) rfl) ja_nil))))) jss_nil) (jss_one (js_ret (je_tup ja_nil)))))))
abbrev K_names_in_worth : Nat := 1
def N_names_in_worth : List Str := ["one"]
theorem nd_names_in_worth : N_names_in_worth.Nodup := by decide +kernel
theorem sc_names_in_worth : FnScope N_names_in_worth ["one"] (defScope (top 46)) := ⟨rfl, rfl, rfl, nd_names_in_worth, rfl, by decide +kernel, by decide +kernel⟩
def b_names_in_worth (rec : Nat → List D → M D) : DS := dSeq (dIfS (dTest (dPr pIsi (dCons (dVar 0) (dCons (dCst (.ty "str")) (dNil))))) (dRet (dLst (dDisp (dCons (dVar 0) (dNil))))) (dNop)) (dSeq (dIfS (dTest (dPr pIsi (dCons (dVar 0) (dCons (dCst (.ty "tuple")) (dNil))))) (dRet (dOp pAdd (dCall 1 (rec 0) (dCons (dOp pIdx (dVar 0) (dCst (.int 1))) (dNil))) (dCall 1 (rec 0) (dCons (dOp pIdx (dVar 0) (dCst (.int 2))) (dNil))))) (dNop)) (dRet (dLst (dDisp (dNil)))))
def r_names_in_worth : Nat → Nat → List D → M D
  | 0, _ => fun _ _ => .bad
  | j + 1, 0 => dFn 1 N_names_in_worth.length (b_names_in_worth (r_names_in_worth j))
  | _ + 1, _ => fun _ _ => .bad
def f_names_in_worth : List D → M D := r_names_in_worth 12 0
theorem okb_names_in_worth (Z : Zf G mg fa fn nmt cls) (B : Tbs G mg base tfs) {j : Nat} {rec : Nat → List D → M D} (h0 : Callee P G.w G mg base "names_in_worth" (K_names_in_worth + j) 1 ["one"] (rec 0)) : Callee P G.w G mg base "names_in_worth" (K_names_in_worth + j + 1) 1 ["one"] (dFn 1 N_names_in_worth.length (b_names_in_worth rec)) := by
  refine callee_ofA (k := K_names_in_worth + j) (N := N_names_in_worth) (d := b_names_in_worth rec) Z 71 137 (st := top 46) (by rfl) (by rfl) sc_names_in_worth (by rfl) (fun _ _ _ _ _ _ us hl => match us, hl with | [_], _ => by rfl) fun f cdv A outer s H E hr => ?_
  exact (jss_cons (js_if (jt_val (jr_of (je_callB (c_isi rfl) rfl (Z.free 8 rfl) PyProof.Rows.boot_isinstance (jb_cons rfl (jr_of (je_var rfl (.inl rfl) rfl rfl)) (jb_cons rfl (jr_of (je_ty rfl (Z.free 12 rfl) PyProof.Rows.boot_str (by decide) (by decide))) jb_nil)) rfl)) rfl) (jss_one (js_ret (je_lst (jl_disp (ja_cons rfl (je_var rfl (.inl rfl) rfl rfl) ja_nil))))) jss_nil) (jss_cons (js_if (jt_val (jr_of (je_callB (c_isi rfl) rfl (Z.free 8 rfl) PyProof.Rows.boot_isinstance (jb_cons rfl (jr_of (je_var rfl (.inl rfl) rfl rfl)) (jb_cons rfl (jr_of (je_ty rfl (Z.free 16 rfl) PyProof.Rows.boot_tuple (by decide) (by decide))) jb_nil)) rfl)) rfl) (jss_one (js_ret (je_op (o_add rfl) (jr_of (je_cal h0 rfl hr (Nat.le_refl _) rfl (takes_of (E := E) rfl rfl rfl rfl) (ja_cons rfl (je_ix (i_idx rfl) (jr_of (je_var rfl (.inl rfl) rfl rfl)) (jr_of cst_int) rfl) ja_nil) rfl)) (jr_of (je_cal h0 rfl hr (Nat.le_refl _) rfl (takes_of (E := E) rfl rfl rfl rfl) (ja_cons rfl (je_ix (i_idx rfl) (jr_of (je_var rfl (.inl rfl) rfl rfl)) (jr_of cst_int) rfl) ja_nil) rfl))))) jss_nil) (jss_one (js_ret (je_lst (jl_disp ja_nil))))))
theorem okr_names_in_worth (Z : Zf G mg fa fn nmt cls) (B : Tbs G mg base tfs) : ∀ j : Nat, (Callee P G.w G mg base "names_in_worth" (K_names_in_worth + j) 1 ["one"] (r_names_in_worth j 0))
  | 0 => (callee_badA (k := 0) (N := N_names_in_worth) Z 71 137 (st := top 46) (by rfl) (by rfl) sc_names_in_worth (by rfl) (fun _ _ _ _ _ _ us hl => match us, hl with | [_], _ => by rfl))
  | j + 1 => by
    have h0 := okr_names_in_worth Z B j
    exact okb_names_in_worth Z B h0
theorem ok_names_in_worth (Z : Zf G mg fa fn nmt cls) (B : Tbs G mg base tfs) : Callee P G.w G mg base "names_in_worth" 13 1 ["one"] f_names_in_worth := (okr_names_in_worth Z B 12)
def N_names_in_branch : List Str := ["branch", "found", "one"]
theorem nd_names_in_branch : N_names_in_branch.Nodup := by decide +kernel
theorem sc_names_in_branch : FnScope N_names_in_branch ["branch"] (defScope (top 47)) := ⟨rfl, rfl, rfl, nd_names_in_branch, rfl, by decide +kernel, by decide +kernel⟩
def b_names_in_branch : DS := dSeq (dSet 1 (qO (dDisp (dNil)))) (dSeq (dIfS (dTest (dOp pIsNot (dOp pIdx (dVar 0) (dCst (.int 0))) (dCst .non))) (dOwn 1 fApp (dOp pIdx (dVar 0) (dCst (.int 0)))) (dNop)) (dSeq (dIfS (dTest (dOp pEq (dOp pIdx (dVar 0) (dCst (.int 1))) (dCst (.str "ask")))) (dRet (dOp pAdd (dRd 1) (dCall 1 f_names_in_worth (dCons (dOp pIdx (dVar 0) (dCst (.int 3))) (dNil))))) (dNop)) (dSeq (dFor (dItems (dOp pIdx (dVar 0) (dCst (.int 3)))) (gN 2) (dOwn 1 fExt (dCall 1 f_names_in_worth (dCons (dVar 2) (dNil))))) (dSeq (dFrz 1) (dRet (dVar 1))))))
def f_names_in_branch : List D → M D := dFn 1 N_names_in_branch.length b_names_in_branch
theorem ok_names_in_branch (Z : Zf G mg fa fn nmt cls) (B : Tbs G mg base tfs) : Callee P G.w G mg base "names_in_branch" 14 1 ["branch"] f_names_in_branch := by
  refine callee_ofA (k := 13) (N := N_names_in_branch) (d := b_names_in_branch) Z 72 138 (st := top 47) (by rfl) (by rfl) sc_names_in_branch (by rfl) (fun _ _ _ _ _ _ us hl => match us, hl with | [_], _ => by rfl) fun f cdv A outer s H E hr => ?_
  exact (jss_cons (js_setO (ps_set nd_names_in_branch rfl (.inl rfl) (jl_disp ja_nil) rfl)) (jss_cons (js_if (jt_cmp (o_isNot) (jr_of (je_ix (i_idx rfl) (jr_of (je_var rfl (.inl rfl) rfl rfl)) (jr_of cst_int) rfl)) (jr_of cst_non) rfl) (jss_one (js_app rfl rfl (.inl rfl) rfl rfl (je_ix (i_idx rfl) (jr_of (je_var rfl (.inl rfl) rfl rfl)) (jr_of cst_int) rfl) rfl rfl rfl rfl rfl)) jss_nil) (jss_cons (js_if (jt_cmp (o_eq rfl (huR hr)) (jr_of (je_ix (i_idx rfl) (jr_of (je_var rfl (.inl rfl) rfl rfl)) (jr_of cst_int) rfl)) (jr_of cst_str) rfl) (jss_one (js_ret (je_op (o_add rfl) (jr_rd rfl (.inl rfl) rfl rfl) (jr_of (je_cal (ok_names_in_worth Z B) rfl hr (by decide) rfl (takes_of (E := E) rfl rfl rfl rfl) (ja_cons rfl (je_ix (i_idx rfl) (jr_of (je_var rfl (.inl rfl) rfl rfl)) (jr_of cst_int) rfl) ja_nil) rfl))))) jss_nil) (jss_cons (js_for (vs := [0, 1, 2]) (passes_of rfl) rfl (ji_val rfl (je_ix (i_idx rfl) (jr_of (je_var rfl (.inl rfl) rfl rfl)) (jr_of cst_int) rfl)) (jg_name nd_names_in_branch rfl (.inl rfl) (.inl rfl) (by decide)) (jss_one (js_ext rfl rfl (.inl rfl) rfl rfl (je_cal (ok_names_in_worth Z B) rfl hr (by decide) rfl (takes_of (E := E) rfl rfl rfl rfl) (ja_cons rfl (je_var rfl (.inl rfl) rfl rfl) ja_nil) rfl) rfl rfl rfl rfl rfl)) (fun _ => rfl)) (jss_frz (jss_one (js_ret (je_var rfl (.inl rfl) rfl rfl))))))))
abbrev K_names_in_block : Nat := 15
def N_names_in_block : List Str := ["block", "found", "row", "branch", "inner"]
theorem nd_names_in_block : N_names_in_block.Nodup := by decide +kernel
theorem sc_names_in_block : FnScope N_names_in_block ["block"] (defScope (top 48)) := ⟨rfl, rfl, rfl, nd_names_in_block, rfl, by decide +kernel, by decide +kernel⟩
def b_names_in_block (rec : Nat → List D → M D) : DS := dSeq (dSet 1 (qO (dDisp (dNil)))) (dSeq (dFor (dItems (dVar 0)) (gN 2) (dSeq (dIfS (dTest (dOp pEq (dOp pIdx (dVar 2) (dCst (.int 0))) (dCst (.str "set")))) (dSeq (dOwn 1 fApp (dOp pIdx (dVar 2) (dCst (.int 1)))) (dOwn 1 fExt (dCall 1 f_names_in_worth (dCons (dOp pIdx (dVar 2) (dCst (.int 2))) (dNil))))) (dNop)) (dSeq (dIfS (dTest (dOp pIn (dOp pIdx (dVar 2) (dCst (.int 0))) (dCst (.tup (t_WITH_WORTH.map kD))))) (dOwn 1 fExt (dCall 1 f_names_in_worth (dCons (dOp pIdx (dVar 2) (dCst (.int 1))) (dNil)))) (dNop)) (dSeq (dIfS (dAnd (dTest (dOp pEq (dOp pIdx (dVar 2) (dCst (.int 0))) (dCst (.str "try")))) (dTest (dOp pIsNot (dOp pIdx (dVar 2) (dCst (.int 2))) (dCst .non)))) (dOwn 1 fApp (dOp pIdx (dVar 2) (dCst (.int 2)))) (dNop)) (dSeq (dIfS (dTest (dOp pEq (dOp pIdx (dVar 2) (dCst (.int 0))) (dCst (.str "want")))) (dFor (dItems (dOp pIdx (dVar 2) (dCst (.int 2)))) (gN 3) (dOwn 1 fExt (dCall 1 f_names_in_branch (dCons (dVar 3) (dNil))))) (dNop)) (dFor (dItems (dCall 1 f_blocks_of_programs (dCons (dVar 2) (dNil)))) (gN 4) (dOwn 1 fExt (dCall 1 (rec 0) (dCons (dVar 4) (dNil)))))))))) (dSeq (dFrz 1) (dRet (dVar 1))))
def r_names_in_block : Nat → Nat → List D → M D
  | 0, _ => fun _ _ => .bad
  | j + 1, 0 => dFn 1 N_names_in_block.length (b_names_in_block (r_names_in_block j))
  | _ + 1, _ => fun _ _ => .bad
def f_names_in_block : List D → M D := r_names_in_block 12 0
theorem okb_names_in_block (Z : Zf G mg fa fn nmt cls) (B : Tbs G mg base tfs) {j : Nat} {rec : Nat → List D → M D} (h0 : Callee P G.w G mg base "names_in_block" (K_names_in_block + j) 1 ["block"] (rec 0)) : Callee P G.w G mg base "names_in_block" (K_names_in_block + j + 1) 1 ["block"] (dFn 1 N_names_in_block.length (b_names_in_block rec)) := by
  refine callee_ofA (k := K_names_in_block + j) (N := N_names_in_block) (d := b_names_in_block rec) Z 73 140 (st := top 48) (by rfl) (by rfl) sc_names_in_block (by rfl) (fun _ _ _ _ _ _ us hl => match us, hl with | [_], _ => by rfl) fun f cdv A outer s H E hr => ?_
  exact (jss_cons (js_setO (ps_set nd_names_in_block rfl (.inl rfl) (jl_disp ja_nil) rfl)) (jss_cons (js_for (vs := [0, 1, 2, 3, 4]) (passes_of rfl) rfl (ji_val rfl (je_var rfl (.inl rfl) rfl rfl)) (jg_name nd_names_in_block rfl (.inl rfl) (.inl rfl) (by decide)) (jss_cons (js_if (jt_cmp (o_eq rfl (huR hr)) (jr_of (je_ix (i_idx rfl) (jr_of (je_var rfl (.inl rfl) rfl rfl)) (jr_of cst_int) rfl)) (jr_of cst_str) rfl) (jss_cons (js_app rfl rfl (.inl rfl) rfl rfl (je_ix (i_idx rfl) (jr_of (je_var rfl (.inl rfl) rfl rfl)) (jr_of cst_int) rfl) rfl rfl rfl rfl rfl) (jss_one (js_ext rfl rfl (.inl rfl) rfl rfl (je_cal (ok_names_in_worth Z B) rfl hr (Nat.le_trans (by decide : 13 ≤ K_names_in_block) (Nat.le_add_right _ _)) rfl (takes_of (E := E) rfl rfl rfl rfl) (ja_cons rfl (je_ix (i_idx rfl) (jr_of (je_var rfl (.inl rfl) rfl rfl)) (jr_of cst_int) rfl) ja_nil) rfl) rfl rfl rfl rfl rfl))) jss_nil) (jss_cons (js_if (jt_cmp (o_in rfl (huR hr)) (jr_of (je_ix (i_idx rfl) (jr_of (je_var rfl (.inl rfl) rfl rfl)) (jr_of cst_int) rfl)) (jr_of (je_gtup Z 139 1 rfl rfl rfl)) rfl) (jss_one (js_ext rfl rfl (.inl rfl) rfl rfl (je_cal (ok_names_in_worth Z B) rfl hr (Nat.le_trans (by decide : 13 ≤ K_names_in_block) (Nat.le_add_right _ _)) rfl (takes_of (E := E) rfl rfl rfl rfl) (ja_cons rfl (je_ix (i_idx rfl) (jr_of (je_var rfl (.inl rfl) rfl rfl)) (jr_of cst_int) rfl) ja_nil) rfl) rfl rfl rfl rfl rfl)) jss_nil) (jss_cons (js_if (PW.pt (jw_and (jt_cmp (o_eq rfl (huR hr)) (jr_of (je_ix (i_idx rfl) (jr_of (je_var rfl (.inl rfl) rfl rfl)) (jr_of cst_int) rfl)) (jr_of cst_str) rfl) (jw1_and (jt_cmp (o_isNot) (jr_of (je_ix (i_idx rfl) (jr_of (je_var rfl (.inl rfl) rfl rfl)) (jr_of cst_int) rfl)) (jr_of cst_non) rfl)))) (jss_one (js_app rfl rfl (.inl rfl) rfl rfl (je_ix (i_idx rfl) (jr_of (je_var rfl (.inl rfl) rfl rfl)) (jr_of cst_int) rfl) rfl rfl rfl rfl rfl)) jss_nil) (jss_cons (js_if (jt_cmp (o_eq rfl (huR hr)) (jr_of (je_ix (i_idx rfl) (jr_of (je_var rfl (.inl rfl) rfl rfl)) (jr_of cst_int) rfl)) (jr_of cst_str) rfl) (jss_one (js_for (vs := [0, 1, 2, 3, 4]) (passes_of rfl) rfl (ji_val rfl (je_ix (i_idx rfl) (jr_of (je_var rfl (.inl rfl) rfl rfl)) (jr_of cst_int) rfl)) (jg_name nd_names_in_block rfl (.inl rfl) (.inl rfl) (by decide)) (jss_one (js_ext rfl rfl (.inl rfl) rfl rfl (je_cal (ok_names_in_branch Z B) rfl hr (Nat.le_trans (by decide : 14 ≤ K_names_in_block) (Nat.le_add_right _ _)) rfl (takes_of (E := E) rfl rfl rfl rfl) (ja_cons rfl (je_var rfl (.inl rfl) rfl rfl) ja_nil) rfl) rfl rfl rfl rfl rfl)) (fun _ => rfl))) jss_nil) (jss_one (js_for (vs := [0, 1, 2, 3, 4]) (passes_of rfl) rfl (ji_val rfl (je_cal (ok_blocks_of_programs Z B) rfl hr (Nat.le_trans (by decide : 1 ≤ K_names_in_block) (Nat.le_add_right _ _)) rfl (takes_of (E := E) rfl rfl rfl rfl) (ja_cons rfl (je_var rfl (.inl rfl) rfl rfl) ja_nil) rfl)) (jg_name nd_names_in_block rfl (.inl rfl) (.inl rfl) (by decide)) (jss_one (js_ext rfl rfl (.inl rfl) rfl rfl (je_cal h0 rfl hr (Nat.le_refl _) rfl (takes_of (E := E) rfl rfl rfl rfl) (ja_cons rfl (je_var rfl (.inl rfl) rfl rfl) ja_nil) rfl) rfl rfl rfl rfl rfl)) (fun _ => rfl))))))) (fun _ => rfl)) (jss_frz (jss_one (js_ret (je_var rfl (.inl rfl) rfl rfl))))))
theorem okr_names_in_block (Z : Zf G mg fa fn nmt cls) (B : Tbs G mg base tfs) : ∀ j : Nat, (Callee P G.w G mg base "names_in_block" (K_names_in_block + j) 1 ["block"] (r_names_in_block j 0))
  | 0 => (callee_badA (k := 14) (N := N_names_in_block) Z 73 140 (st := top 48) (by rfl) (by rfl) sc_names_in_block (by rfl) (fun _ _ _ _ _ _ us hl => match us, hl with | [_], _ => by rfl))
  | j + 1 => by
    have h0 := okr_names_in_block Z B j
    exact okb_names_in_block Z B h0
theorem ok_names_in_block (Z : Zf G mg fa fn nmt cls) (B : Tbs G mg base tfs) : Callee P G.w G mg base "names_in_block" 27 1 ["block"] f_names_in_block := (okr_names_in_block Z B 12)
def N_names_of : List Str := ["errand"]
theorem nd_names_of : N_names_of.Nodup := by decide +kernel
theorem sc_names_of : FnScope N_names_of ["errand"] (defScope (top 49)) := ⟨rfl, rfl, rfl, nd_names_of, rfl, by decide +kernel, by decide +kernel⟩
def b_names_of : DS := dRet (dPr pTupR (dCons (dLst (dSortSetS (dOp pAdd (dLst (dPrL qListS (dCons (dOp pIdx (dVar 0) (dCst (.int 1))) (dNil)))) (dCall 1 f_names_in_block (dCons (dOp pIdx (dVar 0) (dCst (.int 2))) (dNil)))))) (dNil)))
def f_names_of : List D → M D := dFn 1 N_names_of.length b_names_of
theorem ok_names_of (Z : Zf G mg fa fn nmt cls) (B : Tbs G mg base tfs) : Callee P G.w G mg base "names_of" 28 1 ["errand"] f_names_of := by
  refine callee_ofA (k := 27) (N := N_names_of) (d := b_names_of) Z 74 142 (st := top 49) (by rfl) (by rfl) sc_names_of (by rfl) (fun _ _ _ _ _ _ us hl => match us, hl with | [_], _ => by rfl) fun f cdv A outer s H E hr => ?_
  exact (jss_one (js_ret (je_callT (c_tupR rfl) rfl (Z.free 16 rfl) PyProof.Rows.boot_tuple (jb_cons rfl (jr_of (je_lst (jl_sortSetS rfl rfl rfl (Z.free 39 rfl) rfl (Z.free 141 rfl) (je_op (o_add rfl) (jr_of (je_lst (jl_listS rfl rfl (Z.free 38 rfl) (jb_cons rfl (jr_of (je_ix (i_idx rfl) (jr_of (je_var rfl (.inl rfl) rfl rfl)) (jr_of cst_int) rfl)) jb_nil) rfl))) (jr_of (je_cal (ok_names_in_block Z B) rfl hr (by decide) rfl (takes_of (E := E) rfl rfl rfl rfl) (ja_cons rfl (je_ix (i_idx rfl) (jr_of (je_var rfl (.inl rfl) rfl rfl)) (jr_of cst_int) rfl) ja_nil) rfl))) rfl))) jb_nil) rfl)))
def N_blocks_of_places : List Str := ["row"]
theorem nd_blocks_of_places : N_blocks_of_places.Nodup := by decide +kernel
theorem sc_blocks_of_places : FnScope N_blocks_of_places ["row"] (defScope (top 77)) := ⟨rfl, rfl, rfl, nd_blocks_of_places, rfl, by decide +kernel, by decide +kernel⟩
def b_blocks_of_places : DS := dSeq (dIfS (dTest (dOp pEq (dOp pIdx (dVar 0) (dCst (.int 0))) (dCst (.str "if")))) (dRet (dTup (dCons (dOp pIdx (dVar 0) (dCst (.int 2))) (dCons (dOp pIdx (dVar 0) (dCst (.int 3))) (dNil))))) (dNop)) (dSeq (dIfS (dTest (dOp pEq (dOp pIdx (dVar 0) (dCst (.int 0))) (dCst (.str "while")))) (dRet (dTup (dCons (dOp pIdx (dVar 0) (dCst (.int 2))) (dNil)))) (dNop)) (dSeq (dIfS (dTest (dOp pEq (dOp pIdx (dVar 0) (dCst (.int 0))) (dCst (.str "try")))) (dRet (dTup (dCons (dOp pIdx (dVar 0) (dCst (.int 1))) (dCons (dOp pIdx (dVar 0) (dCst (.int 3))) (dNil))))) (dNop)) (dSeq (dIfS (dTest (dOp pEq (dOp pIdx (dVar 0) (dCst (.int 0))) (dCst (.str "do")))) (dRet (dTup (dCons (dOp pIdx (dVar 0) (dCst (.int 1))) (dCons (dOp pIdx (dVar 0) (dCst (.int 2))) (dNil))))) (dNop)) (dRet (dTup (dNil))))))
def f_blocks_of_places : List D → M D := dFn 1 N_blocks_of_places.length b_blocks_of_places
theorem ok_blocks_of_places (Z : Zf G mg fa fn nmt cls) (B : Tbs G mg base tfs) : Callee P G.w G mg base "blocks_of_places" 1 1 ["row"] f_blocks_of_places := by
  refine callee_ofA (k := 0) (N := N_blocks_of_places) (d := b_blocks_of_places) Z 75 143 (st := top 77) (by rfl) (by rfl) sc_blocks_of_places (by rfl) (fun _ _ _ _ _ _ us hl => match us, hl with | [_], _ => by rfl) fun f cdv A outer s H E hr => ?_
  exact (jss_cons (js_if (jt_cmp (o_eq rfl (huR hr)) (jr_of (je_ix (i_idx rfl) (jr_of (je_var rfl (.inl rfl) rfl rfl)) (jr_of cst_int) rfl)) (jr_of cst_str) rfl) (jss_one (js_ret (je_tup (ja_cons rfl (je_ix (i_idx rfl) (jr_of (je_var rfl (.inl rfl) rfl rfl)) (jr_of cst_int) rfl) (ja_cons rfl (je_ix (i_idx rfl) (jr_of (je_var rfl (.inl rfl) rfl rfl)) (jr_of cst_int) rfl) ja_nil))))) jss_nil) (jss_cons (js_if (jt_cmp (o_eq rfl (huR hr)) (jr_of (je_ix (i_idx rfl) (jr_of (je_var rfl (.inl rfl) rfl rfl)) (jr_of cst_int) rfl)) (jr_of cst_str) rfl) (jss_one (js_ret (je_tup (ja_cons rfl (je_ix (i_idx rfl) (jr_of (je_var rfl (.inl rfl) rfl rfl)) (jr_of cst_int) rfl) ja_nil)))) jss_nil) (jss_cons (js_if (jt_cmp (o_eq rfl (huR hr)) (jr_of (je_ix (i_idx rfl) (jr_of (je_var rfl (.inl rfl) rfl rfl)) (jr_of cst_int) rfl)) (jr_of cst_str) rfl) (jss_one (js_ret (je_tup (ja_cons rfl (je_ix (i_idx rfl) (jr_of (je_var rfl (.inl rfl) rfl rfl)) (jr_of cst_int) rfl) (ja_cons rfl (je_ix (i_idx rfl) (jr_of (je_var rfl (.inl rfl) rfl rfl)) (jr_of cst_int) rfl) ja_nil))))) jss_nil) (jss_cons (js_if (jt_cmp (o_eq rfl (huR hr)) (jr_of (je_ix (i_idx rfl) (jr_of (je_var rfl (.inl rfl) rfl rfl)) (jr_of cst_int) rfl)) (jr_of cst_str) rfl) (jss_one (js_ret (je_tup (ja_cons rfl (je_ix (i_idx rfl) (jr_of (je_var rfl (.inl rfl) rfl rfl)) (jr_of cst_int) rfl) (ja_cons rfl (je_ix (i_idx rfl) (jr_of (je_var rfl (.inl rfl) rfl rfl)) (jr_of cst_int) rfl) ja_nil))))) jss_nil) (jss_one (js_ret (je_tup ja_nil)))))))
abbrev K_put_dos : Nat := 2
def N_put_dos : List Str := ["block", "head", "found", "number", "row", "place", "side", "inner"]
theorem nd_put_dos : N_put_dos.Nodup := by decide +kernel
theorem sc_put_dos : FnScope N_put_dos ["block", "head", "found"] (defScope (top 88)) := ⟨rfl, rfl, rfl, nd_put_dos, rfl, by decide +kernel, by decide +kernel⟩
def b_put_dos (rec : Nat → List D → M D) : DS := dFor (dRg en1 (dCons (dVar 0) (dNil))) (gT 2 (gsC (gN 3) (gsC (gN 4) (gs0)))) (dSeq (dSet 5 (qV (dOp pAdd (dVar 1) (dTup (dCons (dVar 3) (dNil)))))) (dSeq (dIfS (dTest (dOp pEq (dOp pIdx (dVar 4) (dCst (.int 0))) (dCst (.str "do")))) (dAppR (dVar 2) (dVar 5)) (dNop)) (dFor (dRg en1 (dCons (dCall 1 f_blocks_of_places (dCons (dVar 4) (dNil))) (dNil))) (gT 2 (gsC (gN 6) (gsC (gN 7) (gs0)))) (dDrop (dCall 3 (rec 0) (dCons (dVar 7) (dCons (dOp pAdd (dVar 5) (dTup (dCons (dVar 6) (dNil)))) (dCons (dVar 2) (dNil)))))))))
def r_put_dos : Nat → Nat → List D → M D
  | 0, _ => fun _ _ => .bad
  | j + 1, 0 => dFn 3 N_put_dos.length (b_put_dos (r_put_dos j))
  | _ + 1, _ => fun _ _ => .bad
def f_put_dos : List D → M D := r_put_dos 12 0
theorem okb_put_dos (Z : Zf G mg fa fn nmt cls) (B : Tbs G mg base tfs) {j : Nat} {rec : Nat → List D → M D} (h0 : Callee P G.w G mg base "put_dos" (K_put_dos + j) 3 ["block", "head", "found"] (rec 0)) : Callee P G.w G mg base "put_dos" (K_put_dos + j + 1) 3 ["block", "head", "found"] (dFn 3 N_put_dos.length (b_put_dos rec)) := by
  refine callee_ofA (k := K_put_dos + j) (N := N_put_dos) (d := b_put_dos rec) Z 76 144 (st := top 88) (by rfl) (by rfl) sc_put_dos (by rfl) (fun _ _ _ _ _ _ us hl => match us, hl with | [_, _, _], _ => by rfl) fun f cdv A outer s H E hr => ?_
  exact (jss_one (js_for (vs := [0, 1, 2, 3, 4, 5, 6, 7]) (passes_of rfl) rfl (ji_enum rfl rfl (Z.free 131 rfl) (ja_cons rfl (je_var rfl (.inl rfl) rfl rfl) ja_nil) rfl) (jg_tup rfl rfl (jgs_cons (jg_name nd_put_dos rfl (.inl rfl) (.inl rfl) (by decide)) (jgs_cons (jg_name nd_put_dos rfl (.inl rfl) (.inl rfl) (by decide)) jgs_nil))) (jss_cons (js_setV (ps_set nd_put_dos rfl (.inl rfl) (je_op (o_add rfl) (jr_of (je_var rfl (.inl rfl) rfl rfl)) (jr_of (je_tup (ja_cons rfl (je_var rfl (.inl rfl) rfl rfl) ja_nil)))) rfl)) (jss_cons (js_if (jt_cmp (o_eq rfl (huR hr)) (jr_of (je_ix (i_idx rfl) (jr_of (je_var rfl (.inl rfl) rfl rfl)) (jr_of cst_int) rfl)) (jr_of cst_str) rfl) (jss_one (js_appR rfl (je_var rfl (.inl rfl) rfl rfl) (je_var rfl (.inl rfl) rfl rfl) rfl rfl rfl rfl rfl)) jss_nil) (jss_one (js_for (vs := [0, 1, 2, 3, 4, 5, 6, 7]) (passes_of rfl) rfl (ji_enum rfl rfl (Z.free 131 rfl) (ja_cons rfl (je_cal (ok_blocks_of_places Z B) rfl hr (Nat.le_trans (by decide : 1 ≤ K_put_dos) (Nat.le_add_right _ _)) rfl (takes_of (E := E) rfl rfl rfl rfl) (ja_cons rfl (je_var rfl (.inl rfl) rfl rfl) ja_nil) rfl) ja_nil) rfl) (jg_tup rfl rfl (jgs_cons (jg_name nd_put_dos rfl (.inl rfl) (.inl rfl) (by decide)) (jgs_cons (jg_name nd_put_dos rfl (.inl rfl) (.inl rfl) (by decide)) jgs_nil))) (jss_one (js_drop (je_cal h0 rfl hr (Nat.le_refl _) rfl (takes_of (E := E) rfl rfl rfl rfl) (ja_cons rfl (je_var rfl (.inl rfl) rfl rfl) (ja_cons rfl (je_op (o_add rfl) (jr_of (je_var rfl (.inl rfl) rfl rfl)) (jr_of (je_tup (ja_cons rfl (je_var rfl (.inl rfl) rfl rfl) ja_nil)))) (ja_cons rfl (je_var rfl (.inl rfl) rfl rfl) ja_nil))) rfl) rfl)) (fun _ => rfl))))) (fun _ => rfl)))
theorem okr_put_dos (Z : Zf G mg fa fn nmt cls) (B : Tbs G mg base tfs) : ∀ j : Nat, (Callee P G.w G mg base "put_dos" (K_put_dos + j) 3 ["block", "head", "found"] (r_put_dos j 0))
  | 0 => (callee_badA (k := 1) (N := N_put_dos) Z 76 144 (st := top 88) (by rfl) (by rfl) sc_put_dos (by rfl) (fun _ _ _ _ _ _ us hl => match us, hl with | [_, _, _], _ => by rfl))
  | j + 1 => by
    have h0 := okr_put_dos Z B j
    exact okb_put_dos Z B h0
theorem ok_put_dos (Z : Zf G mg fa fn nmt cls) (B : Tbs G mg base tfs) : Callee P G.w G mg base "put_dos" 14 3 ["block", "head", "found"] f_put_dos := (okr_put_dos Z B 12)
def N_numbers_of : List Str := ["errand", "found", "number", "place"]
theorem nd_numbers_of : N_numbers_of.Nodup := by decide +kernel
theorem sc_numbers_of : FnScope N_numbers_of ["errand"] (defScope (top 89)) := ⟨rfl, rfl, rfl, nd_numbers_of, rfl, by decide +kernel, by decide +kernel⟩
def b_numbers_of : DS := dSeq (dSet 1 (qV (dLst (dDisp (dNil))))) (dSeq (dDrop (dCall 3 f_put_dos (dCons (dOp pIdx (dVar 0) (dCst (.int 2))) (dCons (dTup (dNil)) (dCons (dVar 1) (dNil)))))) (dRet (dPr pTupP (dCons (dLst (dLc (dRg en1 (dCons (dVar 1) (dNil))) (gT 2 (gsC (gN 2) (gsC (gN 3) (gs0)))) (dYes) (dTup (dCons (dVar 3) (dCons (dVar 2) (dNil)))) [2, 3])) (dNil)))))
def f_numbers_of : List D → M D := dFn 1 N_numbers_of.length b_numbers_of
theorem ok_numbers_of (Z : Zf G mg fa fn nmt cls) (B : Tbs G mg base tfs) : Callee P G.w G mg base "numbers_of" 15 1 ["errand"] f_numbers_of := by
  refine callee_ofA (k := 14) (N := N_numbers_of) (d := b_numbers_of) Z 77 145 (st := top 89) (by rfl) (by rfl) sc_numbers_of (by rfl) (fun _ _ _ _ _ _ us hl => match us, hl with | [_], _ => by rfl) fun f cdv A outer s H E hr => ?_
  exact (jss_cons (js_setV (ps_set nd_numbers_of rfl (.inl rfl) (je_lst (jl_disp ja_nil)) rfl)) (jss_cons (js_drop (je_cal (ok_put_dos Z B) rfl hr (by decide) rfl (takes_of (E := E) rfl rfl rfl rfl) (ja_cons rfl (je_ix (i_idx rfl) (jr_of (je_var rfl (.inl rfl) rfl rfl)) (jr_of cst_int) rfl) (ja_cons rfl (je_tup ja_nil) (ja_cons rfl (je_var rfl (.inl rfl) rfl rfl) ja_nil))) rfl) rfl) (jss_one (js_ret (je_callT (c_tupP rfl) rfl (Z.free 16 rfl) PyProof.Rows.boot_tuple (jb_cons rfl (jr_of (je_lst (je_lc (own := [("number", 2), ("place", 3)]) rfl nd_numbers_of (jiw_of (ji_enum rfl rfl (Z.free 131 rfl) (ja_cons rfl (je_var rfl (.inl rfl) rfl rfl) ja_nil) rfl)) (blkOk_by rfl) (fun _ _ _ _ _ => (jg_tup rfl rfl (jgs_cons (jg_name nd_numbers_of rfl (.inl rfl) (.inr rfl) (by decide)) (jgs_cons (jg_name nd_numbers_of rfl (.inl rfl) (.inr rfl) (by decide)) jgs_nil)))) (fun _ _ _ _ _ => jts_nil) (fun _ _ _ _ _ => (je_tup (ja_cons rfl (je_var rfl (.inl rfl) rfl rfl) (ja_cons rfl (je_var rfl (.inl rfl) rfl rfl) ja_nil)))) (fun _ => rfl)))) jb_nil) rfl)))))
def N_slots_for : List Str := ["errand", "others", "dos", "found", "key", "name", "place", "number"]
theorem nd_slots_for : N_slots_for.Nodup := by decide +kernel
theorem sc_slots_for : FnScope N_slots_for ["errand"] (defScope (top 97)) := ⟨rfl, rfl, rfl, nd_slots_for, rfl, by decide +kernel, by decide +kernel⟩
def b_slots_for : DS := dSeq (dSet 1 (qV (dLst (dLc (dItems (dCall 1 f_names_of (dCons (dVar 0) (dNil)))) (gN 5) (dTest (dOp pNotIn (dVar 5) (dOp pIdx (dVar 0) (dCst (.int 1))))) (dVar 5) [5])))) (dSeq (dSet 2 (qV (dLst (dLc (dItems (dCall 1 f_numbers_of (dCons (dVar 0) (dNil)))) (gT 2 (gsC (gN 6) (gsC (gN 7) (gs0)))) (dYes) (dPr pStr (dCons (dVar 7) (dNil))) [6, 7])))) (dSeq (dSet 3 (qV (dNewO (.dK [])))) (dSeq (dFor (dItems (dOp pAdd (dOp pAdd (dLst (dPrL qListS (dCons (dOp pIdx (dVar 0) (dCst (.int 1))) (dNil)))) (dVar 1)) (dVar 2))) (gN 4) (dPut lits (dPr pLenD (dCons (dVar 3) (dNil))) (dVar 3) (dVar 4))) (dRet (dVar 3)))))
def f_slots_for : List D → M D := dFn 1 N_slots_for.length b_slots_for
theorem ok_slots_for (Z : Zf G mg fa fn nmt cls) (B : Tbs G mg base tfs) : Callee P G.w G mg base "slots_for" 29 1 ["errand"] f_slots_for := by
  refine callee_ofA (k := 28) (N := N_slots_for) (d := b_slots_for) Z 78 146 (st := top 97) (by rfl) (by rfl) sc_slots_for (by rfl) (fun _ _ _ _ _ _ us hl => match us, hl with | [_], _ => by rfl) fun f cdv A outer s H E hr => ?_
  exact (jss_cons (js_lcV (ps_setLc (own := [("name", 5)]) rfl nd_slots_for rfl rfl (sw_true rfl rfl rfl rfl) (ji_valW rfl (jr_of (je_cal (ok_names_of Z B) rfl hr (by decide) rfl (takes_of (E := E) rfl rfl rfl rfl) (ja_cons rfl (je_var rfl (.inr (.inl rfl)) rfl rfl) ja_nil) rfl))) (blkOk_by rfl) (fun _ _ _ _ _ => (jg_name nd_slots_for rfl (.inl rfl) (.inr rfl) (by decide))) (fun _ _ _ _ _ => (jts_one (jt_cmp (o_notIn rfl (huR hr)) (jr_of (je_var rfl (.inl rfl) rfl rfl)) (jr_of (je_ix (i_idx rfl) (jr_of (je_var rfl (.inr (.inl rfl)) rfl rfl)) (jr_of cst_int) rfl)) rfl))) (fun _ _ _ _ _ => (je_var rfl (.inl rfl) rfl rfl)) (fun _ => rfl))) (jss_cons (js_lcV (ps_setLc (own := [("place", 6), ("number", 7)]) rfl nd_slots_for rfl rfl (sw_true rfl rfl rfl rfl) (ji_valW rfl (jr_of (je_cal (ok_numbers_of Z B) rfl hr (by decide) rfl (takes_of (E := E) rfl rfl rfl rfl) (ja_cons rfl (je_var rfl (.inr (.inl rfl)) rfl rfl) ja_nil) rfl))) (blkOk_by rfl) (fun _ _ _ _ _ => (jg_tup rfl rfl (jgs_cons (jg_name nd_slots_for rfl (.inl rfl) (.inr rfl) (by decide)) (jgs_cons (jg_name nd_slots_for rfl (.inl rfl) (.inr rfl) (by decide)) jgs_nil)))) (fun _ _ _ _ _ => jts_nil) (fun _ _ _ _ _ => (je_callT (c_str) rfl (Z.free 12 rfl) PyProof.Rows.boot_str (jb_cons rfl (jr_of (je_var rfl (.inl rfl) rfl rfl)) jb_nil) rfl)) (fun _ => rfl))) (jss_cons (js_setV (ps_set nd_slots_for rfl (.inl rfl) je_dK rfl)) (jss_cons (js_for (vs := [0, 1, 2, 3, 4, 5, 6, 7]) (passes_of rfl) rfl (ji_val rfl (je_op (o_add rfl) (jr_of (je_op (o_add rfl) (jr_of (je_lst (jl_listS rfl rfl (Z.free 38 rfl) (jb_cons rfl (jr_of (je_ix (i_idx rfl) (jr_of (je_var rfl (.inr (.inl rfl)) rfl rfl)) (jr_of cst_int) rfl)) jb_nil) rfl))) (jr_of (je_var rfl (.inl rfl) rfl rfl)))) (jr_of (je_var rfl (.inl rfl) rfl rfl)))) (jg_name nd_slots_for rfl (.inl rfl) (.inl rfl) (by decide)) (jss_one (js_dput (nl := lits) Z.lits (huR hr) (je_callB (c_lenD) rfl (Z.free 1 rfl) boot_len (jb_cons rfl (jr_of (je_var rfl (.inl rfl) rfl rfl)) jb_nil) rfl) (je_var rfl (.inl rfl) rfl rfl) (je_var rfl (.inl rfl) rfl rfl) rfl)) (fun _ => rfl)) (jss_one (js_ret (je_var rfl (.inl rfl) rfl rfl)))))))
def N_block_at : List Str := ["errand", "head", "block", "at"]
theorem nd_block_at : N_block_at.Nodup := by decide +kernel
theorem sc_block_at : FnScope N_block_at ["errand", "head"] (defScope (top 81)) := ⟨rfl, rfl, rfl, nd_block_at, rfl, by decide +kernel, by decide +kernel⟩
def b_block_at : DS := dSeq (dSet 2 (qV (dOp pIdx (dVar 0) (dCst (.int 2))))) (dSeq (dFor (dRg rg3 (dCons (dCst (.int 0)) (dCons (dPr pLen (dCons (dVar 1) (dNil))) (dCons (dCst (.int 2)) (dNil))))) (gN 3) (dSet 2 (qV (dOp pIdx (dCall 1 f_blocks_of_places (dCons (dOp pIdx (dVar 2) (dOp pIdx (dVar 1) (dVar 3))) (dNil))) (dOp pIdx (dVar 1) (dOp pAdd (dVar 3) (dCst (.int 1)))))))) (dRet (dVar 2)))
def f_block_at : List D → M D := dFn 2 N_block_at.length b_block_at
theorem ok_block_at (Z : Zf G mg fa fn nmt cls) (B : Tbs G mg base tfs) : Callee P G.w G mg base "block_at" 2 2 ["errand", "head"] f_block_at := by
  refine callee_ofA (k := 1) (N := N_block_at) (d := b_block_at) Z 79 147 (st := top 81) (by rfl) (by rfl) sc_block_at (by rfl) (fun _ _ _ _ _ _ us hl => match us, hl with | [_, _], _ => by rfl) fun f cdv A outer s H E hr => ?_
  exact (jss_cons (js_setV (ps_set nd_block_at rfl (.inl rfl) (je_ix (i_idx rfl) (jr_of (je_var rfl (.inl rfl) rfl rfl)) (jr_of cst_int) rfl) rfl)) (jss_cons (js_for (vs := [0, 1, 2, 3]) (passes_of rfl) rfl (ji_rg3 rfl (Z.free 55 rfl) (ja_cons rfl cst_int (ja_cons rfl (je_callB (c_len rfl) rfl (Z.free 1 rfl) boot_len (jb_cons rfl (jr_of (je_var rfl (.inl rfl) rfl rfl)) jb_nil) rfl) (ja_cons rfl cst_int ja_nil))) rfl rfl rfl) (jg_name nd_block_at rfl (.inl rfl) (.inl rfl) (by decide)) (jss_one (js_setV (ps_set nd_block_at rfl (.inl rfl) (je_ix (i_idx rfl) (jr_of (je_cal (ok_blocks_of_places Z B) rfl hr (by decide) rfl (takes_of (E := E) rfl rfl rfl rfl) (ja_cons rfl (je_ix (i_idx rfl) (jr_of (je_var rfl (.inl rfl) rfl rfl)) (jr_of (je_ix (i_idx rfl) (jr_of (je_var rfl (.inl rfl) rfl rfl)) (jr_of (je_var rfl (.inl rfl) rfl rfl)) rfl)) rfl) ja_nil) rfl)) (jr_of (je_ix (i_idx rfl) (jr_of (je_var rfl (.inl rfl) rfl rfl)) (jr_of (je_op (o_add rfl) (jr_of (je_var rfl (.inl rfl) rfl rfl)) (jr_of cst_int))) rfl)) rfl) rfl))) (fun _ => rfl)) (jss_one (js_ret (je_var rfl (.inl rfl) rfl rfl)))))
def N_row_at : List Str := ["errand", "place", "block"]
theorem nd_row_at : N_row_at.Nodup := by decide +kernel
theorem sc_row_at : FnScope N_row_at ["errand", "place"] (defScope (top 82)) := ⟨rfl, rfl, rfl, nd_row_at, rfl, by decide +kernel, by decide +kernel⟩
def b_row_at : DS := dSeq (dIfS (dTest (dOp pEq (dOp pMod (dPr pLen (dCons (dVar 1) (dNil))) (dCst (.int 2))) (dCst (.int 0)))) (dRet (dCst .non)) (dNop)) (dSeq (dSet 2 (qV (dCall 2 f_block_at (dCons (dVar 0) (dCons (dSl (dVar 1) (dNo) (dSo (dNeg (dCst (.int 1))))) (dNil)))))) (dSeq (dIfS (dTest (dOp pEq (dOp pIdx (dVar 1) (dNeg (dCst (.int 1)))) (dPr pLen (dCons (dVar 2) (dNil))))) (dRet (dCst .non)) (dNop)) (dRet (dOp pIdx (dVar 2) (dOp pIdx (dVar 1) (dNeg (dCst (.int 1))))))))
def f_row_at : List D → M D := dFn 2 N_row_at.length b_row_at
theorem ok_row_at (Z : Zf G mg fa fn nmt cls) (B : Tbs G mg base tfs) : Callee P G.w G mg base "row_at" 3 2 ["errand", "place"] f_row_at := by
  refine callee_ofA (k := 2) (N := N_row_at) (d := b_row_at) Z 80 148 (st := top 82) (by rfl) (by rfl) sc_row_at (by rfl) (fun _ _ _ _ _ _ us hl => match us, hl with | [_, _], _ => by rfl) fun f cdv A outer s H E hr => ?_
  exact (jss_cons (js_if (jt_cmp (o_eq rfl (huR hr)) (jr_of (je_op (o_mod) (jr_of (je_callB (c_len rfl) rfl (Z.free 1 rfl) boot_len (jb_cons rfl (jr_of (je_var rfl (.inl rfl) rfl rfl)) jb_nil) rfl)) (jr_of cst_int))) (jr_of cst_int) rfl) (jss_one (js_ret cst_non)) jss_nil) (jss_cons (js_setV (ps_set nd_row_at rfl (.inl rfl) (je_cal (ok_block_at Z B) rfl hr (by decide) rfl (takes_of (E := E) rfl rfl rfl rfl) (ja_cons rfl (je_var rfl (.inl rfl) rfl rfl) (ja_cons rfl (je_sl rfl (jr_of (je_var rfl (.inl rfl) rfl rfl)) jo_none (jo_some (je_neg cst_int))) ja_nil)) rfl) rfl)) (jss_cons (js_if (jt_cmp (o_eq rfl (huR hr)) (jr_of (je_ix (i_idx rfl) (jr_of (je_var rfl (.inl rfl) rfl rfl)) (jr_of (je_neg cst_int)) rfl)) (jr_of (je_callB (c_len rfl) rfl (Z.free 1 rfl) boot_len (jb_cons rfl (jr_of (je_var rfl (.inl rfl) rfl rfl)) jb_nil) rfl)) rfl) (jss_one (js_ret cst_non)) jss_nil) (jss_one (js_ret (je_ix (i_idx rfl) (jr_of (je_var rfl (.inl rfl) rfl rfl)) (jr_of (je_ix (i_idx rfl) (jr_of (je_var rfl (.inl rfl) rfl rfl)) (jr_of (je_neg cst_int)) rfl)) rfl))))))
def N_behind : List Str := ["place"]
theorem nd_behind : N_behind.Nodup := by decide +kernel
theorem sc_behind : FnScope N_behind ["place"] (defScope (top 83)) := ⟨rfl, rfl, rfl, nd_behind, rfl, by decide +kernel, by decide +kernel⟩
def b_behind : DS := dRet (dOp pAdd (dSl (dVar 0) (dNo) (dSo (dNeg (dCst (.int 1))))) (dTup (dCons (dOp pAdd (dOp pIdx (dVar 0) (dNeg (dCst (.int 1)))) (dCst (.int 1))) (dNil))))
def f_behind : List D → M D := dFn 1 N_behind.length b_behind
theorem ok_behind (Z : Zf G mg fa fn nmt cls) (B : Tbs G mg base tfs) : Callee P G.w G mg base "behind" 1 1 ["place"] f_behind := by
  refine callee_ofA (k := 0) (N := N_behind) (d := b_behind) Z 81 149 (st := top 83) (by rfl) (by rfl) sc_behind (by rfl) (fun _ _ _ _ _ _ us hl => match us, hl with | [_], _ => by rfl) fun f cdv A outer s H E hr => ?_
  exact (jss_one (js_ret (je_op (o_add rfl) (jr_of (je_sl rfl (jr_of (je_var rfl (.inl rfl) rfl rfl)) jo_none (jo_some (je_neg cst_int)))) (jr_of (je_tup (ja_cons rfl (je_op (o_add rfl) (jr_of (je_ix (i_idx rfl) (jr_of (je_var rfl (.inl rfl) rfl rfl)) (jr_of (je_neg cst_int)) rfl)) (jr_of cst_int)) ja_nil))))))
def N_step_slid : List Str := ["errand", "place", "row", "owner", "word"]
theorem nd_step_slid : N_step_slid.Nodup := by decide +kernel
theorem sc_step_slid : FnScope N_step_slid ["errand", "place"] (defScope (top 84)) := ⟨rfl, rfl, rfl, nd_step_slid, rfl, by decide +kernel, by decide +kernel⟩
def b_step_slid : DS := dSeq (dIfS (dTest (dOp pEq (dOp pMod (dPr pLen (dCons (dVar 1) (dNil))) (dCst (.int 2))) (dCst (.int 0)))) (dRet (dCst .non)) (dNop)) (dSeq (dSet 2 (qV (dCall 2 f_row_at (dCons (dVar 0) (dCons (dVar 1) (dNil)))))) (dSeq (dIfS (dTest (dOp pIsNot (dVar 2) (dCst .non))) (dSeq (dIfS (dTest (dOp pEq (dOp pIdx (dVar 2) (dCst (.int 0))) (dCst (.str "try")))) (dRet (dOp pAdd (dVar 1) (dTup (dCons (dCst (.int 0)) (dCons (dCst (.int 0)) (dNil)))))) (dNop)) (dRet (dCst .non))) (dNop)) (dSeq (dIfS (dTest (dOp pEq (dPr pLen (dCons (dVar 1) (dNil))) (dCst (.int 1)))) (dRet (dCst .non)) (dNop)) (dSeq (dSet 3 (qV (dSl (dVar 1) (dNo) (dSo (dNeg (dCst (.int 2))))))) (dSeq (dSet 4 (qV (dOp pIdx (dCall 2 f_row_at (dCons (dVar 0) (dCons (dVar 3) (dNil)))) (dCst (.int 0))))) (dSeq (dIfS (dTest (dOp pEq (dVar 4) (dCst (.str "while")))) (dRet (dVar 3)) (dNop)) (dSeq (dIfS (dTest (dOp pEq (dVar 4) (dCst (.str "do")))) (dRet (dCst .non)) (dNop)) (dRet (dCall 1 f_behind (dCons (dVar 3) (dNil)))))))))))
def f_step_slid : List D → M D := dFn 2 N_step_slid.length b_step_slid
theorem ok_step_slid (Z : Zf G mg fa fn nmt cls) (B : Tbs G mg base tfs) : Callee P G.w G mg base "step_slid" 4 2 ["errand", "place"] f_step_slid := by
  refine callee_ofA (k := 3) (N := N_step_slid) (d := b_step_slid) Z 82 150 (st := top 84) (by rfl) (by rfl) sc_step_slid (by rfl) (fun _ _ _ _ _ _ us hl => match us, hl with | [_, _], _ => by rfl) fun f cdv A outer s H E hr => ?_
  exact (jss_cons (js_if (jt_cmp (o_eq rfl (huR hr)) (jr_of (je_op (o_mod) (jr_of (je_callB (c_len rfl) rfl (Z.free 1 rfl) boot_len (jb_cons rfl (jr_of (je_var rfl (.inl rfl) rfl rfl)) jb_nil) rfl)) (jr_of cst_int))) (jr_of cst_int) rfl) (jss_one (js_ret cst_non)) jss_nil) (jss_cons (js_setV (ps_set nd_step_slid rfl (.inl rfl) (je_cal (ok_row_at Z B) rfl hr (by decide) rfl (takes_of (E := E) rfl rfl rfl rfl) (ja_cons rfl (je_var rfl (.inl rfl) rfl rfl) (ja_cons rfl (je_var rfl (.inl rfl) rfl rfl) ja_nil)) rfl) rfl)) (jss_cons (js_if (jt_cmp (o_isNot) (jr_of (je_var rfl (.inl rfl) rfl rfl)) (jr_of cst_non) rfl) (jss_cons (js_if (jt_cmp (o_eq rfl (huR hr)) (jr_of (je_ix (i_idx rfl) (jr_of (je_var rfl (.inl rfl) rfl rfl)) (jr_of cst_int) rfl)) (jr_of cst_str) rfl) (jss_one (js_ret (je_op (o_add rfl) (jr_of (je_var rfl (.inl rfl) rfl rfl)) (jr_of (je_tup (ja_cons rfl cst_int (ja_cons rfl cst_int ja_nil))))))) jss_nil) (jss_one (js_ret cst_non))) jss_nil) (jss_cons (js_if (jt_cmp (o_eq rfl (huR hr)) (jr_of (je_callB (c_len rfl) rfl (Z.free 1 rfl) boot_len (jb_cons rfl (jr_of (je_var rfl (.inl rfl) rfl rfl)) jb_nil) rfl)) (jr_of cst_int) rfl) (jss_one (js_ret cst_non)) jss_nil) (jss_cons (js_setV (ps_set nd_step_slid rfl (.inl rfl) (je_sl rfl (jr_of (je_var rfl (.inl rfl) rfl rfl)) jo_none (jo_some (je_neg cst_int))) rfl)) (jss_cons (js_setV (ps_set nd_step_slid rfl (.inl rfl) (je_ix (i_idx rfl) (jr_of (je_cal (ok_row_at Z B) rfl hr (by decide) rfl (takes_of (E := E) rfl rfl rfl rfl) (ja_cons rfl (je_var rfl (.inl rfl) rfl rfl) (ja_cons rfl (je_var rfl (.inl rfl) rfl rfl) ja_nil)) rfl)) (jr_of cst_int) rfl) rfl)) (jss_cons (js_if (jt_cmp (o_eq rfl (huR hr)) (jr_of (je_var rfl (.inl rfl) rfl rfl)) (jr_of cst_str) rfl) (jss_one (js_ret (je_var rfl (.inl rfl) rfl rfl))) jss_nil) (jss_cons (js_if (jt_cmp (o_eq rfl (huR hr)) (jr_of (je_var rfl (.inl rfl) rfl rfl)) (jr_of cst_str) rfl) (jss_one (js_ret cst_non)) jss_nil) (jss_one (js_ret (je_cal (ok_behind Z B) rfl hr (by decide) rfl (takes_of (E := E) rfl rfl rfl rfl) (ja_cons rfl (je_var rfl (.inl rfl) rfl rfl) ja_nil) rfl)))))))))))
def N_slid : List Str := ["errand", "place", "further"]
theorem nd_slid : N_slid.Nodup := by decide +kernel
theorem sc_slid : FnScope N_slid ["errand", "place"] (defScope (top 85)) := ⟨rfl, rfl, rfl, nd_slid, rfl, by decide +kernel, by decide +kernel⟩
def b_slid : DS := dSeq (dSet 2 (qV (dCall 2 f_step_slid (dCons (dVar 0) (dCons (dVar 1) (dNil)))))) (dSeq (whRun (dTest (dOp pIsNot (dVar 2) (dCst .non))) (dSeq (dSet 1 (qV (dVar 2))) (dSet 2 (qV (dCall 2 f_step_slid (dCons (dVar 0) (dCons (dVar 1) (dNil))))))) 100000) (dRet (dVar 1)))
def f_slid : List D → M D := dFn 2 N_slid.length b_slid
theorem ok_slid (Z : Zf G mg fa fn nmt cls) (B : Tbs G mg base tfs) : Callee P G.w G mg base "slid" 5 2 ["errand", "place"] f_slid := by
  refine callee_ofA (k := 4) (N := N_slid) (d := b_slid) Z 83 151 (st := top 85) (by rfl) (by rfl) sc_slid (by rfl) (fun _ _ _ _ _ _ us hl => match us, hl with | [_, _], _ => by rfl) fun f cdv A outer s H E hr => ?_
  exact (jss_cons (js_setV (ps_set nd_slid rfl (.inl rfl) (je_cal (ok_step_slid Z B) rfl hr (by decide) rfl (takes_of (E := E) rfl rfl rfl rfl) (ja_cons rfl (je_var rfl (.inl rfl) rfl rfl) (ja_cons rfl (je_var rfl (.inl rfl) rfl rfl) ja_nil)) rfl) rfl)) (jss_cons (js_while (passes_of rfl) (jt_cmp (o_isNot) (jr_of (je_var rfl (.inl rfl) rfl rfl)) (jr_of cst_non) rfl) (jss_cons (js_setV (ps_set nd_slid rfl (.inl rfl) (je_var rfl (.inl rfl) rfl rfl) rfl)) (jss_one (js_setV (ps_set nd_slid rfl (.inl rfl) (je_cal (ok_step_slid Z B) rfl hr (by decide) rfl (takes_of (E := E) rfl rfl rfl rfl) (ja_cons rfl (je_var rfl (.inl rfl) rfl rfl) (ja_cons rfl (je_var rfl (.inl rfl) rfl rfl) ja_nil)) rfl) rfl))))) (jss_one (js_ret (je_var rfl (.inl rfl) rfl rfl)))))
abbrev K_put_places : Nat := 2
def N_put_places : List Str := ["block", "head", "found", "number", "row", "place", "side", "inner"]
theorem nd_put_places : N_put_places.Nodup := by decide +kernel
theorem sc_put_places : FnScope N_put_places ["block", "head", "found"] (defScope (top 79)) := ⟨rfl, rfl, rfl, nd_put_places, rfl, by decide +kernel, by decide +kernel⟩
def b_put_places (rec : Nat → List D → M D) : DS := dSeq (dFor (dRg en1 (dCons (dVar 0) (dNil))) (gT 2 (gsC (gN 3) (gsC (gN 4) (gs0)))) (dSeq (dSet 5 (qV (dOp pAdd (dVar 1) (dTup (dCons (dVar 3) (dNil)))))) (dSeq (dAppR (dVar 2) (dVar 5)) (dSeq (dIfS (dTest (dOp pEq (dOp pIdx (dVar 4) (dCst (.int 0))) (dCst (.str "while")))) (dAppR (dVar 2) (dOp pAdd (dVar 5) (dTup (dCons (dCst (.int 0)) (dNil))))) (dNop)) (dSeq (dIfS (dTest (dOp pEq (dOp pIdx (dVar 4) (dCst (.int 0))) (dCst (.str "do")))) (dAppR (dVar 2) (dOp pAdd (dVar 5) (dTup (dCons (dCst (.int 1)) (dNil))))) (dNop)) (dFor (dRg en1 (dCons (dCall 1 f_blocks_of_places (dCons (dVar 4) (dNil))) (dNil))) (gT 2 (gsC (gN 6) (gsC (gN 7) (gs0)))) (dDrop (dCall 3 (rec 0) (dCons (dVar 7) (dCons (dOp pAdd (dVar 5) (dTup (dCons (dVar 6) (dNil)))) (dCons (dVar 2) (dNil)))))))))))) (dAppR (dVar 2) (dOp pAdd (dVar 1) (dTup (dCons (dPr pLen (dCons (dVar 0) (dNil))) (dNil)))))
def r_put_places : Nat → Nat → List D → M D
  | 0, _ => fun _ _ => .bad
  | j + 1, 0 => dFn 3 N_put_places.length (b_put_places (r_put_places j))
  | _ + 1, _ => fun _ _ => .bad
def f_put_places : List D → M D := r_put_places 12 0
theorem okb_put_places (Z : Zf G mg fa fn nmt cls) (B : Tbs G mg base tfs) {j : Nat} {rec : Nat → List D → M D} (h0 : Callee P G.w G mg base "put_places" (K_put_places + j) 3 ["block", "head", "found"] (rec 0)) : Callee P G.w G mg base "put_places" (K_put_places + j + 1) 3 ["block", "head", "found"] (dFn 3 N_put_places.length (b_put_places rec)) := by
  refine callee_ofA (k := K_put_places + j) (N := N_put_places) (d := b_put_places rec) Z 84 152 (st := top 79) (by rfl) (by rfl) sc_put_places (by rfl) (fun _ _ _ _ _ _ us hl => match us, hl with | [_, _, _], _ => by rfl) fun f cdv A outer s H E hr => ?_
  exact (jss_cons (js_for (vs := [0, 1, 2, 3, 4, 5, 6, 7]) (passes_of rfl) rfl (ji_enum rfl rfl (Z.free 131 rfl) (ja_cons rfl (je_var rfl (.inl rfl) rfl rfl) ja_nil) rfl) (jg_tup rfl rfl (jgs_cons (jg_name nd_put_places rfl (.inl rfl) (.inl rfl) (by decide)) (jgs_cons (jg_name nd_put_places rfl (.inl rfl) (.inl rfl) (by decide)) jgs_nil))) (jss_cons (js_setV (ps_set nd_put_places rfl (.inl rfl) (je_op (o_add rfl) (jr_of (je_var rfl (.inl rfl) rfl rfl)) (jr_of (je_tup (ja_cons rfl (je_var rfl (.inl rfl) rfl rfl) ja_nil)))) rfl)) (jss_cons (js_appR rfl (je_var rfl (.inl rfl) rfl rfl) (je_var rfl (.inl rfl) rfl rfl) rfl rfl rfl rfl rfl) (jss_cons (js_if (jt_cmp (o_eq rfl (huR hr)) (jr_of (je_ix (i_idx rfl) (jr_of (je_var rfl (.inl rfl) rfl rfl)) (jr_of cst_int) rfl)) (jr_of cst_str) rfl) (jss_one (js_appR rfl (je_var rfl (.inl rfl) rfl rfl) (je_op (o_add rfl) (jr_of (je_var rfl (.inl rfl) rfl rfl)) (jr_of (je_tup (ja_cons rfl cst_int ja_nil)))) rfl rfl rfl rfl rfl)) jss_nil) (jss_cons (js_if (jt_cmp (o_eq rfl (huR hr)) (jr_of (je_ix (i_idx rfl) (jr_of (je_var rfl (.inl rfl) rfl rfl)) (jr_of cst_int) rfl)) (jr_of cst_str) rfl) (jss_one (js_appR rfl (je_var rfl (.inl rfl) rfl rfl) (je_op (o_add rfl) (jr_of (je_var rfl (.inl rfl) rfl rfl)) (jr_of (je_tup (ja_cons rfl cst_int ja_nil)))) rfl rfl rfl rfl rfl)) jss_nil) (jss_one (js_for (vs := [0, 1, 2, 3, 4, 5, 6, 7]) (passes_of rfl) rfl (ji_enum rfl rfl (Z.free 131 rfl) (ja_cons rfl (je_cal (ok_blocks_of_places Z B) rfl hr (Nat.le_trans (by decide : 1 ≤ K_put_places) (Nat.le_add_right _ _)) rfl (takes_of (E := E) rfl rfl rfl rfl) (ja_cons rfl (je_var rfl (.inl rfl) rfl rfl) ja_nil) rfl) ja_nil) rfl) (jg_tup rfl rfl (jgs_cons (jg_name nd_put_places rfl (.inl rfl) (.inl rfl) (by decide)) (jgs_cons (jg_name nd_put_places rfl (.inl rfl) (.inl rfl) (by decide)) jgs_nil))) (jss_one (js_drop (je_cal h0 rfl hr (Nat.le_refl _) rfl (takes_of (E := E) rfl rfl rfl rfl) (ja_cons rfl (je_var rfl (.inl rfl) rfl rfl) (ja_cons rfl (je_op (o_add rfl) (jr_of (je_var rfl (.inl rfl) rfl rfl)) (jr_of (je_tup (ja_cons rfl (je_var rfl (.inl rfl) rfl rfl) ja_nil)))) (ja_cons rfl (je_var rfl (.inl rfl) rfl rfl) ja_nil))) rfl) rfl)) (fun _ => rfl))))))) (fun _ => rfl)) (jss_one (js_appR rfl (je_var rfl (.inl rfl) rfl rfl) (je_op (o_add rfl) (jr_of (je_var rfl (.inl rfl) rfl rfl)) (jr_of (je_tup (ja_cons rfl (je_callB (c_len rfl) rfl (Z.free 1 rfl) boot_len (jb_cons rfl (jr_of (je_var rfl (.inl rfl) rfl rfl)) jb_nil) rfl) ja_nil)))) rfl rfl rfl rfl rfl)))
theorem okr_put_places (Z : Zf G mg fa fn nmt cls) (B : Tbs G mg base tfs) : ∀ j : Nat, (Callee P G.w G mg base "put_places" (K_put_places + j) 3 ["block", "head", "found"] (r_put_places j 0))
  | 0 => (callee_badA (k := 1) (N := N_put_places) Z 84 152 (st := top 79) (by rfl) (by rfl) sc_put_places (by rfl) (fun _ _ _ _ _ _ us hl => match us, hl with | [_, _, _], _ => by rfl))
  | j + 1 => by
    have h0 := okr_put_places Z B j
    exact okb_put_places Z B h0
theorem ok_put_places (Z : Zf G mg fa fn nmt cls) (B : Tbs G mg base tfs) : Callee P G.w G mg base "put_places" 14 3 ["block", "head", "found"] f_put_places := (okr_put_places Z B 12)
def N_places : List Str := ["errand", "found"]
theorem nd_places : N_places.Nodup := by decide +kernel
theorem sc_places : FnScope N_places ["errand"] (defScope (top 80)) := ⟨rfl, rfl, rfl, nd_places, rfl, by decide +kernel, by decide +kernel⟩
def b_places : DS := dSeq (dSet 1 (qV (dNew (dDisp (dNil))))) (dSeq (dDrop (dCall 3 f_put_places (dCons (dOp pIdx (dVar 0) (dCst (.int 2))) (dCons (dTup (dNil)) (dCons (dVar 1) (dNil)))))) (dRet (dPr pTupR (dCons (dLst (dPrL qSort (dCons (dVar 1) (dNil)))) (dNil)))))
def f_places : List D → M D := dFn 1 N_places.length b_places
theorem ok_places (Z : Zf G mg fa fn nmt cls) (B : Tbs G mg base tfs) : Callee P G.w G mg base "places" 15 1 ["errand"] f_places := by
  refine callee_ofA (k := 14) (N := N_places) (d := b_places) Z 85 153 (st := top 80) (by rfl) (by rfl) sc_places (by rfl) (fun _ _ _ _ _ _ us hl => match us, hl with | [_], _ => by rfl) fun f cdv A outer s H E hr => ?_
  exact (jss_cons (js_setV (ps_set nd_places rfl (.inl rfl) (je_new (jl_disp ja_nil)) rfl)) (jss_cons (js_drop (je_cal (ok_put_places Z B) rfl hr (by decide) rfl (takes_of (E := E) rfl rfl rfl rfl) (ja_cons rfl (je_ix (i_idx rfl) (jr_of (je_var rfl (.inl rfl) rfl rfl)) (jr_of cst_int) rfl) (ja_cons rfl (je_tup ja_nil) (ja_cons rfl (je_var rfl (.inl rfl) rfl rfl) ja_nil))) rfl) rfl) (jss_one (js_ret (je_callT (c_tupR rfl) rfl (Z.free 16 rfl) PyProof.Rows.boot_tuple (jb_cons rfl (jr_of (je_lst (jl_sort rfl (huR hr) rfl (Z.free 39 rfl) (jb_cons rfl (jr_of (je_var rfl (.inl rfl) rfl rfl)) jb_nil) rfl))) jb_nil) rfl)))))
def N_Making___init__ : List Str := ["self", "errand", "first", "place"]
theorem nd_Making___init__ : N_Making___init__.Nodup := by decide +kernel
theorem sc_Making___init__ : FnScope N_Making___init__ ["self", "errand"] (defScope (mth 98 0)) := ⟨rfl, rfl, rfl, nd_Making___init__, rfl, by decide +kernel, by decide +kernel⟩
def b_Making___init__ : DS := dSeq (dSetF [6] "errand" (dVar 1) (dVar 0)) (dSeq (dSetF [6] "slots" (dCall 1 f_slots_for (dCons (dVar 1) (dNil))) (dVar 0)) (dSeq (dSetF [6] "numbers" (dDict0 (dCall 1 f_numbers_of (dCons (dVar 1) (dNil)))) (dVar 0)) (dSeq (dSet 2 (qV (dCall 2 f_slid (dCons (dVar 1) (dCons (dTup (dCons (dCst (.int 0)) (dNil))) (dNil)))))) (dSeq (dSetF [6] "doing" (dNew (dDisp (dCons (dVar 2) (dNil)))) (dVar 0)) (dFor (dItems (dCall 1 f_places (dCons (dVar 1) (dNil)))) (gN 3) (dIfS (dAnd (dTest (dOp pNe (dVar 3) (dVar 2))) (dTest (dOp pEq (dCall 2 f_slid (dCons (dVar 1) (dCons (dVar 3) (dNil)))) (dVar 3)))) (dAppR (dFld [6] "doing" (dVar 0)) (dVar 3)) (dNop)))))))
def f_Making___init__ : List D → M D := dFn 2 N_Making___init__.length b_Making___init__
theorem ok_Making___init__ (Z : Zf G mg fa fn nmt cls) (B : Tbs G mg base tfs) : KCal P G.w G mg base 6 "Making" 30 2 ["self", "errand"] f_Making___init__ := by
  refine kcal_of (k := 29) (N := N_Making___init__) (d := b_Making___init__) Z 86 160 161 (st := mth 98 0) (by rfl) (by rfl) (by rfl) (by rfl) sc_Making___init__ (by rfl) (fun _ _ _ _ _ _ us hl => match us, hl with | [_, _], _ => by rfl) fun f cdv A outer s H E hr => ?_
  exact (jss_cons (js_fld (st_pos := ⟨0, 0, 0, 0⟩) (at_errand Z) rfl (je_var rfl (.inl rfl) rfl rfl) (je_var rfl (.inl rfl) rfl rfl) rfl) (jss_cons (js_fld (st_pos := ⟨0, 0, 0, 0⟩) (at_slots Z) rfl (je_cal (ok_slots_for Z B) rfl hr (by decide) rfl (takes_of (E := E) rfl rfl rfl rfl) (ja_cons rfl (je_var rfl (.inl rfl) rfl rfl) ja_nil) rfl) (je_var rfl (.inl rfl) rfl rfl) rfl) (jss_cons (js_fld (st_pos := ⟨0, 0, 0, 0⟩) (at_numbers Z) rfl (je_dict0 rfl (huR hr) rfl (Z.free 158 rfl) (je_cal (ok_numbers_of Z B) rfl hr (by decide) rfl (takes_of (E := E) rfl rfl rfl rfl) (ja_cons rfl (je_var rfl (.inl rfl) rfl rfl) ja_nil) rfl) rfl) (je_var rfl (.inl rfl) rfl rfl) rfl) (jss_cons (js_setV (ps_set nd_Making___init__ rfl (.inl rfl) (je_cal (ok_slid Z B) rfl hr (by decide) rfl (takes_of (E := E) rfl rfl rfl rfl) (ja_cons rfl (je_var rfl (.inl rfl) rfl rfl) (ja_cons rfl (je_tup (ja_cons rfl cst_int ja_nil)) ja_nil)) rfl) rfl)) (jss_cons (js_fld (st_pos := ⟨0, 0, 0, 0⟩) (at_doing Z) rfl (je_new (jl_disp (ja_cons rfl (je_var rfl (.inl rfl) rfl rfl) ja_nil))) (je_var rfl (.inl rfl) rfl rfl) rfl) (jss_one (js_for (vs := [0, 1, 2, 3]) (passes_of rfl) rfl (ji_val rfl (je_cal (ok_places Z B) rfl hr (by decide) rfl (takes_of (E := E) rfl rfl rfl rfl) (ja_cons rfl (je_var rfl (.inl rfl) rfl rfl) ja_nil) rfl)) (jg_name nd_Making___init__ rfl (.inl rfl) (.inl rfl) (by decide)) (jss_one (js_if (PW.pt (jw_and (jt_cmp (o_ne rfl (huR hr)) (jr_of (je_var rfl (.inl rfl) rfl rfl)) (jr_of (je_var rfl (.inl rfl) rfl rfl)) rfl) (jw1_and (jt_cmp (o_eq rfl (huR hr)) (jr_of (je_cal (ok_slid Z B) rfl hr (by decide) rfl (takes_of (E := E) rfl rfl rfl rfl) (ja_cons rfl (je_var rfl (.inl rfl) rfl rfl) (ja_cons rfl (je_var rfl (.inl rfl) rfl rfl) ja_nil)) rfl)) (jr_of (je_var rfl (.inl rfl) rfl rfl)) rfl)))) (jss_one (js_appR rfl (je_fld (at_doing Z) rfl (jr_of (je_var rfl (.inl rfl) rfl rfl)) rfl) (je_var rfl (.inl rfl) rfl rfl) rfl rfl rfl rfl rfl)) jss_nil)) (fun _ => rfl))))))))
def N_deed_at : List Str := ["errand", "place", "row"]
theorem nd_deed_at : N_deed_at.Nodup := by decide +kernel
theorem sc_deed_at : FnScope N_deed_at ["errand", "place"] (defScope (top 95)) := ⟨rfl, rfl, rfl, nd_deed_at, rfl, by decide +kernel, by decide +kernel⟩
def b_deed_at : DS := dSeq (dSet 2 (qV (dCall 2 f_row_at (dCons (dVar 0) (dCons (dVar 1) (dNil)))))) (dSeq (dIfS (dTest (dOp pIsNot (dVar 2) (dCst .non))) (dRet (dOp pIdx (dVar 2) (dCst (.int 0)))) (dNop)) (dSeq (dIfS (dTest (dOp pEq (dPr pLen (dCons (dVar 1) (dNil))) (dCst (.int 1)))) (dRet (dCst (.str "end"))) (dNop)) (dSeq (dIfS (dTest (dOp pEq (dOp pMod (dPr pLen (dCons (dVar 1) (dNil))) (dCst (.int 2))) (dCst (.int 0)))) (dBad) (dNop)) (dSeq (dIfS (dTest (dOp pEq (dOp pIdx (dCall 2 f_row_at (dCons (dVar 0) (dCons (dSl (dVar 1) (dNo) (dSo (dNeg (dCst (.int 2))))) (dNil)))) (dCst (.int 0))) (dCst (.str "do")))) (dRet (dOp pIdx (dLst (dDisp (dCons (dCst (.str "done")) (dCons (dCst (.str "undone")) (dNil))))) (dOp pIdx (dVar 1) (dNeg (dCst (.int 2)))))) (dNop)) (dRet (dCst (.str "other")))))))
def f_deed_at : List D → M D := dFn 2 N_deed_at.length b_deed_at
theorem ok_deed_at (Z : Zf G mg fa fn nmt cls) (B : Tbs G mg base tfs) : Callee P G.w G mg base "deed_at" 4 2 ["errand", "place"] f_deed_at := by
  refine callee_ofA (k := 3) (N := N_deed_at) (d := b_deed_at) Z 87 162 (st := top 95) (by rfl) (by rfl) sc_deed_at (by rfl) (fun _ _ _ _ _ _ us hl => match us, hl with | [_, _], _ => by rfl) fun f cdv A outer s H E hr => ?_
  exact (jss_cons (js_setV (ps_set nd_deed_at rfl (.inl rfl) (je_cal (ok_row_at Z B) rfl hr (by decide) rfl (takes_of (E := E) rfl rfl rfl rfl) (ja_cons rfl (je_var rfl (.inl rfl) rfl rfl) (ja_cons rfl (je_var rfl (.inl rfl) rfl rfl) ja_nil)) rfl) rfl)) (jss_cons (js_if (jt_cmp (o_isNot) (jr_of (je_var rfl (.inl rfl) rfl rfl)) (jr_of cst_non) rfl) (jss_one (js_ret (je_ix (i_idx rfl) (jr_of (je_var rfl (.inl rfl) rfl rfl)) (jr_of cst_int) rfl))) jss_nil) (jss_cons (js_if (jt_cmp (o_eq rfl (huR hr)) (jr_of (je_callB (c_len rfl) rfl (Z.free 1 rfl) boot_len (jb_cons rfl (jr_of (je_var rfl (.inl rfl) rfl rfl)) jb_nil) rfl)) (jr_of cst_int) rfl) (jss_one (js_ret cst_str)) jss_nil) (jss_cons (js_if (jt_cmp (o_eq rfl (huR hr)) (jr_of (je_op (o_mod) (jr_of (je_callB (c_len rfl) rfl (Z.free 1 rfl) boot_len (jb_cons rfl (jr_of (je_var rfl (.inl rfl) rfl rfl)) jb_nil) rfl)) (jr_of cst_int))) (jr_of cst_int) rfl) (jss_one js_bad) jss_nil) (jss_cons (js_if (jt_cmp (o_eq rfl (huR hr)) (jr_of (je_ix (i_idx rfl) (jr_of (je_cal (ok_row_at Z B) rfl hr (by decide) rfl (takes_of (E := E) rfl rfl rfl rfl) (ja_cons rfl (je_var rfl (.inl rfl) rfl rfl) (ja_cons rfl (je_sl rfl (jr_of (je_var rfl (.inl rfl) rfl rfl)) jo_none (jo_some (je_neg cst_int))) ja_nil)) rfl)) (jr_of cst_int) rfl)) (jr_of cst_str) rfl) (jss_one (js_ret (je_ix (i_idx rfl) (jr_of (je_lst (jl_disp (ja_cons rfl cst_str (ja_cons rfl cst_str ja_nil))))) (jr_of (je_ix (i_idx rfl) (jr_of (je_var rfl (.inl rfl) rfl rfl)) (jr_of (je_neg cst_int)) rfl)) rfl))) jss_nil) (jss_one (js_ret cst_str)))))))
def N_Making_room_of : List Str := ["self", "place"]
theorem nd_Making_room_of : N_Making_room_of.Nodup := by decide +kernel
theorem sc_Making_room_of : FnScope N_Making_room_of ["self", "place"] (defScope (mth 98 1)) := ⟨rfl, rfl, rfl, nd_Making_room_of, rfl, by decide +kernel, by decide +kernel⟩
def b_Making_room_of : DS := dRet (dIndex (dFld [6] "doing" (dVar 0)) (dCall 2 f_slid (dCons (dFld [6] "errand" (dVar 0)) (dCons (dVar 1) (dNil)))))
def f_Making_room_of : List D → M D := dFn 2 N_Making_room_of.length b_Making_room_of
theorem ok_Making_room_of (Z : Zf G mg fa fn nmt cls) (B : Tbs G mg base tfs) : MCal P G.w G mg base 6 "room_of" 6 2 ["self", "place"] f_Making_room_of := by
  refine mcal_of (k := 5) (N := N_Making_room_of) (d := b_Making_room_of) Z 88 163 154 (st := mth 98 1) (by rfl) (by rfl) (by rfl) (by rfl) sc_Making_room_of (by rfl) (fun _ _ _ _ _ _ us hl => match us, hl with | [_, _], _ => by rfl) fun f cdv A outer s H E hr => ?_
  exact (jss_one (js_ret (je_index rfl (huR hr) (je_fld (at_doing Z) rfl (jr_of (je_var rfl (.inl rfl) rfl rfl)) rfl) (je_cal (ok_slid Z B) rfl hr (by decide) rfl (takes_of (E := E) rfl rfl rfl rfl) (ja_cons rfl (je_fld (at_errand Z) rfl (jr_of (je_var rfl (.inl rfl) rfl rfl)) rfl) (ja_cons rfl (je_var rfl (.inl rfl) rfl rfl) ja_nil)) rfl) rfl rfl rfl)))
def N_Making_gone : List Str := ["self", "row", "target"]
theorem nd_Making_gone : N_Making_gone.Nodup := by decide +kernel
theorem sc_Making_gone : FnScope N_Making_gone ["self", "row", "target"] (defScope (mth 98 8)) := ⟨rfl, rfl, rfl, nd_Making_gone, rfl, by decide +kernel, by decide +kernel⟩
def b_Making_gone : DS := dRet (dTup (dCons (dTup (dCons (dVar 1) (dNil))) (dCons (dTup (dCons (dCst (.str "go")) (dCons (dMeth 6 "room_of" 2 f_Making_room_of (dVar 0) (dCons (dVar 2) (dNil))) (dNil)))) (dCons (dCst .non) (dCons (dCst .non) (dNil))))))
def f_Making_gone : List D → M D := dFn 3 N_Making_gone.length b_Making_gone
theorem ok_Making_gone (Z : Zf G mg fa fn nmt cls) (B : Tbs G mg base tfs) : MCal P G.w G mg base 6 "gone" 7 3 ["self", "row", "target"] f_Making_gone := by
  refine mcal_of (k := 6) (N := N_Making_gone) (d := b_Making_gone) Z 89 164 154 (st := mth 98 8) (by rfl) (by rfl) (by rfl) (by rfl) sc_Making_gone (by rfl) (fun _ _ _ _ _ _ us hl => match us, hl with | [_, _, _], _ => by rfl) fun f cdv A outer s H E hr => ?_
  exact (jss_one (js_ret (je_tup (ja_cons rfl (je_tup (ja_cons rfl (je_var rfl (.inl rfl) rfl rfl) ja_nil)) (ja_cons rfl (je_tup (ja_cons rfl cst_str (ja_cons rfl (je_meth (ok_Making_room_of Z B) rfl hr (by decide) (takes_of (E := E) rfl rfl rfl rfl) (je_var rfl (.inl rfl) rfl rfl) (ja_cons rfl (je_var rfl (.inl rfl) rfl rfl) ja_nil) rfl rfl) ja_nil))) (ja_cons rfl cst_non (ja_cons rfl cst_non ja_nil)))))))
abbrev K_Making_worth_of : Nat := 1
def N_Making_worth_of : List Str := ["self", "one"]
theorem nd_Making_worth_of : N_Making_worth_of.Nodup := by decide +kernel
theorem sc_Making_worth_of : FnScope N_Making_worth_of ["self", "one"] (defScope (mth 98 3)) := ⟨rfl, rfl, rfl, nd_Making_worth_of, rfl, by decide +kernel, by decide +kernel⟩
def b_Making_worth_of (rec : Nat → List D → M D) : DS := dSeq (dIfS (dTest (dPr pIsi (dCons (dVar 1) (dCons (dCst (.ty "str")) (dNil))))) (dRet (dTup (dCons (dCst (.str "slot")) (dCons (dOp (pGet lits) (dFld [6] "slots" (dVar 0)) (dVar 1)) (dNil))))) (dNop)) (dSeq (dIfS (dTest (dPr pIsi (dCons (dVar 1) (dCons (dCst (.ty "tuple")) (dNil))))) (dRet (dTup (dCons (dOp pIdx (dVar 1) (dCst (.int 0))) (dCons (dMeth 6 "worth_of" 2 (rec 0) (dVar 0) (dCons (dOp pIdx (dVar 1) (dCst (.int 1))) (dNil))) (dCons (dMeth 6 "worth_of" 2 (rec 0) (dVar 0) (dCons (dOp pIdx (dVar 1) (dCst (.int 2))) (dNil))) (dNil)))))) (dNop)) (dRet (dVar 1)))
def r_Making_worth_of : Nat → Nat → List D → M D
  | 0, _ => fun _ _ => .bad
  | j + 1, 0 => dFn 2 N_Making_worth_of.length (b_Making_worth_of (r_Making_worth_of j))
  | _ + 1, _ => fun _ _ => .bad
def f_Making_worth_of : List D → M D := r_Making_worth_of 12 0
theorem okb_Making_worth_of (Z : Zf G mg fa fn nmt cls) (B : Tbs G mg base tfs) {j : Nat} {rec : Nat → List D → M D} (h0 : MCal P G.w G mg base 6 "worth_of" (K_Making_worth_of + j) 2 ["self", "one"] (rec 0)) : MCal P G.w G mg base 6 "worth_of" (K_Making_worth_of + j + 1) 2 ["self", "one"] (dFn 2 N_Making_worth_of.length (b_Making_worth_of rec)) := by
  refine mcal_of (k := K_Making_worth_of + j) (N := N_Making_worth_of) (d := b_Making_worth_of rec) Z 90 165 154 (st := mth 98 3) (by rfl) (by rfl) (by rfl) (by rfl) sc_Making_worth_of (by rfl) (fun _ _ _ _ _ _ us hl => match us, hl with | [_, _], _ => by rfl) fun f cdv A outer s H E hr => ?_
  exact (jss_cons (js_if (jt_val (jr_of (je_callB (c_isi rfl) rfl (Z.free 8 rfl) PyProof.Rows.boot_isinstance (jb_cons rfl (jr_of (je_var rfl (.inl rfl) rfl rfl)) (jb_cons rfl (jr_of (je_ty rfl (Z.free 12 rfl) PyProof.Rows.boot_str (by decide) (by decide))) jb_nil)) rfl)) rfl) (jss_one (js_ret (je_tup (ja_cons rfl cst_str (ja_cons rfl (je_dget (nl := lits) Z.lits (huR hr) (je_fld (at_slots Z) rfl (jr_of (je_var rfl (.inl rfl) rfl rfl)) rfl) (je_var rfl (.inl rfl) rfl rfl) (fun _ _ => rfl)) ja_nil))))) jss_nil) (jss_cons (js_if (jt_val (jr_of (je_callB (c_isi rfl) rfl (Z.free 8 rfl) PyProof.Rows.boot_isinstance (jb_cons rfl (jr_of (je_var rfl (.inl rfl) rfl rfl)) (jb_cons rfl (jr_of (je_ty rfl (Z.free 16 rfl) PyProof.Rows.boot_tuple (by decide) (by decide))) jb_nil)) rfl)) rfl) (jss_one (js_ret (je_tup (ja_cons rfl (je_ix (i_idx rfl) (jr_of (je_var rfl (.inl rfl) rfl rfl)) (jr_of cst_int) rfl) (ja_cons rfl (je_meth h0 rfl hr (Nat.le_refl _) (takes_of (E := E) rfl rfl rfl rfl) (je_var rfl (.inl rfl) rfl rfl) (ja_cons rfl (je_ix (i_idx rfl) (jr_of (je_var rfl (.inl rfl) rfl rfl)) (jr_of cst_int) rfl) ja_nil) rfl rfl) (ja_cons rfl (je_meth h0 rfl hr (Nat.le_refl _) (takes_of (E := E) rfl rfl rfl rfl) (je_var rfl (.inl rfl) rfl rfl) (ja_cons rfl (je_ix (i_idx rfl) (jr_of (je_var rfl (.inl rfl) rfl rfl)) (jr_of cst_int) rfl) ja_nil) rfl rfl) ja_nil)))))) jss_nil) (jss_one (js_ret (je_var rfl (.inl rfl) rfl rfl)))))
theorem okr_Making_worth_of (Z : Zf G mg fa fn nmt cls) (B : Tbs G mg base tfs) : ∀ j : Nat, (MCal P G.w G mg base 6 "worth_of" (K_Making_worth_of + j) 2 ["self", "one"] (r_Making_worth_of j 0))
  | 0 => (mcal_bad (k := 0) (N := N_Making_worth_of) Z 90 165 154 (st := mth 98 3) (by rfl) (by rfl) (by rfl) (by rfl) sc_Making_worth_of (by rfl) (fun _ _ _ _ _ _ us hl => match us, hl with | [_, _], _ => by rfl))
  | j + 1 => by
    have h0 := okr_Making_worth_of Z B j
    exact okb_Making_worth_of Z B h0
theorem ok_Making_worth_of (Z : Zf G mg fa fn nmt cls) (B : Tbs G mg base tfs) : MCal P G.w G mg base 6 "worth_of" 13 2 ["self", "one"] f_Making_worth_of := (okr_Making_worth_of Z B 12)
def N_Making_going_room : List Str := ["self", "place", "word", "row"]
theorem nd_Making_going_room : N_Making_going_room.Nodup := by decide +kernel
theorem sc_Making_going_room : FnScope N_Making_going_room ["self", "place", "word"] (defScope (mth 98 7)) := ⟨rfl, rfl, rfl, nd_Making_going_room, rfl, by decide +kernel, by decide +kernel⟩
def b_Making_going_room : DS := dSeq (dSet 3 (qV (dCall 2 f_row_at (dCons (dFld [6] "errand" (dVar 0)) (dCons (dVar 1) (dNil)))))) (dSeq (dIfS (dTest (dOp pEq (dVar 2) (dCst (.str "set")))) (dRet (dMeth 6 "gone" 3 f_Making_gone (dVar 0) (dCons (dTup (dCons (dCst (.str "put")) (dCons (dOp (pGet lits) (dFld [6] "slots" (dVar 0)) (dOp pIdx (dVar 3) (dCst (.int 1)))) (dCons (dMeth 6 "worth_of" 2 f_Making_worth_of (dVar 0) (dCons (dOp pIdx (dVar 3) (dCst (.int 2))) (dNil))) (dNil))))) (dCons (dCall 1 f_behind (dCons (dVar 1) (dNil))) (dNil))))) (dNop)) (dSeq (dIfS (dTest (dOp pEq (dVar 2) (dCst (.str "tell")))) (dRet (dMeth 6 "gone" 3 f_Making_gone (dVar 0) (dCons (dTup (dCons (dCst (.str "tell")) (dCons (dMeth 6 "worth_of" 2 f_Making_worth_of (dVar 0) (dCons (dOp pIdx (dVar 3) (dCst (.int 1))) (dNil))) (dNil)))) (dCons (dCall 1 f_behind (dCons (dVar 1) (dNil))) (dNil))))) (dNop)) (dSeq (dIfS (dTest (dOp pEq (dVar 2) (dCst (.str "do")))) (dRet (dMeth 6 "gone" 3 f_Making_gone (dVar 0) (dCons (dTup (dCons (dCst (.str "mark")) (dCons (dCst (.str "do")) (dCons (dOp (pGet lits) (dFld [6] "numbers" (dVar 0)) (dVar 1)) (dNil))))) (dCons (dOp pAdd (dVar 1) (dTup (dCons (dCst (.int 0)) (dCons (dCst (.int 0)) (dNil))))) (dNil))))) (dNop)) (dSeq (dIfS (dTest (dOp pEq (dVar 2) (dCst (.str "done")))) (dRet (dMeth 6 "gone" 3 f_Making_gone (dVar 0) (dCons (dTup (dCons (dCst (.str "mark")) (dCons (dCst (.str "done")) (dCons (dOp (pGet lits) (dFld [6] "numbers" (dVar 0)) (dSl (dVar 1) (dNo) (dSo (dNeg (dCst (.int 2)))))) (dNil))))) (dCons (dCall 1 f_behind (dCons (dSl (dVar 1) (dNo) (dSo (dNeg (dCst (.int 2))))) (dNil))) (dNil))))) (dNop)) (dRet (dMeth 6 "gone" 3 f_Making_gone (dVar 0) (dCons (dTup (dCons (dCst (.str "mark")) (dCons (dCst (.str "undo")) (dCons (dOp (pGet lits) (dFld [6] "numbers" (dVar 0)) (dSl (dVar 1) (dNo) (dSo (dNeg (dCst (.int 1)))))) (dNil))))) (dCons (dOp pAdd (dVar 1) (dTup (dCons (dCst (.int 0)) (dNil)))) (dNil)))))))))
def f_Making_going_room : List D → M D := dFn 3 N_Making_going_room.length b_Making_going_room
theorem ok_Making_going_room (Z : Zf G mg fa fn nmt cls) (B : Tbs G mg base tfs) : MCal P G.w G mg base 6 "going_room" 14 3 ["self", "place", "word"] f_Making_going_room := by
  refine mcal_of (k := 13) (N := N_Making_going_room) (d := b_Making_going_room) Z 91 166 154 (st := mth 98 7) (by rfl) (by rfl) (by rfl) (by rfl) sc_Making_going_room (by rfl) (fun _ _ _ _ _ _ us hl => match us, hl with | [_, _, _], _ => by rfl) fun f cdv A outer s H E hr => ?_
  exact (jss_cons (js_setV (ps_set nd_Making_going_room rfl (.inl rfl) (je_cal (ok_row_at Z B) rfl hr (by decide) rfl (takes_of (E := E) rfl rfl rfl rfl) (ja_cons rfl (je_fld (at_errand Z) rfl (jr_of (je_var rfl (.inl rfl) rfl rfl)) rfl) (ja_cons rfl (je_var rfl (.inl rfl) rfl rfl) ja_nil)) rfl) rfl)) (jss_cons (js_if (jt_cmp (o_eq rfl (huR hr)) (jr_of (je_var rfl (.inl rfl) rfl rfl)) (jr_of cst_str) rfl) (jss_one (js_ret (je_meth (ok_Making_gone Z B) rfl hr (by decide) (takes_of (E := E) rfl rfl rfl rfl) (je_var rfl (.inl rfl) rfl rfl) (ja_cons rfl (je_tup (ja_cons rfl cst_str (ja_cons rfl (je_dget (nl := lits) Z.lits (huR hr) (je_fld (at_slots Z) rfl (jr_of (je_var rfl (.inl rfl) rfl rfl)) rfl) (je_ix (i_idx rfl) (jr_of (je_var rfl (.inl rfl) rfl rfl)) (jr_of cst_int) rfl) (fun _ _ => rfl)) (ja_cons rfl (je_meth (ok_Making_worth_of Z B) rfl hr (by decide) (takes_of (E := E) rfl rfl rfl rfl) (je_var rfl (.inl rfl) rfl rfl) (ja_cons rfl (je_ix (i_idx rfl) (jr_of (je_var rfl (.inl rfl) rfl rfl)) (jr_of cst_int) rfl) ja_nil) rfl rfl) ja_nil)))) (ja_cons rfl (je_cal (ok_behind Z B) rfl hr (by decide) rfl (takes_of (E := E) rfl rfl rfl rfl) (ja_cons rfl (je_var rfl (.inl rfl) rfl rfl) ja_nil) rfl) ja_nil)) rfl rfl))) jss_nil) (jss_cons (js_if (jt_cmp (o_eq rfl (huR hr)) (jr_of (je_var rfl (.inl rfl) rfl rfl)) (jr_of cst_str) rfl) (jss_one (js_ret (je_meth (ok_Making_gone Z B) rfl hr (by decide) (takes_of (E := E) rfl rfl rfl rfl) (je_var rfl (.inl rfl) rfl rfl) (ja_cons rfl (je_tup (ja_cons rfl cst_str (ja_cons rfl (je_meth (ok_Making_worth_of Z B) rfl hr (by decide) (takes_of (E := E) rfl rfl rfl rfl) (je_var rfl (.inl rfl) rfl rfl) (ja_cons rfl (je_ix (i_idx rfl) (jr_of (je_var rfl (.inl rfl) rfl rfl)) (jr_of cst_int) rfl) ja_nil) rfl rfl) ja_nil))) (ja_cons rfl (je_cal (ok_behind Z B) rfl hr (by decide) rfl (takes_of (E := E) rfl rfl rfl rfl) (ja_cons rfl (je_var rfl (.inl rfl) rfl rfl) ja_nil) rfl) ja_nil)) rfl rfl))) jss_nil) (jss_cons (js_if (jt_cmp (o_eq rfl (huR hr)) (jr_of (je_var rfl (.inl rfl) rfl rfl)) (jr_of cst_str) rfl) (jss_one (js_ret (je_meth (ok_Making_gone Z B) rfl hr (by decide) (takes_of (E := E) rfl rfl rfl rfl) (je_var rfl (.inl rfl) rfl rfl) (ja_cons rfl (je_tup (ja_cons rfl cst_str (ja_cons rfl cst_str (ja_cons rfl (je_dget (nl := lits) Z.lits (huR hr) (je_fld (at_numbers Z) rfl (jr_of (je_var rfl (.inl rfl) rfl rfl)) rfl) (je_var rfl (.inl rfl) rfl rfl) (fun _ _ => rfl)) ja_nil)))) (ja_cons rfl (je_op (o_add rfl) (jr_of (je_var rfl (.inl rfl) rfl rfl)) (jr_of (je_tup (ja_cons rfl cst_int (ja_cons rfl cst_int ja_nil))))) ja_nil)) rfl rfl))) jss_nil) (jss_cons (js_if (jt_cmp (o_eq rfl (huR hr)) (jr_of (je_var rfl (.inl rfl) rfl rfl)) (jr_of cst_str) rfl) (jss_one (js_ret (je_meth (ok_Making_gone Z B) rfl hr (by decide) (takes_of (E := E) rfl rfl rfl rfl) (je_var rfl (.inl rfl) rfl rfl) (ja_cons rfl (je_tup (ja_cons rfl cst_str (ja_cons rfl cst_str (ja_cons rfl (je_dget (nl := lits) Z.lits (huR hr) (je_fld (at_numbers Z) rfl (jr_of (je_var rfl (.inl rfl) rfl rfl)) rfl) (je_sl rfl (jr_of (je_var rfl (.inl rfl) rfl rfl)) jo_none (jo_some (je_neg cst_int))) (fun _ _ => rfl)) ja_nil)))) (ja_cons rfl (je_cal (ok_behind Z B) rfl hr (by decide) rfl (takes_of (E := E) rfl rfl rfl rfl) (ja_cons rfl (je_sl rfl (jr_of (je_var rfl (.inl rfl) rfl rfl)) jo_none (jo_some (je_neg cst_int))) ja_nil) rfl) ja_nil)) rfl rfl))) jss_nil) (jss_one (js_ret (je_meth (ok_Making_gone Z B) rfl hr (by decide) (takes_of (E := E) rfl rfl rfl rfl) (je_var rfl (.inl rfl) rfl rfl) (ja_cons rfl (je_tup (ja_cons rfl cst_str (ja_cons rfl cst_str (ja_cons rfl (je_dget (nl := lits) Z.lits (huR hr) (je_fld (at_numbers Z) rfl (jr_of (je_var rfl (.inl rfl) rfl rfl)) rfl) (je_sl rfl (jr_of (je_var rfl (.inl rfl) rfl rfl)) jo_none (jo_some (je_neg cst_int))) (fun _ _ => rfl)) ja_nil)))) (ja_cons rfl (je_op (o_add rfl) (jr_of (je_var rfl (.inl rfl) rfl rfl)) (jr_of (je_tup (ja_cons rfl cst_int ja_nil)))) ja_nil)) rfl rfl))))))))
def N_is_undone_end : List Str := ["errand", "place"]
theorem nd_is_undone_end : N_is_undone_end.Nodup := by decide +kernel
theorem sc_is_undone_end : FnScope N_is_undone_end ["errand", "place"] (defScope (top 86)) := ⟨rfl, rfl, rfl, nd_is_undone_end, rfl, by decide +kernel, by decide +kernel⟩
def b_is_undone_end : DS := dSeq (dIfS (dOr (dTest (dOp pEq (dOp pMod (dPr pLen (dCons (dVar 1) (dNil))) (dCst (.int 2))) (dCst (.int 0)))) (dOr (dTest (dOp pEq (dPr pLen (dCons (dVar 1) (dNil))) (dCst (.int 1)))) (dOr (dTest (dOp pEq (dOp pIdx (dVar 1) (dNeg (dCst (.int 2)))) (dCst (.int 0)))) (dTest (dOp pIsNot (dCall 2 f_row_at (dCons (dVar 0) (dCons (dVar 1) (dNil)))) (dCst .non)))))) (dRet (dCst (.bl false))) (dNop)) (dRet (dOp pEq (dOp pIdx (dCall 2 f_row_at (dCons (dVar 0) (dCons (dSl (dVar 1) (dNo) (dSo (dNeg (dCst (.int 2))))) (dNil)))) (dCst (.int 0))) (dCst (.str "do"))))
def f_is_undone_end : List D → M D := dFn 2 N_is_undone_end.length b_is_undone_end
theorem ok_is_undone_end (Z : Zf G mg fa fn nmt cls) (B : Tbs G mg base tfs) : Callee P G.w G mg base "is_undone_end" 4 2 ["errand", "place"] f_is_undone_end := by
  refine callee_ofA (k := 3) (N := N_is_undone_end) (d := b_is_undone_end) Z 92 167 (st := top 86) (by rfl) (by rfl) sc_is_undone_end (by rfl) (fun _ _ _ _ _ _ us hl => match us, hl with | [_, _], _ => by rfl) fun f cdv A outer s H E hr => ?_
  exact (jss_cons (js_if (PW.pt (jw_or (jt_cmp (o_eq rfl (huR hr)) (jr_of (je_op (o_mod) (jr_of (je_callB (c_len rfl) rfl (Z.free 1 rfl) boot_len (jb_cons rfl (jr_of (je_var rfl (.inl rfl) rfl rfl)) jb_nil) rfl)) (jr_of cst_int))) (jr_of cst_int) rfl) (jw_or (jt_cmp (o_eq rfl (huR hr)) (jr_of (je_callB (c_len rfl) rfl (Z.free 1 rfl) boot_len (jb_cons rfl (jr_of (je_var rfl (.inl rfl) rfl rfl)) jb_nil) rfl)) (jr_of cst_int) rfl) (jw_or (jt_cmp (o_eq rfl (huR hr)) (jr_of (je_ix (i_idx rfl) (jr_of (je_var rfl (.inl rfl) rfl rfl)) (jr_of (je_neg cst_int)) rfl)) (jr_of cst_int) rfl) (jw1_or (jt_cmp (o_isNot) (jr_of (je_cal (ok_row_at Z B) rfl hr (by decide) rfl (takes_of (E := E) rfl rfl rfl rfl) (ja_cons rfl (je_var rfl (.inl rfl) rfl rfl) (ja_cons rfl (je_var rfl (.inl rfl) rfl rfl) ja_nil)) rfl)) (jr_of cst_non) rfl)))))) (jss_one (js_ret cst_bl)) jss_nil) (jss_one (js_ret (je_cmp (o_eq rfl (huR hr)) (jr_of (je_ix (i_idx rfl) (jr_of (je_cal (ok_row_at Z B) rfl hr (by decide) rfl (takes_of (E := E) rfl rfl rfl rfl) (ja_cons rfl (je_var rfl (.inl rfl) rfl rfl) (ja_cons rfl (je_sl rfl (jr_of (je_var rfl (.inl rfl) rfl rfl)) jo_none (jo_some (je_neg cst_int))) ja_nil)) rfl)) (jr_of cst_int) rfl)) (jr_of cst_str) rfl))))
def N_standing : List Str := ["errand", "place", "found", "row"]
theorem nd_standing : N_standing.Nodup := by decide +kernel
theorem sc_standing : FnScope N_standing ["errand", "place"] (defScope (top 87)) := ⟨rfl, rfl, rfl, nd_standing, rfl, by decide +kernel, by decide +kernel⟩
def b_standing : DS := dSeq (dSet 2 (qO (dDisp (dNil)))) (dSeq (dIfS (dTest (dOp pEq (dOp pMod (dPr pLen (dCons (dVar 1) (dNil))) (dCst (.int 2))) (dCst (.int 0)))) (dSeq (dSet 3 (qV (dCall 2 f_row_at (dCons (dVar 0) (dCons (dSl (dVar 1) (dNo) (dSo (dNeg (dCst (.int 1))))) (dNil)))))) (dSeq (dIfS (dTest (dOp pEq (dOp pIdx (dVar 3) (dCst (.int 0))) (dCst (.str "do")))) (dOwn 2 fApp (dTup (dCons (dSl (dVar 1) (dNo) (dSo (dNeg (dCst (.int 1))))) (dCons (dCst (.int 1)) (dNil))))) (dNop)) (dSet 1 (qV (dSl (dVar 1) (dNo) (dSo (dNeg (dCst (.int 1))))))))) (dIfS (dTest (dCall 2 f_is_undone_end (dCons (dVar 0) (dCons (dVar 1) (dNil))))) (dSet 1 (qV (dSl (dVar 1) (dNo) (dSo (dNeg (dCst (.int 2))))))) (dNop))) (dSeq (whRun (dTest (dOp pGt (dPr pLen (dCons (dVar 1) (dNil))) (dCst (.int 1)))) (dSeq (dOwn 2 fApp (dTup (dCons (dSl (dVar 1) (dNo) (dSo (dNeg (dCst (.int 2))))) (dCons (dOp pIdx (dVar 1) (dNeg (dCst (.int 2)))) (dNil))))) (dSet 1 (qV (dSl (dVar 1) (dNo) (dSo (dNeg (dCst (.int 2)))))))) 100000) (dSeq (dFrz 2) (dRet (dVar 2)))))
def f_standing : List D → M D := dFn 2 N_standing.length b_standing
theorem ok_standing (Z : Zf G mg fa fn nmt cls) (B : Tbs G mg base tfs) : Callee P G.w G mg base "standing" 5 2 ["errand", "place"] f_standing := by
  refine callee_ofA (k := 4) (N := N_standing) (d := b_standing) Z 93 168 (st := top 87) (by rfl) (by rfl) sc_standing (by rfl) (fun _ _ _ _ _ _ us hl => match us, hl with | [_, _], _ => by rfl) fun f cdv A outer s H E hr => ?_
  exact (jss_cons (js_setO (ps_set nd_standing rfl (.inl rfl) (jl_disp ja_nil) rfl)) (jss_cons (js_if (jt_cmp (o_eq rfl (huR hr)) (jr_of (je_op (o_mod) (jr_of (je_callB (c_len rfl) rfl (Z.free 1 rfl) boot_len (jb_cons rfl (jr_of (je_var rfl (.inl rfl) rfl rfl)) jb_nil) rfl)) (jr_of cst_int))) (jr_of cst_int) rfl) (jss_cons (js_setV (ps_set nd_standing rfl (.inl rfl) (je_cal (ok_row_at Z B) rfl hr (by decide) rfl (takes_of (E := E) rfl rfl rfl rfl) (ja_cons rfl (je_var rfl (.inl rfl) rfl rfl) (ja_cons rfl (je_sl rfl (jr_of (je_var rfl (.inl rfl) rfl rfl)) jo_none (jo_some (je_neg cst_int))) ja_nil)) rfl) rfl)) (jss_cons (js_if (jt_cmp (o_eq rfl (huR hr)) (jr_of (je_ix (i_idx rfl) (jr_of (je_var rfl (.inl rfl) rfl rfl)) (jr_of cst_int) rfl)) (jr_of cst_str) rfl) (jss_one (js_app rfl rfl (.inl rfl) rfl rfl (je_tup (ja_cons rfl (je_sl rfl (jr_of (je_var rfl (.inl rfl) rfl rfl)) jo_none (jo_some (je_neg cst_int))) (ja_cons rfl cst_int ja_nil))) rfl rfl rfl rfl rfl)) jss_nil) (jss_one (js_setV (ps_set nd_standing rfl (.inl rfl) (je_sl rfl (jr_of (je_var rfl (.inl rfl) rfl rfl)) jo_none (jo_some (je_neg cst_int))) rfl))))) (jss_one (js_if (jt_val (jr_of (je_cal (ok_is_undone_end Z B) rfl hr (by decide) rfl (takes_of (E := E) rfl rfl rfl rfl) (ja_cons rfl (je_var rfl (.inl rfl) rfl rfl) (ja_cons rfl (je_var rfl (.inl rfl) rfl rfl) ja_nil)) rfl)) rfl) (jss_one (js_setV (ps_set nd_standing rfl (.inl rfl) (je_sl rfl (jr_of (je_var rfl (.inl rfl) rfl rfl)) jo_none (jo_some (je_neg cst_int))) rfl))) jss_nil))) (jss_cons (js_while (passes_of rfl) (jt_cmp (o_gt rfl (huR hr)) (jr_of (je_callB (c_len rfl) rfl (Z.free 1 rfl) boot_len (jb_cons rfl (jr_of (je_var rfl (.inl rfl) rfl rfl)) jb_nil) rfl)) (jr_of cst_int) rfl) (jss_cons (js_app rfl rfl (.inl rfl) rfl rfl (je_tup (ja_cons rfl (je_sl rfl (jr_of (je_var rfl (.inl rfl) rfl rfl)) jo_none (jo_some (je_neg cst_int))) (ja_cons rfl (je_ix (i_idx rfl) (jr_of (je_var rfl (.inl rfl) rfl rfl)) (jr_of (je_neg cst_int)) rfl) ja_nil))) rfl rfl rfl rfl rfl) (jss_one (js_setV (ps_set nd_standing rfl (.inl rfl) (je_sl rfl (jr_of (je_var rfl (.inl rfl) rfl rfl)) jo_none (jo_some (je_neg cst_int))) rfl))))) (jss_frz (jss_one (js_ret (je_var rfl (.inl rfl) rfl rfl)))))))
def N_number_at : List Str := ["errand", "place", "other", "number"]
theorem nd_number_at : N_number_at.Nodup := by decide +kernel
theorem sc_number_at : FnScope N_number_at ["errand", "place"] (defScope (top 91)) := ⟨rfl, rfl, rfl, nd_number_at, rfl, by decide +kernel, by decide +kernel⟩
def b_number_at : DS := dSeq (dFor (dItems (dCall 1 f_numbers_of (dCons (dVar 0) (dNil)))) (gT 2 (gsC (gN 2) (gsC (gN 3) (gs0)))) (dIfS (dTest (dOp pEq (dVar 2) (dVar 1))) (dRet (dVar 3)) (dNop))) (dRet (dCst (.int 0)))
def f_number_at : List D → M D := dFn 2 N_number_at.length b_number_at
theorem ok_number_at (Z : Zf G mg fa fn nmt cls) (B : Tbs G mg base tfs) : Callee P G.w G mg base "number_at" 16 2 ["errand", "place"] f_number_at := by
  refine callee_ofA (k := 15) (N := N_number_at) (d := b_number_at) Z 94 169 (st := top 91) (by rfl) (by rfl) sc_number_at (by rfl) (fun _ _ _ _ _ _ us hl => match us, hl with | [_, _], _ => by rfl) fun f cdv A outer s H E hr => ?_
  exact (jss_cons (js_for (vs := [0, 1, 2, 3]) (passes_of rfl) rfl (ji_val rfl (je_cal (ok_numbers_of Z B) rfl hr (by decide) rfl (takes_of (E := E) rfl rfl rfl rfl) (ja_cons rfl (je_var rfl (.inl rfl) rfl rfl) ja_nil) rfl)) (jg_tup rfl rfl (jgs_cons (jg_name nd_number_at rfl (.inl rfl) (.inl rfl) (by decide)) (jgs_cons (jg_name nd_number_at rfl (.inl rfl) (.inl rfl) (by decide)) jgs_nil))) (jss_one (js_if (jt_cmp (o_eq rfl (huR hr)) (jr_of (je_var rfl (.inl rfl) rfl rfl)) (jr_of (je_var rfl (.inl rfl) rfl rfl)) rfl) (jss_one (js_ret (je_var rfl (.inl rfl) rfl rfl))) jss_nil)) (fun _ => rfl)) (jss_one (js_ret cst_int)))
def N_fall_at : List Str := ["errand", "place", "owner", "side", "row"]
theorem nd_fall_at : N_fall_at.Nodup := by decide +kernel
theorem sc_fall_at : FnScope N_fall_at ["errand", "place"] (defScope (top 92)) := ⟨rfl, rfl, rfl, nd_fall_at, rfl, by decide +kernel, by decide +kernel⟩
def b_fall_at : DS := dSeq (dFor (dItems (dCall 2 f_standing (dCons (dVar 0) (dCons (dVar 1) (dNil))))) (gT 2 (gsC (gN 2) (gsC (gN 3) (gs0)))) (dSeq (dSet 4 (qV (dCall 2 f_row_at (dCons (dVar 0) (dCons (dVar 2) (dNil)))))) (dSeq (dIfS (dAnd (dTest (dOp pEq (dOp pIdx (dVar 4) (dCst (.int 0))) (dCst (.str "try")))) (dTest (dOp pEq (dVar 3) (dCst (.int 0))))) (dRet (dTup (dCons (dCst (.str "catch")) (dCons (dOp pIdx (dVar 4) (dCst (.int 2))) (dCons (dOp pAdd (dVar 2) (dTup (dCons (dCst (.int 1)) (dCons (dCst (.int 0)) (dNil))))) (dNil)))))) (dNop)) (dSeq (dIfS (dAnd (dTest (dOp pEq (dOp pIdx (dVar 4) (dCst (.int 0))) (dCst (.str "do")))) (dTest (dOp pEq (dVar 3) (dCst (.int 0))))) (dRet (dTup (dCons (dCst (.str "undo")) (dCons (dCall 2 f_number_at (dCons (dVar 0) (dCons (dVar 2) (dNil)))) (dCons (dOp pAdd (dVar 2) (dTup (dCons (dCst (.int 1)) (dNil)))) (dNil)))))) (dNop)) (dIfS (dTest (dOp pEq (dOp pIdx (dVar 4) (dCst (.int 0))) (dCst (.str "do")))) (dRet (dTup (dCons (dCst (.str "undo")) (dCons (dCall 2 f_number_at (dCons (dVar 0) (dCons (dVar 2) (dNil)))) (dCons (dOp pAdd (dVar 2) (dTup (dCons (dCst (.int 1)) (dCons (dPr pLen (dCons (dOp pIdx (dVar 4) (dCst (.int 2))) (dNil))) (dNil))))) (dNil)))))) (dNop)))))) (dRet (dCst .non))
def f_fall_at : List D → M D := dFn 2 N_fall_at.length b_fall_at
theorem ok_fall_at (Z : Zf G mg fa fn nmt cls) (B : Tbs G mg base tfs) : Callee P G.w G mg base "fall_at" 17 2 ["errand", "place"] f_fall_at := by
  refine callee_ofA (k := 16) (N := N_fall_at) (d := b_fall_at) Z 95 170 (st := top 92) (by rfl) (by rfl) sc_fall_at (by rfl) (fun _ _ _ _ _ _ us hl => match us, hl with | [_, _], _ => by rfl) fun f cdv A outer s H E hr => ?_
  exact (jss_cons (js_for (vs := [0, 1, 2, 3, 4]) (passes_of rfl) rfl (ji_val rfl (je_cal (ok_standing Z B) rfl hr (by decide) rfl (takes_of (E := E) rfl rfl rfl rfl) (ja_cons rfl (je_var rfl (.inl rfl) rfl rfl) (ja_cons rfl (je_var rfl (.inl rfl) rfl rfl) ja_nil)) rfl)) (jg_tup rfl rfl (jgs_cons (jg_name nd_fall_at rfl (.inl rfl) (.inl rfl) (by decide)) (jgs_cons (jg_name nd_fall_at rfl (.inl rfl) (.inl rfl) (by decide)) jgs_nil))) (jss_cons (js_setV (ps_set nd_fall_at rfl (.inl rfl) (je_cal (ok_row_at Z B) rfl hr (by decide) rfl (takes_of (E := E) rfl rfl rfl rfl) (ja_cons rfl (je_var rfl (.inl rfl) rfl rfl) (ja_cons rfl (je_var rfl (.inl rfl) rfl rfl) ja_nil)) rfl) rfl)) (jss_cons (js_if (PW.pt (jw_and (jt_cmp (o_eq rfl (huR hr)) (jr_of (je_ix (i_idx rfl) (jr_of (je_var rfl (.inl rfl) rfl rfl)) (jr_of cst_int) rfl)) (jr_of cst_str) rfl) (jw1_and (jt_cmp (o_eq rfl (huR hr)) (jr_of (je_var rfl (.inl rfl) rfl rfl)) (jr_of cst_int) rfl)))) (jss_one (js_ret (je_tup (ja_cons rfl cst_str (ja_cons rfl (je_ix (i_idx rfl) (jr_of (je_var rfl (.inl rfl) rfl rfl)) (jr_of cst_int) rfl) (ja_cons rfl (je_op (o_add rfl) (jr_of (je_var rfl (.inl rfl) rfl rfl)) (jr_of (je_tup (ja_cons rfl cst_int (ja_cons rfl cst_int ja_nil))))) ja_nil)))))) jss_nil) (jss_cons (js_if (PW.pt (jw_and (jt_cmp (o_eq rfl (huR hr)) (jr_of (je_ix (i_idx rfl) (jr_of (je_var rfl (.inl rfl) rfl rfl)) (jr_of cst_int) rfl)) (jr_of cst_str) rfl) (jw1_and (jt_cmp (o_eq rfl (huR hr)) (jr_of (je_var rfl (.inl rfl) rfl rfl)) (jr_of cst_int) rfl)))) (jss_one (js_ret (je_tup (ja_cons rfl cst_str (ja_cons rfl (je_cal (ok_number_at Z B) rfl hr (by decide) rfl (takes_of (E := E) rfl rfl rfl rfl) (ja_cons rfl (je_var rfl (.inl rfl) rfl rfl) (ja_cons rfl (je_var rfl (.inl rfl) rfl rfl) ja_nil)) rfl) (ja_cons rfl (je_op (o_add rfl) (jr_of (je_var rfl (.inl rfl) rfl rfl)) (jr_of (je_tup (ja_cons rfl cst_int ja_nil)))) ja_nil)))))) jss_nil) (jss_one (js_if (jt_cmp (o_eq rfl (huR hr)) (jr_of (je_ix (i_idx rfl) (jr_of (je_var rfl (.inl rfl) rfl rfl)) (jr_of cst_int) rfl)) (jr_of cst_str) rfl) (jss_one (js_ret (je_tup (ja_cons rfl cst_str (ja_cons rfl (je_cal (ok_number_at Z B) rfl hr (by decide) rfl (takes_of (E := E) rfl rfl rfl rfl) (ja_cons rfl (je_var rfl (.inl rfl) rfl rfl) (ja_cons rfl (je_var rfl (.inl rfl) rfl rfl) ja_nil)) rfl) (ja_cons rfl (je_op (o_add rfl) (jr_of (je_var rfl (.inl rfl) rfl rfl)) (jr_of (je_tup (ja_cons rfl cst_int (ja_cons rfl (je_callB (c_len rfl) rfl (Z.free 1 rfl) boot_len (jb_cons rfl (jr_of (je_ix (i_idx rfl) (jr_of (je_var rfl (.inl rfl) rfl rfl)) (jr_of cst_int) rfl)) jb_nil) rfl) ja_nil))))) ja_nil)))))) jss_nil))))) (fun _ => rfl)) (jss_one (js_ret cst_non)))
def N_Making_slot_of : List Str := ["self", "name"]
theorem nd_Making_slot_of : N_Making_slot_of.Nodup := by decide +kernel
theorem sc_Making_slot_of : FnScope N_Making_slot_of ["self", "name"] (defScope (mth 98 2)) := ⟨rfl, rfl, rfl, nd_Making_slot_of, rfl, by decide +kernel, by decide +kernel⟩
def b_Making_slot_of : DS := dSeq (dIfS (dTest (dOp pIs (dVar 1) (dCst .non))) (dRet (dCst .non)) (dNop)) (dRet (dOp (pGet lits) (dFld [6] "slots" (dVar 0)) (dVar 1)))
def f_Making_slot_of : List D → M D := dFn 2 N_Making_slot_of.length b_Making_slot_of
theorem ok_Making_slot_of (Z : Zf G mg fa fn nmt cls) (B : Tbs G mg base tfs) : MCal P G.w G mg base 6 "slot_of" 1 2 ["self", "name"] f_Making_slot_of := by
  refine mcal_of (k := 0) (N := N_Making_slot_of) (d := b_Making_slot_of) Z 96 171 154 (st := mth 98 2) (by rfl) (by rfl) (by rfl) (by rfl) sc_Making_slot_of (by rfl) (fun _ _ _ _ _ _ us hl => match us, hl with | [_, _], _ => by rfl) fun f cdv A outer s H E hr => ?_
  exact (jss_cons (js_if (jt_cmp (o_is) (jr_of (je_var rfl (.inl rfl) rfl rfl)) (jr_of cst_non) rfl) (jss_one (js_ret cst_non)) jss_nil) (jss_one (js_ret (je_dget (nl := lits) Z.lits (huR hr) (je_fld (at_slots Z) rfl (jr_of (je_var rfl (.inl rfl) rfl rfl)) rfl) (je_var rfl (.inl rfl) rfl rfl) (fun _ _ => rfl)))))
def N_Making_fall_of : List Str := ["self", "place", "found", "word", "key", "target"]
theorem nd_Making_fall_of : N_Making_fall_of.Nodup := by decide +kernel
theorem sc_Making_fall_of : FnScope N_Making_fall_of ["self", "place"] (defScope (mth 98 4)) := ⟨rfl, rfl, rfl, nd_Making_fall_of, rfl, by decide +kernel, by decide +kernel⟩
def b_Making_fall_of : DS := dSeq (dSet 2 (qV (dCall 2 f_fall_at (dCons (dFld [6] "errand" (dVar 0)) (dCons (dVar 1) (dNil)))))) (dSeq (dIfS (dTest (dOp pIs (dVar 2) (dCst .non))) (dRet (dCst .non)) (dNop)) (dSeq (dBnd (dVar 2) (gT 3 (gsC (gN 3) (gsC (gN 4) (gsC (gN 5) (gs0)))))) (dSeq (dIfS (dTest (dOp pEq (dVar 3) (dCst (.str "undo")))) (dSet 4 (qV (dPr pStr (dCons (dVar 4) (dNil))))) (dNop)) (dRet (dTup (dCons (dMeth 6 "slot_of" 2 f_Making_slot_of (dVar 0) (dCons (dVar 4) (dNil))) (dCons (dMeth 6 "room_of" 2 f_Making_room_of (dVar 0) (dCons (dVar 5) (dNil))) (dNil))))))))
def f_Making_fall_of : List D → M D := dFn 2 N_Making_fall_of.length b_Making_fall_of
theorem ok_Making_fall_of (Z : Zf G mg fa fn nmt cls) (B : Tbs G mg base tfs) : MCal P G.w G mg base 6 "fall_of" 18 2 ["self", "place"] f_Making_fall_of := by
  refine mcal_of (k := 17) (N := N_Making_fall_of) (d := b_Making_fall_of) Z 97 172 154 (st := mth 98 4) (by rfl) (by rfl) (by rfl) (by rfl) sc_Making_fall_of (by rfl) (fun _ _ _ _ _ _ us hl => match us, hl with | [_, _], _ => by rfl) fun f cdv A outer s H E hr => ?_
  exact (jss_cons (js_setV (ps_set nd_Making_fall_of rfl (.inl rfl) (je_cal (ok_fall_at Z B) rfl hr (by decide) rfl (takes_of (E := E) rfl rfl rfl rfl) (ja_cons rfl (je_fld (at_errand Z) rfl (jr_of (je_var rfl (.inl rfl) rfl rfl)) rfl) (ja_cons rfl (je_var rfl (.inl rfl) rfl rfl) ja_nil)) rfl) rfl)) (jss_cons (js_if (jt_cmp (o_is) (jr_of (je_var rfl (.inl rfl) rfl rfl)) (jr_of cst_non) rfl) (jss_one (js_ret cst_non)) jss_nil) (jss_cons (js_bnd (vs := [0, 1, 2, 3, 4, 5]) (ps_asg (je_var rfl (.inl rfl) rfl rfl) (jg_tup rfl rfl (jgs_cons (jg_name nd_Making_fall_of rfl (.inl rfl) (.inl rfl) (by decide)) (jgs_cons (jg_name nd_Making_fall_of rfl (.inl rfl) (.inl rfl) (by decide)) (jgs_cons (jg_name nd_Making_fall_of rfl (.inl rfl) (.inl rfl) (by decide)) jgs_nil)))))) (jss_cons (js_if (jt_cmp (o_eq rfl (huR hr)) (jr_of (je_var rfl (.inl rfl) rfl rfl)) (jr_of cst_str) rfl) (jss_one (js_setV (ps_set nd_Making_fall_of rfl (.inl rfl) (je_callT (c_str) rfl (Z.free 12 rfl) PyProof.Rows.boot_str (jb_cons rfl (jr_of (je_var rfl (.inl rfl) rfl rfl)) jb_nil) rfl) rfl))) jss_nil) (jss_one (js_ret (je_tup (ja_cons rfl (je_meth (ok_Making_slot_of Z B) rfl hr (by decide) (takes_of (E := E) rfl rfl rfl rfl) (je_var rfl (.inl rfl) rfl rfl) (ja_cons rfl (je_var rfl (.inl rfl) rfl rfl) ja_nil) rfl rfl) (ja_cons rfl (je_meth (ok_Making_room_of Z B) rfl hr (by decide) (takes_of (E := E) rfl rfl rfl rfl) (je_var rfl (.inl rfl) rfl rfl) (ja_cons rfl (je_var rfl (.inl rfl) rfl rfl) ja_nil) rfl rfl) ja_nil)))))))))
def N_is_row : List Str := ["errand", "place", "word", "row"]
theorem nd_is_row : N_is_row.Nodup := by decide +kernel
theorem sc_is_row : FnScope N_is_row ["errand", "place", "word"] (defScope (top 90)) := ⟨rfl, rfl, rfl, nd_is_row, rfl, by decide +kernel, by decide +kernel⟩
def b_is_row : DS := dSeq (dSet 3 (qV (dCall 2 f_row_at (dCons (dVar 0) (dCons (dVar 1) (dNil)))))) (dRet (dAndV (dOp pIsNot (dVar 3) (dCst .non)) (dOp pEq (dOp pIdx (dVar 3) (dCst (.int 0))) (dVar 2))))
def f_is_row : List D → M D := dFn 3 N_is_row.length b_is_row
theorem ok_is_row (Z : Zf G mg fa fn nmt cls) (B : Tbs G mg base tfs) : Callee P G.w G mg base "is_row" 4 3 ["errand", "place", "word"] f_is_row := by
  refine callee_ofA (k := 3) (N := N_is_row) (d := b_is_row) Z 98 173 (st := top 90) (by rfl) (by rfl) sc_is_row (by rfl) (fun _ _ _ _ _ _ us hl => match us, hl with | [_, _, _], _ => by rfl) fun f cdv A outer s H E hr => ?_
  exact (jss_cons (js_setV (ps_set nd_is_row rfl (.inl rfl) (je_cal (ok_row_at Z B) rfl hr (by decide) rfl (takes_of (E := E) rfl rfl rfl rfl) (ja_cons rfl (je_var rfl (.inl rfl) rfl rfl) (ja_cons rfl (je_var rfl (.inl rfl) rfl rfl) ja_nil)) rfl) rfl)) (jss_one (js_ret (je_and (je_cmp (o_isNot) (jr_of (je_var rfl (.inl rfl) rfl rfl)) (jr_of cst_non) rfl) (pe_one (je_cmp (o_eq rfl (huR hr)) (jr_of (je_ix (i_idx rfl) (jr_of (je_var rfl (.inl rfl) rfl rfl)) (jr_of cst_int) rfl)) (jr_of (je_var rfl (.inl rfl) rfl rfl)) rfl))))))
def N_off_at : List Str := ["errand", "place", "found", "owner", "side"]
theorem nd_off_at : N_off_at.Nodup := by decide +kernel
theorem sc_off_at : FnScope N_off_at ["errand", "place"] (defScope (top 93)) := ⟨rfl, rfl, rfl, nd_off_at, rfl, by decide +kernel, by decide +kernel⟩
def b_off_at : DS := dSeq (dSet 2 (qV (dCst .non))) (dSeq (dFor (dItems (dCall 2 f_standing (dCons (dVar 0) (dCons (dVar 1) (dNil))))) (gT 2 (gsC (gN 3) (gsC (gN 4) (gs0)))) (dSeq (dIfS (dAnd (dTest (dCall 3 f_is_row (dCons (dVar 0) (dCons (dVar 3) (dCons (dCst (.str "do")) (dNil)))))) (dTest (dOp pEq (dVar 4) (dCst (.int 1))))) (dRet (dCst (.str "shut"))) (dNop)) (dIfS (dAnd (dTest (dOp pIs (dVar 2) (dCst .non))) (dTest (dCall 3 f_is_row (dCons (dVar 0) (dCons (dVar 3) (dCons (dCst (.str "do")) (dNil))))))) (dSet 2 (qV (dOp pAdd (dVar 3) (dTup (dCons (dCst (.int 1)) (dNil)))))) (dNop)))) (dRet (dVar 2)))
def f_off_at : List D → M D := dFn 2 N_off_at.length b_off_at
theorem ok_off_at (Z : Zf G mg fa fn nmt cls) (B : Tbs G mg base tfs) : Callee P G.w G mg base "off_at" 6 2 ["errand", "place"] f_off_at := by
  refine callee_ofA (k := 5) (N := N_off_at) (d := b_off_at) Z 99 174 (st := top 93) (by rfl) (by rfl) sc_off_at (by rfl) (fun _ _ _ _ _ _ us hl => match us, hl with | [_, _], _ => by rfl) fun f cdv A outer s H E hr => ?_
  exact (jss_cons (js_setV (ps_set nd_off_at rfl (.inl rfl) cst_non rfl)) (jss_cons (js_for (vs := [0, 1, 2, 3, 4]) (passes_of rfl) rfl (ji_val rfl (je_cal (ok_standing Z B) rfl hr (by decide) rfl (takes_of (E := E) rfl rfl rfl rfl) (ja_cons rfl (je_var rfl (.inl rfl) rfl rfl) (ja_cons rfl (je_var rfl (.inl rfl) rfl rfl) ja_nil)) rfl)) (jg_tup rfl rfl (jgs_cons (jg_name nd_off_at rfl (.inl rfl) (.inl rfl) (by decide)) (jgs_cons (jg_name nd_off_at rfl (.inl rfl) (.inl rfl) (by decide)) jgs_nil))) (jss_cons (js_if (PW.pt (jw_and (jt_val (jr_of (je_cal (ok_is_row Z B) rfl hr (by decide) rfl (takes_of (E := E) rfl rfl rfl rfl) (ja_cons rfl (je_var rfl (.inl rfl) rfl rfl) (ja_cons rfl (je_var rfl (.inl rfl) rfl rfl) (ja_cons rfl cst_str ja_nil))) rfl)) rfl) (jw1_and (jt_cmp (o_eq rfl (huR hr)) (jr_of (je_var rfl (.inl rfl) rfl rfl)) (jr_of cst_int) rfl)))) (jss_one (js_ret cst_str)) jss_nil) (jss_one (js_if (PW.pt (jw_and (jt_cmp (o_is) (jr_of (je_var rfl (.inl rfl) rfl rfl)) (jr_of cst_non) rfl) (jw1_and (jt_val (jr_of (je_cal (ok_is_row Z B) rfl hr (by decide) rfl (takes_of (E := E) rfl rfl rfl rfl) (ja_cons rfl (je_var rfl (.inl rfl) rfl rfl) (ja_cons rfl (je_var rfl (.inl rfl) rfl rfl) (ja_cons rfl cst_str ja_nil))) rfl)) rfl)))) (jss_one (js_setV (ps_set nd_off_at rfl (.inl rfl) (je_op (o_add rfl) (jr_of (je_var rfl (.inl rfl) rfl rfl)) (jr_of (je_tup (ja_cons rfl cst_int ja_nil)))) rfl))) jss_nil))) (fun _ => rfl)) (jss_one (js_ret (je_var rfl (.inl rfl) rfl rfl)))))
def N_Making_off_of : List Str := ["self", "place", "found"]
theorem nd_Making_off_of : N_Making_off_of.Nodup := by decide +kernel
theorem sc_Making_off_of : FnScope N_Making_off_of ["self", "place"] (defScope (mth 98 5)) := ⟨rfl, rfl, rfl, nd_Making_off_of, rfl, by decide +kernel, by decide +kernel⟩
def b_Making_off_of : DS := dSeq (dSet 2 (qV (dCall 2 f_off_at (dCons (dFld [6] "errand" (dVar 0)) (dCons (dVar 1) (dNil)))))) (dSeq (dIfS (dOr (dTest (dOp pIs (dVar 2) (dCst .non))) (dTest (dOp pEq (dVar 2) (dCst (.str "shut"))))) (dRet (dVar 2)) (dNop)) (dRet (dMeth 6 "room_of" 2 f_Making_room_of (dVar 0) (dCons (dVar 2) (dNil)))))
def f_Making_off_of : List D → M D := dFn 2 N_Making_off_of.length b_Making_off_of
theorem ok_Making_off_of (Z : Zf G mg fa fn nmt cls) (B : Tbs G mg base tfs) : MCal P G.w G mg base 6 "off_of" 7 2 ["self", "place"] f_Making_off_of := by
  refine mcal_of (k := 6) (N := N_Making_off_of) (d := b_Making_off_of) Z 100 175 154 (st := mth 98 5) (by rfl) (by rfl) (by rfl) (by rfl) sc_Making_off_of (by rfl) (fun _ _ _ _ _ _ us hl => match us, hl with | [_, _], _ => by rfl) fun f cdv A outer s H E hr => ?_
  exact (jss_cons (js_setV (ps_set nd_Making_off_of rfl (.inl rfl) (je_cal (ok_off_at Z B) rfl hr (by decide) rfl (takes_of (E := E) rfl rfl rfl rfl) (ja_cons rfl (je_fld (at_errand Z) rfl (jr_of (je_var rfl (.inl rfl) rfl rfl)) rfl) (ja_cons rfl (je_var rfl (.inl rfl) rfl rfl) ja_nil)) rfl) rfl)) (jss_cons (js_if (PW.pt (jw_or (jt_cmp (o_is) (jr_of (je_var rfl (.inl rfl) rfl rfl)) (jr_of cst_non) rfl) (jw1_or (jt_cmp (o_eq rfl (huR hr)) (jr_of (je_var rfl (.inl rfl) rfl rfl)) (jr_of cst_str) rfl)))) (jss_one (js_ret (je_var rfl (.inl rfl) rfl rfl))) jss_nil) (jss_one (js_ret (je_meth (ok_Making_room_of Z B) rfl hr (by decide) (takes_of (E := E) rfl rfl rfl rfl) (je_var rfl (.inl rfl) rfl rfl) (ja_cons rfl (je_var rfl (.inl rfl) rfl rfl) ja_nil) rfl rfl)))))
def N_Making_branch_of : List Str := ["self", "branch", "name", "way", "who", "what", "one"]
theorem nd_Making_branch_of : N_Making_branch_of.Nodup := by decide +kernel
theorem sc_Making_branch_of : FnScope N_Making_branch_of ["self", "branch"] (defScope (mth 98 6)) := ⟨rfl, rfl, rfl, nd_Making_branch_of, rfl, by decide +kernel, by decide +kernel⟩
def b_Making_branch_of : DS := dSeq (dBnd (dVar 1) (gT 4 (gsC (gN 2) (gsC (gN 3) (gsC (gN 4) (gsC (gN 5) (gs0))))))) (dSeq (dIfS (dTest (dOp pEq (dVar 3) (dCst (.str "ask")))) (dRet (dTup (dCons (dMeth 6 "slot_of" 2 f_Making_slot_of (dVar 0) (dCons (dVar 2) (dNil))) (dCons (dVar 3) (dCons (dVar 4) (dCons (dMeth 6 "worth_of" 2 f_Making_worth_of (dVar 0) (dCons (dVar 5) (dNil))) (dNil))))))) (dNop)) (dRet (dTup (dCons (dMeth 6 "slot_of" 2 f_Making_slot_of (dVar 0) (dCons (dVar 2) (dNil))) (dCons (dVar 3) (dCons (dVar 4) (dCons (dPr pTupR (dCons (dLst (dLc (dItems (dVar 5)) (gN 6) (dYes) (dMeth 6 "worth_of" 2 f_Making_worth_of (dVar 0) (dCons (dVar 6) (dNil))) [6])) (dNil))) (dNil))))))))
def f_Making_branch_of : List D → M D := dFn 2 N_Making_branch_of.length b_Making_branch_of
theorem ok_Making_branch_of (Z : Zf G mg fa fn nmt cls) (B : Tbs G mg base tfs) : MCal P G.w G mg base 6 "branch_of" 14 2 ["self", "branch"] f_Making_branch_of := by
  refine mcal_of (k := 13) (N := N_Making_branch_of) (d := b_Making_branch_of) Z 101 176 154 (st := mth 98 6) (by rfl) (by rfl) (by rfl) (by rfl) sc_Making_branch_of (by rfl) (fun _ _ _ _ _ _ us hl => match us, hl with | [_, _], _ => by rfl) fun f cdv A outer s H E hr => ?_
  exact (jss_cons (js_bnd (vs := [0, 1, 2, 3, 4, 5, 6]) (ps_asg (je_var rfl (.inl rfl) rfl rfl) (jg_tup rfl rfl (jgs_cons (jg_name nd_Making_branch_of rfl (.inl rfl) (.inl rfl) (by decide)) (jgs_cons (jg_name nd_Making_branch_of rfl (.inl rfl) (.inl rfl) (by decide)) (jgs_cons (jg_name nd_Making_branch_of rfl (.inl rfl) (.inl rfl) (by decide)) (jgs_cons (jg_name nd_Making_branch_of rfl (.inl rfl) (.inl rfl) (by decide)) jgs_nil))))))) (jss_cons (js_if (jt_cmp (o_eq rfl (huR hr)) (jr_of (je_var rfl (.inl rfl) rfl rfl)) (jr_of cst_str) rfl) (jss_one (js_ret (je_tup (ja_cons rfl (je_meth (ok_Making_slot_of Z B) rfl hr (by decide) (takes_of (E := E) rfl rfl rfl rfl) (je_var rfl (.inr (.inl rfl)) rfl rfl) (ja_cons rfl (je_var rfl (.inl rfl) rfl rfl) ja_nil) rfl rfl) (ja_cons rfl (je_var rfl (.inl rfl) rfl rfl) (ja_cons rfl (je_var rfl (.inl rfl) rfl rfl) (ja_cons rfl (je_meth (ok_Making_worth_of Z B) rfl hr (by decide) (takes_of (E := E) rfl rfl rfl rfl) (je_var rfl (.inr (.inl rfl)) rfl rfl) (ja_cons rfl (je_var rfl (.inl rfl) rfl rfl) ja_nil) rfl rfl) ja_nil))))))) jss_nil) (jss_one (js_ret (je_tup (ja_cons rfl (je_meth (ok_Making_slot_of Z B) rfl hr (by decide) (takes_of (E := E) rfl rfl rfl rfl) (je_var rfl (.inr (.inl rfl)) rfl rfl) (ja_cons rfl (je_var rfl (.inl rfl) rfl rfl) ja_nil) rfl rfl) (ja_cons rfl (je_var rfl (.inl rfl) rfl rfl) (ja_cons rfl (je_var rfl (.inl rfl) rfl rfl) (ja_cons rfl (je_callT (c_tupR rfl) rfl (Z.free 16 rfl) PyProof.Rows.boot_tuple (jb_cons rfl (jr_of (je_lst (je_lc (own := [("one", 6)]) rfl nd_Making_branch_of (ji_valW rfl (jr_of (je_var rfl (.inl rfl) rfl rfl))) (blkOk_by rfl) (fun _ _ _ _ _ => (jg_name nd_Making_branch_of rfl (.inl rfl) (.inr rfl) (by decide))) (fun _ _ _ _ _ => jts_nil) (fun _ _ _ _ _ => (je_meth (ok_Making_worth_of Z B) rfl hr (by decide) takes0 (je_var rfl (.inr (.inl rfl)) rfl rfl) (ja_cons rfl (je_var rfl (.inl rfl) rfl rfl) ja_nil) rfl rfl)) (fun _ => rfl)))) jb_nil) rfl) ja_nil)))))))))
def N_Making_falling_room : List Str := ["self", "place", "word", "row", "fall", "branches", "d", "branch"]
theorem nd_Making_falling_room : N_Making_falling_room.Nodup := by decide +kernel
theorem sc_Making_falling_room : FnScope N_Making_falling_room ["self", "place", "word"] (defScope (mth 98 9)) := ⟨rfl, rfl, rfl, nd_Making_falling_room, rfl, by decide +kernel, by decide +kernel⟩
def b_Making_falling_room : DS := dSeq (dSet 3 (qV (dCall 2 f_row_at (dCons (dFld [6] "errand" (dVar 0)) (dCons (dVar 1) (dNil)))))) (dSeq (dSet 4 (qV (dMeth 6 "fall_of" 2 f_Making_fall_of (dVar 0) (dCons (dVar 1) (dNil))))) (dSeq (dIfS (dTest (dOp pEq (dVar 2) (dCst (.str "fail")))) (dRet (dTup (dCons (dTup (dNil)) (dCons (dTup (dCons (dCst (.str "fail")) (dCons (dMeth 6 "worth_of" 2 f_Making_worth_of (dVar 0) (dCons (dOp pIdx (dVar 3) (dCst (.int 1))) (dNil))) (dNil)))) (dCons (dVar 4) (dCons (dCst .non) (dNil))))))) (dNop)) (dSeq (dIfS (dTest (dOp pEq (dVar 2) (dCst (.str "round")))) (dRet (dTup (dCons (dTup (dNil)) (dCons (dTup (dCons (dCst (.str "round")) (dCons (dMeth 6 "room_of" 2 f_Making_room_of (dVar 0) (dCons (dOp pAdd (dVar 1) (dTup (dCons (dCst (.int 0)) (dNil)))) (dNil))) (dNil)))) (dCons (dVar 4) (dCons (dCst .non) (dNil))))))) (dNop)) (dSeq (dIfS (dTest (dOp pEq (dVar 2) (dCst (.str "want")))) (dSeq (dSet 5 (qV (dPr pTupR (dCons (dLst (dLc (dItems (dOp pIdx (dVar 3) (dCst (.int 2)))) (gN 7) (dYes) (dMeth 6 "branch_of" 2 f_Making_branch_of (dVar 0) (dCons (dVar 7) (dNil))) [7])) (dNil))))) (dRet (dTup (dCons (dTup (dNil)) (dCons (dTup (dCons (dCst (.str "want")) (dCons (dOp pIdx (dVar 3) (dCst (.int 1))) (dCons (dVar 5) (dCons (dMeth 6 "room_of" 2 f_Making_room_of (dVar 0) (dCons (dCall 1 f_behind (dCons (dVar 1) (dNil))) (dNil))) (dNil)))))) (dCons (dVar 4) (dCons (dMeth 6 "off_of" 2 f_Making_off_of (dVar 0) (dCons (dVar 1) (dNil))) (dNil)))))))) (dNop)) (dSeq (dSet 6 (qV (dOp (pGet lits) (dFld [6] "numbers" (dVar 0)) (dSl (dVar 1) (dNo) (dSo (dNeg (dCst (.int 2)))))))) (dRet (dTup (dCons (dTup (dCons (dTup (dCons (dCst (.str "mark")) (dCons (dCst (.str "undone")) (dCons (dVar 6) (dNil))))) (dNil))) (dCons (dTup (dCons (dCst (.str "out")) (dCons (dOp (pGet lits) (dFld [6] "slots" (dVar 0)) (dPr pStr (dCons (dVar 6) (dNil)))) (dNil)))) (dCons (dVar 4) (dCons (dMeth 6 "off_of" 2 f_Making_off_of (dVar 0) (dCons (dVar 1) (dNil))) (dNil))))))))))))
def f_Making_falling_room : List D → M D := dFn 3 N_Making_falling_room.length b_Making_falling_room
theorem ok_Making_falling_room (Z : Zf G mg fa fn nmt cls) (B : Tbs G mg base tfs) : MCal P G.w G mg base 6 "falling_room" 19 3 ["self", "place", "word"] f_Making_falling_room := by
  refine mcal_of (k := 18) (N := N_Making_falling_room) (d := b_Making_falling_room) Z 102 177 154 (st := mth 98 9) (by rfl) (by rfl) (by rfl) (by rfl) sc_Making_falling_room (by rfl) (fun _ _ _ _ _ _ us hl => match us, hl with | [_, _, _], _ => by rfl) fun f cdv A outer s H E hr => ?_
  exact (jss_cons (js_setV (ps_set nd_Making_falling_room rfl (.inl rfl) (je_cal (ok_row_at Z B) rfl hr (by decide) rfl (takes_of (E := E) rfl rfl rfl rfl) (ja_cons rfl (je_fld (at_errand Z) rfl (jr_of (je_var rfl (.inr (.inl rfl)) rfl rfl)) rfl) (ja_cons rfl (je_var rfl (.inl rfl) rfl rfl) ja_nil)) rfl) rfl)) (jss_cons (js_setV (ps_set nd_Making_falling_room rfl (.inl rfl) (je_meth (ok_Making_fall_of Z B) rfl hr (by decide) (takes_of (E := E) rfl rfl rfl rfl) (je_var rfl (.inr (.inl rfl)) rfl rfl) (ja_cons rfl (je_var rfl (.inl rfl) rfl rfl) ja_nil) rfl rfl) rfl)) (jss_cons (js_if (jt_cmp (o_eq rfl (huR hr)) (jr_of (je_var rfl (.inl rfl) rfl rfl)) (jr_of cst_str) rfl) (jss_one (js_ret (je_tup (ja_cons rfl (je_tup ja_nil) (ja_cons rfl (je_tup (ja_cons rfl cst_str (ja_cons rfl (je_meth (ok_Making_worth_of Z B) rfl hr (by decide) (takes_of (E := E) rfl rfl rfl rfl) (je_var rfl (.inr (.inl rfl)) rfl rfl) (ja_cons rfl (je_ix (i_idx rfl) (jr_of (je_var rfl (.inl rfl) rfl rfl)) (jr_of cst_int) rfl) ja_nil) rfl rfl) ja_nil))) (ja_cons rfl (je_var rfl (.inl rfl) rfl rfl) (ja_cons rfl cst_non ja_nil))))))) jss_nil) (jss_cons (js_if (jt_cmp (o_eq rfl (huR hr)) (jr_of (je_var rfl (.inl rfl) rfl rfl)) (jr_of cst_str) rfl) (jss_one (js_ret (je_tup (ja_cons rfl (je_tup ja_nil) (ja_cons rfl (je_tup (ja_cons rfl cst_str (ja_cons rfl (je_meth (ok_Making_room_of Z B) rfl hr (by decide) (takes_of (E := E) rfl rfl rfl rfl) (je_var rfl (.inr (.inl rfl)) rfl rfl) (ja_cons rfl (je_op (o_add rfl) (jr_of (je_var rfl (.inl rfl) rfl rfl)) (jr_of (je_tup (ja_cons rfl cst_int ja_nil)))) ja_nil) rfl rfl) ja_nil))) (ja_cons rfl (je_var rfl (.inl rfl) rfl rfl) (ja_cons rfl cst_non ja_nil))))))) jss_nil) (jss_cons (js_if (jt_cmp (o_eq rfl (huR hr)) (jr_of (je_var rfl (.inl rfl) rfl rfl)) (jr_of cst_str) rfl) (jss_cons (js_setV (ps_set nd_Making_falling_room rfl (.inl rfl) (je_callT (c_tupR rfl) rfl (Z.free 16 rfl) PyProof.Rows.boot_tuple (jb_cons rfl (jr_of (je_lst (je_lc (own := [("branch", 7)]) rfl nd_Making_falling_room (ji_valW rfl (jr_of (je_ix (i_idx rfl) (jr_of (je_var rfl (.inl rfl) rfl rfl)) (jr_of cst_int) rfl))) (blkOk_by rfl) (fun _ _ _ _ _ => (jg_name nd_Making_falling_room rfl (.inl rfl) (.inr rfl) (by decide))) (fun _ _ _ _ _ => jts_nil) (fun _ _ _ _ _ => (je_meth (ok_Making_branch_of Z B) rfl hr (by decide) takes0 (je_var rfl (.inr (.inl rfl)) rfl rfl) (ja_cons rfl (je_var rfl (.inl rfl) rfl rfl) ja_nil) rfl rfl)) (fun _ => rfl)))) jb_nil) rfl) rfl)) (jss_one (js_ret (je_tup (ja_cons rfl (je_tup ja_nil) (ja_cons rfl (je_tup (ja_cons rfl cst_str (ja_cons rfl (je_ix (i_idx rfl) (jr_of (je_var rfl (.inl rfl) rfl rfl)) (jr_of cst_int) rfl) (ja_cons rfl (je_var rfl (.inl rfl) rfl rfl) (ja_cons rfl (je_meth (ok_Making_room_of Z B) rfl hr (by decide) (takes_of (E := E) rfl rfl rfl rfl) (je_var rfl (.inr (.inl rfl)) rfl rfl) (ja_cons rfl (je_cal (ok_behind Z B) rfl hr (by decide) rfl (takes_of (E := E) rfl rfl rfl rfl) (ja_cons rfl (je_var rfl (.inl rfl) rfl rfl) ja_nil) rfl) ja_nil) rfl rfl) ja_nil))))) (ja_cons rfl (je_var rfl (.inl rfl) rfl rfl) (ja_cons rfl (je_meth (ok_Making_off_of Z B) rfl hr (by decide) (takes_of (E := E) rfl rfl rfl rfl) (je_var rfl (.inr (.inl rfl)) rfl rfl) (ja_cons rfl (je_var rfl (.inl rfl) rfl rfl) ja_nil) rfl rfl) ja_nil)))))))) jss_nil) (jss_cons (js_setV (ps_set nd_Making_falling_room rfl (.inl rfl) (je_dget (nl := lits) Z.lits (huR hr) (je_fld (at_numbers Z) rfl (jr_of (je_var rfl (.inr (.inl rfl)) rfl rfl)) rfl) (je_sl rfl (jr_of (je_var rfl (.inl rfl) rfl rfl)) jo_none (jo_some (je_neg cst_int))) (fun _ _ => rfl)) rfl)) (jss_one (js_ret (je_tup (ja_cons rfl (je_tup (ja_cons rfl (je_tup (ja_cons rfl cst_str (ja_cons rfl cst_str (ja_cons rfl (je_var rfl (.inl rfl) rfl rfl) ja_nil)))) ja_nil)) (ja_cons rfl (je_tup (ja_cons rfl cst_str (ja_cons rfl (je_dget (nl := lits) Z.lits (huR hr) (je_fld (at_slots Z) rfl (jr_of (je_var rfl (.inr (.inl rfl)) rfl rfl)) rfl) (je_callT (c_str) rfl (Z.free 12 rfl) PyProof.Rows.boot_str (jb_cons rfl (jr_of (je_var rfl (.inl rfl) rfl rfl)) jb_nil) rfl) (fun _ _ => rfl)) ja_nil))) (ja_cons rfl (je_var rfl (.inl rfl) rfl rfl) (ja_cons rfl (je_meth (ok_Making_off_of Z B) rfl hr (by decide) (takes_of (E := E) rfl rfl rfl rfl) (je_var rfl (.inr (.inl rfl)) rfl rfl) (ja_cons rfl (je_var rfl (.inl rfl) rfl rfl) ja_nil) rfl rfl) ja_nil)))))))))))))
def N_dos_around : List Str := ["errand", "place", "part", "numbers", "found", "k"]
theorem nd_dos_around : N_dos_around.Nodup := by decide +kernel
theorem sc_dos_around : FnScope N_dos_around ["errand", "place", "part"] (defScope (top 96)) := ⟨rfl, rfl, rfl, nd_dos_around, rfl, by decide +kernel, by decide +kernel⟩
def b_dos_around : DS := dSeq (dSet 3 (qV (dDict0 (dCall 1 f_numbers_of (dCons (dVar 0) (dNil)))))) (dSeq (dSet 4 (qV (dLst (dDisp (dNil))))) (dSeq (dFor (dRg rg3 (dCons (dCst (.int 1)) (dCons (dPr pLen (dCons (dVar 1) (dNil))) (dCons (dCst (.int 2)) (dNil))))) (gN 5) (dIfS (dAnd (dTest (dOp pEq (dOp pIdx (dVar 1) (dVar 5)) (dVar 2))) (dTest (dOp pIn (dSl (dVar 1) (dNo) (dSo (dVar 5))) (dVar 3)))) (dSet 4 (qV (dOp pAdd (dLst (dDisp (dCons (dOp pIdx (dVar 3) (dSl (dVar 1) (dNo) (dSo (dVar 5)))) (dNil)))) (dVar 4)))) (dNop))) (dRet (dVar 4))))
def f_dos_around : List D → M D := dFn 3 N_dos_around.length b_dos_around
theorem ok_dos_around (Z : Zf G mg fa fn nmt cls) (B : Tbs G mg base tfs) : Callee P G.w G mg base "dos_around" 16 3 ["errand", "place", "part"] f_dos_around := by
  refine callee_ofA (k := 15) (N := N_dos_around) (d := b_dos_around) Z 103 178 (st := top 96) (by rfl) (by rfl) sc_dos_around (by rfl) (fun _ _ _ _ _ _ us hl => match us, hl with | [_, _, _], _ => by rfl) fun f cdv A outer s H E hr => ?_
  exact (jss_cons (js_setV (ps_set nd_dos_around rfl (.inl rfl) (je_dict0 rfl (huR hr) rfl (Z.free 158 rfl) (je_cal (ok_numbers_of Z B) rfl hr (by decide) rfl (takes_of (E := E) rfl rfl rfl rfl) (ja_cons rfl (je_var rfl (.inl rfl) rfl rfl) ja_nil) rfl) rfl) rfl)) (jss_cons (js_setV (ps_set nd_dos_around rfl (.inl rfl) (je_lst (jl_disp ja_nil)) rfl)) (jss_cons (js_for (vs := [0, 1, 2, 3, 4, 5]) (passes_of rfl) rfl (ji_rg3 rfl (Z.free 55 rfl) (ja_cons rfl cst_int (ja_cons rfl (je_callB (c_len rfl) rfl (Z.free 1 rfl) boot_len (jb_cons rfl (jr_of (je_var rfl (.inl rfl) rfl rfl)) jb_nil) rfl) (ja_cons rfl cst_int ja_nil))) rfl rfl rfl) (jg_name nd_dos_around rfl (.inl rfl) (.inl rfl) (by decide)) (jss_one (js_if (PW.pt (jw_and (jt_cmp (o_eq rfl (huR hr)) (jr_of (je_ix (i_idx rfl) (jr_of (je_var rfl (.inl rfl) rfl rfl)) (jr_of (je_var rfl (.inl rfl) rfl rfl)) rfl)) (jr_of (je_var rfl (.inl rfl) rfl rfl)) rfl) (jw1_and (jt_cmp (o_in rfl (huR hr)) (jr_of (je_sl rfl (jr_of (je_var rfl (.inl rfl) rfl rfl)) jo_none (jo_some (je_var rfl (.inl rfl) rfl rfl)))) (jr_of (je_var rfl (.inl rfl) rfl rfl)) rfl)))) (jss_one (js_setV (ps_set nd_dos_around rfl (.inl rfl) (je_op (o_add rfl) (jr_of (je_lst (jl_disp (ja_cons rfl (je_ix (i_idx rfl) (jr_of (je_var rfl (.inl rfl) rfl rfl)) (jr_of (je_sl rfl (jr_of (je_var rfl (.inl rfl) rfl rfl)) jo_none (jo_some (je_var rfl (.inl rfl) rfl rfl)))) rfl) ja_nil)))) (jr_of (je_var rfl (.inl rfl) rfl rfl))) rfl))) jss_nil)) (fun _ => rfl)) (jss_one (js_ret (je_var rfl (.inl rfl) rfl rfl))))))
def N_Making_room_at : List Str := ["self", "place", "row", "word", "marks", "targets", "d"]
theorem nd_Making_room_at : N_Making_room_at.Nodup := by decide +kernel
theorem sc_Making_room_at : FnScope N_Making_room_at ["self", "place"] (defScope (mth 98 10)) := ⟨rfl, rfl, rfl, nd_Making_room_at, rfl, by decide +kernel, by decide +kernel⟩
def b_Making_room_at : DS := dSeq (dSet 2 (qV (dCall 2 f_row_at (dCons (dFld [6] "errand" (dVar 0)) (dCons (dVar 1) (dNil)))))) (dSeq (dSet 3 (qV (dCall 2 f_deed_at (dCons (dFld [6] "errand" (dVar 0)) (dCons (dVar 1) (dNil)))))) (dSeq (dIfS (dTest (dOp pIn (dVar 3) (dTup (dCons (dCst (.str "set")) (dCons (dCst (.str "tell")) (dCons (dCst (.str "do")) (dCons (dCst (.str "done")) (dCons (dCst (.str "undo")) (dNil))))))))) (dRet (dMeth 6 "going_room" 3 f_Making_going_room (dVar 0) (dCons (dVar 1) (dCons (dVar 3) (dNil))))) (dNop)) (dSeq (dIfS (dTest (dOp pIn (dVar 3) (dTup (dCons (dCst (.str "fail")) (dCons (dCst (.str "round")) (dCons (dCst (.str "want")) (dCons (dCst (.str "undone")) (dNil)))))))) (dRet (dMeth 6 "falling_room" 3 f_Making_falling_room (dVar 0) (dCons (dVar 1) (dCons (dVar 3) (dNil))))) (dNop)) (dSeq (dIfS (dTest (dOp pEq (dVar 3) (dCst (.str "give")))) (dSeq (dSet 4 (qV (dLst (dLc (dItems (dCall 3 f_dos_around (dCons (dFld [6] "errand" (dVar 0)) (dCons (dVar 1) (dCons (dCst (.int 0)) (dNil)))))) (gN 6) (dYes) (dTup (dCons (dCst (.str "mark")) (dCons (dCst (.str "done")) (dCons (dVar 6) (dNil))))) [6])))) (dRet (dTup (dCons (dPr pTupR (dCons (dVar 4) (dNil))) (dCons (dTup (dCons (dCst (.str "give")) (dCons (dMeth 6 "worth_of" 2 f_Making_worth_of (dVar 0) (dCons (dOp pIdx (dVar 2) (dCst (.int 1))) (dNil))) (dNil)))) (dCons (dCst .non) (dCons (dCst .non) (dNil)))))))) (dNop)) (dSeq (dIfS (dTest (dOp pEq (dVar 3) (dCst (.str "end")))) (dRet (dTup (dCons (dTup (dNil)) (dCons (dTup (dCons (dCst (.str "give")) (dCons (dCst (.int 0)) (dNil)))) (dCons (dCst .non) (dCons (dCst .non) (dNil))))))) (dNop)) (dSeq (dBad) (dRet (dTup (dCons (dTup (dNil)) (dCons (dTup (dCons (dCst (.str "fork")) (dCons (dMeth 6 "worth_of" 2 f_Making_worth_of (dVar 0) (dCons (dOp pIdx (dVar 2) (dCst (.int 1))) (dNil))) (dCons (dMeth 6 "room_of" 2 f_Making_room_of (dVar 0) (dCons (dOp pIdx (dVar 5) (dCst (.int 0))) (dNil))) (dCons (dMeth 6 "room_of" 2 f_Making_room_of (dVar 0) (dCons (dOp pIdx (dVar 5) (dCst (.int 1))) (dNil))) (dNil)))))) (dCons (dCst .non) (dCons (dCst .non) (dNil)))))))))))))
def f_Making_room_at : List D → M D := dFn 2 N_Making_room_at.length b_Making_room_at
theorem ok_Making_room_at (Z : Zf G mg fa fn nmt cls) (B : Tbs G mg base tfs) : MCal P G.w G mg base 6 "room_at" 20 2 ["self", "place"] f_Making_room_at := by
  refine mcal_of (k := 19) (N := N_Making_room_at) (d := b_Making_room_at) Z 104 179 154 (st := mth 98 10) (by rfl) (by rfl) (by rfl) (by rfl) sc_Making_room_at (by rfl) (fun _ _ _ _ _ _ us hl => match us, hl with | [_, _], _ => by rfl) fun f cdv A outer s H E hr => ?_
  exact (jss_cons (js_setV (ps_set nd_Making_room_at rfl (.inl rfl) (je_cal (ok_row_at Z B) rfl hr (by decide) rfl (takes_of (E := E) rfl rfl rfl rfl) (ja_cons rfl (je_fld (at_errand Z) rfl (jr_of (je_var rfl (.inl rfl) rfl rfl)) rfl) (ja_cons rfl (je_var rfl (.inl rfl) rfl rfl) ja_nil)) rfl) rfl)) (jss_cons (js_setV (ps_set nd_Making_room_at rfl (.inl rfl) (je_cal (ok_deed_at Z B) rfl hr (by decide) rfl (takes_of (E := E) rfl rfl rfl rfl) (ja_cons rfl (je_fld (at_errand Z) rfl (jr_of (je_var rfl (.inl rfl) rfl rfl)) rfl) (ja_cons rfl (je_var rfl (.inl rfl) rfl rfl) ja_nil)) rfl) rfl)) (jss_cons (js_if (jt_cmp (o_in rfl (huR hr)) (jr_of (je_var rfl (.inl rfl) rfl rfl)) (jr_of (je_tup (ja_cons rfl cst_str (ja_cons rfl cst_str (ja_cons rfl cst_str (ja_cons rfl cst_str (ja_cons rfl cst_str ja_nil))))))) rfl) (jss_one (js_ret (je_meth (ok_Making_going_room Z B) rfl hr (by decide) (takes_of (E := E) rfl rfl rfl rfl) (je_var rfl (.inl rfl) rfl rfl) (ja_cons rfl (je_var rfl (.inl rfl) rfl rfl) (ja_cons rfl (je_var rfl (.inl rfl) rfl rfl) ja_nil)) rfl rfl))) jss_nil) (jss_cons (js_if (jt_cmp (o_in rfl (huR hr)) (jr_of (je_var rfl (.inl rfl) rfl rfl)) (jr_of (je_tup (ja_cons rfl cst_str (ja_cons rfl cst_str (ja_cons rfl cst_str (ja_cons rfl cst_str ja_nil)))))) rfl) (jss_one (js_ret (je_meth (ok_Making_falling_room Z B) rfl hr (by decide) (takes_of (E := E) rfl rfl rfl rfl) (je_var rfl (.inl rfl) rfl rfl) (ja_cons rfl (je_var rfl (.inl rfl) rfl rfl) (ja_cons rfl (je_var rfl (.inl rfl) rfl rfl) ja_nil)) rfl rfl))) jss_nil) (jss_cons (js_if (jt_cmp (o_eq rfl (huR hr)) (jr_of (je_var rfl (.inl rfl) rfl rfl)) (jr_of cst_str) rfl) (jss_cons (js_lcV (ps_setLc (own := [("d", 6)]) rfl nd_Making_room_at rfl rfl (sw_true rfl rfl rfl rfl) (ji_valW rfl (jr_of (je_cal (ok_dos_around Z B) rfl hr (by decide) rfl (takes_of (E := E) rfl rfl rfl rfl) (ja_cons rfl (je_fld (at_errand Z) rfl (jr_of (je_var rfl (.inl rfl) rfl rfl)) rfl) (ja_cons rfl (je_var rfl (.inl rfl) rfl rfl) (ja_cons rfl cst_int ja_nil))) rfl))) (blkOk_by rfl) (fun _ _ _ _ _ => (jg_name nd_Making_room_at rfl (.inl rfl) (.inr rfl) (by decide))) (fun _ _ _ _ _ => jts_nil) (fun _ _ _ _ _ => (je_tup (ja_cons rfl cst_str (ja_cons rfl cst_str (ja_cons rfl (je_var rfl (.inl rfl) rfl rfl) ja_nil))))) (fun _ => rfl))) (jss_one (js_ret (je_tup (ja_cons rfl (je_callT (c_tupR rfl) rfl (Z.free 16 rfl) PyProof.Rows.boot_tuple (jb_cons rfl (jr_of (je_var rfl (.inl rfl) rfl rfl)) jb_nil) rfl) (ja_cons rfl (je_tup (ja_cons rfl cst_str (ja_cons rfl (je_meth (ok_Making_worth_of Z B) rfl hr (by decide) (takes_of (E := E) rfl rfl rfl rfl) (je_var rfl (.inl rfl) rfl rfl) (ja_cons rfl (je_ix (i_idx rfl) (jr_of (je_var rfl (.inl rfl) rfl rfl)) (jr_of cst_int) rfl) ja_nil) rfl rfl) ja_nil))) (ja_cons rfl cst_non (ja_cons rfl cst_non ja_nil)))))))) jss_nil) (jss_cons (js_if (jt_cmp (o_eq rfl (huR hr)) (jr_of (je_var rfl (.inl rfl) rfl rfl)) (jr_of cst_str) rfl) (jss_one (js_ret (je_tup (ja_cons rfl (je_tup ja_nil) (ja_cons rfl (je_tup (ja_cons rfl cst_str (ja_cons rfl cst_int ja_nil))) (ja_cons rfl cst_non (ja_cons rfl cst_non ja_nil))))))) jss_nil) (jss_cons js_bad (jss_one (js_ret (je_tup (ja_cons rfl (je_tup ja_nil) (ja_cons rfl (je_tup (ja_cons rfl cst_str (ja_cons rfl (je_meth (ok_Making_worth_of Z B) rfl hr (by decide) (takes_of (E := E) rfl rfl rfl rfl) (je_var rfl (.inl rfl) rfl rfl) (ja_cons rfl (je_ix (i_idx rfl) (jr_of (je_var rfl (.inl rfl) rfl rfl)) (jr_of cst_int) rfl) ja_nil) rfl rfl) (ja_cons rfl (je_meth (ok_Making_room_of Z B) rfl hr (by decide) (takes_of (E := E) rfl rfl rfl rfl) (je_var rfl (.inl rfl) rfl rfl) (ja_cons rfl (je_ix (i_idx rfl) (jr_of (je_var rfl (.inl rfl) rfl rfl)) (jr_of cst_int) rfl) ja_nil) rfl rfl) (ja_cons rfl (je_meth (ok_Making_room_of Z B) rfl hr (by decide) (takes_of (E := E) rfl rfl rfl rfl) (je_var rfl (.inl rfl) rfl rfl) (ja_cons rfl (je_ix (i_idx rfl) (jr_of (je_var rfl (.inl rfl) rfl rfl)) (jr_of cst_int) rfl) ja_nil) rfl rfl) ja_nil))))) (ja_cons rfl cst_non (ja_cons rfl cst_non ja_nil))))))))))))))
def N_Making_kept_at : List Str := ["self", "place", "keys", "d", "key"]
theorem nd_Making_kept_at : N_Making_kept_at.Nodup := by decide +kernel
theorem sc_Making_kept_at : FnScope N_Making_kept_at ["self", "place"] (defScope (mth 98 11)) := ⟨rfl, rfl, rfl, nd_Making_kept_at, rfl, by decide +kernel, by decide +kernel⟩
def b_Making_kept_at : DS := dSeq (dSet 2 (qV (dOp pAdd (dLst (dPrL qListS (dCons (dCall 1 f_names_of (dCons (dFld [6] "errand" (dVar 0)) (dNil))) (dNil)))) (dLst (dLc (dItems (dCall 3 f_dos_around (dCons (dFld [6] "errand" (dVar 0)) (dCons (dVar 1) (dCons (dCst (.int 1)) (dNil)))))) (gN 3) (dYes) (dPr pStr (dCons (dVar 3) (dNil))) [3]))))) (dRet (dPr pTupR (dCons (dLst (dPrL qSort (dCons (dLst (dLc (dItems (dVar 2)) (gN 4) (dYes) (dTup (dCons (dVar 4) (dCons (dOp (pGet lits) (dFld [6] "slots" (dVar 0)) (dVar 4)) (dNil)))) [4])) (dNil)))) (dNil))))
def f_Making_kept_at : List D → M D := dFn 2 N_Making_kept_at.length b_Making_kept_at
theorem ok_Making_kept_at (Z : Zf G mg fa fn nmt cls) (B : Tbs G mg base tfs) : MCal P G.w G mg base 6 "kept_at" 29 2 ["self", "place"] f_Making_kept_at := by
  refine mcal_of (k := 28) (N := N_Making_kept_at) (d := b_Making_kept_at) Z 105 180 154 (st := mth 98 11) (by rfl) (by rfl) (by rfl) (by rfl) sc_Making_kept_at (by rfl) (fun _ _ _ _ _ _ us hl => match us, hl with | [_, _], _ => by rfl) fun f cdv A outer s H E hr => ?_
  exact (jss_cons (js_setV (ps_set nd_Making_kept_at rfl (.inl rfl) (je_op (o_add rfl) (jr_of (je_lst (jl_listS rfl rfl (Z.free 38 rfl) (jb_cons rfl (jr_of (je_cal (ok_names_of Z B) rfl hr (by decide) rfl (takes_of (E := E) rfl rfl rfl rfl) (ja_cons rfl (je_fld (at_errand Z) rfl (jr_of (je_var rfl (.inr (.inl rfl)) rfl rfl)) rfl) ja_nil) rfl)) jb_nil) rfl))) (jr_of (je_lst (je_lc (own := [("d", 3)]) rfl nd_Making_kept_at (ji_valW rfl (jr_of (je_cal (ok_dos_around Z B) rfl hr (by decide) rfl (takes_of (E := E) rfl rfl rfl rfl) (ja_cons rfl (je_fld (at_errand Z) rfl (jr_of (je_var rfl (.inr (.inl rfl)) rfl rfl)) rfl) (ja_cons rfl (je_var rfl (.inl rfl) rfl rfl) (ja_cons rfl cst_int ja_nil))) rfl))) (blkOk_by rfl) (fun _ _ _ _ _ => (jg_name nd_Making_kept_at rfl (.inl rfl) (.inr rfl) (by decide))) (fun _ _ _ _ _ => jts_nil) (fun _ _ _ _ _ => (je_callT (c_str) rfl (Z.free 12 rfl) PyProof.Rows.boot_str (jb_cons rfl (jr_of (je_var rfl (.inl rfl) rfl rfl)) jb_nil) rfl)) (fun _ => rfl))))) rfl)) (jss_one (js_ret (je_callT (c_tupR rfl) rfl (Z.free 16 rfl) PyProof.Rows.boot_tuple (jb_cons rfl (jr_of (je_lst (jl_sort rfl (huR hr) rfl (Z.free 39 rfl) (jb_cons rfl (jr_of (je_lst (je_lc (own := [("key", 4)]) rfl nd_Making_kept_at (ji_valW rfl (jr_of (je_var rfl (.inl rfl) rfl rfl))) (blkOk_by rfl) (fun _ _ _ _ _ => (jg_name nd_Making_kept_at rfl (.inl rfl) (.inr rfl) (by decide))) (fun _ _ _ _ _ => jts_nil) (fun _ _ _ _ _ => (je_tup (ja_cons rfl (je_var rfl (.inl rfl) rfl rfl) (ja_cons rfl (je_dget (nl := lits) Z.lits (huR hr) (je_fld (at_slots Z) rfl (jr_of (je_var rfl (.inr (.inl rfl)) rfl rfl)) rfl) (je_var rfl (.inl rfl) rfl rfl) (fun _ _ => rfl)) ja_nil)))) (fun _ => rfl)))) jb_nil) rfl))) jb_nil) rfl))))
def N_made : List Str := ["program", "machines", "paper", "errand", "making", "rooms", "place"]
theorem nd_made : N_made.Nodup := by decide +kernel
theorem sc_made : FnScope N_made ["program"] (defScope (top 99)) := ⟨rfl, rfl, rfl, nd_made, rfl, by decide +kernel, by decide +kernel⟩
def b_made : DS := dSeq (dSet 1 (qO (dDisp (dNil)))) (dSeq (dSet 2 (qO (dDisp (dNil)))) (dSeq (dFor (dItems (dVar 0)) (gN 3) (dSeq (dSet 4 (qV (dMake 6 2 f_Making___init__ (dCons (dVar 3) (dNil))))) (dSeq (dSet 5 (qV (dPr pTupR (dCons (dLst (dLcX (dFld [6] "doing" (dVar 4)) (gN 6) (dYes) (dMeth 6 "room_at" 2 f_Making_room_at (dVar 4) (dCons (dVar 6) (dNil))) [6])) (dNil))))) (dSeq (dOwn 1 fApp (dTup (dCons (dOp pIdx (dVar 3) (dCst (.int 0))) (dCons (dPr pLen (dCons (dOp pIdx (dVar 3) (dCst (.int 1))) (dNil))) (dCons (dPr pLenD (dCons (dFld [6] "slots" (dVar 4)) (dNil))) (dCons (dVar 5) (dNil))))))) (dOwn 2 fApp (dPr pTupR (dCons (dLst (dLcX (dFld [6] "doing" (dVar 4)) (gN 6) (dYes) (dTup (dCons (dVar 6) (dCons (dMeth 6 "kept_at" 2 f_Making_kept_at (dVar 4) (dCons (dVar 6) (dNil))) (dNil)))) [6])) (dNil)))))))) (dRet (dTup (dCons (dPr pTupR (dCons (dRd 1) (dNil))) (dCons (dPr pTupR (dCons (dRd 2) (dNil))) (dNil)))))))
def f_z_made : List D → M D := dFn 1 N_made.length b_made
theorem ok_z_made (Z : Zf G mg fa fn nmt cls) (B : Tbs G mg base tfs) : Callee P G.w G mg base "made" 32 1 ["program"] f_z_made := by
  refine callee_ofA (k := 31) (N := N_made) (d := b_made) Z 106 181 (st := top 99) (by rfl) (by rfl) sc_made (by rfl) (fun _ _ _ _ _ _ us hl => match us, hl with | [_], _ => by rfl) fun f cdv A outer s H E hr => ?_
  exact (jss_cons (js_setO (ps_set nd_made rfl (.inl rfl) (jl_disp ja_nil) rfl)) (jss_cons (js_setO (ps_set nd_made rfl (.inl rfl) (jl_disp ja_nil) rfl)) (jss_cons (js_for (vs := [0, 1, 2, 3, 4, 5, 6]) (passes_of rfl) rfl (ji_val rfl (je_var rfl (.inl rfl) rfl rfl)) (jg_name nd_made rfl (.inl rfl) (.inl rfl) (by decide)) (jss_cons (js_setV (ps_set nd_made rfl (.inr rfl) (je_make (k := 30) (ok_Making___init__ Z B) rfl (hr.mono (by decide)) (Nat.le_refl _) rfl (takes_of (E := E) rfl rfl rfl rfl) (ja_cons rfl (je_var rfl (.inl rfl) rfl rfl) ja_nil) rfl) rfl)) (jss_cons (js_setV (ps_set nd_made rfl (.inl rfl) (je_callT (c_tupR rfl) rfl (Z.free 16 rfl) PyProof.Rows.boot_tuple (jb_cons rfl (jr_of (je_lst (je_lcX (own := [("place", 6)]) rfl nd_made (ji_X rfl (je_fld (at_doing Z) rfl (jr_of (je_var rfl (.inr (.inl rfl)) rfl rfl)) rfl)) (blkOk_by rfl) (fun _ _ _ _ _ => (jg_name nd_made rfl (.inl rfl) (.inr rfl) (by decide))) (fun _ _ _ _ _ => jts_nil) (fun _ _ _ _ _ => (je_meth (ok_Making_room_at Z B) rfl hr (by decide) takes0 (je_var rfl (.inr (.inl rfl)) rfl rfl) (ja_cons rfl (je_var rfl (.inl rfl) rfl rfl) ja_nil) rfl rfl)) (fun _ => rfl)))) jb_nil) rfl) rfl)) (jss_cons (js_app rfl rfl (.inl rfl) rfl rfl (je_tup (ja_cons rfl (je_ix (i_idx rfl) (jr_of (je_var rfl (.inl rfl) rfl rfl)) (jr_of cst_int) rfl) (ja_cons rfl (je_callB (c_len rfl) rfl (Z.free 1 rfl) boot_len (jb_cons rfl (jr_of (je_ix (i_idx rfl) (jr_of (je_var rfl (.inl rfl) rfl rfl)) (jr_of cst_int) rfl)) jb_nil) rfl) (ja_cons rfl (je_callB (c_lenD) rfl (Z.free 1 rfl) boot_len (jb_cons rfl (jr_of (je_fld (at_slots Z) rfl (jr_of (je_var rfl (.inr (.inl rfl)) rfl rfl)) rfl)) jb_nil) rfl) (ja_cons rfl (je_var rfl (.inl rfl) rfl rfl) ja_nil))))) rfl rfl rfl rfl rfl) (jss_one (js_app rfl rfl (.inl rfl) rfl rfl (je_callT (c_tupR rfl) rfl (Z.free 16 rfl) PyProof.Rows.boot_tuple (jb_cons rfl (jr_of (je_lst (je_lcX (own := [("place", 6)]) rfl nd_made (ji_X rfl (je_fld (at_doing Z) rfl (jr_of (je_var rfl (.inr (.inl rfl)) rfl rfl)) rfl)) (blkOk_by rfl) (fun _ _ _ _ _ => (jg_name nd_made rfl (.inl rfl) (.inr rfl) (by decide))) (fun _ _ _ _ _ => jts_nil) (fun _ _ _ _ _ => (je_tup (ja_cons rfl (je_var rfl (.inl rfl) rfl rfl) (ja_cons rfl (je_meth (ok_Making_kept_at Z B) rfl hr (by decide) takes0 (je_var rfl (.inr (.inl rfl)) rfl rfl) (ja_cons rfl (je_var rfl (.inl rfl) rfl rfl) ja_nil) rfl rfl) ja_nil)))) (fun _ => rfl)))) jb_nil) rfl) rfl rfl rfl rfl rfl))))) (fun _ => rfl)) (jss_one (js_ret (je_tup (ja_cons rfl (je_callT (c_tupR rfl) rfl (Z.free 16 rfl) PyProof.Rows.boot_tuple (jb_cons rfl (jr_rd rfl (.inl rfl) rfl rfl) jb_nil) rfl) (ja_cons rfl (je_callT (c_tupR rfl) rfl (Z.free 16 rfl) PyProof.Rows.boot_tuple (jb_cons rfl (jr_rd rfl (.inl rfl) rfl rfl) jb_nil) rfl) ja_nil))))))))
def f_made : List D → M D := iso f_z_made
theorem ok_made (Z : Zf G mg fa fn nmt cls) (B : Tbs G mg base tfs) : Callee P G.w G mg base "made" 32 1 ["program"] f_made := callee_iso (ok_z_made Z B)
abbrev K_is_same : Nat := 1
def N_is_same : List Str := ["value", "due", "one", "other"]
theorem nd_is_same : N_is_same.Nodup := by decide +kernel
theorem sc_is_same : FnScope N_is_same ["value", "due"] (defScope (top 54)) := ⟨rfl, rfl, rfl, nd_is_same, rfl, by decide +kernel, by decide +kernel⟩
def b_is_same (rec : Nat → List D → M D) : DS := dSeq (dIfS (dTest (dPr pIsi (dCons (dVar 1) (dCons (dCst (.ty "tuple")) (dNil))))) (dSeq (dIfS (dOr (dNot (dTest (dPr pIsi (dCons (dVar 0) (dCons (dCst (.ty "tuple")) (dNil)))))) (dTest (dOp pNe (dPr pLen (dCons (dVar 0) (dNil))) (dPr pLen (dCons (dVar 1) (dNil)))))) (dRet (dCst (.bl false))) (dNop)) (dRet (dPr pAll (dCons (dLst (dLc (dRg zpB (dCons (dVar 0) (dCons (dVar 1) (dNil)))) (gT 2 (gsC (gN 2) (gsC (gN 3) (gs0)))) (dYes) (dCall 2 (rec 0) (dCons (dVar 2) (dCons (dVar 3) (dNil)))) [2, 3])) (dNil))))) (dNop)) (dRet (dAndV (dOp pEq (dPr pIsi (dCons (dVar 0) (dCons (dCst (.ty "bool")) (dNil)))) (dPr pIsi (dCons (dVar 1) (dCons (dCst (.ty "bool")) (dNil))))) (dOp pEq (dVar 0) (dVar 1))))
def r_is_same : Nat → Nat → List D → M D
  | 0, _ => fun _ _ => .bad
  | j + 1, 0 => dFn 2 N_is_same.length (b_is_same (r_is_same j))
  | _ + 1, _ => fun _ _ => .bad
def f_is_same : List D → M D := r_is_same 12 0
theorem okb_is_same (Z : Zf G mg fa fn nmt cls) (B : Tbs G mg base tfs) {j : Nat} {rec : Nat → List D → M D} (h0 : Callee P G.w G mg base "is_same" (K_is_same + j) 2 ["value", "due"] (rec 0)) : Callee P G.w G mg base "is_same" (K_is_same + j + 1) 2 ["value", "due"] (dFn 2 N_is_same.length (b_is_same rec)) := by
  refine callee_ofA (k := K_is_same + j) (N := N_is_same) (d := b_is_same rec) Z 107 182 (st := top 54) (by rfl) (by rfl) sc_is_same (by rfl) (fun _ _ _ _ _ _ us hl => match us, hl with | [_, _], _ => by rfl) fun f cdv A outer s H E hr => ?_
  exact (jss_cons (js_if (jt_val (jr_of (je_callB (c_isi rfl) rfl (Z.free 8 rfl) PyProof.Rows.boot_isinstance (jb_cons rfl (jr_of (je_var rfl (.inl rfl) rfl rfl)) (jb_cons rfl (jr_of (je_ty rfl (Z.free 16 rfl) PyProof.Rows.boot_tuple (by decide) (by decide))) jb_nil)) rfl)) rfl) (jss_cons (js_if (PW.pt (jw_or (jt_not (jt_val (jr_of (je_callB (c_isi rfl) rfl (Z.free 8 rfl) PyProof.Rows.boot_isinstance (jb_cons rfl (jr_of (je_var rfl (.inl rfl) rfl rfl)) (jb_cons rfl (jr_of (je_ty rfl (Z.free 16 rfl) PyProof.Rows.boot_tuple (by decide) (by decide))) jb_nil)) rfl)) rfl)) (jw1_or (jt_cmp (o_ne rfl (huR hr)) (jr_of (je_callB (c_len rfl) rfl (Z.free 1 rfl) boot_len (jb_cons rfl (jr_of (je_var rfl (.inl rfl) rfl rfl)) jb_nil) rfl)) (jr_of (je_callB (c_len rfl) rfl (Z.free 1 rfl) boot_len (jb_cons rfl (jr_of (je_var rfl (.inl rfl) rfl rfl)) jb_nil) rfl)) rfl)))) (jss_one (js_ret cst_bl)) jss_nil) (jss_one (js_ret (je_callB (c_all rfl rfl) rfl (Z.free 14 rfl) PyProof.Rows.boot_all (jb_cons rfl (jr_of (je_lst (je_lc (own := [("one", 2), ("other", 3)]) rfl nd_is_same (jiw_of (ji_zipB rfl rfl (Z.free 19 rfl) (ja_cons rfl (je_var rfl (.inl rfl) rfl rfl) (ja_cons rfl (je_var rfl (.inl rfl) rfl rfl) ja_nil)) rfl rfl)) (blkOk_by rfl) (fun _ _ _ _ _ => (jg_tup rfl rfl (jgs_cons (jg_name nd_is_same rfl (.inl rfl) (.inr rfl) (by decide)) (jgs_cons (jg_name nd_is_same rfl (.inl rfl) (.inr rfl) (by decide)) jgs_nil)))) (fun _ _ _ _ _ => jts_nil) (fun _ _ _ _ _ => (je_cal h0 rfl hr (Nat.le_refl _) rfl takes0 (ja_cons rfl (je_var rfl (.inl rfl) rfl rfl) (ja_cons rfl (je_var rfl (.inl rfl) rfl rfl) ja_nil)) rfl)) (fun _ => rfl)))) jb_nil) rfl)))) jss_nil) (jss_one (js_ret (je_and (je_cmp (o_eq rfl (huR hr)) (jr_of (je_callB (c_isi rfl) rfl (Z.free 8 rfl) PyProof.Rows.boot_isinstance (jb_cons rfl (jr_of (je_var rfl (.inl rfl) rfl rfl)) (jb_cons rfl (jr_of (je_ty rfl (Z.free 9 rfl) PyProof.Rows.boot_bool (by decide) (by decide))) jb_nil)) rfl)) (jr_of (je_callB (c_isi rfl) rfl (Z.free 8 rfl) PyProof.Rows.boot_isinstance (jb_cons rfl (jr_of (je_var rfl (.inl rfl) rfl rfl)) (jb_cons rfl (jr_of (je_ty rfl (Z.free 9 rfl) PyProof.Rows.boot_bool (by decide) (by decide))) jb_nil)) rfl)) rfl) (pe_one (je_cmp (o_eq rfl (huR hr)) (jr_of (je_var rfl (.inl rfl) rfl rfl)) (jr_of (je_var rfl (.inl rfl) rfl rfl)) rfl))))))
theorem okr_is_same (Z : Zf G mg fa fn nmt cls) (B : Tbs G mg base tfs) : ∀ j : Nat, (Callee P G.w G mg base "is_same" (K_is_same + j) 2 ["value", "due"] (r_is_same j 0))
  | 0 => (callee_badA (k := 0) (N := N_is_same) Z 107 182 (st := top 54) (by rfl) (by rfl) sc_is_same (by rfl) (fun _ _ _ _ _ _ us hl => match us, hl with | [_, _], _ => by rfl))
  | j + 1 => by
    have h0 := okr_is_same Z B j
    exact okb_is_same Z B h0
theorem ok_is_same (Z : Zf G mg fa fn nmt cls) (B : Tbs G mg base tfs) : Callee P G.w G mg base "is_same" 13 2 ["value", "due"] f_is_same := (okr_is_same Z B 12)
def N_is_row_of : List Str := ["machines", "runs", "world", "hands", "way", "value", "found", "turn"]
theorem nd_is_row_of : N_is_row_of.Nodup := by decide +kernel
theorem sc_is_row_of : FnScope N_is_row_of ["machines", "runs", "world", "hands", "way", "value"] (defScope (top 75)) := ⟨rfl, rfl, rfl, nd_is_row_of, rfl, by decide +kernel, by decide +kernel⟩
def b_is_row_of : DS := dSeq (dDrop (dCall 3 f_need_runs (dCons (dVar 0) (dCons (dVar 1) (dCons (dVar 2) (dNil)))))) (dSeq (dDrop (dCall 1 f_need_hands (dCons (dVar 3) (dNil)))) (dSeq (dDrop (dCall 1 f_need_way (dCons (dVar 4) (dNil)))) (dSeq (dSet 6 (qV (dMake 5 4 f_Served___init__ (dCons (dVar 0) (dCons (dVar 1) (dCons (dVar 2) (dNil))))))) (dSeq (dFor (dRg rg1 (dCons (dOp pAdd (dCst (.int (60))) (dCst (.int 1))) (dNil))) (gN 7) (dSeq (dIfS (dTest (dCall 2 f_is_same (dCons (dVar 5) (dCons (dPr pTupR (dCons (dFld [5] "served_rows" (dVar 6)) (dNil))) (dNil))))) (dRet (dCst (.bl true))) (dNop)) (dDrop (dMeth 5 "do_turn" 3 f_Served_do_turn (dVar 6) (dCons (dVar 3) (dCons (dVar 4) (dNil))))))) (dRet (dCst (.bl false)))))))
def f_z_is_row_of : List D → M D := dFn 6 N_is_row_of.length b_is_row_of
theorem ok_z_is_row_of (Z : Zf G mg fa fn nmt cls) (B : Tbs G mg base tfs) : Callee P G.w G mg base "is_row_of" 35 6 ["machines", "runs", "world", "hands", "way", "value"] f_z_is_row_of := by
  refine callee_ofA (k := 34) (N := N_is_row_of) (d := b_is_row_of) Z 108 183 (st := top 75) (by rfl) (by rfl) sc_is_row_of (by rfl) (fun _ _ _ _ _ _ us hl => match us, hl with | [_, _, _, _, _, _], _ => by rfl) fun f cdv A outer s H E hr => ?_
  exact (jss_cons (js_drop (je_cal (ok_need_runs Z B) rfl hr (by decide) rfl (takes_of (E := E) rfl rfl rfl rfl) (ja_cons rfl (je_var rfl (.inl rfl) rfl rfl) (ja_cons rfl (je_var rfl (.inl rfl) rfl rfl) (ja_cons rfl (je_var rfl (.inl rfl) rfl rfl) ja_nil))) rfl) rfl) (jss_cons (js_drop (je_cal (ok_need_hands Z B) rfl hr (by decide) rfl (takes_of (E := E) rfl rfl rfl rfl) (ja_cons rfl (je_var rfl (.inl rfl) rfl rfl) ja_nil) rfl) rfl) (jss_cons (js_drop (je_cal (ok_need_way Z B) rfl hr (by decide) rfl (takes_of (E := E) rfl rfl rfl rfl) (ja_cons rfl (je_var rfl (.inl rfl) rfl rfl) ja_nil) rfl) rfl) (jss_cons (js_setV (ps_set nd_is_row_of rfl (.inl rfl) (je_make (k := 33) (ok_Served___init__ Z B) rfl (hr.mono (by decide)) (Nat.le_refl _) rfl (takes_of (E := E) rfl rfl rfl rfl) (ja_cons rfl (je_var rfl (.inl rfl) rfl rfl) (ja_cons rfl (je_var rfl (.inl rfl) rfl rfl) (ja_cons rfl (je_var rfl (.inl rfl) rfl rfl) ja_nil))) rfl) rfl)) (jss_cons (js_for (vs := [0, 1, 2, 3, 4, 5, 6, 7]) (passes_of rfl) rfl (ji_rg1 rfl (Z.free 55 rfl) (ja_cons rfl (je_op (o_add rfl) (jr_of (je_gint rfl (Z.int 101 rfl))) (jr_of cst_int)) ja_nil) rfl) (jg_name nd_is_row_of rfl (.inl rfl) (.inl rfl) (by decide)) (jss_cons (js_if (jt_val (jr_of (je_cal (ok_is_same Z B) rfl hr (by decide) rfl (takes_of (E := E) rfl rfl rfl rfl) (ja_cons rfl (je_var rfl (.inl rfl) rfl rfl) (ja_cons rfl (je_callT (c_tupR rfl) rfl (Z.free 16 rfl) PyProof.Rows.boot_tuple (jb_cons rfl (jr_of (je_fld (at_served_rows Z) rfl (jr_of (je_var rfl (.inl rfl) rfl rfl)) rfl)) jb_nil) rfl) ja_nil)) rfl)) rfl) (jss_one (js_ret cst_bl)) jss_nil) (jss_one (js_drop (je_meth (ok_Served_do_turn Z B) rfl hr (by decide) (takes_of (E := E) rfl rfl rfl rfl) (je_var rfl (.inl rfl) rfl rfl) (ja_cons rfl (je_var rfl (.inl rfl) rfl rfl) (ja_cons rfl (je_var rfl (.inl rfl) rfl rfl) ja_nil)) rfl rfl) rfl))) (fun _ => rfl)) (jss_one (js_ret cst_bl)))))))
def f_is_row_of : List D → M D := iso f_z_is_row_of
theorem ok_is_row_of (Z : Zf G mg fa fn nmt cls) (B : Tbs G mg base tfs) : Callee P G.w G mg base "is_row_of" 35 6 ["machines", "runs", "world", "hands", "way", "value"] f_is_row_of := callee_iso (ok_z_is_row_of Z B)
def N__law_right : List Str := ["bag", "program", "machines", "good", "fine", "runs", "none", "world", "hands", "turns", "way", "number", "found", "told", "value"]
theorem nd__law_right : N__law_right.Nodup := by decide +kernel
theorem sc__law_right : FnScope N__law_right ["bag"] (defScope (top 106)) := ⟨rfl, rfl, rfl, nd__law_right, rfl, by decide +kernel, by decide +kernel⟩
def s__law_right_0 : DS := dSet 1 (qV (dTup (dCons (dTup (dCons (dCst (.str "main")) (dCons (dTup (dNil)) (dCons (dTup (dCons (dTup (dCons (dCst (.str "want")) (dCons (dCst (.int 1)) (dCons (dTup (dCons (dTup (dCons (dCst (.str "x")) (dCons (dCst (.str "ask")) (dCons (dCst (.str "shop")) (dCons (dCst (.int 5)) (dNil)))))) (dNil))) (dNil))))) (dCons (dTup (dCons (dCst (.str "give")) (dCons (dCst (.str "x")) (dNil)))) (dNil)))) (dNil))))) (dNil))))
def s__law_right_1 : DS := dPar3 2 3 4 (qV (dOp pIdx (dCall 1 f_made (dCons (dVar 1) (dNil))) (dCst (.int 0)))) (qV (dOp pMul (dTup (dCons (dTup (dCons (dCst (.str "main")) (dCons (dTup (dNil)) (dNil)))) (dNil))) (dCst (.int 2)))) (qV (dTup (dCons (dTup (dCons (dCst (.str "shop")) (dCons (dCst (.int 5)) (dCons (dCst (.bl true)) (dCons (dCst (.int 3)) (dNil)))))) (dNil))))
def s__law_right_2 : DS := dSet 5 (qV (dCall 2 f__law_choose (dCons (dVar 0) (dCons (dLst (dDisp (dCons (dCst .non) (dCons (dCst (.int 0)) (dCons (dTup (dNil)) (dCons (dLst (dDisp (dNil))) (dCons (dCst .emp) (dCons (dCst (.str "runs")) (dCons (dLst (dPrL qListS (dCons (dVar 3) (dNil)))) (dCons (dOp pMul (dVar 3) (dCst (.int 4))) (dCons (dTup (dCons (dCst .non) (dNil))) (dCons (dTup (dCons (dCst (.str "main")) (dCons (dTup (dNil)) (dNil)))) (dCons (dTup (dCons (dTup (dCons (dCst (.str "main")) (dNil))) (dNil))) (dCons (dTup (dCons (dLst (dDisp (dCons (dCst (.str "main")) (dCons (dTup (dNil)) (dNil))))) (dNil))) (dCons (dTup (dCons (dTup (dCons (dCst (.str "main")) (dCons (dLst (dDisp (dCons (dCst (.int 0)) (dNil)))) (dNil)))) (dNil))) (dCons (dTup (dCons (dTup (dCons (dCst (.str "main")) (dCons (dTup (dCons (dNeg (dCst (.int 1))) (dNil))) (dNil)))) (dNil))) (dCons (dTup (dCons (dTup (dCons (dCst (.str "main")) (dCons (dTup (dCons (dCst (.bl true)) (dNil))) (dNil)))) (dNil))) (dCons (dTup (dCons (dTup (dCons (dCst (.int 0)) (dCons (dTup (dNil)) (dNil)))) (dNil))) (dCons (dOp pAdd (dVar 3) (dTup (dCons (dCst (.int 0)) (dNil)))) (dNil)))))))))))))))))))) (dNil)))))
def s__law_right_3 : DS := dSet 6 (qV (dCall 2 f__law_choose (dCons (dVar 0) (dCons (dLst (dDisp (dCons (dTup (dCons (dTup (dCons (dCst (.str "none")) (dCons (dTup (dNil)) (dNil)))) (dNil))) (dCons (dOp pAdd (dVar 3) (dTup (dCons (dTup (dCons (dCst (.str "main")) (dCons (dTup (dCons (dCst (.int 1)) (dNil))) (dNil)))) (dNil)))) (dCons (dTup (dCons (dTup (dCons (dCst (.str "main")) (dCons (dTup (dCons (dCst (.int 1)) (dCons (dCst (.int 2)) (dNil)))) (dNil)))) (dCons (dTup (dCons (dCst (.str "main")) (dCons (dTup (dNil)) (dNil)))) (dNil)))) (dCons (dTup (dCons (dTup (dCons (dCst (.str "Main")) (dCons (dTup (dNil)) (dNil)))) (dNil))) (dNil))))))) (dNil)))))
def s__law_right_4 : DS := dSet 7 (qV (dCall 2 f__law_choose (dCons (dVar 0) (dCons (dLst (dDisp (dCons (dCst .non) (dCons (dCst (.int 0)) (dCons (dLst (dDisp (dNil))) (dCons (dCst .emp) (dCons (dCst (.str "world")) (dCons (dLst (dPrL qListS (dCons (dVar 4) (dNil)))) (dCons (dOp pMul (dVar 4) (dCst (.int 2))) (dCons (dTup (dCons (dCst .non) (dNil))) (dCons (dTup (dCons (dTup (dCons (dCst (.str "shop")) (dCons (dCst (.int 5)) (dCons (dCst (.int 1)) (dCons (dCst (.int 3)) (dNil)))))) (dNil))) (dCons (dTup (dCons (dTup (dCons (dCst (.str "shop")) (dCons (dNeg (dCst (.int 1))) (dCons (dCst (.bl true)) (dCons (dCst (.int 3)) (dNil)))))) (dNil))) (dCons (dTup (dCons (dTup (dCons (dCst (.str "Shop")) (dCons (dCst (.int 5)) (dCons (dCst (.bl true)) (dCons (dCst (.int 3)) (dNil)))))) (dNil))) (dNil)))))))))))))) (dNil)))))
def s__law_right_5 : DS := dSet 8 (qV (dCall 2 f__law_choose (dCons (dVar 0) (dCons (dLst (dDisp (dCons (dCst .non) (dCons (dCst (.int 0)) (dCons (dCst (.int 4)) (dCons (dNeg (dCst (.int 1))) (dCons (dCst (.bl true)) (dCons (dCst (.str "1")) (dCons (dTup (dCons (dCst (.int 1)) (dNil))) (dCons (dLst (dDisp (dNil))) (dCons (dOp pPow (dCst (.int 10)) (dCst (.int 30))) (dNil)))))))))))) (dNil)))))
def s__law_right_6 : DS := dSet 9 (qV (dCall 2 f__law_choose (dCons (dVar 0) (dCons (dLst (dDisp (dCons (dCst .non) (dCons (dNeg (dCst (.int 1))) (dCons (dCst (.int 61)) (dCons (dCst (.bl true)) (dCons (dCst (.str "1")) (dCons (dTup (dCons (dCst (.int 1)) (dNil))) (dCons (dLst (dDisp (dNil))) (dCons (dOp pPow (dCst (.int 10)) (dCst (.int 30))) (dNil))))))))))) (dNil)))))
def s__law_right_7 : DS := dSet 10 (qV (dCall 2 f__law_choose (dCons (dVar 0) (dCons (dLst (dDisp (dCons (dCst .non) (dCons (dCst (.int 0)) (dCons (dCst (.str "")) (dCons (dCst (.str "turns")) (dCons (dCst (.str "Rounds")) (dCons (dTup (dCons (dCst (.str "rounds")) (dNil))) (dCons (dLst (dDisp (dCons (dCst (.str "age")) (dNil)))) (dCons (dCst .emp) (dCons (dCst (.bl true)) (dNil)))))))))))) (dNil)))))
def s__law_right_8 : DS := dSet 11 (qV (dCall 2 f__law_choose (dCons (dVar 0) (dCons (dLst (dDisp (dCons (dCst .non) (dCons (dNeg (dCst (.int 1))) (dCons (dCst (.int 2)) (dCons (dCst (.bl true)) (dCons (dCst (.str "1")) (dCons (dTup (dCons (dCst (.int 1)) (dNil))) (dCons (dLst (dDisp (dNil))) (dCons (dOp pPow (dCst (.int 10)) (dCst (.int 30))) (dNil))))))))))) (dNil)))))
def s__law_right_9 : DS := dSet 12 (qO (dDisp (dCons (dCall 7 f__law_asked (dCons (dVar 2) (dCons (dVar 5) (dCons (dVar 7) (dCons (dVar 8) (dCons (dVar 9) (dCons (dVar 10) (dCons (dVar 11) (dNil))))))))) (dCons (dCall 7 f__law_asked (dCons (dVar 2) (dCons (dVar 6) (dCons (dVar 7) (dCons (dVar 8) (dCons (dVar 9) (dCons (dVar 10) (dCons (dVar 11) (dNil))))))))) (dNil)))))
def s__law_right_10 : DS := dOwn 12 fApp (dCall 7 f__law_asked (dCons (dVar 2) (dCons (dVar 3) (dCons (dVar 7) (dCons (dVar 8) (dCons (dVar 9) (dCons (dVar 10) (dCons (dVar 11) (dNil)))))))))
def s__law_right_11 : DS := dOwn 12 fApp (dCall 7 f__law_asked (dCons (dVar 2) (dCons (dVar 3) (dCons (dVar 4) (dCons (dVar 8) (dCons (dVar 9) (dCons (dVar 10) (dCons (dVar 11) (dNil)))))))))
def s__law_right_12 : DS := dOwn 12 fApp (dCall 7 f__law_asked (dCons (dVar 2) (dCons (dVar 3) (dCons (dVar 4) (dCons (dCst (.int 1)) (dCons (dVar 9) (dCons (dVar 10) (dCons (dVar 11) (dNil)))))))))
def s__law_right_13 : DS := dOwn 12 fApp (dCall 7 f__law_asked (dCons (dVar 2) (dCons (dVar 3) (dCons (dVar 4) (dCons (dCst (.int 1)) (dCons (dCst (.int 1)) (dCons (dVar 10) (dCons (dVar 11) (dNil)))))))))
def s__law_right_14 : DS := dIfS (dTest (dOp pNe (dRd 12) (dLst (dDisp (dCons (dOp pMul (dLst (dDisp (dCons (dCst (.str "thing")) (dNil)))) (dCst (.int 4))) (dCons (dOp pMul (dLst (dDisp (dCons (dCst (.str "errand")) (dNil)))) (dCst (.int 4))) (dCons (dOp pMul (dLst (dDisp (dCons (dCst (.str "thing")) (dNil)))) (dCst (.int 4))) (dCons (dOp pMul (dLst (dDisp (dCons (dCst (.str "number")) (dNil)))) (dCst (.int 4))) (dCons (dOp pMul (dLst (dDisp (dCons (dCst (.str "number")) (dNil)))) (dCst (.int 4))) (dCons (dOp pMul (dLst (dDisp (dCons (dCst (.str "thing")) (dNil)))) (dCst (.int 4))) (dNil))))))))))) (dRet (dCst (.bl false))) (dNop)
def s__law_right_15 : DS := dSet 13 (qO (dDisp (dCons (dTold em hs__law_met "told" (dCall 7 f_own_events (dCons (dVar 2) (dCons (dVar 3) (dCons (dVar 4) (dCons (dCst (.int 1)) (dCons (dCst (.int 1)) (dCons (dCst (.str "age")) (dCons (dVar 11) (dNil)))))))))) (dNil))))
def s__law_right_16 : DS := dOwn 13 fApp (dTold em hs__law_met "told" (dCall 6 f_is_row_of (dCons (dVar 2) (dCons (dVar 5) (dCons (dVar 7) (dCons (dVar 8) (dCons (dVar 10) (dCons (dCst .non) (dNil)))))))))
def s__law_right_17 : DS := dOwn 13 fApp (dTold em hs__law_met "told" (dCall 6 f_is_row_of (dCons (dVar 2) (dCons (dVar 6) (dCons (dVar 7) (dCons (dVar 8) (dCons (dVar 10) (dCons (dCst .non) (dNil)))))))))
def s__law_right_18 : DS := dOwn 13 fApp (dTold em hs__law_met "told" (dCall 6 f_is_row_of (dCons (dVar 2) (dCons (dVar 3) (dCons (dVar 7) (dCons (dVar 8) (dCons (dVar 10) (dCons (dCst .non) (dNil)))))))))
def s__law_right_19 : DS := dOwn 13 fApp (dTold em hs__law_met "told" (dCall 6 f_is_row_of (dCons (dVar 2) (dCons (dVar 3) (dCons (dVar 4) (dCons (dVar 8) (dCons (dVar 10) (dCons (dCst .non) (dNil)))))))))
def s__law_right_20 : DS := dOwn 13 fApp (dTold em hs__law_met "told" (dCall 6 f_is_row_of (dCons (dVar 2) (dCons (dVar 3) (dCons (dVar 4) (dCons (dCst (.int 1)) (dCons (dVar 10) (dCons (dCst .non) (dNil)))))))))
def s__law_right_21 : DS := dIfS (dTest (dOp pNe (dRd 13) (dLst (dDisp (dCons (dCst (.str "number")) (dCons (dCst (.str "thing")) (dCons (dCst (.str "errand")) (dCons (dCst (.str "thing")) (dCons (dCst (.str "number")) (dCons (dCst (.str "thing")) (dNil))))))))))) (dRet (dCst (.bl false))) (dNop)
def s__law_right_22 : DS := dFor (dItems (dLst (dDisp (dCons (dVar 5) (dCons (dVar 7) (dCons (dVar 8) (dCons (dVar 9) (dCons (dVar 10) (dCons (dVar 11) (dCons (dCst .emp) (dCons (dLst (dDisp (dCons (dLst (dDisp (dNil))) (dNil)))) (dCons (dTup (dCons (dCst .emp) (dNil))) (dCons (dTup (dCons (dTup (dCons (dCst (.int 1)) (dCons (dCst (.int 0)) (dNil)))) (dNil))) (dCons (dTup (dCons (dTup (dCons (dCst (.int 1)) (dCons (dCst (.int 0)) (dCons (dCst .emp) (dNil))))) (dNil))) (dCons (dTup (dCons (dTup (dCons (dCst (.int 1)) (dCons (dCst (.int 1)) (dCons (dTup (dCons (dCst (.int 0)) (dCons (dCst (.int 0)) (dNil)))) (dNil))))) (dNil))) (dNil)))))))))))))))) (gN 14) (dIfS (dAnd (dTest (dOp pNeT (dVar 14) (dTup (dNil)))) (dTest (dOp pIsNotB (dCall 6 f_is_row_of (dCons (dVar 2) (dCons (dVar 3) (dCons (dVar 4) (dCons (dCst (.int 1)) (dCons (dCst (.str "rounds")) (dCons (dVar 14) (dNil)))))))) (dCst (.bl false))))) (dRet (dCst (.bl false))) (dNop))
def s__law_right_23 : DS := dRet (dAndV (dOp pIsB (dCall 6 f_is_row_of (dCons (dVar 2) (dCons (dVar 3) (dCons (dVar 4) (dCons (dCst (.int 1)) (dCons (dCst (.str "rounds")) (dCons (dTup (dNil)) (dNil)))))))) (dCst (.bl true))) (dOp pIsB (dCall 6 f_is_row_of (dCons (dVar 2) (dCons (dVar 3) (dCons (dVar 4) (dCons (dCst (.int 1)) (dCons (dCst (.str "age")) (dCons (dTup (dCons (dTup (dCons (dCst (.int 1)) (dCons (dCst (.int 0)) (dCons (dTup (dCons (dCst (.int 0)) (dCons (dCst (.int 0)) (dNil)))) (dNil))))) (dNil))) (dNil)))))))) (dCst (.bl true))))
def r__law_right_23 : DS := s__law_right_23
def r__law_right_22 : DS := dSeq s__law_right_22 r__law_right_23
def r__law_right_21 : DS := dSeq s__law_right_21 r__law_right_22
def r__law_right_20 : DS := dSeq s__law_right_20 r__law_right_21
def r__law_right_19 : DS := dSeq s__law_right_19 r__law_right_20
def r__law_right_18 : DS := dSeq s__law_right_18 r__law_right_19
def r__law_right_17 : DS := dSeq s__law_right_17 r__law_right_18
def r__law_right_16 : DS := dSeq s__law_right_16 r__law_right_17
def r__law_right_15 : DS := dSeq s__law_right_15 r__law_right_16
def r__law_right_14 : DS := dSeq s__law_right_14 r__law_right_15
def r__law_right_13 : DS := dSeq s__law_right_13 r__law_right_14
def r__law_right_12 : DS := dSeq s__law_right_12 r__law_right_13
def r__law_right_11 : DS := dSeq s__law_right_11 r__law_right_12
def r__law_right_10 : DS := dSeq s__law_right_10 r__law_right_11
def r__law_right_9 : DS := dSeq s__law_right_9 r__law_right_10
def r__law_right_8 : DS := dSeq s__law_right_8 r__law_right_9
def r__law_right_7 : DS := dSeq s__law_right_7 r__law_right_8
def r__law_right_6 : DS := dSeq s__law_right_6 r__law_right_7
def r__law_right_5 : DS := dSeq s__law_right_5 r__law_right_6
def r__law_right_4 : DS := dSeq s__law_right_4 r__law_right_5
def r__law_right_3 : DS := dSeq s__law_right_3 r__law_right_4
def r__law_right_2 : DS := dSeq s__law_right_2 r__law_right_3
def r__law_right_1 : DS := dSeq s__law_right_1 r__law_right_2
def r__law_right_0 : DS := dSeq s__law_right_0 r__law_right_1
def b__law_right : DS := r__law_right_0
def f__law_right : List D → M D := dFn 1 N__law_right.length b__law_right
theorem ok__law_right (Z : Zf G mg fa fn nmt cls) (B : Tbs G mg base tfs) : Callee P G.w G mg base "_law_right" 40 1 ["bag"] f__law_right := by
  refine callee_ofL (k := 39) (N := N__law_right) (d := b__law_right) Z B 109 184 (st := top 106) (by decide) (by rfl) (by rfl) sc__law_right (by rfl) (fun _ _ _ _ _ _ us hl => match us, hl with | [_], _ => by rfl) fun f cdv c0 T0 hc0 tb0 mt0 hu0 A outer s H E hr => ?_
  delta b__law_right r__law_right_0 s__law_right_0 r__law_right_1 s__law_right_1 r__law_right_2 s__law_right_2 r__law_right_3 s__law_right_3 r__law_right_4 s__law_right_4 r__law_right_5 s__law_right_5 r__law_right_6 s__law_right_6 r__law_right_7 s__law_right_7 r__law_right_8 s__law_right_8 r__law_right_9 s__law_right_9 r__law_right_10 s__law_right_10 r__law_right_11 s__law_right_11 r__law_right_12 s__law_right_12 r__law_right_13 s__law_right_13 r__law_right_14 s__law_right_14 r__law_right_15 s__law_right_15 r__law_right_16 s__law_right_16 r__law_right_17 s__law_right_17 r__law_right_18 s__law_right_18 r__law_right_19 s__law_right_19 r__law_right_20 s__law_right_20 r__law_right_21 s__law_right_21 r__law_right_22 s__law_right_22 r__law_right_23 s__law_right_23
  exact (jss_cons (js_setV (ps_set nd__law_right rfl (.inl rfl) (je_tup (ja_cons rfl (je_tup (ja_cons rfl cst_str (ja_cons rfl (je_tup ja_nil) (ja_cons rfl (je_tup (ja_cons rfl (je_tup (ja_cons rfl cst_str (ja_cons rfl cst_int (ja_cons rfl (je_tup (ja_cons rfl (je_tup (ja_cons rfl cst_str (ja_cons rfl cst_str (ja_cons rfl cst_str (ja_cons rfl cst_int ja_nil))))) ja_nil)) ja_nil)))) (ja_cons rfl (je_tup (ja_cons rfl cst_str (ja_cons rfl cst_str ja_nil))) ja_nil))) ja_nil)))) ja_nil)) rfl)) (jss_cons (js_tup3 rfl (ps_asg (pe_tup (pa_cons (qV_of (je_ix (i_idx rfl) (jr_of (je_cal (ok_made Z B) rfl hr (by decide) rfl (takes_of (E := E) rfl rfl rfl rfl) (ja_cons rfl (je_var rfl (.inl rfl) rfl rfl) ja_nil) rfl)) (jr_of cst_int) rfl)) (pa_cons (qV_of (je_op (o_mul rfl) (jr_of (je_tup (ja_cons rfl (je_tup (ja_cons rfl cst_str (ja_cons rfl (je_tup ja_nil) ja_nil))) ja_nil))) (jr_of cst_int))) (pa_cons (qV_of (je_tup (ja_cons rfl (je_tup (ja_cons rfl cst_str (ja_cons rfl cst_int (ja_cons rfl cst_bl (ja_cons rfl cst_int ja_nil))))) ja_nil))) pa_nil)))) (pg_tup rfl (pgs_cons (pg_name nd__law_right rfl (.inr rfl) (.inl rfl)) (pgs_cons (pg_name nd__law_right rfl (.inr rfl) (.inl rfl)) (pgs_cons (pg_name nd__law_right rfl (.inr rfl) (.inl rfl)) pgs_nil)))))) (jss_cons (js_setV (ps_set nd__law_right rfl (.inr rfl) (je_cal (ok__law_choose Z B) rfl hr (by decide) rfl (takes_of (E := E) rfl rfl rfl rfl) (ja_cons rfl (je_var rfl (.inl rfl) rfl rfl) (ja_cons rfl (je_lst (jl_disp (ja_cons rfl cst_non (ja_cons rfl cst_int (ja_cons rfl (je_tup ja_nil) (ja_cons rfl (je_lst (jl_disp ja_nil)) (ja_cons rfl je_emp (ja_cons rfl cst_str (ja_cons rfl (je_lst (jl_listS rfl rfl (Z.free 38 rfl) (jb_cons rfl (jr_of (je_var rfl (.inr (.inl rfl)) rfl rfl)) jb_nil) rfl)) (ja_cons rfl (je_op (o_mul rfl) (jr_of (je_var rfl (.inr (.inl rfl)) rfl rfl)) (jr_of cst_int)) (ja_cons rfl (je_tup (ja_cons rfl cst_non ja_nil)) (ja_cons rfl (je_tup (ja_cons rfl cst_str (ja_cons rfl (je_tup ja_nil) ja_nil))) (ja_cons rfl (je_tup (ja_cons rfl (je_tup (ja_cons rfl cst_str ja_nil)) ja_nil)) (ja_cons rfl (je_tup (ja_cons rfl (je_lst (jl_disp (ja_cons rfl cst_str (ja_cons rfl (je_tup ja_nil) ja_nil)))) ja_nil)) (ja_cons rfl (je_tup (ja_cons rfl (je_tup (ja_cons rfl cst_str (ja_cons rfl (je_lst (jl_disp (ja_cons rfl cst_int ja_nil))) ja_nil))) ja_nil)) (ja_cons rfl (je_tup (ja_cons rfl (je_tup (ja_cons rfl cst_str (ja_cons rfl (je_tup (ja_cons rfl (je_neg cst_int) ja_nil)) ja_nil))) ja_nil)) (ja_cons rfl (je_tup (ja_cons rfl (je_tup (ja_cons rfl cst_str (ja_cons rfl (je_tup (ja_cons rfl cst_bl ja_nil)) ja_nil))) ja_nil)) (ja_cons rfl (je_tup (ja_cons rfl (je_tup (ja_cons rfl cst_int (ja_cons rfl (je_tup ja_nil) ja_nil))) ja_nil)) (ja_cons rfl (je_op (o_add rfl) (jr_of (je_var rfl (.inr (.inl rfl)) rfl rfl)) (jr_of (je_tup (ja_cons rfl cst_int ja_nil)))) ja_nil))))))))))))))))))) ja_nil)) rfl) rfl)) (jss_cons (js_setV (ps_set nd__law_right rfl (.inr rfl) (je_cal (ok__law_choose Z B) rfl hr (by decide) rfl (takes_of (E := E) rfl rfl rfl rfl) (ja_cons rfl (je_var rfl (.inl rfl) rfl rfl) (ja_cons rfl (je_lst (jl_disp (ja_cons rfl (je_tup (ja_cons rfl (je_tup (ja_cons rfl cst_str (ja_cons rfl (je_tup ja_nil) ja_nil))) ja_nil)) (ja_cons rfl (je_op (o_add rfl) (jr_of (je_var rfl (.inr (.inl rfl)) rfl rfl)) (jr_of (je_tup (ja_cons rfl (je_tup (ja_cons rfl cst_str (ja_cons rfl (je_tup (ja_cons rfl cst_int ja_nil)) ja_nil))) ja_nil)))) (ja_cons rfl (je_tup (ja_cons rfl (je_tup (ja_cons rfl cst_str (ja_cons rfl (je_tup (ja_cons rfl cst_int (ja_cons rfl cst_int ja_nil))) ja_nil))) (ja_cons rfl (je_tup (ja_cons rfl cst_str (ja_cons rfl (je_tup ja_nil) ja_nil))) ja_nil))) (ja_cons rfl (je_tup (ja_cons rfl (je_tup (ja_cons rfl cst_str (ja_cons rfl (je_tup ja_nil) ja_nil))) ja_nil)) ja_nil)))))) ja_nil)) rfl) rfl)) (jss_cons (js_setV (ps_set nd__law_right rfl (.inr rfl) (je_cal (ok__law_choose Z B) rfl hr (by decide) rfl (takes_of (E := E) rfl rfl rfl rfl) (ja_cons rfl (je_var rfl (.inl rfl) rfl rfl) (ja_cons rfl (je_lst (jl_disp (ja_cons rfl cst_non (ja_cons rfl cst_int (ja_cons rfl (je_lst (jl_disp ja_nil)) (ja_cons rfl je_emp (ja_cons rfl cst_str (ja_cons rfl (je_lst (jl_listS rfl rfl (Z.free 38 rfl) (jb_cons rfl (jr_of (je_var rfl (.inr (.inl rfl)) rfl rfl)) jb_nil) rfl)) (ja_cons rfl (je_op (o_mul rfl) (jr_of (je_var rfl (.inr (.inl rfl)) rfl rfl)) (jr_of cst_int)) (ja_cons rfl (je_tup (ja_cons rfl cst_non ja_nil)) (ja_cons rfl (je_tup (ja_cons rfl (je_tup (ja_cons rfl cst_str (ja_cons rfl cst_int (ja_cons rfl cst_int (ja_cons rfl cst_int ja_nil))))) ja_nil)) (ja_cons rfl (je_tup (ja_cons rfl (je_tup (ja_cons rfl cst_str (ja_cons rfl (je_neg cst_int) (ja_cons rfl cst_bl (ja_cons rfl cst_int ja_nil))))) ja_nil)) (ja_cons rfl (je_tup (ja_cons rfl (je_tup (ja_cons rfl cst_str (ja_cons rfl cst_int (ja_cons rfl cst_bl (ja_cons rfl cst_int ja_nil))))) ja_nil)) ja_nil))))))))))))) ja_nil)) rfl) rfl)) (jss_cons (js_setV (ps_set nd__law_right rfl (.inr rfl) (je_cal (ok__law_choose Z B) rfl hr (by decide) rfl (takes_of (E := E) rfl rfl rfl rfl) (ja_cons rfl (je_var rfl (.inl rfl) rfl rfl) (ja_cons rfl (je_lst (jl_disp (ja_cons rfl cst_non (ja_cons rfl cst_int (ja_cons rfl cst_int (ja_cons rfl (je_neg cst_int) (ja_cons rfl cst_bl (ja_cons rfl cst_str (ja_cons rfl (je_tup (ja_cons rfl cst_int ja_nil)) (ja_cons rfl (je_lst (jl_disp ja_nil)) (ja_cons rfl (je_op (o_pow) (jr_of cst_int) (jr_of cst_int)) ja_nil))))))))))) ja_nil)) rfl) rfl)) (jss_cons (js_setV (ps_set nd__law_right rfl (.inl rfl) (je_cal (ok__law_choose Z B) rfl hr (by decide) rfl (takes_of (E := E) rfl rfl rfl rfl) (ja_cons rfl (je_var rfl (.inl rfl) rfl rfl) (ja_cons rfl (je_lst (jl_disp (ja_cons rfl cst_non (ja_cons rfl (je_neg cst_int) (ja_cons rfl cst_int (ja_cons rfl cst_bl (ja_cons rfl cst_str (ja_cons rfl (je_tup (ja_cons rfl cst_int ja_nil)) (ja_cons rfl (je_lst (jl_disp ja_nil)) (ja_cons rfl (je_op (o_pow) (jr_of cst_int) (jr_of cst_int)) ja_nil)))))))))) ja_nil)) rfl) rfl)) (jss_cons (js_setV (ps_set nd__law_right rfl (.inr rfl) (je_cal (ok__law_choose Z B) rfl hr (by decide) rfl (takes_of (E := E) rfl rfl rfl rfl) (ja_cons rfl (je_var rfl (.inl rfl) rfl rfl) (ja_cons rfl (je_lst (jl_disp (ja_cons rfl cst_non (ja_cons rfl cst_int (ja_cons rfl cst_str (ja_cons rfl cst_str (ja_cons rfl cst_str (ja_cons rfl (je_tup (ja_cons rfl cst_str ja_nil)) (ja_cons rfl (je_lst (jl_disp (ja_cons rfl cst_str ja_nil))) (ja_cons rfl je_emp (ja_cons rfl cst_bl ja_nil))))))))))) ja_nil)) rfl) rfl)) (jss_cons (js_setV (ps_set nd__law_right rfl (.inr rfl) (je_cal (ok__law_choose Z B) rfl hr (by decide) rfl (takes_of (E := E) rfl rfl rfl rfl) (ja_cons rfl (je_var rfl (.inl rfl) rfl rfl) (ja_cons rfl (je_lst (jl_disp (ja_cons rfl cst_non (ja_cons rfl (je_neg cst_int) (ja_cons rfl cst_int (ja_cons rfl cst_bl (ja_cons rfl cst_str (ja_cons rfl (je_tup (ja_cons rfl cst_int ja_nil)) (ja_cons rfl (je_lst (jl_disp ja_nil)) (ja_cons rfl (je_op (o_pow) (jr_of cst_int) (jr_of cst_int)) ja_nil)))))))))) ja_nil)) rfl) rfl)) (jss_cons (js_setO (ps_set nd__law_right rfl (.inl rfl) (jl_disp (ja_cons rfl (je_cal (ok__law_asked Z B) rfl hr (by decide) rfl (takes_of (E := E) rfl rfl rfl rfl) (ja_cons rfl (je_var rfl (.inr (.inl rfl)) rfl rfl) (ja_cons rfl (je_var rfl (.inr (.inl rfl)) rfl rfl) (ja_cons rfl (je_var rfl (.inr (.inl rfl)) rfl rfl) (ja_cons rfl (je_var rfl (.inr (.inl rfl)) rfl rfl) (ja_cons rfl (je_var rfl (.inl rfl) rfl rfl) (ja_cons rfl (je_var rfl (.inr (.inl rfl)) rfl rfl) (ja_cons rfl (je_var rfl (.inr (.inl rfl)) rfl rfl) ja_nil))))))) rfl) (ja_cons rfl (je_cal (ok__law_asked Z B) rfl hr (by decide) rfl (takes_of (E := E) rfl rfl rfl rfl) (ja_cons rfl (je_var rfl (.inr (.inl rfl)) rfl rfl) (ja_cons rfl (je_var rfl (.inr (.inl rfl)) rfl rfl) (ja_cons rfl (je_var rfl (.inr (.inl rfl)) rfl rfl) (ja_cons rfl (je_var rfl (.inr (.inl rfl)) rfl rfl) (ja_cons rfl (je_var rfl (.inl rfl) rfl rfl) (ja_cons rfl (je_var rfl (.inr (.inl rfl)) rfl rfl) (ja_cons rfl (je_var rfl (.inr (.inl rfl)) rfl rfl) ja_nil))))))) rfl) ja_nil))) rfl)) (jss_cons (js_app rfl rfl (.inl rfl) rfl rfl (je_cal (ok__law_asked Z B) rfl hr (by decide) rfl (takes_of (E := E) rfl rfl rfl rfl) (ja_cons rfl (je_var rfl (.inr (.inl rfl)) rfl rfl) (ja_cons rfl (je_var rfl (.inr (.inl rfl)) rfl rfl) (ja_cons rfl (je_var rfl (.inr (.inl rfl)) rfl rfl) (ja_cons rfl (je_var rfl (.inr (.inl rfl)) rfl rfl) (ja_cons rfl (je_var rfl (.inl rfl) rfl rfl) (ja_cons rfl (je_var rfl (.inr (.inl rfl)) rfl rfl) (ja_cons rfl (je_var rfl (.inr (.inl rfl)) rfl rfl) ja_nil))))))) rfl) rfl rfl rfl rfl rfl) (jss_cons (js_app rfl rfl (.inl rfl) rfl rfl (je_cal (ok__law_asked Z B) rfl hr (by decide) rfl (takes_of (E := E) rfl rfl rfl rfl) (ja_cons rfl (je_var rfl (.inr (.inl rfl)) rfl rfl) (ja_cons rfl (je_var rfl (.inr (.inl rfl)) rfl rfl) (ja_cons rfl (je_var rfl (.inr (.inl rfl)) rfl rfl) (ja_cons rfl (je_var rfl (.inr (.inl rfl)) rfl rfl) (ja_cons rfl (je_var rfl (.inl rfl) rfl rfl) (ja_cons rfl (je_var rfl (.inr (.inl rfl)) rfl rfl) (ja_cons rfl (je_var rfl (.inr (.inl rfl)) rfl rfl) ja_nil))))))) rfl) rfl rfl rfl rfl rfl) (jss_cons (js_app rfl rfl (.inl rfl) rfl rfl (je_cal (ok__law_asked Z B) rfl hr (by decide) rfl (takes_of (E := E) rfl rfl rfl rfl) (ja_cons rfl (je_var rfl (.inr (.inl rfl)) rfl rfl) (ja_cons rfl (je_var rfl (.inr (.inl rfl)) rfl rfl) (ja_cons rfl (je_var rfl (.inr (.inl rfl)) rfl rfl) (ja_cons rfl cst_int (ja_cons rfl (je_var rfl (.inl rfl) rfl rfl) (ja_cons rfl (je_var rfl (.inr (.inl rfl)) rfl rfl) (ja_cons rfl (je_var rfl (.inr (.inl rfl)) rfl rfl) ja_nil))))))) rfl) rfl rfl rfl rfl rfl) (jss_cons (js_app rfl rfl (.inl rfl) rfl rfl (je_cal (ok__law_asked Z B) rfl hr (by decide) rfl (takes_of (E := E) rfl rfl rfl rfl) (ja_cons rfl (je_var rfl (.inr (.inl rfl)) rfl rfl) (ja_cons rfl (je_var rfl (.inr (.inl rfl)) rfl rfl) (ja_cons rfl (je_var rfl (.inr (.inl rfl)) rfl rfl) (ja_cons rfl cst_int (ja_cons rfl cst_int (ja_cons rfl (je_var rfl (.inr (.inl rfl)) rfl rfl) (ja_cons rfl (je_var rfl (.inr (.inl rfl)) rfl rfl) ja_nil))))))) rfl) rfl rfl rfl rfl rfl) (jss_cons (js_if (jt_cmp (o_ne rfl (huR hr)) (jr_rd rfl (.inl rfl) rfl rfl) (jr_of (je_lst (jl_disp (ja_cons rfl (je_op (o_mul rfl) (jr_of (je_lst (jl_disp (ja_cons rfl cst_str ja_nil)))) (jr_of cst_int)) (ja_cons rfl (je_op (o_mul rfl) (jr_of (je_lst (jl_disp (ja_cons rfl cst_str ja_nil)))) (jr_of cst_int)) (ja_cons rfl (je_op (o_mul rfl) (jr_of (je_lst (jl_disp (ja_cons rfl cst_str ja_nil)))) (jr_of cst_int)) (ja_cons rfl (je_op (o_mul rfl) (jr_of (je_lst (jl_disp (ja_cons rfl cst_str ja_nil)))) (jr_of cst_int)) (ja_cons rfl (je_op (o_mul rfl) (jr_of (je_lst (jl_disp (ja_cons rfl cst_str ja_nil)))) (jr_of cst_int)) (ja_cons rfl (je_op (o_mul rfl) (jr_of (je_lst (jl_disp (ja_cons rfl cst_str ja_nil)))) (jr_of cst_int)) ja_nil))))))))) rfl) (jss_one (js_ret cst_bl)) jss_nil) (jss_cons (js_setO (ps_set nd__law_right rfl (.inl rfl) (jl_disp (ja_cons rfl (je_told (k := 36) (td__law_met Z) rfl sc__law_met rfl (.inl rfl) rfl hr (by decide) rfl (em_ok Z) (fun Y hs hm => (.cons (Z.ads 0 "NoErrand" rfl) ((congrFun hm _).trans (Z.glo 51 rfl)) (gl_sc hs rfl) rfl (.cons (Z.ads 1 "BadThing" rfl) ((congrFun hm _).trans (Z.glo 22 rfl)) (gl_sc hs rfl) rfl (.cons (Z.ads 2 "BadNumber" rfl) ((congrFun hm _).trans (Z.glo 96 rfl)) (gl_sc hs rfl) rfl .nil)))) (fun _ => rfl) tb0 hc0 mt0 hu0 (LamX.lamS_by rfl) rfl (fun _ _ _ _ _ => by rfl) (fun A outer s H E f c0 hr => (je_cal (ok_own_events Z B) rfl hr (by decide) rfl (takes_of (E := E) rfl rfl rfl rfl) (ja_cons rfl (je_var rfl (.inr (.inr rfl)) rfl rfl) (ja_cons rfl (je_var rfl (.inr (.inr rfl)) rfl rfl) (ja_cons rfl (je_var rfl (.inr (.inr rfl)) rfl rfl) (ja_cons rfl cst_int (ja_cons rfl cst_int (ja_cons rfl cst_str (ja_cons rfl (je_var rfl (.inr (.inr rfl)) rfl rfl) ja_nil))))))) rfl))) ja_nil)) rfl)) (jss_cons (js_app rfl rfl (.inl rfl) rfl rfl (je_told (k := 35) (td__law_met Z) rfl sc__law_met rfl (.inl rfl) rfl hr (by decide) rfl (em_ok Z) (fun Y hs hm => (.cons (Z.ads 0 "NoErrand" rfl) ((congrFun hm _).trans (Z.glo 51 rfl)) (gl_sc hs rfl) rfl (.cons (Z.ads 1 "BadThing" rfl) ((congrFun hm _).trans (Z.glo 22 rfl)) (gl_sc hs rfl) rfl (.cons (Z.ads 2 "BadNumber" rfl) ((congrFun hm _).trans (Z.glo 96 rfl)) (gl_sc hs rfl) rfl .nil)))) (fun _ => rfl) tb0 hc0 mt0 hu0 (LamX.lamS_by rfl) rfl (fun _ _ _ _ _ => by rfl) (fun A outer s H E f c0 hr => (je_cal (ok_is_row_of Z B) rfl hr (by decide) rfl (takes_of (E := E) rfl rfl rfl rfl) (ja_cons rfl (je_var rfl (.inr (.inr rfl)) rfl rfl) (ja_cons rfl (je_var rfl (.inr (.inr rfl)) rfl rfl) (ja_cons rfl (je_var rfl (.inr (.inr rfl)) rfl rfl) (ja_cons rfl (je_var rfl (.inr (.inr rfl)) rfl rfl) (ja_cons rfl (je_var rfl (.inr (.inr rfl)) rfl rfl) (ja_cons rfl cst_non ja_nil)))))) rfl))) rfl rfl rfl rfl rfl) (jss_cons (js_app rfl rfl (.inl rfl) rfl rfl (je_told (k := 35) (td__law_met Z) rfl sc__law_met rfl (.inl rfl) rfl hr (by decide) rfl (em_ok Z) (fun Y hs hm => (.cons (Z.ads 0 "NoErrand" rfl) ((congrFun hm _).trans (Z.glo 51 rfl)) (gl_sc hs rfl) rfl (.cons (Z.ads 1 "BadThing" rfl) ((congrFun hm _).trans (Z.glo 22 rfl)) (gl_sc hs rfl) rfl (.cons (Z.ads 2 "BadNumber" rfl) ((congrFun hm _).trans (Z.glo 96 rfl)) (gl_sc hs rfl) rfl .nil)))) (fun _ => rfl) tb0 hc0 mt0 hu0 (LamX.lamS_by rfl) rfl (fun _ _ _ _ _ => by rfl) (fun A outer s H E f c0 hr => (je_cal (ok_is_row_of Z B) rfl hr (by decide) rfl (takes_of (E := E) rfl rfl rfl rfl) (ja_cons rfl (je_var rfl (.inr (.inr rfl)) rfl rfl) (ja_cons rfl (je_var rfl (.inr (.inr rfl)) rfl rfl) (ja_cons rfl (je_var rfl (.inr (.inr rfl)) rfl rfl) (ja_cons rfl (je_var rfl (.inr (.inr rfl)) rfl rfl) (ja_cons rfl (je_var rfl (.inr (.inr rfl)) rfl rfl) (ja_cons rfl cst_non ja_nil)))))) rfl))) rfl rfl rfl rfl rfl) (jss_cons (js_app rfl rfl (.inl rfl) rfl rfl (je_told (k := 35) (td__law_met Z) rfl sc__law_met rfl (.inl rfl) rfl hr (by decide) rfl (em_ok Z) (fun Y hs hm => (.cons (Z.ads 0 "NoErrand" rfl) ((congrFun hm _).trans (Z.glo 51 rfl)) (gl_sc hs rfl) rfl (.cons (Z.ads 1 "BadThing" rfl) ((congrFun hm _).trans (Z.glo 22 rfl)) (gl_sc hs rfl) rfl (.cons (Z.ads 2 "BadNumber" rfl) ((congrFun hm _).trans (Z.glo 96 rfl)) (gl_sc hs rfl) rfl .nil)))) (fun _ => rfl) tb0 hc0 mt0 hu0 (LamX.lamS_by rfl) rfl (fun _ _ _ _ _ => by rfl) (fun A outer s H E f c0 hr => (je_cal (ok_is_row_of Z B) rfl hr (by decide) rfl (takes_of (E := E) rfl rfl rfl rfl) (ja_cons rfl (je_var rfl (.inr (.inr rfl)) rfl rfl) (ja_cons rfl (je_var rfl (.inr (.inr rfl)) rfl rfl) (ja_cons rfl (je_var rfl (.inr (.inr rfl)) rfl rfl) (ja_cons rfl (je_var rfl (.inr (.inr rfl)) rfl rfl) (ja_cons rfl (je_var rfl (.inr (.inr rfl)) rfl rfl) (ja_cons rfl cst_non ja_nil)))))) rfl))) rfl rfl rfl rfl rfl) (jss_cons (js_app rfl rfl (.inl rfl) rfl rfl (je_told (k := 35) (td__law_met Z) rfl sc__law_met rfl (.inl rfl) rfl hr (by decide) rfl (em_ok Z) (fun Y hs hm => (.cons (Z.ads 0 "NoErrand" rfl) ((congrFun hm _).trans (Z.glo 51 rfl)) (gl_sc hs rfl) rfl (.cons (Z.ads 1 "BadThing" rfl) ((congrFun hm _).trans (Z.glo 22 rfl)) (gl_sc hs rfl) rfl (.cons (Z.ads 2 "BadNumber" rfl) ((congrFun hm _).trans (Z.glo 96 rfl)) (gl_sc hs rfl) rfl .nil)))) (fun _ => rfl) tb0 hc0 mt0 hu0 (LamX.lamS_by rfl) rfl (fun _ _ _ _ _ => by rfl) (fun A outer s H E f c0 hr => (je_cal (ok_is_row_of Z B) rfl hr (by decide) rfl (takes_of (E := E) rfl rfl rfl rfl) (ja_cons rfl (je_var rfl (.inr (.inr rfl)) rfl rfl) (ja_cons rfl (je_var rfl (.inr (.inr rfl)) rfl rfl) (ja_cons rfl (je_var rfl (.inr (.inr rfl)) rfl rfl) (ja_cons rfl (je_var rfl (.inr (.inr rfl)) rfl rfl) (ja_cons rfl (je_var rfl (.inr (.inr rfl)) rfl rfl) (ja_cons rfl cst_non ja_nil)))))) rfl))) rfl rfl rfl rfl rfl) (jss_cons (js_app rfl rfl (.inl rfl) rfl rfl (je_told (k := 35) (td__law_met Z) rfl sc__law_met rfl (.inl rfl) rfl hr (by decide) rfl (em_ok Z) (fun Y hs hm => (.cons (Z.ads 0 "NoErrand" rfl) ((congrFun hm _).trans (Z.glo 51 rfl)) (gl_sc hs rfl) rfl (.cons (Z.ads 1 "BadThing" rfl) ((congrFun hm _).trans (Z.glo 22 rfl)) (gl_sc hs rfl) rfl (.cons (Z.ads 2 "BadNumber" rfl) ((congrFun hm _).trans (Z.glo 96 rfl)) (gl_sc hs rfl) rfl .nil)))) (fun _ => rfl) tb0 hc0 mt0 hu0 (LamX.lamS_by rfl) rfl (fun _ _ _ _ _ => by rfl) (fun A outer s H E f c0 hr => (je_cal (ok_is_row_of Z B) rfl hr (by decide) rfl (takes_of (E := E) rfl rfl rfl rfl) (ja_cons rfl (je_var rfl (.inr (.inr rfl)) rfl rfl) (ja_cons rfl (je_var rfl (.inr (.inr rfl)) rfl rfl) (ja_cons rfl (je_var rfl (.inr (.inr rfl)) rfl rfl) (ja_cons rfl cst_int (ja_cons rfl (je_var rfl (.inr (.inr rfl)) rfl rfl) (ja_cons rfl cst_non ja_nil)))))) rfl))) rfl rfl rfl rfl rfl) (jss_cons (js_if (jt_cmp (o_ne rfl (huR hr)) (jr_rd rfl (.inl rfl) rfl rfl) (jr_of (je_lst (jl_disp (ja_cons rfl cst_str (ja_cons rfl cst_str (ja_cons rfl cst_str (ja_cons rfl cst_str (ja_cons rfl cst_str (ja_cons rfl cst_str ja_nil))))))))) rfl) (jss_one (js_ret cst_bl)) jss_nil) (jss_cons (js_for (vs := [0, 1, 2, 3, 4, 5, 6, 7, 8, 9, 10, 11, 12, 13, 14]) (passes_of rfl) rfl (ji_val rfl (je_lst (jl_disp (ja_cons rfl (je_var rfl (.inr (.inl rfl)) rfl rfl) (ja_cons rfl (je_var rfl (.inr (.inl rfl)) rfl rfl) (ja_cons rfl (je_var rfl (.inr (.inl rfl)) rfl rfl) (ja_cons rfl (je_var rfl (.inl rfl) rfl rfl) (ja_cons rfl (je_var rfl (.inr (.inl rfl)) rfl rfl) (ja_cons rfl (je_var rfl (.inr (.inl rfl)) rfl rfl) (ja_cons rfl je_emp (ja_cons rfl (je_lst (jl_disp (ja_cons rfl (je_lst (jl_disp ja_nil)) ja_nil))) (ja_cons rfl (je_tup (ja_cons rfl je_emp ja_nil)) (ja_cons rfl (je_tup (ja_cons rfl (je_tup (ja_cons rfl cst_int (ja_cons rfl cst_int ja_nil))) ja_nil)) (ja_cons rfl (je_tup (ja_cons rfl (je_tup (ja_cons rfl cst_int (ja_cons rfl cst_int (ja_cons rfl je_emp ja_nil)))) ja_nil)) (ja_cons rfl (je_tup (ja_cons rfl (je_tup (ja_cons rfl cst_int (ja_cons rfl cst_int (ja_cons rfl (je_tup (ja_cons rfl cst_int (ja_cons rfl cst_int ja_nil))) ja_nil)))) ja_nil)) ja_nil))))))))))))))) (jg_name nd__law_right rfl (.inl rfl) (.inl rfl) (by decide)) (jss_one (js_if (PW.pt (jw_and (jt_cmp (o_neT rfl (huR hr)) (jr_of (je_var rfl (.inl rfl) rfl rfl)) (jr_of (je_tup ja_nil)) rfl) (jw1_and (jt_cmp (o_isNotB) (jr_of (je_cal (ok_is_row_of Z B) rfl hr (by decide) rfl (takes_of (E := E) rfl rfl rfl rfl) (ja_cons rfl (je_var rfl (.inr (.inl rfl)) rfl rfl) (ja_cons rfl (je_var rfl (.inr (.inl rfl)) rfl rfl) (ja_cons rfl (je_var rfl (.inr (.inl rfl)) rfl rfl) (ja_cons rfl cst_int (ja_cons rfl cst_str (ja_cons rfl (je_var rfl (.inl rfl) rfl rfl) ja_nil)))))) rfl)) (jr_of cst_bl) rfl)))) (jss_one (js_ret cst_bl)) jss_nil)) (fun _ => rfl)) (jss_one (js_ret (je_and (je_cmp (o_isB) (jr_of (je_cal (ok_is_row_of Z B) rfl hr (by decide) rfl (takes_of (E := E) rfl rfl rfl rfl) (ja_cons rfl (je_var rfl (.inr (.inl rfl)) rfl rfl) (ja_cons rfl (je_var rfl (.inr (.inl rfl)) rfl rfl) (ja_cons rfl (je_var rfl (.inr (.inl rfl)) rfl rfl) (ja_cons rfl cst_int (ja_cons rfl cst_str (ja_cons rfl (je_tup ja_nil) ja_nil)))))) rfl)) (jr_of cst_bl) rfl) (pe_one (je_cmp (o_isB) (jr_of (je_cal (ok_is_row_of Z B) rfl hr (by decide) rfl (takes_of (E := E) rfl rfl rfl rfl) (ja_cons rfl (je_var rfl (.inr (.inl rfl)) rfl rfl) (ja_cons rfl (je_var rfl (.inr (.inl rfl)) rfl rfl) (ja_cons rfl (je_var rfl (.inr (.inl rfl)) rfl rfl) (ja_cons rfl cst_int (ja_cons rfl cst_str (ja_cons rfl (je_tup (ja_cons rfl (je_tup (ja_cons rfl cst_int (ja_cons rfl cst_int (ja_cons rfl (je_tup (ja_cons rfl cst_int (ja_cons rfl cst_int ja_nil))) ja_nil)))) ja_nil)) ja_nil)))))) rfl)) (jr_of cst_bl) rfl))))))))))))))))))))))))))))
def N_law : List Str := ["script", "spot", "bag"]
theorem nd_law : N_law.Nodup := by decide +kernel
theorem sc_law : FnScope N_law ["script"] (defScope (top 107)) := ⟨rfl, rfl, rfl, nd_law, rfl, by decide +kernel, by decide +kernel⟩
def s_law_0 : DS := dFor (dRg rg1 (dCons (dPr pMax (dCons (dCst (.int 1)) (dCons (dPr pMin (dCons (dCst (.int 4)) (dCons (dPr pLen (dCons (dVar 0) (dNil))) (dNil)))) (dNil)))) (dNil))) (gN 1) (dSeq (dSet 2 (qV (dCall 2 f__law_bag (dCons (dVar 0) (dCons (dVar 1) (dNil)))))) (dIfS (dOr (dNot (dTest (dCall 1 f__law_right (dCons (dVar 2) (dNil))))) (dNot (dTest (dCall 1 f__law_right (dCons (dVar 2) (dNil)))))) (dRet (dCst (.bl false))) (dNop)))
def s_law_1 : DS := dRet (dCst (.bl true))
def r_law_1 : DS := s_law_1
def r_law_0 : DS := dSeq s_law_0 r_law_1
def b_law : DS := r_law_0
def f_law : List D → M D := dFn 1 N_law.length b_law
theorem ok_law (Z : Zf G mg fa fn nmt cls) (B : Tbs G mg base tfs) : Callee P G.w G mg base "law" 41 1 ["script"] f_law := by
  refine callee_ofA (k := 40) (N := N_law) (d := b_law) Z 110 186 (st := top 107) (by rfl) (by rfl) sc_law (by rfl) (fun _ _ _ _ _ _ us hl => match us, hl with | [_], _ => by rfl) fun f cdv A outer s H E hr => ?_
  delta b_law r_law_0 s_law_0 r_law_1 s_law_1
  exact (jss_cons (js_for (vs := [0, 1, 2]) (passes_of rfl) rfl (ji_rg1 rfl (Z.free 55 rfl) (ja_cons rfl (je_callB (c_max rfl rfl) rfl (Z.free 4 rfl) PyProof.Rows.boot_max (jb_cons rfl (jr_of cst_int) (jb_cons rfl (jr_of (je_callB (c_min rfl rfl) rfl (Z.free 185 rfl) PyProof.Rows.boot_min (jb_cons rfl (jr_of cst_int) (jb_cons rfl (jr_of (je_callB (c_len rfl) rfl (Z.free 1 rfl) boot_len (jb_cons rfl (jr_of (je_var rfl (.inl rfl) rfl rfl)) jb_nil) rfl)) jb_nil)) rfl)) jb_nil)) rfl) ja_nil) rfl) (jg_name nd_law rfl (.inl rfl) (.inl rfl) (by decide)) (jss_cons (js_setV (ps_set nd_law rfl (.inl rfl) (je_cal (ok__law_bag Z B) rfl hr (by decide) rfl (takes_of (E := E) rfl rfl rfl rfl) (ja_cons rfl (je_var rfl (.inl rfl) rfl rfl) (ja_cons rfl (je_var rfl (.inl rfl) rfl rfl) ja_nil)) rfl) rfl)) (jss_one (js_if (PW.pt (jw_or (jt_not (jt_val (jr_of (je_cal (ok__law_right Z B) rfl hr (by decide) rfl (takes_of (E := E) rfl rfl rfl rfl) (ja_cons rfl (je_var rfl (.inl rfl) rfl rfl) ja_nil) rfl)) rfl)) (jw1_or (jt_not (jt_val (jr_of (je_cal (ok__law_right Z B) rfl hr (by decide) rfl (takes_of (E := E) rfl rfl rfl rfl) (ja_cons rfl (je_var rfl (.inl rfl) rfl rfl) ja_nil) rfl)) rfl))))) (jss_one (js_ret cst_bl)) jss_nil))) (fun _ => rfl)) (jss_one (js_ret cst_bl)))
end
end K95

set_option maxHeartbeats 0
namespace K95
open PySem PySem.Spec PyProof.Rows L2 Py
abbrev R : PySem.W.OpenRow := PySem.W.OpenLaw.row PySem.Challenge.rw_errandwide_k95_refusals_of_runs_side_by
def as_0 : List PySem.Addr := [3, 6, 4, 24, 37, 49, 61, 70, 71, 76, 81, 88, 93, 100, 107, 114, 138, 288, 297, 304, 311, 318, 325, 332, 339, 344, 351, 358, 359, 364]
def as_1 : List PySem.Addr := [371, 580, 378, 385, 392, 399, 406, 413, 418, 425, 430, 437, 498, 509, 514, 519, 526, 533, 540, 547, 554, 559, 566, 573, 587, 594, 601, 608, 615, 622]
def as_2 : List PySem.Addr := [629, 636, 643, 650, 655, 662, 669, 676, 683, 690, 697, 702, 788, 797, 804, 811, 818, 825, 832, 839, 846, 0, 23, 36, 48, 60, 69, 75, 80, 87]
def as_3 : List PySem.Addr := [92, 99, 106, 113, 137, 287, 296, 303, 310, 317, 324, 331, 338, 343, 350, 357, 363, 370, 579, 377, 384, 391, 398, 405, 412, 417, 424, 429, 436, 497]
def as_4 : List PySem.Addr := [508, 513, 518, 525, 532, 539, 546, 553, 558, 565, 572, 586, 593, 600, 607, 614, 621, 628, 635, 642, 649, 654, 661, 668, 675, 682, 689, 696, 701, 787]
def as_5 : List PySem.Addr := [796, 803, 810, 817, 824, 831, 838, 845, 22, 25, 35, 47, 59, 64, 65, 66, 67, 68, 72, 73, 74, 77, 78, 79, 82, 83, 84, 85, 86, 89]
def as_6 : List PySem.Addr := [90, 91, 94, 95, 96, 97, 98, 101, 102, 103, 104, 105, 108, 109, 110, 111, 112, 128, 135, 136, 139, 140, 156, 163, 170, 177, 184, 191, 198, 205]
def as_7 : List PySem.Addr := [212, 219, 226, 233, 238, 245, 250, 257, 264, 271, 278, 285, 286, 289, 290, 293, 294, 295, 298, 299, 300, 301, 302, 305, 306, 307, 308, 309, 312, 313]
def as_8 : List PySem.Addr := [314, 315, 316, 319, 320, 321, 322, 323, 326, 327, 328, 329, 330, 333, 334, 335, 336, 337, 340, 341, 342, 345, 346, 347, 348, 349, 352, 353, 354, 355]
def as_9 : List PySem.Addr := [356, 360, 361, 362, 365, 366, 367, 368, 369, 574, 575, 576, 577, 578, 372, 373, 374, 375, 376, 379, 380, 381, 382, 383, 386, 387, 388, 389, 390, 393]
def as_10 : List PySem.Addr := [394, 395, 396, 397, 400, 401, 402, 403, 404, 407, 408, 409, 410, 411, 414, 415, 416, 419, 420, 421, 422, 423, 426, 427, 428, 431, 432, 433, 434, 435]
def as_11 : List PySem.Addr := [449, 456, 461, 466, 473, 478, 483, 490, 495, 496, 499, 500, 503, 504, 505, 506, 507, 510, 511, 512, 515, 516, 517, 520, 521, 522, 523, 524, 527, 528]
def as_12 : List PySem.Addr := [529, 530, 531, 534, 535, 536, 537, 538, 541, 542, 543, 544, 545, 548, 549, 550, 551, 552, 555, 556, 557, 560, 561, 562, 563, 564, 567, 568, 569, 570]
def as_13 : List PySem.Addr := [571, 581, 582, 583, 584, 585, 588, 589, 590, 591, 592, 595, 596, 597, 598, 599, 602, 603, 604, 605, 606, 609, 610, 611, 612, 613, 616, 617, 618, 619]
def as_14 : List PySem.Addr := [620, 623, 624, 625, 626, 627, 630, 631, 632, 633, 634, 637, 638, 639, 640, 641, 644, 645, 646, 647, 648, 651, 652, 653, 656, 657, 658, 659, 660, 663]
def as_15 : List PySem.Addr := [664, 665, 666, 667, 670, 671, 672, 673, 674, 677, 678, 679, 680, 681, 684, 685, 686, 687, 688, 691, 692, 693, 694, 695, 698, 699, 700, 716, 723, 730]
def as_16 : List PySem.Addr := [737, 744, 751, 756, 763, 770, 775, 780, 785, 786, 789, 790, 793, 794, 795, 798, 799, 800, 801, 802, 805, 806, 807, 808, 809, 812, 813, 814, 815, 816]
def as_17 : List PySem.Addr := [819, 820, 821, 822, 823, 826, 827, 828, 829, 830, 833, 834, 835, 836, 837, 840, 841, 842, 843, 844, 127, 134, 155, 162, 169, 176, 183, 190, 197, 204]
def as_18 : List PySem.Addr := [211, 218, 225, 232, 237, 244, 249, 256, 263, 270, 277, 284, 448, 455, 460, 465, 472, 477, 482, 489, 494, 715, 722, 729, 736, 743, 750, 755, 762, 769]
def as_19 : List PySem.Addr := [774, 779, 784]
def as : List PySem.Addr := as_0 ++ as_1 ++ as_2 ++ as_3 ++ as_4 ++ as_5 ++ as_6 ++ as_7 ++ as_8 ++ as_9 ++ as_10 ++ as_11 ++ as_12 ++ as_13 ++ as_14 ++ as_15 ++ as_16 ++ as_17 ++ as_18 ++ as_19
abbrev hk : PySem.W.Hook := hookA as fa fn nmt tfs
def ob (s : PySem.W.SharedT) : He.AlX := obA as fa fn nmt tfs (HandSHeadRun.getT s)
theorem ob_eq (s : PySem.W.SharedT) : ob s = hk.obs s.abs := obA_eq (HandSHeadRun.getT_eq s)
def loose : List Str := (["ErrandError", "NoErrand", "BadThing", "BadNumber", "machine_of", "CALL_TOO_DEEP", "branch_paths", "count_of", "outcome", "first_bad", "slots_behind", "PRIME", "joined", "slot_worth", "MOST_ROUNDS", "MOST_WANTS", "TOO_MANY_ROUNDS", "TOO_MANY_WANTS", "LONGEST_HOUSE", "House", "Work", "hall_of", "house_row", "house_again", "work_again", "worked", "begun", "come", "waiting", "result"] : List Str) ++ (["answers_in", "LETTERS", "GREATEST", "WITH_WORTH", "is_word", "is_number", "blocks_of", "blocks_of_programs", "names_in_worth", "names_in_branch", "names_in_block", "names_of", "is_number_to", "MOST_ROWS", "is_same", "is_world_row", "is_world", "need_world", "MOST_RUNS", "MOST_HANDS", "MOST_TURNS", "ROUNDS", "AGE", "Served", "all_served", "is_run_pair", "need_runs", "need_hands", "need_way", "need_all"] : List Str) ++ (["served", "own_events", "ended_paper", "longest_wait", "is_row_of", "blocks_of_places", "put_places", "places", "block_at", "row_at", "behind", "step_slid", "slid", "is_undone_end", "standing", "put_dos", "numbers_of", "is_row", "number_at", "fall_at", "off_at", "deed_at", "dos_around", "slots_for", "Making", "made", "_law_bag", "_law_pull", "_law_choose", "_law_met"] : List Str) ++ (["_law_asked", "_law_right"] : List Str)
theorem runA (w : World) (os : OsState) : (endL R 20000 w os).map (fun s => (HandSHeadRun.looksF R.prog (PySem.W.boot_heap w.params) s.abs, HandSHeadRun.seenQ (PySem.W.view R.prog [107]) loose (importedModules R.prog.main.body) (fun s => PySem.W.xlAt (PySem.W.view R.prog [107]) [] s && PySem.W.recOk R.toRowW.records s) s.abs, exB nmt tfs (frA as s) && He.tabsB (HandSHeadRun.getT s) (tfN tfs) (frA as s))) = some (true, PySem.W.openGood (PySem.W.view R.prog [107]) loose, true) := by kernel_rfl
theorem runB (w : World) (os : OsState) : (endL R 20000 w os).map (fun s => fa.all fun f => f.ok (frA as s)) = some true := by kernel_rfl
def fn_0 : List He.DefD := (fn.drop 0).take 60
theorem runC0 (w : World) (os : OsState) : (endL R 20000 w os).map (fun s => (fn_0.all (fun d => d.ok (frA as s)), fn_0.map fun d => He.fnW (frA as s) d.at_)) = some (true, fn_0.map He.DefD.val) := by kernel_rfl
def fn_1 : List He.DefD := (fn.drop 60).take 60
theorem runC1 (w : World) (os : OsState) : (endL R 20000 w os).map (fun s => (fn_1.all (fun d => d.ok (frA as s)), fn_1.map fun d => He.fnW (frA as s) d.at_)) = some (true, fn_1.map He.DefD.val) := by kernel_rfl
theorem run (w : World) : HandSHeadRun.RunEq R (PySem.W.view R.prog [107]) hk ob 20000 loose w :=
  runA_of [fa] [fn_0, fn_1] (by rfl) (by rfl) (runA w) (fun c hc os => by
    simp only [List.mem_cons, List.not_mem_nil, or_false] at hc
    subst hc
    exact runB w os) (fun c hc os => by
    simp only [List.mem_cons, List.not_mem_nil, or_false] at hc
    rcases hc with rfl | rfl
    · exact runC0 w os
    · exact runC1 w os)
/-- what is left: the plain law -/
def Plain : Prop := ∀ ns : List Int, ns.length ≤ 63 → (∀ z ∈ ns, Builtin.Int.intBits z ≤ 1048576) → ∀ ob, ScB ob ns → ∃ S', f_law [.ref 0] [ob] = .ok (.bl true) S'
end K95
section
open PySem PySem.W PySem.Calls PyProof.Rows
theorem K95.holds_of (hl : K95.Plain) : PySem.Challenge.rw_errandwide_k95_refusals_of_runs_side_by.Holds := by
  w_on; o_law
  refine HandSHeadRun.head_any (r := OpenLaw.row PySem.Challenge.rw_errandwide_k95_refusals_of_runs_side_by) (q := view (OpenLaw.row PySem.Challenge.rw_errandwide_k95_refusals_of_runs_side_by).prog [107]) (H := K95.hk) (ob := K95.ob) (M := 20000) (loose := K95.loose) (d := HandSHeadRun.topDef (OpenLaw.row PySem.Challenge.rw_errandwide_k95_refusals_of_runs_side_by).prog 107) (kwd := []) K95.ob_eq
    (by kernel_rfl) (fun s => by kernel_rfl) K95.run (by kernel_rfl) (by kernel_rfl) (by kernel_rfl) (by rfl) (by first | assumption | decide +kernel) (by decide +kernel) ⟨rfl, rfl, rfl, rfl, rfl, by decide +kernel⟩ ?hw ?hc
  case hw => w_witness2
  case hc =>
    refine LamX.walk_ofTsE (l := PySem.Challenge.rw_errandwide_k95_refusals_of_runs_side_by) (n := 63) (k := 41) (x := "script") (CX := fun w => L2.CX PySem.Challenge.rw_errandwide_k95_refusals_of_runs_side_by.prog w) rfl (by decide) (by kernel_rfl) ⟨rfl, by decide, by decide⟩ ?F (fun _ _ _ _ _ z => Py.cx_none z)
    intro w mg fa h Y G hmg0
    have hmg : mg ("law" : PySem.Str) = some (.ref fa) := by
      have e : (HandSHeadRun.topDef (OpenLaw.row PySem.Challenge.rw_errandwide_k95_refusals_of_runs_side_by).prog 107).name = ("law" : PySem.Str) := by kernel_rfl
      rw [← e]
      exact hmg0
    have hf : ∀ x ∈ K95.tfs, ∃ (i : Nat) (st : PySem.Stmt), K95.fn[i]? = some (Py.dfA x x st) := fun x hx => by
      simp only [K95.tfs, List.mem_cons, List.not_mem_nil, or_false] at hx
      rcases hx with rfl | rfl
      · exact ⟨69, K95.top 105, rfl⟩
      · exact ⟨109, K95.top 106, rfl⟩

    exact Py.end_ofT (cl := K95.cls) (fun G base hw Z B => by subst hw; exact K95.ok_law Z B) hf ⟨110, 186, K95.top 107, rfl, rfl, fun _ _ _ _ _ _ us hl => match us, hl with | [_], _ => by rfl⟩ Y G hmg hl
end

/-! Plain part 1: what code does, by equations. -/
namespace Py
open PySem PySem.Spec PyProof.Rows L2
def isRef : D → Bool
  | .ref _ => true
  | _ => false
@[simp] theorem isRef_tup {ds : List D} : isRef (.tup ds) = false := rfl
@[simp] theorem isRef_lst {ds : List D} : isRef (.lst ds) = false := rfl
def seqR (r : Res) (b : DS) : Res := match r with
  | some (.nx ρ', S') => b ρ' S'
  | r => r
section
variable {α β : Type} {S S' : Store} {ρ : Env}
@[simp] theorem seqR_nx {b : DS} : seqR (some (.nx ρ, S)) b = b ρ S := rfl
@[simp] theorem seqR_rt {b : DS} {d : D} : seqR (some (.rt d, S)) b = some (.rt d, S) := rfl
@[simp] theorem seqR_br {b : DS} : seqR (some (.br ρ, S)) b = some (.br ρ, S) := rfl
@[simp] theorem seqR_ct {b : DS} : seqR (some (.ct ρ, S)) b = some (.ct ρ, S) := rfl
@[simp] theorem seqR_none {b : DS} : seqR none b = none := rfl
@[simp] theorem ite_seqR {c : Prop} [Decidable c] {a b : Res} {k : DS} : seqR (if c then a else b) k = if c then seqR a k else seqR b k := by by_cases h : c <;> simp [h]
@[simp] theorem ite_bind {γ : Type} {c : Prop} [Decidable c] {a b : R α} {k : α → M γ} : (if c then a else b).bind k = if c then a.bind k else b.bind k := by by_cases h : c <;> simp [h]
@[simp] theorem ite_rS {c : Prop} [Decidable c] {a b : R α} {k : α → Store → Res} : rS (if c then a else b) ρ k = if c then rS a ρ k else rS b ρ k := by by_cases h : c <;> simp [h]
@[simp] theorem ite_endR {c : Prop} [Decidable c] {a b : Res} : endR (if c then a else b) = if c then endR a else endR b := by by_cases h : c <;> simp [h]
@[simp] theorem ite_noX {c : Prop} [Decidable c] {a b : R α} : noX (if c then a else b) = if c then noX a else noX b := by by_cases h : c <;> simp [h]
@[simp] theorem optM_some {b : β} : optM (some b) S = .ok b S := rfl
@[simp] theorem optM_none : (optM (none : Option β)) S = .bad := rfl
@[simp] theorem rS_ok {a : α} {k : α → Store → Res} : rS (.ok a S) ρ k = k a S := rfl
@[simp] theorem rS_bad {k : α → Store → Res} : rS (.bad) ρ k = none := rfl
@[simp] theorem noX_ok {a : α} : noX (.ok a S) = .ok a S := rfl
@[simp] theorem noX_bad : noX (.bad : R α) = .bad := rfl
@[simp] theorem dVar_ev {i : Nat} : dVar i ρ S = optM (slV ρ i) S := rfl
@[simp] theorem dRd_ev {i : Nat} : dRd i ρ S = optM (slR ρ i) S := rfl
@[simp] theorem dCst_ev {d : D} : dCst d ρ S = .ok d S := rfl
@[simp] theorem dOp_ev {f : Store → D → D → Option D} {a b : DE} : dOp f a b ρ S = (a ρ S).bind fun x S => (b ρ S).bind fun y S => optM (f S x y) S := rfl
@[simp] theorem dPr_ev {f : Store → List D → Option D} {a : DA} : dPr f a ρ S = (a ρ S).bind fun xs S => optM (f S xs) S := rfl
@[simp] theorem dPrL_ev {f : Store → List D → Option (List D)} {a : DA} : dPrL f a ρ S = (a ρ S).bind fun xs S => optM (f S xs) S := rfl
@[simp] theorem dNil_ev : dNil ρ S = .ok [] S := rfl
@[simp] theorem dCons_ev {a : DE} {r : DA} : dCons a r ρ S = (a ρ S).bind fun x S => (r ρ S).bind fun xs S => .ok (x :: xs) S := rfl
@[simp] theorem dTest_ev {a : DE} : dTest a ρ S = (a ρ S).bind fun x S => optM (asB x) S := rfl
@[simp] theorem dAnd_ev {a b : DT} : dAnd a b ρ S = (a ρ S).bind fun x S => if x then b ρ S else .ok false S := rfl
@[simp] theorem dOr_ev {a b : DT} : dOr a b ρ S = (a ρ S).bind fun x S => if x then .ok true S else b ρ S := rfl
@[simp] theorem dNot_ev {a : DT} : dNot a ρ S = (a ρ S).bind fun x S => .ok (!x) S := rfl
@[simp] theorem dAndV_ev {a b : DE} : dAndV a b ρ S = (a ρ S).bind fun x S => (optM (asB x) S).bind fun k S => if k = true then b ρ S else .ok (.bl false) S := by
  unfold dAndV
  congr 1; funext x S
  cases asB x with
  | none => rfl
  | some k => cases k <;> rfl
@[simp] theorem dOrV_ev {a b : DE} : dOrV a b ρ S = (a ρ S).bind fun x S => (optM (asB x) S).bind fun k S => if k = true then .ok (.bl true) S else b ρ S := by
  unfold dOrV
  congr 1; funext x S
  cases asB x with
  | none => rfl
  | some k => cases k <;> rfl
@[simp] theorem dNotV_ev {a : DE} : dNotV a ρ S = (a ρ S).bind fun x S => (optM (asB x) S).bind fun k S => .ok (.bl (!k)) S := by
  unfold dNotV
  congr 1; funext x S
  cases asB x <;> rfl
@[simp] theorem dIf_ev {t : DT} {a b : DE} : dIf t a b ρ S = (t ρ S).bind fun k S => if k then a ρ S else b ρ S := rfl
@[simp] theorem dNeg_ev {a : DE} : dNeg a ρ S = (a ρ S).bind fun x S => match x with | .int i => .ok (.int (-i)) S | _ => .bad := rfl
@[simp] theorem dChain_ev {f g : Store → D → D → Option D} {a b c : DE} : dChain f g a b c ρ S = (a ρ S).bind fun x S => (b ρ S).bind fun y S => (optM ((f S x y).bind asB) S).bind fun k S => if k = true then (c ρ S).bind fun z S => optM (g S y z) S else .ok (.bl false) S := by
  unfold dChain
  congr 1; funext x S; congr 1; funext y S
  cases (f S x y).bind asB with
  | none => rfl
  | some k => cases k <;> rfl
@[simp] theorem dTup_ev {r : DA} : dTup r ρ S = (r ρ S).bind fun xs S => if xs.length ≤ sizeLine then .ok (.tup xs) S else .bad := rfl
@[simp] theorem dLst_ev {r : DA} : dLst r ρ S = (r ρ S).bind fun xs S => .ok (.lst xs) S := rfl
@[simp] theorem dDisp_ev {r : DA} : dDisp r ρ S = (r ρ S).bind fun xs S => if xs.length ≤ sizeLine then .ok xs S else .bad := rfl
@[simp] theorem dNew_ev {r : DA} : dNew r ρ S = (r ρ S).bind fun xs S => .ok (.ref S.length) (S ++ [.lst xs]) := rfl
@[simp] theorem dNo_ev : dNo ρ S = .ok none S := rfl
@[simp] theorem dSo_ev {d : DE} : dSo d ρ S = (d ρ S).bind fun x S => match x with | .int i => .ok (some i) S | _ => .bad := rfl
@[simp] theorem dSl_ev {a : DE} {lo hi : DO} : dSl a lo hi ρ S = (a ρ S).bind fun x S => (lo ρ S).bind fun l S => (hi ρ S).bind fun u S => optM (pSl S x l u) S := rfl
@[simp] theorem dStar_ev {a : DE} {r : DA} : dStar a r ρ S = (a ρ S).bind fun x S => (optM (seqOf S x) S).bind fun ds S => if isRef x = true then .bad else (r ρ S).bind fun xs S => .ok (ds ++ xs) S := by
  unfold dStar
  congr 1; funext x S
  cases h : seqOf S x with
  | none => simp
  | some ds => cases x <;> simp [isRef]
@[simp] theorem dCall_ev {n : Nat} {run : List D → M D} {r : DA} : dCall n run r ρ S = (r ρ S).bind fun xs S => if xs.length = n then run xs S else .bad := rfl
@[simp] theorem dItems_ev {d : DE} : dItems d ρ S = (d ρ S).bind fun x S => optM (itms x) S := rfl
@[simp] theorem dRg_ev {f : List D → Option (List D)} {r : DA} : dRg f r ρ S = (r ρ S).bind fun xs S => optM (f xs) S := rfl
@[simp] theorem dLrg_ev {d : DE} : dLrg d ρ S = (d ρ S).bind fun x S => optM (lrg x) S := rfl
@[simp] theorem dSortSet_ev {d : DE} : dSortSet d ρ S = (d ρ S).bind fun x S => optM (qSortSet x) S := rfl
@[simp] theorem dLc_ev {di : DI} {g : DG} {t : DT} {e : DE} {vs : List Nat} : dLc di g t e vs ρ S = (di ρ S).bind fun ds S => noX (lcRun g t e (wipeE ρ vs) ds [] S) := rfl
@[simp] theorem dYes_ev : dYes ρ S = .ok true S := rfl
@[simp] theorem qV_ev {d : DE} : qV d ρ S = (d ρ S).bind fun x S => .ok (.val x) S := rfl
@[simp] theorem qO_ev {d : DA} : qO d ρ S = (d ρ S).bind fun x S => .ok (.own x) S := rfl
@[simp] theorem dSet_ev {i : Nat} {q : DQ} : dSet i q ρ S = rS (q ρ S) ρ fun s S => some (.nx (ρ.set i (some s)), S) := rfl
@[simp] theorem dBnd_ev {d : DE} {g : DG} : dBnd d g ρ S = rS (d ρ S) ρ fun x S => match g x ρ with | some ρ' => some (.nx ρ', S) | none => none := rfl
@[simp] theorem dRet_ev {d : DE} : dRet d ρ S = rS (d ρ S) ρ fun x S => some (.rt x, S) := rfl
@[simp] theorem dRetN_ev : dRetN ρ S = some (.rt .non, S) := rfl
@[simp] theorem dDrop_ev {d : DE} : dDrop d ρ S = rS (d ρ S) ρ fun _ S => some (.nx ρ, S) := rfl
@[simp] theorem dIfS_ev {t : DT} {a b : DS} : dIfS t a b ρ S = rS (t ρ S) ρ fun c S => if c = true then a ρ S else b ρ S := rfl
@[simp] theorem dNop_ev : dNop ρ S = some (.nx ρ, S) := rfl
@[simp] theorem dBrk_ev : dBrk ρ S = some (.br ρ, S) := rfl
@[simp] theorem dCnt_ev : dCnt ρ S = some (.ct ρ, S) := rfl
@[simp] theorem dBad_ev : dBad ρ S = none := rfl
@[simp] theorem dPar2_ev {i j : Nat} {q q' : DQ} : dPar2 i j q q' ρ S = rS (q ρ S) ρ fun s S => rS (q' ρ S) ρ fun s' S => some (.nx ((ρ.set i (some s)).set j (some s')), S) := rfl
@[simp] theorem dPar3_ev {i j l : Nat} {q q' q'' : DQ} : dPar3 i j l q q' q'' ρ S = rS (q ρ S) ρ fun s S => rS (q' ρ S) ρ fun s' S => rS (q'' ρ S) ρ fun s'' S => some (.nx (((ρ.set i (some s)).set j (some s')).set l (some s'')), S) := rfl
@[simp] theorem dSeq_ev {a b : DS} : dSeq a b ρ S = seqR (a ρ S) b := rfl
@[simp] theorem dFrz_ev {i : Nat} : dFrz i ρ S = match ρ[i]? with | some (some (.own ds)) => some (.nx (ρ.set i (some (.val (.lst ds)))), S) | _ => none := rfl
@[simp] theorem dOwn_ev {i : Nat} {f : List D → D → Option (List D)} {d : DE} : dOwn i f d ρ S = match ρ[i]? with | some (some (.own ds)) => rS (d ρ S) ρ fun y S => (match f ds y with | some ds' => some (.nx (ρ.set i (some (.own ds'))), S) | none => none) | _ => none := rfl
@[simp] theorem dSto_ev {v o i : DE} : dSto v o i ρ S = rS (v ρ S) ρ fun x S => rS (o ρ S) ρ fun y S => rS (i ρ S) ρ fun z S => match stSet S y z x with | some S' => some (.nx ρ, S') | none => none := rfl
@[simp] theorem dFor_ev {di : DI} {g : DG} {b : DS} : dFor di g b ρ S = rS (di ρ S) ρ fun ds S => forRun g b ds ρ S := rfl
@[simp] theorem dFn_ev {n N : Nat} {b : DS} {ds : List D} : dFn n N b ds S = if ds.length = n then endR (b (fnEnv N ds) S) else .bad := rfl
@[simp] theorem endR_rt {d : D} : endR (some (.rt d, S)) = .ok d S := rfl
@[simp] theorem endR_nx : endR (some (.nx ρ, S)) = .ok .non S := rfl
@[simp] theorem endR_none : endR none = .bad := rfl
@[simp] theorem slV_val {i : Nat} {d : D} (h : ρ[i]? = some (some (.val d))) : slV ρ i = some d := by unfold slV; rw [h]
@[simp] theorem slR_val {i : Nat} {d : D} (h : ρ[i]? = some (some (.val d))) : slR ρ i = some d := by unfold slR; rw [h]
@[simp] theorem slR_own {i : Nat} {d : List D} (h : ρ[i]? = some (some (.own d))) : slR ρ i = some (.lst d) := by unfold slR; rw [h]
@[simp] theorem asB_bl {b : Bool} : asB (.bl b) = some b := rfl
@[simp] theorem gN_ev {i : Nat} {d : D} : gN i d ρ = some (ρ.set i (some (.val d))) := rfl
@[simp] theorem gT_tup {n : Nat} {g : DGs} {ds : List D} : gT n g (.tup ds) ρ = if ds.length = n then g ds ρ else none := rfl
@[simp] theorem gs0_nil : gs0 [] ρ = some ρ := rfl
@[simp] theorem gsC_cons {g : DG} {gs : DGs} {d : D} {ds : List D} : gsC g gs (d :: ds) ρ = (g d ρ).bind fun ρ => gs ds ρ := rfl
end
theorem k_int_int : kitB "int" "int" = some true := by decide +kernel
theorem k_bool_int : kitB "bool" "int" = some true := by decide +kernel
theorem k_str_int : kitB "str" "int" = some false := by decide +kernel
theorem k_tuple_int : kitB "tuple" "int" = some false := by decide +kernel
theorem k_list_int : kitB "list" "int" = some false := by decide +kernel
theorem k_non_int : kitB "NoneType" "int" = some false := by decide +kernel
theorem k_dict_int : kitB "dict" "int" = some false := by decide +kernel
theorem k_int_bool : kitB "int" "bool" = some false := by decide +kernel
theorem k_bool_bool : kitB "bool" "bool" = some true := by decide +kernel
theorem k_str_bool : kitB "str" "bool" = some false := by decide +kernel
theorem k_tuple_bool : kitB "tuple" "bool" = some false := by decide +kernel
theorem k_list_bool : kitB "list" "bool" = some false := by decide +kernel
theorem k_non_bool : kitB "NoneType" "bool" = some false := by decide +kernel
theorem k_dict_bool : kitB "dict" "bool" = some false := by decide +kernel
theorem k_int_str : kitB "int" "str" = some false := by decide +kernel
theorem k_bool_str : kitB "bool" "str" = some false := by decide +kernel
theorem k_str_str : kitB "str" "str" = some true := by decide +kernel
theorem k_tuple_str : kitB "tuple" "str" = some false := by decide +kernel
theorem k_list_str : kitB "list" "str" = some false := by decide +kernel
theorem k_non_str : kitB "NoneType" "str" = some false := by decide +kernel
theorem k_dict_str : kitB "dict" "str" = some false := by decide +kernel
theorem k_int_tuple : kitB "int" "tuple" = some false := by decide +kernel
theorem k_bool_tuple : kitB "bool" "tuple" = some false := by decide +kernel
theorem k_str_tuple : kitB "str" "tuple" = some false := by decide +kernel
theorem k_tuple_tuple : kitB "tuple" "tuple" = some true := by decide +kernel
theorem k_list_tuple : kitB "list" "tuple" = some false := by decide +kernel
theorem k_non_tuple : kitB "NoneType" "tuple" = some false := by decide +kernel
theorem k_dict_tuple : kitB "dict" "tuple" = some false := by decide +kernel
/-! ### isinstance -/
def isIntB : D → Bool
  | .int _ => true
  | .bl _ => true
  | _ => false
def isBlB : D → Bool
  | .bl _ => true
  | _ => false
def isStrB : D → Bool
  | .str _ => true
  | _ => false
def isTupB : D → Bool
  | .tup _ => true
  | _ => false
/-- a value of a built-in type -/
def vis : D → Bool
  | .ty _ => false
  | .ref _ => false
  | .glo _ => false
  | .pt0 => false
  | _ => true
theorem isi_int {S : Store} {d : D} (h : vis d = true) : pIsi S [d, .ty "int"] = some (.bl (isIntB d)) := by
  cases d <;> first | cases h; done | (simp only [pIsi, tyD, Option.bind_some, k_int_int, k_bool_int, k_str_int, k_tuple_int, k_list_int, k_non_int, k_dict_int, Option.map_some]; rfl)
theorem isi_bool {S : Store} {d : D} (h : vis d = true) : pIsi S [d, .ty "bool"] = some (.bl (isBlB d)) := by
  cases d <;> first | cases h; done | (simp only [pIsi, tyD, Option.bind_some, k_int_bool, k_bool_bool, k_str_bool, k_tuple_bool, k_list_bool, k_non_bool, k_dict_bool, Option.map_some]; rfl)
theorem isi_str {S : Store} {d : D} (h : vis d = true) : pIsi S [d, .ty "str"] = some (.bl (isStrB d)) := by
  cases d <;> first | cases h; done | (simp only [pIsi, tyD, Option.bind_some, k_int_str, k_bool_str, k_str_str, k_tuple_str, k_list_str, k_non_str, k_dict_str, Option.map_some]; rfl)
theorem isi_tup {S : Store} {d : D} (h : vis d = true) : pIsi S [d, .ty "tuple"] = some (.bl (isTupB d)) := by
  cases d <;> first | cases h; done | (simp only [pIsi, tyD, Option.bind_some, k_int_tuple, k_bool_tuple, k_str_tuple, k_tuple_tuple, k_list_tuple, k_non_tuple, k_dict_tuple, Option.map_some]; rfl)
@[simp] theorem isi_int_int {S : Store} {i : Int} : pIsi S [.int i, .ty "int"] = some (.bl true) := isi_int rfl
@[simp] theorem isi_int_bool {S : Store} {i : Bool} : pIsi S [.bl i, .ty "int"] = some (.bl true) := isi_int rfl
@[simp] theorem isi_int_str {S : Store} {i : Str} : pIsi S [.str i, .ty "int"] = some (.bl false) := isi_int rfl
@[simp] theorem isi_int_tuple {S : Store} {i : List D} : pIsi S [.tup i, .ty "int"] = some (.bl false) := isi_int rfl
@[simp] theorem isi_int_list {S : Store} {i : List D} : pIsi S [.lst i, .ty "int"] = some (.bl false) := isi_int rfl
@[simp] theorem isi_int_NoneType {S : Store} : pIsi S [.non, .ty "int"] = some (.bl false) := isi_int rfl
@[simp] theorem isi_int_dict {S : Store} : pIsi S [.emp, .ty "int"] = some (.bl false) := isi_int rfl
@[simp] theorem isi_bool_int {S : Store} {i : Int} : pIsi S [.int i, .ty "bool"] = some (.bl false) := isi_bool rfl
@[simp] theorem isi_bool_bool {S : Store} {i : Bool} : pIsi S [.bl i, .ty "bool"] = some (.bl true) := isi_bool rfl
@[simp] theorem isi_bool_str {S : Store} {i : Str} : pIsi S [.str i, .ty "bool"] = some (.bl false) := isi_bool rfl
@[simp] theorem isi_bool_tuple {S : Store} {i : List D} : pIsi S [.tup i, .ty "bool"] = some (.bl false) := isi_bool rfl
@[simp] theorem isi_bool_list {S : Store} {i : List D} : pIsi S [.lst i, .ty "bool"] = some (.bl false) := isi_bool rfl
@[simp] theorem isi_bool_NoneType {S : Store} : pIsi S [.non, .ty "bool"] = some (.bl false) := isi_bool rfl
@[simp] theorem isi_bool_dict {S : Store} : pIsi S [.emp, .ty "bool"] = some (.bl false) := isi_bool rfl
@[simp] theorem isi_str_int {S : Store} {i : Int} : pIsi S [.int i, .ty "str"] = some (.bl false) := isi_str rfl
@[simp] theorem isi_str_bool {S : Store} {i : Bool} : pIsi S [.bl i, .ty "str"] = some (.bl false) := isi_str rfl
@[simp] theorem isi_str_str {S : Store} {i : Str} : pIsi S [.str i, .ty "str"] = some (.bl true) := isi_str rfl
@[simp] theorem isi_str_tuple {S : Store} {i : List D} : pIsi S [.tup i, .ty "str"] = some (.bl false) := isi_str rfl
@[simp] theorem isi_str_list {S : Store} {i : List D} : pIsi S [.lst i, .ty "str"] = some (.bl false) := isi_str rfl
@[simp] theorem isi_str_NoneType {S : Store} : pIsi S [.non, .ty "str"] = some (.bl false) := isi_str rfl
@[simp] theorem isi_str_dict {S : Store} : pIsi S [.emp, .ty "str"] = some (.bl false) := isi_str rfl
@[simp] theorem isi_tup_int {S : Store} {i : Int} : pIsi S [.int i, .ty "tuple"] = some (.bl false) := isi_tup rfl
@[simp] theorem isi_tup_bool {S : Store} {i : Bool} : pIsi S [.bl i, .ty "tuple"] = some (.bl false) := isi_tup rfl
@[simp] theorem isi_tup_str {S : Store} {i : Str} : pIsi S [.str i, .ty "tuple"] = some (.bl false) := isi_tup rfl
@[simp] theorem isi_tup_tuple {S : Store} {i : List D} : pIsi S [.tup i, .ty "tuple"] = some (.bl true) := isi_tup rfl
@[simp] theorem isi_tup_list {S : Store} {i : List D} : pIsi S [.lst i, .ty "tuple"] = some (.bl false) := isi_tup rfl
@[simp] theorem isi_tup_NoneType {S : Store} : pIsi S [.non, .ty "tuple"] = some (.bl false) := isi_tup rfl
@[simp] theorem isi_tup_dict {S : Store} : pIsi S [.emp, .ty "tuple"] = some (.bl false) := isi_tup rfl
/-! ### ints -/
section
variable {S : Store} {a b : Int}
@[simp] theorem shal_int : shal (.int a) = true := by simp [shal, D.okd, D.py, PyData.depth]
theorem lt_int' : PySem.W.dataLt (.int a) (.int b) = decide (a < b) := PySem.W.dataLt_int a b
theorem alike_int : PySem.W.alike (.int a) (.int b) = true := by simp [PySem.W.alike]
theorem cmpOk_int : cmpOk (.int a) (.int b) = true := by simp [cmpOk, D.py, alike_int, isNonD]
theorem nlt_dec : (!decide (a < b)) = decide (b ≤ a) := by by_cases h : a < b <;> simp [h] <;> omega
theorem beq_dec : (a == b) = decide (a = b) := by by_cases h : a = b <;> simp [h]
@[simp] theorem pLt_int : pLt S (.int a) (.int b) = some (.bl (decide (a < b))) := by simp [pLt, cmpOk_int, D.py, lt_int']
@[simp] theorem pGt_int : pGt S (.int a) (.int b) = some (.bl (decide (b < a))) := by simp [pGt, cmpOk_int, D.py, lt_int']
@[simp] theorem pLe_int : pLe S (.int a) (.int b) = some (.bl (decide (a ≤ b))) := by simp only [pLe, cmpOk_int, D.py, lt_int', nlt_dec, if_true]
@[simp] theorem pGe_int : pGe S (.int a) (.int b) = some (.bl (decide (b ≤ a))) := by simp only [pGe, cmpOk_int, D.py, lt_int', nlt_dec, if_true]
@[simp] theorem pEq_int : pEq S (.int a) (.int b) = some (.bl (decide (a = b))) := by simp [pEq, D.py, PyData.eqv, beq_dec]
@[simp] theorem pNe_int : pNe S (.int a) (.int b) = some (.bl (!decide (a = b))) := by simp [pNe, D.py, PyData.eqv, beq_dec]
end
end Py

/-! Plain part 2: primitives on tuples, lists, ints, by equations. -/
namespace Py
open PySem PySem.Spec PyProof.Rows L2
section
variable {S : Store} {ds es : List D} {d e : D} {n k : Nat} {α : Type} {xs : List α}
theorem sizeLine_val : sizeLine = 16777216 := by decide
/-! places -/
theorem atI_nat : atI xs (n : Int) = xs[n]? := by
  unfold atI ixN
  by_cases h : n < xs.length
  · rw [if_pos (by omega), if_pos (by omega)]
    simp
  · rw [if_pos (by omega), if_neg (by omega)]
    simp [List.getElem?_eq_none (Nat.le_of_not_lt h)]
theorem atI_neg1 : atI xs (-1) = xs.getLast? := by
  unfold atI ixN
  rw [if_neg (by omega)]
  cases xs with
  | nil => rfl
  | cons x r =>
    rw [if_pos (by simp; omega)]
    have e : ((-1 : Int) + ((x :: r).length : Nat)).toNat = r.length := by simp only [List.length_cons]; omega
    rw [e, List.getLast?_eq_getElem?]
    simp
@[simp] theorem atI_0 : atI xs 0 = xs[0]? := atI_nat (n := 0)
@[simp] theorem atI_1 : atI xs 1 = xs[1]? := atI_nat (n := 1)
@[simp] theorem atI_2 : atI xs 2 = xs[2]? := atI_nat (n := 2)
@[simp] theorem atI_3 : atI xs 3 = xs[3]? := atI_nat (n := 3)
@[simp] theorem pIdx_tup {i : Int} : pIdx S (.tup ds) (.int i) = atI ds i := rfl
@[simp] theorem pIdx_lst {i : Int} : pIdx S (.lst ds) (.int i) = atI ds i := rfl
@[simp] theorem pIdx_ref {m : Nat} {i : Int} : pIdx S (.ref m) (.int i) = (seqOf S (.ref m)).bind fun ds => atI ds i := rfl
@[simp] theorem seqOf_tup : seqOf S (.tup ds) = some ds := rfl
@[simp] theorem seqOf_lst : seqOf S (.lst ds) = some ds := rfl
@[simp] theorem pLen_tup : pLen S [.tup ds] = some (.int (ds.length : Nat)) := rfl
@[simp] theorem pLen_lst : pLen S [.lst ds] = some (.int (ds.length : Nat)) := rfl
@[simp] theorem pLen_ref {m : Nat} : pLen S [.ref m] = (seqOf S (.ref m)).map fun ds => .int (ds.length : Nat) := rfl
theorem seqOf_ref_lst {m : Nat} (h : S[m]? = some (.lst ds)) : seqOf S (.ref m) = some ds := by simp only [seqOf, h]
theorem seqOf_ref_frz {m : Nat} (h : S[m]? = some (.frz ds)) : seqOf S (.ref m) = some ds := by simp only [seqOf, h]
@[simp] theorem itms_tup : itms (.tup ds) = some ds := rfl
@[simp] theorem itms_lst : itms (.lst ds) = some ds := rfl
@[simp] theorem qList_tup : qList S [.tup ds] = some ds := rfl
@[simp] theorem qList_lst : qList S [.lst ds] = some ds := rfl
@[simp] theorem pTuple_lst : pTuple S [.lst ds] = some (.tup ds) := rfl
@[simp] theorem pTuple_tup : pTuple S [.tup ds] = some (.tup ds) := rfl
@[simp] theorem en1_tup : en1 [.tup ds] = some (enumD ds) := rfl
@[simp] theorem en1_lst : en1 [.lst ds] = some (enumD ds) := rfl
@[simp] theorem zp2_tup : zp2 [.tup ds, .tup es] = some ((ds.zip es).map fun x => .tup [x.1, x.2]) := rfl
theorem fApp_ok (h : ds.length < sizeLine) : fApp ds d = some (ds ++ [d]) := if_pos h
/-! ints -/
@[simp] theorem pAdd_int {a b : Int} : pAdd S (.int a) (.int b) = some (.int (a + b)) := rfl
@[simp] theorem pSub_int {a b : Int} : pSub S (.int a) (.int b) = some (.int (a - b)) := rfl
@[simp] theorem pInt_int {a : Int} : pInt S [.int a] = some (.int a) := rfl
@[simp] theorem pInt_bl {a : Bool} : pInt S [.bl a] = some (.int (if a then 1 else 0)) := rfl
@[simp] theorem pAbs_int {a : Int} : pAbs S [.int a] = some (.int (if a < 0 then -a else a)) := rfl
@[simp] theorem pMax_int {a b : Int} : pMax S [.int a, .int b] = some (.int (if b > a then b else a)) := rfl
@[simp] theorem pMin_int {a b : Int} : pMin S [.int a, .int b] = some (.int (if b < a then b else a)) := rfl
@[simp] theorem pIs_non : pIs S .non .non = some (.bl true) := rfl
@[simp] theorem pIs_int {a : Int} : pIs S (.int a) .non = some (.bl false) := rfl
@[simp] theorem pIs_tup : pIs S (.tup ds) .non = some (.bl false) := rfl
@[simp] theorem pIsNot_non : pIsNot S .non .non = some (.bl false) := rfl
@[simp] theorem pIsNot_int {a : Int} : pIsNot S (.int a) .non = some (.bl true) := rfl
@[simp] theorem pIsNot_tup : pIsNot S (.tup ds) .non = some (.bl true) := rfl
theorem pMod_int {a b : Int} (h : 0 < b) : pMod S (.int a) (.int b) = some (.int (a % b)) := if_pos h
theorem pDiv_int {a b : Int} (h : 0 < b) (h2 : b.natAbs.log2 < 9000) : pDiv S (.int a) (.int b) = some (.int (a / b)) := if_pos ⟨h, h2⟩
theorem pMul_int {a b : Int} (h : Builtin.Int.intBits a + Builtin.Int.intBits b ≤ 134217728) : pMul S (.int a) (.int b) = some (.int (a * b)) := if_pos h
theorem bits_nat {b : Nat} {a : Int} (h : a.natAbs < 2 ^ b) : Builtin.Int.intBits a ≤ b := by
  unfold Builtin.Int.intBits
  split
  · omega
  · rename_i h0
    have : a.natAbs.log2 < b := (Nat.log2_lt (by intro z; exact h0 (by simpa using z))).mpr h
    omega
/-- a product of what has few digits -/
theorem pMul_small {a b : Int} (h : a.natAbs < 2 ^ 60000000) (h2 : b.natAbs < 2 ^ 60000000) : pMul S (.int a) (.int b) = some (.int (a * b)) := pMul_int (by
  have h1 := bits_nat h
  have h3 := bits_nat h2
  omega)
theorem pMul_b {a b : Int} {i j : Nat} (h : a.natAbs < 2 ^ i) (h2 : b.natAbs < 2 ^ j) (l : i + j ≤ 134217728) : pMul S (.int a) (.int b) = some (.int (a * b)) := pMul_int (by
  have h1 := bits_nat h
  have h3 := bits_nat h2
  omega)
/-! tuples -/
theorem pAdd_tup (h : ds.length + es.length ≤ sizeLine) : pAdd S (.tup ds) (.tup es) = some (.tup (ds ++ es)) := if_pos h
theorem pAdd_lst (h : ds.length + es.length ≤ sizeLine) : pAdd S (.lst ds) (.lst es) = some (.lst (ds ++ es)) := if_pos h
theorem pMul_tup {a : Int} (h : ds ≠ [] ∧ 2 ≤ a.toNat ∧ a.toNat ≤ 1000 ∧ ds.length ≤ 1000) : pMul S (.tup ds) (.int a) = some (.tup (List.replicate a.toNat ds).flatten) := if_pos h
theorem pMul_lst {a : Int} (h : a.natAbs < 2 ^ 63 ∧ ds.length * a.toNat ≤ sizeLine) : pMul S (.lst ds) (.int a) = some (.lst (List.replicate a.toNat ds).flatten) := if_pos h
@[simp] theorem pSl_tup {lo hi : Option Int} : pSl S (.tup ds) lo hi = some (.tup (cutD ds lo hi)) := rfl
@[simp] theorem pSl_lst {lo hi : Option Int} : pSl S (.lst ds) lo hi = some (.lst (cutD ds lo hi)) := rfl
theorem cut_take : cutD ds none (some (n : Int)) = ds.take n := by
  unfold cutD
  rw [HT.sIx_none, HT.sIx_nat]
  simp [List.take_eq_take_iff]
theorem cut_drop : cutD ds (some (n : Int)) none = ds.drop n := by
  unfold cutD
  rw [HT.sIx_none, HT.sIx_nat]
  by_cases h : n ≤ ds.length
  · rw [Nat.min_eq_left h]
    rw [List.take_of_length_le (by simp)]
  · rw [Nat.min_eq_right (by omega)]
    simp [List.drop_eq_nil_of_le (Nat.le_of_not_le h)]
theorem cut_dropS : cutD ds (some ((n : Int) + 1)) none = ds.drop (n + 1) := by
  rw [show (n : Int) + 1 = ((n + 1 : Nat) : Int) by omega, cut_drop]
theorem cut_takeS : cutD ds none (some ((n : Int) + 1)) = ds.take (n + 1) := by
  rw [show (n : Int) + 1 = ((n + 1 : Nat) : Int) by omega, cut_take]
theorem cut_drop1 : cutD ds (some 1) none = ds.drop 1 := cut_drop (n := 1)
/-! data: what can be compared -/
def Sh (k : Nat) (d : D) : Prop := d.okd = true ∧ d.py.depth ≤ k
theorem Sh.mono {j : Nat} (h : Sh k d) (l : k ≤ j) : Sh j d := ⟨h.1, Nat.le_trans h.2 l⟩
theorem okdL_all : okdL ds = true ↔ ∀ d ∈ ds, d.okd = true := by
  induction ds with
  | nil => simp [okdL]
  | cons d r ih => simp [okdL, ih]
theorem depthAll_le : PyData.depthAll (pyL ds) ≤ k ↔ ∀ d ∈ ds, d.py.depth ≤ k := by
  induction ds with
  | nil => simp [pyL, PyData.depthAll]
  | cons d r ih => simp [pyL, PyData.depthAll, ih, Nat.max_le]
theorem Sh.tup (h : ∀ d ∈ ds, Sh k d) : Sh (k + 1) (.tup ds) := ⟨by rw [D.okd]; exact okdL_all.mpr fun d hd => (h d hd).1, by
  have := depthAll_le.mpr fun d hd => (h d hd).2
  simp only [D.py, PyData.depth]; omega⟩
theorem Sh.lst (h : ∀ d ∈ ds, Sh k d) : Sh (k + 1) (.lst ds) := ⟨by rw [D.okd]; exact okdL_all.mpr fun d hd => (h d hd).1, by
  have := depthAll_le.mpr fun d hd => (h d hd).2
  simp only [D.py, PyData.depth]; omega⟩
theorem Sh.int {i : Int} : Sh k (.int i) := ⟨rfl, by simp [D.py, PyData.depth]⟩
theorem Sh.bl {i : Bool} : Sh k (.bl i) := ⟨rfl, by simp [D.py, PyData.depth]⟩
theorem Sh.str {i : Str} : Sh k (.str i) := ⟨rfl, by simp [D.py, PyData.depth]⟩
theorem Sh.non : Sh k .non := ⟨rfl, by simp [D.py, PyData.depth]⟩
theorem Sh.shal (h : Sh k d) (l : k ≤ 100) : shal d = true := by
  unfold Py.shal
  rw [h.1, decide_eq_true (Nat.le_trans h.2 l)]; rfl
theorem pEq_of {b : Bool} (h1 : Sh k d) (h2 : Sh k e) (l : k ≤ 100) (h : PyData.eqv d.py e.py = b) : pEq S d e = some (.bl b) := by
  unfold pEq
  rw [h1.shal l, h2.shal l, h]; rfl
theorem pNe_of {b : Bool} (h1 : Sh k d) (h2 : Sh k e) (l : k ≤ 100) (h : PyData.eqv d.py e.py = b) : pNe S d e = some (.bl (!b)) := by
  unfold pNe
  rw [h1.shal l, h2.shal l, h]; rfl
@[simp] theorem pEq_bl {a b : Bool} : pEq S (.bl a) (.bl b) = some (.bl (decide (a = b))) := pEq_of (k := 0) Sh.bl Sh.bl (by omega) (by cases a <;> cases b <;> rfl)
@[simp] theorem pNe_bl {a b : Bool} : pNe S (.bl a) (.bl b) = some (.bl (!decide (a = b))) := pNe_of (k := 0) Sh.bl Sh.bl (by omega) (by cases a <;> cases b <;> rfl)
@[simp] theorem pEq_str {a b : Str} : pEq S (.str a) (.str b) = some (.bl (decide (a = b))) := pEq_of (k := 0) Sh.str Sh.str (by omega) (by by_cases h : a = b <;> simp [D.py, PyData.eqv, h])
@[simp] theorem pNe_str {a b : Str} : pNe S (.str a) (.str b) = some (.bl (!decide (a = b))) := pNe_of (k := 0) Sh.str Sh.str (by omega) (by by_cases h : a = b <;> simp [D.py, PyData.eqv, h])
theorem pIn_of {dd : List D} (h1 : Sh k d) (h2 : ∀ x ∈ dd, Sh k x) (l : k + 1 ≤ 100) : pIn S d (.tup dd) = some (.bl (dd.any fun y => PyData.eqv y.py d.py)) := by
  have e : (pyL dd).any (fun y => PyData.eqv y d.py) = dd.any fun y => PyData.eqv y.py d.py := by
    clear h2
    induction dd with
    | nil => rfl
    | cons x r ih => simp only [pyL, List.any_cons, ih]
  have e0 : signIn d (.tup dd) = none := by
    unfold signIn
    split <;> first | (rename_i h; cases h; done) | rfl
  unfold pIn
  rw [e0]
  dsimp only
  unfold pIn0
  simp only [itemsOf]
  rw [h1.shal (by omega), (Sh.tup h2).shal l, e]; rfl
theorem pNotIn_of {dd : List D} (h1 : Sh k d) (h2 : ∀ x ∈ dd, Sh k x) (l : k + 1 ≤ 100) : pNotIn S d (.tup dd) = some (.bl (!dd.any fun y => PyData.eqv y.py d.py)) := by
  have e : (pyL dd).any (fun y => PyData.eqv y d.py) = dd.any fun y => PyData.eqv y.py d.py := by
    clear h2
    induction dd with
    | nil => rfl
    | cons x r ih => simp only [pyL, List.any_cons, ih]
  have e0 : signIn d (.tup dd) = none := by
    unfold signIn
    split <;> first | (rename_i h; cases h; done) | rfl
  unfold pNotIn
  rw [e0]
  dsimp only
  unfold pNotIn0
  simp only [itemsOf]
  rw [h1.shal (by omega), (Sh.tup h2).shal l, e]; rfl
theorem blsD_of {β : Type} {p : β → Bool} : ∀ xs : List β, blsD (xs.map fun x => D.bl (p x)) = some (xs.map p)
  | [] => rfl
  | x :: xs => by rw [List.map_cons, blsD, blsD_of xs]; rfl
theorem pAll_map {β : Type} {p : β → Bool} {xs : List β} : pAll S [.lst (xs.map fun x => D.bl (p x))] = some (.bl (xs.all p)) := by
  show (blsD (xs.map fun x => D.bl (p x))).map (fun bs => D.bl (bs.all id)) = _
  rw [blsD_of]
  simp [List.all_map]
theorem intsD_of {β : Type} {p : β → Int} : ∀ xs : List β, intsD (xs.map fun x => D.int (p x)) = some (xs.map p)
  | [] => rfl
  | x :: xs => by rw [List.map_cons, intsD, intsD_of xs]; rfl
theorem pNe_lst0 : pNe S (.lst []) (.lst []) = some (.bl false) := by
  have h := Sh.lst (k := 0) (ds := []) (fun _ h => by cases h)
  unfold pNe
  rw [h.shal (by omega)]
  simp [D.py, pyL, PyData.eqv, PyData.eqvAll]
theorem pNe_lstN {dd : List D} (h : ∀ x ∈ dd, Sh k x) (l : k + 1 ≤ 100) : pNe S (.lst dd) (.lst []) = some (.bl (!decide (dd = []))) := by
  refine pNe_of (Sh.lst h) (Sh.lst (fun _ h => by cases h)) l ?_
  cases dd with
  | nil => simp [D.py, pyL, PyData.eqv, PyData.eqvAll]
  | cons x r => simp [D.py, pyL, PyData.eqv, PyData.eqvAll]
/-! == of encoded values -/
theorem eqvAll_map {β : Type} [DecidableEq β] {f : β → D} : ∀ {xs ys : List β}, (∀ x ∈ xs, ∀ y ∈ ys, PyData.eqv (f x).py (f y).py = decide (x = y)) → PyData.eqvAll (pyL (xs.map f)) (pyL (ys.map f)) = decide (xs = ys)
  | [], [], _ => by simp [pyL, PyData.eqvAll]
  | [], _ :: _, _ => by simp [pyL, PyData.eqvAll]
  | _ :: _, [], _ => by simp [pyL, PyData.eqvAll]
  | x :: xs, y :: ys, h => by
    rw [List.map_cons, List.map_cons, pyL, pyL, PyData.eqvAll, h x List.mem_cons_self y List.mem_cons_self, eqvAll_map (xs := xs) (ys := ys) fun a ha b hb => h a (List.mem_cons_of_mem _ ha) b (List.mem_cons_of_mem _ hb)]
    by_cases e1 : x = y <;> by_cases e2 : xs = ys <;> simp [e1, e2]
@[simp] theorem eqv_int {a b : Int} : PyData.eqv (.int a) (.int b) = decide (a = b) := by simp [PyData.eqv, beq_dec]
@[simp] theorem eqv_bl {a b : Bool} : PyData.eqv (.bool a) (.bool b) = decide (a = b) := by cases a <;> cases b <;> rfl
@[simp] theorem eqv_str {a b : Str} : PyData.eqv (.str a) (.str b) = decide (a = b) := by by_cases h : a = b <;> simp [PyData.eqv, h]
@[simp] theorem eqv_tup {xs ys : List PyData} : PyData.eqv (.tuple xs) (.tuple ys) = PyData.eqvAll xs ys := by simp [PyData.eqv]
@[simp] theorem eqv_lst {xs ys : List PyData} : PyData.eqv (.list xs) (.list ys) = PyData.eqvAll xs ys := by simp [PyData.eqv]
@[simp] theorem eqvAll_cons {x y : PyData} {xs ys : List PyData} : PyData.eqvAll (x :: xs) (y :: ys) = (PyData.eqv x y && PyData.eqvAll xs ys) := by simp [PyData.eqvAll]
@[simp] theorem eqvAll_nil : PyData.eqvAll [] [] = true := by simp [PyData.eqvAll]
@[simp] theorem eqvAll_nc {y : PyData} {ys : List PyData} : PyData.eqvAll [] (y :: ys) = false := by simp [PyData.eqvAll]
@[simp] theorem eqvAll_cn {y : PyData} {ys : List PyData} : PyData.eqvAll (y :: ys) [] = false := by simp [PyData.eqvAll]
end
theorem enumD_eq (ds : List D) : enumD ds = ds.zipIdx.map fun x => D.tup [.int (x.2 : Nat), x.1] := by
  unfold enumD
  apply List.ext_getElem?
  intro i
  simp only [List.getElem?_mapIdx, List.getElem?_map, List.getElem?_zipIdx]
  cases ds[i]? <;> simp
theorem zipIdx_set {α : Type} (xs : List α) (n : Nat) (y : α) : xs.zipIdx.map (fun x => if x.2 = n then y else x.1) = xs.set n y := by
  apply List.ext_getElem?
  intro i
  simp only [List.getElem?_map, List.getElem?_zipIdx, List.getElem?_set]
  by_cases h : n = i
  · subst h
    by_cases hl : n < xs.length
    · simp [hl]
    · simp [hl, List.getElem?_eq_none (Nat.le_of_not_lt hl)]
  · have h' : ¬ i = n := fun z => h z.symm
    cases e : xs[i]? <;> simp [h, h']
/-! ### comprehensions, loops -/
section
variable {S : Store} {g : DG} {t : DT} {e : DE} {ρ : Env}
/-- pure turns: what is kept, what is put -/
theorem lc_pure {p : D → Bool} {h : D → D} {ρ' : D → Env} : ∀ {ds acc : List D}, (∀ d ∈ ds, g d ρ = some (ρ' d) ∧ t (ρ' d) S = .ok (p d) S ∧ (p d = true → e (ρ' d) S = .ok (h d) S)) → acc.length + ds.length ≤ sizeLine →
    lcRun g t e ρ ds acc S = .ok (acc ++ (ds.filter p).map h) S
  | [], acc, _, _ => by simp [lcRun]
  | d :: ds, acc, H, l => by
    obtain ⟨h1, h2, h3⟩ := H d List.mem_cons_self
    have H' : ∀ d ∈ ds, g d ρ = some (ρ' d) ∧ t (ρ' d) S = .ok (p d) S ∧ (p d = true → e (ρ' d) S = .ok (h d) S) := fun x hx => H x (List.mem_cons_of_mem _ hx)
    simp only [List.length_cons] at l
    unfold lcRun
    rw [h1]
    dsimp only
    rw [h2, R.ok_bind]
    cases hp : p d with
    | true =>
      rw [if_pos rfl, h3 hp, R.ok_bind, if_pos (by omega), lc_pure H' (by simp; omega)]
      simp [hp]
    | false =>
      rw [if_neg (by simp), lc_pure H' (by omega)]
      simp [hp]
/-- the same over encoded values -/
theorem lc_typed {β : Type} {f : β → D} {p : β → Bool} {h : β → D} {ρ' : β → Py.Env} : ∀ {ds : List β} {acc : List D}, (∀ d ∈ ds, g (f d) ρ = some (ρ' d) ∧ t (ρ' d) S = .ok (p d) S ∧ (p d = true → e (ρ' d) S = .ok (h d) S)) → acc.length + ds.length ≤ sizeLine →
    lcRun g t e ρ (ds.map f) acc S = .ok (acc ++ (ds.filter p).map h) S
  | [], acc, _, _ => by simp [lcRun]
  | d :: ds, acc, H, l => by
    obtain ⟨h1, h2, h3⟩ := H d List.mem_cons_self
    have H' : ∀ d ∈ ds, g (f d) ρ = some (ρ' d) ∧ t (ρ' d) S = .ok (p d) S ∧ (p d = true → e (ρ' d) S = .ok (h d) S) := fun x hx => H x (List.mem_cons_of_mem _ hx)
    simp only [List.length_cons] at l
    rw [List.map_cons]
    unfold lcRun
    rw [h1]
    dsimp only
    rw [h2, R.ok_bind]
    cases hp : p d with
    | true =>
      rw [if_pos rfl, h3 hp, R.ok_bind, if_pos (by omega), lc_typed H' (by simp; omega)]
      simp [hp]
    | false =>
      rw [if_neg (by simp), lc_typed H' (by omega)]
      simp [hp]
theorem lc_typedM {β : Type} {f h : β → D} {ρ' : β → Py.Env} {ds : List β} {acc : List D} (H : ∀ d ∈ ds, g (f d) ρ = some (ρ' d) ∧ e (ρ' d) S = .ok (h d) S) (l : acc.length + ds.length ≤ sizeLine) :
    lcRun g dYes e ρ (ds.map f) acc S = .ok (acc ++ ds.map h) S := by
  have := lc_typed (g := g) (t := dYes) (e := e) (ρ := ρ) (S := S) (f := f) (p := fun _ => true) (h := h) (ρ' := ρ') (ds := ds) (acc := acc) (fun d hd => ⟨(H d hd).1, rfl, fun _ => (H d hd).2⟩) l
  have e1 : ds.filter (fun _ => true) = ds := List.filter_eq_self.mpr fun _ _ => rfl
  rw [e1] at this
  exact this
theorem lc_map {h : D → D} {ρ' : D → Env} {ds acc : List D} (H : ∀ d ∈ ds, g d ρ = some (ρ' d) ∧ e (ρ' d) S = .ok (h d) S) (l : acc.length + ds.length ≤ sizeLine) :
    lcRun g dYes e ρ ds acc S = .ok (acc ++ ds.map h) S := by
  have := lc_pure (g := g) (t := dYes) (e := e) (ρ := ρ) (S := S) (p := fun _ => true) (h := h) (ρ' := ρ') (ds := ds) (acc := acc) (fun d hd => ⟨(H d hd).1, rfl, fun _ => (H d hd).2⟩) l
  have e1 : ds.filter (fun _ => true) = ds := List.filter_eq_self.mpr fun _ _ => rfl
  rw [e1] at this
  exact this
end
end Py

/-! The kettle: numbers drawn. -/
namespace K95
open PySem Py
/-- a kettle stands at n, from which at most c more was poured -/
def Kt (S : Store) (n : Nat) (c : Nat) : Prop := ∃ a b e : Nat, S[n]? = some (.lst [.int a, .int b, .int e]) ∧ b < 2 ^ 100 ∧ e ≤ c
/-- nothing but the object at n changed -/
structure Sm (n : Nat) (S S' : Store) : Prop where
  len : S'.length = S.length
  ne : ∀ k, k ≠ n → S'[k]? = S[k]?
theorem Sm.refl {n : Nat} {S : Store} : Sm n S S := ⟨rfl, fun _ _ => rfl⟩
theorem Sm.trans {n : Nat} {S S' S'' : Store} (h : Sm n S S') (k : Sm n S' S'') : Sm n S S'' := ⟨k.len.trans h.len, fun j hj => (k.ne j hj).trans (h.ne j hj)⟩
theorem Sm.set {n : Nat} {S : Store} {o : Ob} : Sm n S (S.set n o) := ⟨by simp, fun k hk => List.getElem?_set_ne (fun z => hk z.symm)⟩
theorem Kt.mono {S : Store} {n c c' : Nat} (h : Kt S n c) (l : c ≤ c') : Kt S n c' := let ⟨a, b, e, h1, h2, h4⟩ := h; ⟨a, b, e, h1, h2, Nat.le_trans h4 l⟩
theorem seq_kt {S : Store} {n : Nat} {ds : List D} (h : S[n]? = some (.lst ds)) : seqOf S (.ref n) = some ds := seqOf_ref_lst h
theorem st_set {S : Store} {n : Nat} {ds : List D} {v : D} {i : Int} {j : Nat} (h : S[n]? = some (.lst ds)) (hi : L2.ixN ds.length i = some j) : stSet S (.ref n) (.int i) v = some (S.set n (.lst (ds.set j v))) := by
  simp only [stSet, h, hi, Option.map_some]
theorem set_at {S : Store} {n : Nat} {o : Ob} (h : n < S.length) : (S.set n o)[n]? = some o := by simp [h]
theorem pour_gen (S : Store) (n e b : Nat) (t k1 k2 k3 k4 k5 k6 : Int) (hs : seqOf S (.ref n) = some [.int 0, .int b, .int e])
    (hst : stSet S (.ref n) (.int 2) (.int ((e : Int) + 1)) = some (S.set n (.lst [.int 0, .int b, .int ((e : Int) + 1)])))
    (hs2 : seqOf (S.set n (.lst [.int 0, .int b, .int ((e : Int) + 1)])) (.ref n) = some [.int 0, .int b, .int ((e : Int) + 1)])
    (m1 : ∀ S, pMul S (.int k1) (.int ((e : Int) + 1)) = some (.int (k1 * ((e : Int) + 1))))
    (m2 : ∀ S (x : Int), pMul S (.int (x % k3)) (.int (x % k3)) = some (.int (x % k3 * (x % k3))))
    (m3 : ∀ S, pMul S (.int k2) (.int ((e : Int) + 1)) = some (.int (k2 * ((e : Int) + 1))))
    (m4 : ∀ S (x : Int), pMul S (.int (x % k4)) (.int k5) = some (.int (x % k4 * k5)))
    (d1 : ∀ S (x : Int), pDiv S (.int x) (.int k6) = some (.int (x / k6)))
    (q1 : ∀ S (x : Int), pMod S (.int x) (.int k3) = some (.int (x % k3)))
    (q2 : ∀ S (x : Int), pMod S (.int x) (.int k4) = some (.int (x % k4)))
    (q3 : ∀ S (x : Int), pMod S (.int x) (.int t) = some (.int (x % t))) :
    ∃ x : Int, dFn 2 5 (dSeq (dIfS (dTest (dOp pGt (dOp pIdx (dVar 0) (dCst (.int 0))) (dCst (.int 0)))) (dSeq (dSet 2 (qV (dOp pMod (dPr pInt (dCons (dOp pIdx (dVar 0) (dCst (.int 0))) (dNil))) (dVar 1)))) (dSeq (dSto (dOp pDiv (dOp pIdx (dVar 0) (dCst (.int 0))) (dVar 1)) (dVar 0) (dCst (.int 0))) (dRet (dVar 2)))) (dNop)) (dSeq (dSto (dOp pAdd (dOp pIdx (dVar 0) (dCst (.int 2))) (dCst (.int 1))) (dVar 0) (dCst (.int 2))) (dSeq (dSet 3 (qV (dOp pMod (dPr pInt (dCons (dOp pAdd (dOp pIdx (dVar 0) (dCst (.int 1))) (dOp pMul (dCst (.int k1)) (dOp pIdx (dVar 0) (dCst (.int 2))))) (dNil))) (dCst (.int k3))))) (dSeq (dSet 4 (qV (dOp pAdd (dOp pMul (dOp pMod (dPr pInt (dCons (dOp pAdd (dOp pMul (dVar 3) (dVar 3)) (dOp pMul (dCst (.int k2)) (dOp pIdx (dVar 0) (dCst (.int 2))))) (dNil))) (dCst (.int k4))) (dCst (.int k5))) (dVar 3)))) (dRet (dOp pMod (dPr pInt (dCons (dOp pDiv (dVar 4) (dCst (.int k6))) (dNil))) (dVar 1))))))) [.ref n, .int t] S = .ok (.int (x % t)) (S.set n (.lst [.int 0, .int b, .int ((e : Int) + 1)])) := by
  simp [fnEnv, hs, hst, hs2, m1, m2, m3, m4, d1, q1, q2, q3]
  exact ⟨_, rfl⟩
theorem pour (S : Store) (n c t : Nat) (hk : Kt S n c) (hc : c < 2 ^ 100) (ht : 0 < t) (ht2 : t < 2 ^ 100) :
    ∃ (r : Nat) (S' : Store), f__law_pull [.ref n, .int t] S = .ok (.int r) S' ∧ r < t ∧ Kt S' n (c + 1) ∧ Sm n S S' := by
  obtain ⟨a, b, e, h, hb, he⟩ := hk
  have hn : n < S.length := (List.getElem?_eq_some_iff.mp h).1
  have hs := seq_kt h
  have htI : (0 : Int) < (t : Int) := by omega
  have hlog : ((t : Int)).natAbs.log2 < 9000 := by
    have : t.log2 < 100 := (Nat.log2_lt (by omega)).mpr ht2
    simp only [Int.natAbs_natCast]
    omega
  by_cases h0 : 0 < a
  · have hst : stSet S (.ref n) (.int 0) (.int ((a : Int) / t)) = some (S.set n (.lst [.int ((a : Int) / t), .int b, .int e])) := st_set (j := 0) h rfl
    refine ⟨a % t, S.set n (.lst [.int ((a : Int) / t), .int b, .int e]), ?_, Nat.mod_lt _ ht, ⟨a / t, b, e, by rw [set_at hn]; simp, hb, by omega⟩, Sm.set⟩
    simp [f__law_pull, b__law_pull, fnEnv, N__law_pull, hs, h0, pMod_int htI, pDiv_int htI hlog, hst]
  · have h0' : a = 0 := by omega
    subst h0'
    have h : S[n]? = some (.lst [.int 0, .int b, .int e]) := h
    have hs : seqOf S (.ref n) = some [.int 0, .int b, .int e] := hs
    have hst : stSet S (.ref n) (.int 2) (.int ((e : Int) + 1)) = some (S.set n (.lst [.int 0, .int b, .int ((e : Int) + 1)])) := st_set (j := 2) h rfl
    have hs2 : seqOf (S.set n (.lst [.int 0, .int b, .int ((e : Int) + 1)])) (.ref n) = some [.int 0, .int b, .int ((e : Int) + 1)] := seqOf_ref_lst (set_at hn)
    have m1 : ∀ S, pMul S (.int 10002349) (.int ((e : Int) + 1)) = some (.int (10002349 * ((e : Int) + 1))) := fun S => pMul_b (i := 64) (j := 101) (by decide) (by omega) (by omega)
    have m2 : ∀ S (x : Int), pMul S (.int (x % 2305843009213693951)) (.int (x % 2305843009213693951)) = some (.int (x % 2305843009213693951 * (x % 2305843009213693951))) := fun S x => pMul_b (i := 64) (j := 64) (by omega) (by omega) (by omega)
    have m3 : ∀ S, pMul S (.int 857) (.int ((e : Int) + 1)) = some (.int (857 * ((e : Int) + 1))) := fun S => pMul_b (i := 64) (j := 101) (by decide) (by omega) (by omega)
    have m4 : ∀ S (x : Int), pMul S (.int (x % 2305843009213693951)) (.int 8589934777) = some (.int (x % 2305843009213693951 * 8589934777)) := fun S x => pMul_b (i := 64) (j := 64) (by omega) (by decide) (by omega)
    have d1 : ∀ S (x : Int), pDiv S (.int x) (.int 131072) = some (.int (x / 131072)) := fun S x => pDiv_int (by omega) (by decide)
    have q1 : ∀ S (x : Int), pMod S (.int x) (.int 2305843009213693951) = some (.int (x % 2305843009213693951)) := fun S x => pMod_int (by omega)
    have q2 : ∀ S (x : Int), pMod S (.int x) (.int 2305843009213693951) = some (.int (x % 2305843009213693951)) := fun S x => pMod_int (by omega)
    have q3 : ∀ S (x : Int), pMod S (.int x) (.int t) = some (.int (x % t)) := fun S x => pMod_int htI
    have fin : ∀ x : Int, ∃ r : Nat, ((r : Nat) : Int) = x % t ∧ r < t := fun x => ⟨(x % t).toNat, Int.toNat_of_nonneg (Int.emod_nonneg _ (by omega)), by
      have := Int.emod_lt_of_pos x htI
      have := Int.emod_nonneg x (b := (t : Int)) (by omega)
      omega⟩
    have ev : ∃ x : Int, f__law_pull [.ref n, .int t] S = .ok (.int (x % t)) (S.set n (.lst [.int 0, .int b, .int ((e : Int) + 1)])) := by
      exact pour_gen S n e b t 10002349 857 2305843009213693951 2305843009213693951 8589934777 131072 hs hst hs2 m1 m2 m3 m4 d1 q1 q2 q3
    obtain ⟨x, hx⟩ := ev
    obtain ⟨r, hr, hl⟩ := fin x
    refine ⟨r, _, by rw [hx, hr]; rfl, hl, ⟨0, b, e + 1, set_at hn, hb, by omega⟩, Sm.set⟩
theorem kettle_gen (S : Store) (ns : List Int) (spot : Nat) (k1 k2 k3 k4 k5 k6 km c10 c51 c5 c17 P1 P2 P17 : Int) (hs : seqOf S (.ref 0) = some (ns.map D.int))
    (m1 : ∀ S, pMul S (.int k1) (.int (spot : Nat)) = some (.int (k1 * spot)))
    (m2 : ∀ S (x : Int), pMul S (.int (x % km)) (.int k3) = some (.int (x % km * k3)))
    (m3 : ∀ S, pMul S (.int k4) (.int (spot : Nat)) = some (.int (k4 * spot)))
    (m4 : ∀ (S : Store) (c : Prop) [Decidable c], pMul S (.int k5) (.int (if c then 1 else 0)) = some (.int (k5 * (if c then 1 else 0))))
    (p1 : ∀ S, pPow S (.int c10) (.int c51) = some (.int P1)) (p2 : ∀ S, pPow S (.int P1) (.int c5) = some (.int P2)) (p3 : ∀ S, pPow S (.int c10) (.int c17) = some (.int P17))
    (q1 : ∀ S (x : Int), pMod S (.int x) (.int P2) = some (.int (x % P2))) (q2 : ∀ S (x : Int), pMod S (.int x) (.int km) = some (.int (x % km))) :
    ∃ (g : Int) (b : Bool), dFn 2 5 (dSeq (dSet 2 (qV (dIf (dTest (dOp pLt (dVar 1) (dPr pLen (dCons (dVar 0) (dNil))))) (dPr pInt (dCons (dOp pIdx (dVar 0) (dVar 1)) (dNil))) (dOp pAdd (dOp pMul (dCst (.int k1)) (dVar 1)) (dCst (.int k2)))))) (dSeq (dSet 3 (qV (dOp pMod (dPr pInt (dCons (dPr pAbs (dCons (dVar 2) (dNil))) (dNil))) (dOp pPow (dOp pPow (dCst (.int c10)) (dCst (.int c51))) (dCst (.int c5)))))) (dSeq (dSet 4 (qV (dOp pAdd (dOp pAdd (dOp pAdd (dOp pMul (dOp pMod (dVar 3) (dCst (.int km))) (dCst (.int k3))) (dOp pMul (dCst (.int k4)) (dVar 1))) (dOp pMul (dCst (.int k5)) (dPr pInt (dCons (dOp pLt (dVar 2) (dCst (.int 0))) (dNil))))) (dCst (.int k6))))) (dRet (dNew (dDisp (dCons (dPr pMax (dCons (dCst (.int 0)) (dCons (dOp pSub (dVar 3) (dOp pPow (dCst (.int c10)) (dCst (.int c17)))) (dNil)))) (dCons (dVar 4) (dCons (dCst (.int 0)) (dNil)))))))))) [.ref 0, .int spot] S = .ok (.ref S.length) (S ++ [.lst [.int (if g > 0 then g else 0), .int ((g + P17) % km * k3 + k4 * spot + k5 * (if b then 1 else 0) + k6), .int 0]]) := by
  by_cases h : spot < ns.length
  · have g1 : (ns.map D.int)[spot]? = some (.int ns[spot]) := by simp [h]
    refine ⟨(if ns[spot] < 0 then -ns[spot] else ns[spot]) % P2 - P17, decide (ns[spot] < 0), ?_⟩
    simp [fnEnv, hs, h, atI_nat, g1, m1, m2, m3, m4, p1, p2, p3, q1, q2, sizeLine_val, -List.getElem?_map]
  · refine ⟨(if k1 * spot + k2 < 0 then -(k1 * spot + k2) else k1 * spot + k2) % P2 - P17, decide (k1 * spot + k2 < 0), ?_⟩
    simp [fnEnv, hs, h, m1, m2, m3, m4, p1, p2, p3, q1, q2, sizeLine_val]
theorem pPow_int {S : Store} {a : Int} {n b : Nat} (h : Builtin.Int.intBits a ≤ b) (l : b * n ≤ 134217728) : pPow S (.int a) (.int (n : Nat)) = some (.int (a ^ n)) := by
  refine if_pos ⟨by omega, ?_⟩
  rw [Int.toNat_natCast]
  exact Nat.le_trans (Nat.mul_le_mul_right n h) l
theorem kettle (S : Store) (ns : List Int) (spot : Nat) (hs : seqOf S (.ref 0) = some (ns.map D.int)) (hp : spot < 100) :
    ∃ a b : Nat, f__law_bag [.ref 0, .int spot] S = .ok (.ref S.length) (S ++ [.lst [.int a, .int b, .int (0 : Nat)]]) ∧ b < 2 ^ 100 := by
  obtain ⟨g, c, h⟩ := kettle_gen S ns spot 1013 151 223 677 163 127 2305843009213693951 10 41 8 16 (10 ^ 41) ((10 ^ 41) ^ 8) (10 ^ 16) hs
    (fun S => pMul_b (i := 64) (j := 64) (by decide) (by omega) (by omega))
    (fun S x => pMul_b (i := 64) (j := 64) (by omega) (by decide) (by omega))
    (fun S => pMul_b (i := 64) (j := 64) (by decide) (by omega) (by omega))
    (fun S c _ => pMul_b (i := 64) (j := 64) (by decide) (by split <;> decide) (by omega))
    (fun S => pPow_int (n := 41) (bits_nat (b := 4) (by decide)) (by decide)) (fun S => pPow_int (n := 8) (bits_nat (b := 170) (by decide)) (by decide)) (fun S => pPow_int (n := 16) (bits_nat (b := 4) (by decide)) (by decide)) (fun S x => pMod_int (by decide)) (fun S x => pMod_int (by decide))
  refine ⟨(if g > 0 then g else 0).toNat, ((g + 10 ^ 16) % 2305843009213693951 * 223 + 677 * spot + 163 * (if c = true then 1 else 0) + 127).toNat, ?_, ?_⟩
  · have e1 : (((if g > 0 then g else 0).toNat : Nat) : Int) = if g > 0 then g else 0 := Int.toNat_of_nonneg (by split <;> omega)
    have e2 : ((((g + 10 ^ 16) % 2305843009213693951 * 223 + 677 * spot + 163 * (if c = true then 1 else 0) + 127).toNat : Nat) : Int) = (g + 10 ^ 16) % 2305843009213693951 * 223 + 677 * spot + 163 * (if c = true then 1 else 0) + 127 := Int.toNat_of_nonneg (by split <;> omega)
    rw [e1, e2]
    exact h
  · split <;> omega

theorem pick (S : Store) (n c : Nat) (x : D) (items : List D) (hx : ∀ S, pLen S [x] = some (.int (items.length : Nat))) (hi : ∀ S (i : Nat), pIdx S x (.int i) = items[i]?) (hk : Kt S n c) (hc : c < 2 ^ 100) (h0 : items ≠ []) (hl : items.length < 2 ^ 100) :
    ∃ y S', f__law_choose [.ref n, x] S = .ok y S' ∧ y ∈ items ∧ Kt S' n (c + 1) ∧ Sm n S S' := by
  obtain ⟨r, S', e, hr, hk', hs⟩ := pour S n c items.length hk hc (List.length_pos_iff.mpr h0) hl
  have g : items[r]? = some items[r] := by simp [hr]
  refine ⟨items[r], S', ?_, List.getElem_mem hr, hk', hs⟩
  simp [f__law_choose, b__law_choose, fnEnv, N__law_choose, hx, e, hi, g]
end K95

/-! What is refused, call by call. -/
namespace K95
open PySem Py
def prog : D := .tup [.tup [.str "main", .tup [], .tup [.tup [.str "want", .int 1, .tup [.tup [.str "x", .str "ask", .str "shop", .int 5]]], .tup [.str "give", .str "x"]]]]
def mach : D := .tup [.tup [.str "main", .int 0, .int 1, .tup [.tup [.tup [], .tup [.str "want", .int 1, .tup [.tup [.int 0, .str "ask", .str "shop", .int 5]], .int 1], .non, .non], .tup [.tup [], .tup [.str "give", .tup [.str "slot", .int 0]], .non, .non], .tup [.tup [], .tup [.str "give", .int 0], .non, .non]]]]
def rn : D := .tup [.str "main", .tup []]
def good : D := .tup [rn, rn]
def row : D := .tup [.str "shop", .int 5, .bl true, .int 3]
def fine : D := .tup [row]
def big : D := .int 1000000000000000000000000000000
def LR : List D := [.non, .int 0, .tup [], .lst [], .emp, .str "runs", .lst [rn, rn], .tup [rn, rn, rn, rn, rn, rn, rn, rn], .tup [.non], rn, .tup [.tup [.str "main"]], .tup [.lst [.str "main", .tup []]], .tup [.tup [.str "main", .lst [.int 0]]], .tup [.tup [.str "main", .tup [.int (-1)]]], .tup [.tup [.str "main", .tup [.bl true]]], .tup [.tup [.int 0, .tup []]], .tup [rn, rn, .int 0]]
def LN : List D := [.tup [.tup [.str "none", .tup []]], .tup [rn, rn, .tup [.str "main", .tup [.int 1]]], .tup [.tup [.str "main", .tup [.int 1, .int 2]], rn], .tup [.tup [.str "Main", .tup []]]]
def LW : List D := [.non, .int 0, .lst [], .emp, .str "world", .lst [row], .tup [row, row], .tup [.non], .tup [.tup [.str "shop", .int 5, .int 1, .int 3]], .tup [.tup [.str "shop", .int (-1), .bl true, .int 3]], .tup [.tup [.str "Shop", .int 5, .bl true, .int 3]]]
def LH : List D := [.non, .int 0, .int 4, .int (-1), .bl true, .str "1", .tup [.int 1], .lst [], big]
def LT : List D := [.non, .int (-1), .int 61, .bl true, .str "1", .tup [.int 1], .lst [], big]
def LY : List D := [.non, .int 0, .str "", .str "turns", .str "Rounds", .tup [.str "rounds"], .lst [.str "age"], .emp, .bl true]
def LM : List D := [.non, .int (-1), .int 2, .bl true, .str "1", .tup [.int 1], .lst [], big]
/-- the six values of the law's own -/
def LO : List D := [.emp, .lst [.lst []], .tup [.emp], .tup [.tup [.int 1, .int 0]], .tup [.tup [.int 1, .int 0, .emp]], .tup [.tup [.int 1, .int 1, .tup [.int 0, .int 0]]]]
abbrev four (s : PySem.Str) : D := .lst [.str s, .str s, .str s, .str s]
theorem of_map {α : Type} {l : List D} {f g : D → α} (h : l.map f = l.map g) : ∀ d ∈ l, f d = g d := by
  induction l with
  | nil => intro d hd; cases hd
  | cons x l ih =>
    simp only [List.map_cons, List.cons.injEq] at h
    intro d hd
    rcases List.mem_cons.mp hd with rfl | hd
    · exact h.1
    · exact ih h.2 d hd
theorem A1 (w h t y n : D) (S : Store) : ∀ r ∈ LR, f__law_asked [mach, r, w, h, t, y, n] S = .ok (four "thing") S := of_map (by kernel_rfl)
theorem A2 (w h t y n : D) (S : Store) : ∀ r ∈ LN, f__law_asked [mach, r, w, h, t, y, n] S = .ok (four "errand") S := of_map (by kernel_rfl)
theorem A3 (h t y n : D) (S : Store) : ∀ w ∈ LW, f__law_asked [mach, good, w, h, t, y, n] S = .ok (four "thing") S := of_map (by kernel_rfl)
theorem A4 (t y n : D) (S : Store) : ∀ h ∈ LH, f__law_asked [mach, good, fine, h, t, y, n] S = .ok (four "number") S := of_map (by kernel_rfl)
theorem A5 (y n : D) (S : Store) : ∀ t ∈ LT, f__law_asked [mach, good, fine, .int 1, t, y, n] S = .ok (four "number") S := of_map (by kernel_rfl)
theorem A6 (n : D) (S : Store) : ∀ y ∈ LY, f__law_asked [mach, good, fine, .int 1, .int 1, y, n] S = .ok (four "thing") S := of_map (by kernel_rfl)
theorem A7 (S : Store) : ∀ n ∈ LM, f_own_events [mach, good, fine, .int 1, .int 1, .str "age", n] S = .exc 2 S := of_map (by kernel_rfl)
/-! rows of some turns: data alone -/
theorem iso_exc {run : List D → M D} {xs : List D} {S S' : Store} {c : Nat} (h : pureL xs = true) (e : run xs [] = .exc c S') : iso run xs S = .exc c S := by
  unfold iso
  rw [if_pos h, e]
theorem pure_in {l : List D} (h : pureL l = true) : ∀ d ∈ l, d.pure = true := by
  induction l with
  | nil => intro d hd; cases hd
  | cons x l ih =>
    have h : (x.pure && pureL l) = true := h
    rw [Bool.and_eq_true] at h
    intro d hd
    rcases List.mem_cons.mp hd with rfl | hd
    · exact h.1
    · exact ih h.2 d hd
theorem pure6 {a b c d e f : D} (h1 : a.pure = true) (h2 : b.pure = true) (h3 : c.pure = true) (h4 : d.pure = true) (h5 : e.pure = true) (h6 : f.pure = true) : pureL [a, b, c, d, e, f] = true := by
  simp [pureL, h1, h2, h3, h4, h5, h6]
theorem pR : pureL LR = true := by kernel_rfl
theorem pN : pureL LN = true := by kernel_rfl
theorem pW : pureL LW = true := by kernel_rfl
theorem pH : pureL LH = true := by kernel_rfl
theorem pY : pureL LY = true := by kernel_rfl
theorem pmach : mach.pure = true := by kernel_rfl
theorem pgood : good.pure = true := by kernel_rfl
theorem pfine : fine.pure = true := by kernel_rfl
theorem R1a (w h y : D) : ∀ r ∈ LR, f_z_is_row_of [mach, r, w, h, y, .non] [] = .exc 1 [] := of_map (by kernel_rfl)
theorem R2a (w h y : D) : ∀ r ∈ LN, f_z_is_row_of [mach, r, w, h, y, .non] [] = .exc 0 [] := of_map (by kernel_rfl)
theorem R3a (h y : D) : ∀ w ∈ LW, f_z_is_row_of [mach, good, w, h, y, .non] [] = .exc 1 [] := of_map (by kernel_rfl)
theorem R4a (y : D) : ∀ h ∈ LH, f_z_is_row_of [mach, good, fine, h, y, .non] [] = .exc 2 [] := of_map (by kernel_rfl)
theorem R5a : ∀ y ∈ LY, f_z_is_row_of [mach, good, fine, .int 1, y, .non] [] = .exc 1 [] := of_map (by kernel_rfl)
section
variable {r w h y : D} (S : Store)
theorem R1 (hr : r ∈ LR) (hw : w ∈ LW) (hh : h ∈ LH) (hy : y ∈ LY) : f_is_row_of [mach, r, w, h, y, .non] S = .exc 1 S := iso_exc (pure6 pmach (pure_in pR _ hr) (pure_in pW _ hw) (pure_in pH _ hh) (pure_in pY _ hy) rfl) (R1a w h y r hr)
theorem R2 (hr : r ∈ LN) (hw : w ∈ LW) (hh : h ∈ LH) (hy : y ∈ LY) : f_is_row_of [mach, r, w, h, y, .non] S = .exc 0 S := iso_exc (pure6 pmach (pure_in pN _ hr) (pure_in pW _ hw) (pure_in pH _ hh) (pure_in pY _ hy) rfl) (R2a w h y r hr)
theorem R3 (hw : w ∈ LW) (hh : h ∈ LH) (hy : y ∈ LY) : f_is_row_of [mach, good, w, h, y, .non] S = .exc 1 S := iso_exc (pure6 pmach pgood (pure_in pW _ hw) (pure_in pH _ hh) (pure_in pY _ hy) rfl) (R3a h y w hw)
theorem R4 (hh : h ∈ LH) (hy : y ∈ LY) : f_is_row_of [mach, good, fine, h, y, .non] S = .exc 2 S := iso_exc (pure6 pmach pgood pfine (pure_in pH _ hh) (pure_in pY _ hy) rfl) (R4a y h hh)
theorem R5 (hy : y ∈ LY) : f_is_row_of [mach, good, fine, .int 1, y, .non] S = .exc 1 S := iso_exc (pure6 pmach pgood pfine rfl (pure_in pY _ hy) rfl) (R5a y hy)
end
/-- what is asked of a value in the loop -/
def odd (S : Store) (v : D) : Py.R D := (optM (pNeT S v (.tup [])) S).bind fun b S => match asB b with
  | some true => (f_is_row_of [mach, good, fine, .int 1, .str "rounds", v] S).bind fun x S => optM (pIsNotB S x (.bl false)) S
  | some false => .ok (.bl false) S
  | none => .bad
theorem O1 (S : Store) : ∀ v ∈ LR, odd S v = .ok (.bl false) S := of_map (by kernel_rfl)
theorem O2 (S : Store) : ∀ v ∈ LW, odd S v = .ok (.bl false) S := of_map (by kernel_rfl)
theorem O3 (S : Store) : ∀ v ∈ LH, odd S v = .ok (.bl false) S := of_map (by kernel_rfl)
theorem O4 (S : Store) : ∀ v ∈ LT, odd S v = .ok (.bl false) S := of_map (by kernel_rfl)
theorem O5 (S : Store) : ∀ v ∈ LY, odd S v = .ok (.bl false) S := of_map (by kernel_rfl)
theorem O6 (S : Store) : ∀ v ∈ LM, odd S v = .ok (.bl false) S := of_map (by kernel_rfl)
theorem O7 (S : Store) : ∀ v ∈ LO, odd S v = .ok (.bl false) S := of_map (by kernel_rfl)
theorem B1 (S : Store) : f_is_row_of [mach, good, fine, .int 1, .str "rounds", .tup []] S = .ok (.bl true) S := by kernel_rfl
theorem B2 (S : Store) : f_is_row_of [mach, good, fine, .int 1, .str "age", .tup [.tup [.int 1, .int 0, .tup [.int 0, .int 0]]]] S = .ok (.bl true) S := by kernel_rfl
end K95

/-! One case. -/
namespace K95
open PySem Py
theorem seq_nx {a b : DS} {ρ ρ' : Py.Env} {S S' : Store} (h : a ρ S = some (.nx ρ', S')) : dSeq a b ρ S = b ρ' S' := by
  unfold dSeq
  rw [h]
theorem set_call {i n : Nat} {f : List D → M D} {r : DA} {ρ : Py.Env} {S S1 S' : Store} {xs : List D} {v : D} (h : r ρ S = .ok xs S1) (hl : xs.length = n) (hf : f xs S1 = .ok v S') : dSet i (qV (dCall n f r)) ρ S = some (.nx (ρ.set i (some (.val v))), S') := by
  simp [dSet, qV, dCall, h, hl, hf, rS]
theorem x0 : exAt em 0 hs__law_met = some (some ("errand" : PySem.Str)) := by kernel_rfl
theorem x1 : exAt em 1 hs__law_met = some (some ("thing" : PySem.Str)) := by kernel_rfl
theorem x2 : exAt em 2 hs__law_met = some (some ("number" : PySem.Str)) := by kernel_rfl
abbrev en (n : Nat) (r nn w h t y m : D) (a b x : Option Sl) : Py.Env := [some (.val (.ref n)), some (.val prog), some (.val mach), some (.val good), some (.val fine), some (.val r), some (.val nn), some (.val w), some (.val h), some (.val t), some (.val y), some (.val m), a, b, x]
def bodyV : DS := dIfS (dAnd (dTest (dOp pNeT (dVar 14) (dTup (dNil)))) (dTest (dOp pIsNotB (dCall 6 f_is_row_of (dCons (dVar 2) (dCons (dVar 3) (dCons (dVar 4) (dCons (dCst (.int 1)) (dCons (dCst (.str "rounds")) (dCons (dVar 14) (dNil)))))))) (dCst (.bl false))))) (dRet (dCst (.bl false))) (dNop)
theorem body_ok {n : Nat} {r nn w h t y m v : D} {a b : Option Sl} {S : Store} (ho : odd S v = .ok (.bl false) S) : bodyV (en n r nn w h t y m a b (some (.val v))) S = some (.nx (en n r nn w h t y m a b (some (.val v))), S) := by
  unfold odd at ho
  cases q : pNeT S v (.tup []) with
  | none => rw [q] at ho; simp at ho
  | some c =>
    rw [q] at ho
    simp only [optM_some, R.ok_bind] at ho
    cases qb : asB c with
    | none => rw [qb] at ho; simp at ho
    | some k =>
      rw [qb] at ho
      cases k with
      | false => simp [bodyV, q, qb]
      | true =>
        simp only at ho
        cases q2 : f_is_row_of [mach, good, fine, .int 1, .str "rounds", v] S with
        | bad => rw [q2] at ho; simp at ho
        | exc c S2 => rw [q2] at ho; simp at ho
        | ok x S2 =>
          rw [q2] at ho
          simp only [R.ok_bind] at ho
          cases q3 : pIsNotB S2 x (.bl false) with
          | none => rw [q3] at ho; simp at ho
          | some z =>
            rw [q3] at ho
            simp only [optM_some] at ho
            injection ho with e1 e2
            subst e1 e2
            have hb : asB (.bl false) = some false := rfl
            simp [bodyV, q, qb, q2, q3, hb]
theorem loop_ok {n : Nat} {r nn w h t y m : D} {a b : Option Sl} {S : Store} : ∀ (vs : List D) (x : Option Sl), (∀ v ∈ vs, odd S v = .ok (.bl false) S) → ∃ x', forRun (gN 14) bodyV vs (en n r nn w h t y m a b x) S = some (.nx (en n r nn w h t y m a b x'), S)
  | [], x, _ => ⟨x, rfl⟩
  | v :: vs, x, hv => by
    obtain ⟨x', e⟩ := loop_ok (n := n) (r := r) (nn := nn) (w := w) (h := h) (t := t) (y := y) (m := m) (a := a) (b := b) vs (some (.val v)) fun u hu => hv u (List.mem_cons_of_mem _ hu)
    refine ⟨x', ?_⟩
    rw [← e]
    show (match bodyV (en n r nn w h t y m a b (some (.val v))) S with
      | some (.nx ρ2, S2) => forRun (gN 14) bodyV vs ρ2 S2
      | some (.ct ρ2, S2) => forRun (gN 14) bodyV vs ρ2 S2
      | some (.br ρ2, S2) => some (.nx ρ2, S2)
      | r => r) = _
    rw [body_ok (hv v List.mem_cons_self)]
abbrev dueF : List D := [four "thing", four "errand", four "thing", four "number", four "number", four "thing"]
abbrev dueT : List D := [.str "number", .str "thing", .str "errand", .str "thing", .str "number", .str "thing"]
theorem due14 (ρ : Py.Env) (S : Store) (hr : slR ρ 12 = some (.lst dueF)) : s__law_right_14 ρ S = some (.nx ρ, S) := by
  have e : (dOp pNe (dRd 12) (dLst (dDisp (dCons (dOp pMul (dLst (dDisp (dCons (dCst (.str "thing")) (dNil)))) (dCst (.int 4))) (dCons (dOp pMul (dLst (dDisp (dCons (dCst (.str "errand")) (dNil)))) (dCst (.int 4))) (dCons (dOp pMul (dLst (dDisp (dCons (dCst (.str "thing")) (dNil)))) (dCst (.int 4))) (dCons (dOp pMul (dLst (dDisp (dCons (dCst (.str "number")) (dNil)))) (dCst (.int 4))) (dCons (dOp pMul (dLst (dDisp (dCons (dCst (.str "number")) (dNil)))) (dCst (.int 4))) (dCons (dOp pMul (dLst (dDisp (dCons (dCst (.str "thing")) (dNil)))) (dCst (.int 4))) (dNil)))))))))) ρ S = .ok (.bl false) S := by
    unfold dOp dRd
    rw [hr]
    kernel_rfl
  delta s__law_right_14 dIfS dTest
  rw [e]
  rfl
theorem due21 (ρ : Py.Env) (S : Store) (hr : slR ρ 13 = some (.lst dueT)) : s__law_right_21 ρ S = some (.nx ρ, S) := by
  have e : (dOp pNe (dRd 13) (dLst (dDisp (dCons (dCst (.str "number")) (dCons (dCst (.str "thing")) (dCons (dCst (.str "errand")) (dCons (dCst (.str "thing")) (dCons (dCst (.str "number")) (dCons (dCst (.str "thing")) (dNil)))))))))) ρ S = .ok (.bl false) S := by
    unfold dOp dRd
    rw [hr]
    kernel_rfl
  delta s__law_right_21 dIfS dTest
  rw [e]
  rfl
theorem st9 (n : Nat) (r nn w h t y m : D) (S : Store) (hr : r ∈ LR) (hn : nn ∈ LN) : s__law_right_9 (en n r nn w h t y m none none none) S = some (.nx (en n r nn w h t y m (some (.own [four "thing", four "errand"])) none none), S) := by
  simp [s__law_right_9, A1 w h t y m S r hr, A2 w h t y m S nn hn, sizeLine_val]
theorem tail1 (n : Nat) (r nn w h t y m : D) (S : Store) (hr : r ∈ LR) (hn : nn ∈ LN) (hw : w ∈ LW) (hh : h ∈ LH) (ht : t ∈ LT) (hy : y ∈ LY) (hm : m ∈ LM) :
    r__law_right_9 (en n r nn w h t y m none none none) S = r__law_right_14 (en n r nn w h t y m (some (.own dueF)) none none) S := by
  rw [show r__law_right_9 = dSeq s__law_right_9 r__law_right_10 from rfl, seq_nx (st9 n r nn w h t y m S hr hn),
    show r__law_right_10 = dSeq s__law_right_10 r__law_right_11 from rfl, seq_nx (show s__law_right_10 _ S = some (.nx (en n r nn w h t y m (some (.own [four "thing", four "errand", four "thing"])) none none), S) by simp [s__law_right_10, dOwn, fApp, A3 h t y m S w hw, sizeLine_val]),
    show r__law_right_11 = dSeq s__law_right_11 r__law_right_12 from rfl, seq_nx (show s__law_right_11 _ S = some (.nx (en n r nn w h t y m (some (.own [four "thing", four "errand", four "thing", four "number"])) none none), S) by simp [s__law_right_11, dOwn, fApp, A4 t y m S h hh, sizeLine_val]),
    show r__law_right_12 = dSeq s__law_right_12 r__law_right_13 from rfl, seq_nx (show s__law_right_12 _ S = some (.nx (en n r nn w h t y m (some (.own [four "thing", four "errand", four "thing", four "number", four "number"])) none none), S) by simp [s__law_right_12, dOwn, fApp, A5 y m S t ht, sizeLine_val]),
    show r__law_right_13 = dSeq s__law_right_13 r__law_right_14 from rfl, seq_nx (show s__law_right_13 _ S = some (.nx (en n r nn w h t y m (some (.own dueF)) none none), S) by simp [s__law_right_13, dOwn, fApp, A6 m S y hy, sizeLine_val])]
theorem tail2 (n : Nat) (r nn w h t y m : D) (S : Store) (hr : r ∈ LR) (hn : nn ∈ LN) (hw : w ∈ LW) (hh : h ∈ LH) (ht : t ∈ LT) (hy : y ∈ LY) (hm : m ∈ LM) :
    r__law_right_14 (en n r nn w h t y m (some (.own dueF)) none none) S = r__law_right_21 (en n r nn w h t y m (some (.own dueF)) (some (.own dueT)) none) S := by
  rw [show r__law_right_14 = dSeq s__law_right_14 r__law_right_15 from rfl, seq_nx (due14 _ S rfl),
    show r__law_right_15 = dSeq s__law_right_15 r__law_right_16 from rfl, seq_nx (show s__law_right_15 _ S = some (.nx (en n r nn w h t y m (some (.own dueF)) (some (.own [.str "number"])) none), S) by simp [s__law_right_15, dTold, A7 S m hm, x2, sizeLine_val]),
    show r__law_right_16 = dSeq s__law_right_16 r__law_right_17 from rfl, seq_nx (show s__law_right_16 _ S = some (.nx (en n r nn w h t y m (some (.own dueF)) (some (.own [.str "number", .str "thing"])) none), S) by simp [s__law_right_16, dOwn, fApp, dTold, R1 S hr hw hh hy, x1, sizeLine_val]),
    show r__law_right_17 = dSeq s__law_right_17 r__law_right_18 from rfl, seq_nx (show s__law_right_17 _ S = some (.nx (en n r nn w h t y m (some (.own dueF)) (some (.own [.str "number", .str "thing", .str "errand"])) none), S) by simp [s__law_right_17, dOwn, fApp, dTold, R2 S hn hw hh hy, x0, sizeLine_val]),
    show r__law_right_18 = dSeq s__law_right_18 r__law_right_19 from rfl, seq_nx (show s__law_right_18 _ S = some (.nx (en n r nn w h t y m (some (.own dueF)) (some (.own [.str "number", .str "thing", .str "errand", .str "thing"])) none), S) by simp [s__law_right_18, dOwn, fApp, dTold, R3 S hw hh hy, x1, sizeLine_val]),
    show r__law_right_19 = dSeq s__law_right_19 r__law_right_20 from rfl, seq_nx (show s__law_right_19 _ S = some (.nx (en n r nn w h t y m (some (.own dueF)) (some (.own [.str "number", .str "thing", .str "errand", .str "thing", .str "number"])) none), S) by simp [s__law_right_19, dOwn, fApp, dTold, R4 S hh hy, x2, sizeLine_val]),
    show r__law_right_20 = dSeq s__law_right_20 r__law_right_21 from rfl, seq_nx (show s__law_right_20 _ S = some (.nx (en n r nn w h t y m (some (.own dueF)) (some (.own dueT)) none), S) by simp [s__law_right_20, dOwn, fApp, dTold, R5 S hy, x1, sizeLine_val])]
theorem tail3 (n : Nat) (r nn w h t y m : D) (S : Store) (hr : r ∈ LR) (hn : nn ∈ LN) (hw : w ∈ LW) (hh : h ∈ LH) (ht : t ∈ LT) (hy : y ∈ LY) (hm : m ∈ LM) :
    r__law_right_21 (en n r nn w h t y m (some (.own dueF)) (some (.own dueT)) none) S = some (.rt (.bl true), S) := by
  obtain ⟨x', e⟩ := loop_ok (n := n) (r := r) (nn := nn) (w := w) (h := h) (t := t) (y := y) (m := m) (a := some (.own dueF)) (b := some (.own dueT)) (S := S) ([r, w, h, t, y, m] ++ LO) none fun v hv => by
    rcases List.mem_append.mp hv with hv | hv
    · simp only [List.mem_cons, List.not_mem_nil, or_false] at hv
      rcases hv with rfl | rfl | rfl | rfl | rfl | rfl
      · exact O1 S _ hr
      · exact O2 S _ hw
      · exact O3 S _ hh
      · exact O4 S _ ht
      · exact O5 S _ hy
      · exact O6 S _ hm
    · exact O7 S v hv
  have e22 : s__law_right_22 (en n r nn w h t y m (some (.own dueF)) (some (.own dueT)) none) S = forRun (gN 14) bodyV ([r, w, h, t, y, m] ++ LO) (en n r nn w h t y m (some (.own dueF)) (some (.own dueT)) none) S := by kernel_rfl
  rw [show r__law_right_21 = dSeq s__law_right_21 r__law_right_22 from rfl, seq_nx (due21 _ S rfl),
    show r__law_right_22 = dSeq s__law_right_22 r__law_right_23 from rfl, seq_nx (e22.trans e)]
  simp [r__law_right_23, s__law_right_23, B1, B2, pIsB, sizeLine_val]
end K95

/-! One case, whole. -/
namespace K95
open PySem Py
theorem pick_of (S : Store) (n c : Nat) (items : List D) (hk : Kt S n c) (hc : c < 2 ^ 100) (h0 : items ≠ []) (hl : items.length < 2 ^ 100) :
    ∃ y S', f__law_choose [.ref n, .lst items] S = .ok y S' ∧ y ∈ items ∧ Kt S' n (c + 1) ∧ Sm n S S' :=
  pick S n c (.lst items) items (fun S => by simp) (fun S i => by simp [atI_nat]) hk hc h0 hl
theorem right (S : Store) (n c : Nat) (hk : Kt S n c) (hc : c < 1000) : ∃ S', f__law_right [.ref n] S = .ok (.bl true) S' ∧ Kt S' n (c + 7) ∧ Sm n S S' := by
  obtain ⟨r, S1, e1, h1, k1, s1⟩ := pick_of S n c LR hk (by omega) (by simp [LR]) (by simp [LR])
  obtain ⟨nn, S2, e2, h2, k2, s2⟩ := pick_of S1 n (c + 1) LN k1 (by omega) (by simp [LN]) (by simp [LN])
  obtain ⟨w, S3, e3, h3, k3, s3⟩ := pick_of S2 n (c + 2) LW k2 (by omega) (by simp [LW]) (by simp [LW])
  obtain ⟨h, S4, e4, h4, k4, s4⟩ := pick_of S3 n (c + 3) LH k3 (by omega) (by simp [LH]) (by simp [LH])
  obtain ⟨t, S5, e5, h5, k5, s5⟩ := pick_of S4 n (c + 4) LT k4 (by omega) (by simp [LT]) (by simp [LT])
  obtain ⟨y, S6, e6, h6, k6, s6⟩ := pick_of S5 n (c + 5) LY k5 (by omega) (by simp [LY]) (by simp [LY])
  obtain ⟨m, S7, e7, h7, k7, s7⟩ := pick_of S6 n (c + 6) LM k6 (by omega) (by simp [LM]) (by simp [LM])
  refine ⟨S7, ?_, k7, (((((s1.trans s2).trans s3).trans s4).trans s5).trans s6).trans s7⟩
  show endR (r__law_right_0 [some (.val (.ref n)), none, none, none, none, none, none, none, none, none, none, none, none, none, none] S) = _
  rw [show r__law_right_0 = dSeq s__law_right_0 r__law_right_1 from rfl, seq_nx (show s__law_right_0 _ S = some (.nx [some (.val (.ref n)), some (.val prog), none, none, none, none, none, none, none, none, none, none, none, none, none], S) by kernel_rfl),
    show r__law_right_1 = dSeq s__law_right_1 r__law_right_2 from rfl, seq_nx (show s__law_right_1 _ S = some (.nx [some (.val (.ref n)), some (.val prog), some (.val mach), some (.val good), some (.val fine), none, none, none, none, none, none, none, none, none, none], S) by kernel_rfl),
    show r__law_right_2 = dSeq s__law_right_2 r__law_right_3 from rfl, seq_nx (show s__law_right_2 _ S = _ from set_call (xs := [.ref n, .lst LR]) (by kernel_rfl) rfl e1),
    show r__law_right_3 = dSeq s__law_right_3 r__law_right_4 from rfl, seq_nx (show s__law_right_3 _ S1 = _ from set_call (xs := [.ref n, .lst LN]) (by kernel_rfl) rfl e2),
    show r__law_right_4 = dSeq s__law_right_4 r__law_right_5 from rfl, seq_nx (show s__law_right_4 _ S2 = _ from set_call (xs := [.ref n, .lst LW]) (by kernel_rfl) rfl e3),
    show r__law_right_5 = dSeq s__law_right_5 r__law_right_6 from rfl, seq_nx (show s__law_right_5 _ S3 = _ from set_call (xs := [.ref n, .lst LH]) (by kernel_rfl) rfl e4),
    show r__law_right_6 = dSeq s__law_right_6 r__law_right_7 from rfl, seq_nx (show s__law_right_6 _ S4 = _ from set_call (xs := [.ref n, .lst LT]) (by kernel_rfl) rfl e5),
    show r__law_right_7 = dSeq s__law_right_7 r__law_right_8 from rfl, seq_nx (show s__law_right_7 _ S5 = _ from set_call (xs := [.ref n, .lst LY]) (by kernel_rfl) rfl e6),
    show r__law_right_8 = dSeq s__law_right_8 r__law_right_9 from rfl, seq_nx (show s__law_right_8 _ S6 = _ from set_call (xs := [.ref n, .lst LM]) (by kernel_rfl) rfl e7)]
  exact congrArg endR (((tail1 n r nn w h t y m S7 h1 h2 h3 h4 h5 h6 h7).trans (tail2 n r nn w h t y m S7 h1 h2 h3 h4 h5 h6 h7)).trans (tail3 n r nn w h t y m S7 h1 h2 h3 h4 h5 h6 h7))
end K95

/-! The law. -/
namespace K95
open PySem Py
abbrev envL (x y : Option Sl) : Py.Env := [some (.val (.ref 0)), x, y]
theorem law_tail (x y : Option Sl) (S : Store) : r_law_1 (envL x y) S = some (.rt (.bl true), S) := by kernel_rfl
def bodyO : DS := dSeq (dSet 2 (qV (dCall 2 f__law_bag (dCons (dVar 0) (dCons (dVar 1) (dNil)))))) (dIfS (dOr (dNot (dTest (dCall 1 f__law_right (dCons (dVar 2) (dNil))))) (dNot (dTest (dCall 1 f__law_right (dCons (dVar 2) (dNil)))))) (dRet (dCst (.bl false))) (dNop))
def itN (l : List Nat) : List D := l.map fun (i : Nat) => D.int (0 + (i : Int))
theorem scr {ob : Ob} {ns : List Int} {S : Store} (h : ScB ob ns) (e : S[0]? = some ob) : seqOf S (.ref 0) = some (ns.map D.int) := by
  rcases h with rfl | rfl
  · exact seqOf_ref_frz e
  · exact seqOf_ref_lst e
theorem spots {ob : Ob} {ns : List Int} (hb : ScB ob ns) : ∀ (l : List Nat) (S : Store) (x y : Option Sl), S[0]? = some ob → (∀ i ∈ l, i < 100) → ∃ (x' y' : Option Sl) (S' : Store), forRun (gN 1) bodyO (itN l) (envL x y) S = some (.nx (envL x' y'), S')
  | [], S, x, y, _, _ => ⟨x, y, S, rfl⟩
  | i :: l, S, x, y, h0, hx => by
    obtain ⟨a, b, e1, hbb⟩ := kettle S ns i (scr hb h0) (hx i List.mem_cons_self)
    have hlen : 0 < S.length := (List.getElem?_eq_some_iff.mp h0).1
    have hk : Kt (S ++ [.lst [.int a, .int b, .int (0 : Nat)]]) S.length 0 := ⟨a, b, 0, by simp, hbb, Nat.le_refl _⟩
    have h1 : (S ++ [Ob.lst [.int a, .int b, .int (0 : Nat)]])[0]? = some ob := by
      rw [List.getElem?_append_left hlen]
      exact h0
    generalize S ++ [Ob.lst [.int a, .int b, .int (0 : Nat)]] = S1 at *
    obtain ⟨S2, e2, k2, s2⟩ := right _ _ _ hk (by omega)
    obtain ⟨S3, e3, k3, s3⟩ := right _ _ _ k2 (by omega)
    have h3 : S3[0]? = some ob := by
      rw [s3.ne 0 (by omega), s2.ne 0 (by omega)]
      exact h1
    obtain ⟨x', y', S', e4⟩ := spots hb l S3 (some (.val (.int (0 + (i : Int))))) (some (.val (.ref S.length))) h3 fun j hj => hx j (List.mem_cons_of_mem _ hj)
    refine ⟨x', y', S', ?_⟩
    have e1' : f__law_bag [.ref 0, .int (0 + (i : Int))] S = .ok (.ref S.length) S1 := by
      rw [Int.zero_add]
      exact e1
    rw [← e4]
    show forRun (gN 1) bodyO (.int (0 + (i : Int)) :: itN l) (envL x y) S = _
    have hb1 : bodyO [some (.val (.ref 0)), some (.val (.int (0 + (i : Int)))), y] S = some (.nx (envL (some (.val (.int (0 + (i : Int))))) (some (.val (.ref S.length)))), S3) := by
      unfold bodyO
      rw [seq_nx (set_call (n := 2) (xs := [.ref 0, .int (0 + (i : Int))]) (r := dCons (dVar 0) (dCons (dVar 1) (dNil))) rfl rfl e1')]
      simp [e2, e3]
    rw [forRun]
    show (match bodyO [some (.val (.ref 0)), some (.val (.int (0 + (i : Int)))), y] S with
      | some (.nx ρ2, S2) => forRun (gN 1) bodyO (itN l) ρ2 S2
      | some (.ct ρ2, S2) => forRun (gN 1) bodyO (itN l) ρ2 S2
      | some (.br ρ2, S2) => some (.nx ρ2, S2)
      | r => r) = _
    rw [hb1]
theorem some_spots (L : Nat) : ∃ m : Nat, m ≤ 4 ∧ (if 1 < (if (L : Int) < 4 then (L : Int) else 4) then (if (L : Int) < 4 then (L : Int) else 4) else 1) = (m : Int) := by
  by_cases h : L < 4
  · by_cases h1 : 1 < L
    · exact ⟨L, by omega, by rw [if_pos (c := (L : Int) < 4) (by omega), if_pos (by omega)]⟩
    · exact ⟨1, by omega, by rw [if_pos (c := (L : Int) < 4) (by omega), if_neg (by omega)]; rfl⟩
  · exact ⟨4, by omega, by rw [if_neg (c := (L : Int) < 4) (by omega), if_pos (by omega)]; rfl⟩
theorem plain : Plain := fun ns _ _ ob hb => by
  obtain ⟨m, hm, em⟩ := some_spots ns.length
  obtain ⟨x, y, S', e⟩ := spots hb (List.range m) [ob] none none rfl fun i hi => by
    have := List.mem_range.mp hi
    omega
  refine ⟨S', ?_⟩
  have hs : seqOf [ob] (.ref 0) = some (ns.map D.int) := scr hb rfl
  have hr : rg1 [.int (m : Nat)] = some (itN (List.range m)) := by
    show (if ((m : Nat) : Int).natAbs < 2 ^ 62 then some (rgD 0 ((m : Nat) : Int).toNat) else none) = _
    rw [if_pos (by simp only [Int.natAbs_natCast]; omega), Int.toNat_natCast]
    rfl
  have hf : s_law_0 (envL none none) [ob] = some (.nx (envL x y), S') := by
    rw [← e]
    simp [s_law_0, hs, em, hr, bodyO]
  show endR (r_law_0 (envL none none) [ob]) = _
  rw [show r_law_0 = dSeq s_law_0 r_law_1 from rfl, seq_nx hf, law_tail]
  rfl
end K95

theorem PySem.Challenge.cw_errandwide_k95_refusals_of_runs_side_by_holds : PySem.Challenge.rw_errandwide_k95_refusals_of_runs_side_by.Holds := by
  exact K95.holds_of K95.plain

