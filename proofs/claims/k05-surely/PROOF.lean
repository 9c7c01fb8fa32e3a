import PyProof.Rows.All
import Wide.All
import OpenK.AllK
import Wide.FinOn
import KE.SortData
import PySem.PyData
import HandS.ForMost
import HandS.Exc
import HandS.ExcOwn
import HandS.WordsExc
import HandS.Walk
import HandS.Zip
import HandS.Conv
import HandS.Flow
import HandS.Style
import HandS.TupAny
import HandS.TupMul
import HandS.TupLe
import HandS.IsInst
import HandS.Wide
import HandS.Evl
import HandS.Deep
import KE.DataCmp
import KE.DataMinMax
import HandS.Lambda
import HandS.ExcCtx
import HandS.ExcIs
import HandS.HotCalls
import HandS.Defaults
import KE.GoesEnum
import HandS.Head0
import HandS.Head1
import HandS.Head2
import HandS.HeadEnd
import HandS.HeadHook1
import HandS.HeadHook2
import HandS.HeadWalk
import KE.KStateDown
import PySem.Challenge.RW_dustkeys_k05_whole_surely_and_perhaps
set_option Elab.async false
set_option linter.all false
set_option maxRecDepth 100000
/-! SortE: rows of tuples, the empty one ahead, sorted. -/
namespace Dk
open PySem PySem.W PySem.Calls PyProof.Rows PySem.SeqAt
section
variable {prog : Program} {w : World} {A : Around} {s : Shared} {E : Value → Shared → Prop}
theorem tupLt {Q : Value → Shared → Prop} {l b : Addr} {items items2 : Array Value} {e r : Nat → Bool} (hl : IsTup s.heap l items) (hb : IsTup s.heap b items2)
    (he : ∀ j (h1 : j < items.size) (h2 : j < items2.size), EqAt A.in1 s items[j] items2[j] (e j)) (hr : ∀ j (h1 : j < items.size) (h2 : j < items2.size), e j = false → RcLt A.in1 s items[j] items2[j] (r j))
    (h : Q (.bool (firstLt e r (decide (items.size < items2.size)) (List.range (min items.size items2.size)))) s) : wpAny (model prog w) A (call (.builtin "tuple.__lt__") [.ref l, .ref b]) Q E s := by
  obtain ⟨⟨c1, d1, a1, s1⟩, o1, k1, n1, e1⟩ := id hl
  obtain ⟨⟨c2, d2, a2, s2⟩, o2, k2, n2, e2⟩ := id hb
  simp only at k1 e1 k2 e2
  subst k1 e1 k2 e2
  exact call_meets F.slot_tuple_lt ⟨_, o1, rfl⟩ F.entry_tuple_lt (F.args_tuple_lt_2 _ _) (tuple_ltAt l b items items2 n1 n2 d1 d2 s1 s2 e r) ⟨o1, o2, he, hr, h⟩
/-- one tuple against another -/
theorem oneLtTup {xs ys : List PyData} {a b : Value} {as bs : List Addr} {Q : Bool → Shared → Prop} (ra : Reads s.heap a (.tuple xs) as) (rb : Reads s.heap b (.tuple ys) bs) (h : alike (.tuple xs) (.tuple ys) = true)
    (hu : A.units + min (PyData.tuple xs).depth (PyData.tuple ys).depth < cLine) (hq : Q (dataLt (.tuple xs) (.tuple ys)) s) : wpAny (model prog w) A (oneLt' true a b) Q E s := by
  have hal : alikeAll xs ys = true := by simpa [alike] using h
  cases ra with
  | @tuple l o vs n _ as1 h1 h2 h3 h4 =>
    cases rb with
    | @tuple l2 o2 vs2 n2 _ bs1 k1 k2 k3 k4 =>
      have z1 : vs.size = xs.length := by simpa using ReadsAll.length _ _ _ h4
      have z2 : vs2.size = ys.length := by simpa using ReadsAll.length _ _ _ k4
      have e1 : dataLt (.tuple xs) (.tuple ys) = dataLt (.list xs) (.list ys) := rfl
      rw [e1, dataLt_list, ← firstLt_toks xs ys hal, ← z1, ← z2] at hq
      rw [oneLt'_eq]
      simp only [if_true]
      refine wpAny_bind (wpAny_cRoomFor (room_here hu) ?_)
      refine wpAny_bind (wpAny_callSpecialIfBound?_slot (T := "tuple") ⟨_, h1, h2⟩ F.slot_tuple_lt (tupLt (e := pairEq xs ys) (r := fun j => dataLt (xs.getD j .none) (ys.getD j .none)) ⟨_, h1, h2, _, h3⟩ ⟨_, k1, k2, _, k3⟩ (fun j j1 j2 => ?_) (fun j j1 j2 hj => ?_) ?_))
      · have := eqAt_alikeAll xs ys A.in1 s vs.toList vs2.toList _ _ h4 k4 hal (room_in hu) j (by simpa using j1) (by simpa using j2)
        simpa using this
      · have := rcLt_alikeAll xs ys A.in1 s vs.toList vs2.toList _ _ h4 k4 hal (room_in hu) j (by simpa using j1) (by simpa using j2) hj
        simpa using this
      · exact wpAny_truthy_bool hq
end
/-- what each tuple begins with -/
def headO : PyData → Bool
  | .tuple (_ :: _) => true
  | _ => false
section
variable {M : Model} {A : Around} {s : Shared} {E : Value → Shared → Prop}
theorem firstsT : ∀ (vs : List Value) (ds : List PyData) {Q : List (Option Value) → Shared → Prop}, EachIs (fun v d => ∃ as, Reads s.heap v d as) vs ds → (∀ d ∈ ds, ∃ xs, d = .tuple xs) → (∀ fs : List (Option Value), fs.map Option.isSome = ds.map headO → Q fs s) → wpAny M A (vs.mapM firstOfTuple') Q E s
  | [], [], Q, _, _, h => by rw [List.mapM_nil]; exact wpAny_pure (h [] rfl)
  | [], _ :: _, _, e, _, _ => by cases e
  | _ :: _, [], _, e, _, _ => by cases e
  | v :: vs, d :: ds, Q, e, ht, h => by
    cases e with
    | cons e1 e2 =>
      obtain ⟨as, r⟩ := e1
      obtain ⟨xs, rfl⟩ := ht d (by simp)
      cases r with
      | @tuple a o its n _ _ ho hc hd hr =>
        rw [List.mapM_cons]
        refine wpAny_bind ?_
        rw [kas_first_eq]
        refine wpAny_bind (Looks.here (show Looks M s.heap (typeOf (.ref a)) o.cls from (Looks.ld ho).andThen .now) ?_)
        rw [hc, if_neg (by first | decide | simp)]
        refine wpAny_bind (listItems_at ho hd (wpAny_pure ?_))
        refine wpAny_bind (firstsT vs ds (Q := fun bs s' => wpAny M A (pure (its[0]? :: bs)) Q E s') e2 (fun d hd => ht d (by simp [hd])) fun fs hfs => wpAny_pure (h _ ?_))
        have hl := ReadsAll.length _ _ _ hr
        cases xs with
        | nil =>
          have : its[0]? = none := by
            have : its.toList = [] := by simpa using hl
            rw [← Array.getElem?_toList, this]
            rfl
          simp [this, headO, hfs]
        | cons x xs =>
          have : ∃ f, its[0]? = some f := by
            have hp : 0 < its.toList.length := by
              rw [hl]
              simp
            exact ⟨its.toList[0], by rw [← Array.getElem?_toList]; exact List.getElem?_eq_getElem hp⟩
          obtain ⟨f, hf⟩ := this
          simp [hf, headO, hfs]
end
section
variable {prog : Program} {w : World} {A : Around} {s : Shared}
/-- all are tuples, the first has no item -/
theorem sortsE {vs : List Value} {ds0 : List PyData} (e : EachIs (fun v d => ∃ as, Reads s.heap v d as) vs (.tuple [] :: ds0)) (hal : AllAlike (.tuple [] :: ds0)) (ht : ∀ d ∈ (PyData.tuple [] :: ds0), ∃ xs, d = .tuple xs) (hu : ∀ d, d ∈ (PyData.tuple [] :: ds0) → A.units + d.depth < cLine) : SortsAt prog w A s (dataKind s.heap (.tuple [] :: ds0)) vs := by
  have room : ∀ {d d' : PyData}, d ∈ (PyData.tuple [] :: ds0) → A.units + min d.depth d'.depth < cLine := fun {d d'} hd => Nat.lt_of_le_of_lt (Nat.add_le_add_left (Nat.min_le_left _ _) _) (hu d hd)
  refine ⟨fun v hv => ?_, oneType', ?_, fun h2 E Q hq => ?_⟩
  · obtain ⟨d, hd, as, r⟩ := e.left v hv
    exact ⟨_, dataKind_some hal hd r⟩
  · intro E x y a b Q ha hb hq
    obtain ⟨d, as, hd, ra, rfl⟩ := dataKind_inv ha
    obtain ⟨d', as', hd', rb, rfl⟩ := dataKind_inv hb
    rw [keyLt'_oneType]
    have hdd := hal d hd d' hd'
    have hr := room (d' := d') hd
    obtain ⟨xs, rfl⟩ := ht d hd
    obtain ⟨ys, rfl⟩ := ht d' hd'
    exact oneLtTup ra rb hdd hr hq
  · rw [keyKind'_eq, List.mapM_toArray, map_eq_pure_bind]
    refine wpAny_bind (wpAny_bind (firstsT vs _ e ht fun fs hfs => wpAny_pure ?_))
    cases fs with
    | nil => simp at hfs
    | cons f fs =>
      simp only [List.map_cons, List.cons.injEq, headO] at hfs
      have hf : f = none := by
        cases f with
        | none => rfl
        | some x => simp at hfs
      subst hf
      rw [if_neg (by simp), if_neg (by simp)]
      rw [oneTypeOnly'_eq, List.mapM_toArray, map_eq_pure_bind]
      have hT : ∀ v ∈ vs, Looks (model prog w) s.heap (typeOf v) (Value.type "tuple") := fun v hv => by
        obtain ⟨d, hd, as, r⟩ := e.left v hv
        obtain ⟨xs, rfl⟩ := ht d hd
        exact looks_reads r
      refine wpAny_bind (wpAny_bind (wpAny_bind (kas_mapM (r := Value.type "tuple") _ (fun v hv Q' hq => (hT v hv).here hq) (wpAny_pure ?_))))
      have hall : ((List.map (fun _ => Value.type "tuple") vs).toArray.all fun x => x == Value.type "tuple") = true := by
        simp only [List.all_toArray, List.all_map, List.all_eq_true]
        intro _ _
        simp
      cases vs with
      | nil => simp at h2
      | cons v vs =>
        have h0 : (List.map (fun _ => Value.type "tuple") (v :: vs)).toArray[0]? = some (Value.type "tuple") := by simp
        rw [h0]
        simp only [hall, if_true]
        exact wpAny_pure (wpAny_pure hq)
end
section
variable {prog : Program} {w : World} {A : Around} {E : Value → Shared → Prop} {s : Shared} {vs : List Value} {ds0 : List PyData} {R : Value → PyData → Prop}
theorem sortedE {l : Addr} {Q : Value → Shared → Prop} (hl : s.heap.IsList l vs.toArray) (e : EachIs R vs (.tuple [] :: ds0)) (er : EachIs (fun v b => ∃ as, Reads s.heap v b as) vs (.tuple [] :: ds0)) (hal : AllAlike (.tuple [] :: ds0)) (ht : ∀ d ∈ (PyData.tuple [] :: ds0), ∃ xs, d = .tuple xs) (hL : (PyData.tuple [] :: ds0).length ≤ sizeLine)
    (hu : ∀ b, b ∈ (PyData.tuple [] :: ds0) → A.units + 2 + b.depth < cLine) (h : ∀ out, out.length = (PyData.tuple [] :: ds0).length → EachIs R out ((PyData.tuple [] :: ds0).mergeSort (dataLe false id)) → Q (.ref (s.heap.objs.size + 1)) { s with heap := sortedAll s.heap vs (List.toArray out) }) :
    wpAny (model prog w) A (call (.builtin "sorted") [.ref l]) Q E s := by
  have er2 : EachIs (fun v b => ∃ as, Reads (sortingHeap (copyHeap s.heap vs) (s.heap.objs.size + 1) vs) v (id b) as) vs (.tuple [] :: ds0) := er.mono fun _ _ ⟨as, r⟩ => ⟨as, PyProof.Rows.Reads.keeps (fun _ _ => sorting_copy_old) r⟩
  have S := sortsE (prog := prog) (w := w) (A := A.in1.in1) (s := { s with heap := sortingHeap (copyHeap s.heap vs) (s.heap.objs.size + 1) vs }) er2 hal ht (fun b hb => hu b hb)
  refine sorted_vals hl S (by rw [e.length]; exact hL) ?_
  have sv := sortVals_data (h' := sortingHeap (copyHeap s.heap vs) (s.heap.objs.size + 1) vs) (R := R) (enc := id) false e er2 (by rw [List.map_id]; exact hal)
  rw [List.map_id] at sv
  exact h _ (by rw [sortVals_length false rfl]; exact e.length) sv
end
end Dk

set_option linter.all false
set_option maxRecDepth 100000
/-! Core: a small core language and its evaluator (values: PyData). -/
namespace Dk
open PySem (PyData Str)

/-- the dice list: its two numbers, if there is one -/
abbrev DS := Option (Int × Int)

inductive Out (α : Type) where
  | ok (a : α) (D : DS)
  | exc (c : Nat) (D : DS)
  | stuck

namespace Out
def bind {α β : Type} (x : Out α) (f : α → DS → Out β) : Out β := match x with
  | ok a D => f a D
  | exc c D => exc c D
  | stuck => stuck
@[simp] theorem ok_bind {α β : Type} (a : α) (D : DS) (f : α → DS → Out β) : (ok a D).bind f = f a D := rfl
@[simp] theorem exc_bind {α β : Type} (c : Nat) (D : DS) (f : α → DS → Out β) : (exc c D : Out α).bind f = exc c D := rfl
@[simp] theorem stuck_bind {α β : Type} (f : α → DS → Out β) : (stuck : Out α).bind f = stuck := rfl
def lift {α : Type} (o : Option α) (D : DS) : Out α := match o with
  | some a => ok a D
  | none => stuck
@[simp] theorem lift_some {α : Type} (a : α) (D : DS) : lift (some a) D = ok a D := rfl
@[simp] theorem lift_none {α : Type} (D : DS) : lift (none : Option α) D = stuck := rfl
/-- no exception may pass (a comprehension's block) -/
def calm {α : Type} (x : Out α) : Out α := match x with
  | ok a D => ok a D
  | _ => stuck
@[simp] theorem calm_ok {α : Type} (a : α) (D : DS) : (ok a D : Out α).calm = ok a D := rfl
@[simp] theorem calm_exc {α : Type} (c : Nat) (D : DS) : (exc c D : Out α).calm = stuck := rfl
@[simp] theorem calm_stuck {α : Type} : (stuck : Out α).calm = stuck := rfl
end Out

/-- what a slot holds: nothing, a value, a list of the frame's own that is changed in place -/
inductive Sl where
  | non
  | val (d : PyData)
  | own (xs : List PyData)

abbrev Env := List Sl

inductive BOp where
  | add | sub | mul | fdiv | mod | pow | shl
  deriving DecidableEq
inductive COp where
  | eq | ne | lt | le | gt | ge | isIn | notIn | is | isNot
  deriving DecidableEq
inductive Ty where
  | int | bool | str | tuple | list
  deriving DecidableEq
inductive Bi where
  | len | tuple | list | sorted | sum | all | any | min | max | min2 | max2 | abs | int | listRange | minD | maxD
  deriving DecidableEq
inductive ItK where
  | seq | range | enum | zip
  deriving DecidableEq
inductive Tg where
  | name (i : Nat)
  | tup (is : List Nat)
  deriving DecidableEq

inductive CE where
  | const (d : PyData)
  | var (i : Nat)
  | peek (i : Nat)
  | tup (es : List CE)
  | lst (es : List CE)
  | bin (op : BOp) (a b : CE)
  | neg (a : CE)
  | not (a : CE)
  | and (a b : CE)
  | or (a b : CE)
  | ite (t a b : CE)
  | cmp (op : COp) (a b : CE)
  | chain (o1 o2 : COp) (a b c : CE)
  | call (dice : Bool) (f : Nat) (es : List CE)
  | bi (b : Bi) (es : List CE)
  | isa (a : CE) (t : Ty)
  | ix (a i : CE)
  | slice (a : CE) (lo hi : Option CE)
  | rev (a : CE)
  | comp (own : List Nat) (tg : Tg) (k : ItK) (src : List CE) (test : Option CE) (elt : CE)
  | comp2 (own own1 : List Nat) (tg : Tg) (k : ItK) (src : List CE) (test : Option CE) (tg1 : Tg) (src1 : CE) (elt : CE)
  | dget (i : Nat)
  | told (f : Nat) (es : List CE)

inductive CS where
  | asg (tg : Tg) (e : CE)
  | asgO (i : Nat) (e : CE)
  | par (is : List Nat) (es : List CE)
  | parO (is : List (Nat × Bool)) (es : List CE)
  | app (i : Nat) (e : CE)
  | appPop (i j : Nat) (e : CE)
  | popTo (i j : Nat)
  | setAt (i : Nat) (ix e : CE)
  | frz (i : Nat) (s : CS)
  | dset (i : Nat) (e : CE)
  | expr (e : CE)
  | ret (e : CE)
  | raise (c : Nat)
  | cond (t : CE) (a b : List CS)
  | for_ (tg : Tg) (k : ItK) (src : List CE) (body : List CS)
  | while_ (t : CE) (body : List CS)

/-- a def: its number of slots, its parameters' number, whether the first parameter is the dice, its body -/
structure FD where
  slots : Nat
  pars : Nat
  dice : Bool
  body : List CS

/-! ### pure operations -/
def szL : Nat := 2 ^ 24
def natLt : List Nat → List Nat → Bool
  | [], [] => false
  | [], _ :: _ => true
  | _ :: _, [] => false
  | a :: x, b :: y => if a = b then natLt x y else decide (a < b)

mutual
/-- Python's == of data -/
def eqD : PyData → PyData → Bool
  | .none, .none => true
  | .bool a, .bool b => a == b
  | .int a, .int b => a == b
  | .bool a, .int b => (if a then 1 else 0) == b
  | .int a, .bool b => a == (if b then 1 else 0)
  | .str a, .str b => decide (a = b)
  | .list a, .list b => eqDs a b
  | .tuple a, .tuple b => eqDs a b
  | _, _ => false
def eqDs : List PyData → List PyData → Bool
  | [], [] => true
  | a :: x, b :: y => eqD a b && eqDs x y
  | _, _ => false
end

mutual
def depD : PyData → Nat
  | .list xs => depDs xs + 1
  | .tuple xs => depDs xs + 1
  | _ => 0
def depDs : List PyData → Nat
  | [] => 0
  | x :: xs => max (depD x) (depDs xs)
end

mutual
/-- x < y, where the two are alike (None with None alone) -/
def ltD : PyData → PyData → Option Bool
  | .none, .none => some false
  | .bool a, .bool b => some (!a && b)
  | .int a, .int b => some (decide (a < b))
  | .str a, .str b => some (natLt a.cps.toList b.cps.toList)
  | .list a, .list b => ltDs a b
  | .tuple a, .tuple b => ltDs a b
  | _, _ => none
def ltDs : List PyData → List PyData → Option Bool
  | [], [] => some false
  | [], _ :: _ => some true
  | _ :: _, [] => some false
  | a :: x, b :: y => match ltD a b, ltDs x y with
    | some l, some r => some (if eqD a b then r else l)
    | _, _ => none
end

def boolOf : PyData → Option Bool
  | .bool b => some b
  | _ => none

def small64 (i : Int) : Bool := decide (i.natAbs < 2 ^ 64)
def small1k (i : Int) : Bool := decide (i.natAbs < 2 ^ 1000)

def rowOf : PyData → Option (List PyData)
  | .list xs => some xs
  | .tuple xs => some xs
  | _ => none
def charsOf (s : Str) : List PyData := s.cps.toList.map fun c => .str ⟨#[c]⟩

def binD : BOp → PyData → PyData → Option PyData
  | .add, .int a, .int b => some (.int (a + b))
  | .add, .list a, .list b => if a.length + b.length ≤ szL then some (.list (a ++ b)) else none
  | .add, .tuple a, .tuple b => if a.length + b.length ≤ szL then some (.tuple (a ++ b)) else none
  | .add, .str a, .str b => if a.cps.size + b.cps.size ≤ szL then some (.str (a ++ b)) else none
  | .sub, .int a, .int b => some (.int (a - b))
  | .mul, .int a, .int b => if small64 a || small64 b || (small1k a && small1k b) then some (.int (a * b)) else none
  | .mul, .tuple a, .int k => if a.length ≤ 1000 ∧ k ≤ 1000 ∧ 2 ≤ k ∧ a.isEmpty = false then some (.tuple (List.replicate k.toNat a).flatten) else none
  | .mul, .list a, .int k => if a.length ≤ 1000 ∧ k ≤ 1000 ∧ -1000 ≤ k then some (.list (List.replicate k.toNat a).flatten) else none
  | .fdiv, .int a, .int b => if 0 < b ∧ small1k b = true then some (.int (a / b)) else none
  | .mod, .int a, .int b => if 0 < b then some (.int (a % b)) else none
  | .pow, .int a, .int b => if 0 ≤ b ∧ b ≤ 1000 ∧ small64 a = true then some (.int (a ^ b.toNat)) else none
  | .shl, .int a, .int b => if 0 ≤ b ∧ b ≤ 1000 ∧ small64 a = true then some (.int (a * 2 ^ b.toNat)) else none
  | _, _, _ => none

/-- a text in a text: the first of one sign alone -/
def inText (a b : Str) : Option Bool := match a.cps.toList with
  | [c] => some (decide (c ∈ b.cps.toList))
  | _ => none

def cmpD : COp → PyData → PyData → Option Bool
  | .eq, a, b => if min (depD a) (depD b) ≤ 60 then some (eqD a b) else none
  | .ne, a, b => if min (depD a) (depD b) ≤ 60 then some (!eqD a b) else none
  | .lt, .none, _ => none
  | .lt, a, b => if min (depD a) (depD b) ≤ 60 then ltD a b else none
  | .le, .int a, .int b => some (decide (a ≤ b))
  | .gt, .int a, .int b => some (decide (b < a))
  | .ge, .int a, .int b => some (decide (b ≤ a))
  | .isIn, .str a, .str b => inText a b
  | .isIn, a, b => match rowOf b with
    | some xs => if depD a ≤ 60 then some (xs.any fun x => eqD x a) else none
    | none => none
  | .notIn, .str a, .str b => (inText a b).map not
  | .notIn, a, b => match rowOf b with
    | some xs => if depD a ≤ 60 then some (!xs.any fun x => eqD x a) else none
    | none => none
  | .is, a, .none => some (match a with | .none => true | _ => false)
  | .isNot, a, .none => some (match a with | .none => false | _ => true)
  | .is, .bool a, .bool b => some (a == b)
  | .isNot, .bool a, .bool b => some (!(a == b))
  | _, _, _ => none

def isaD : Ty → PyData → Bool
  | .int, .int _ => true
  | .int, .bool _ => true
  | .bool, .bool _ => true
  | .str, .str _ => true
  | .tuple, .tuple _ => true
  | .list, .list _ => true
  | _, _ => false

def intsOf : List PyData → Option (List Int)
  | [] => some []
  | .int i :: r => (intsOf r).map (i :: ·)
  | _ => none
def boolsOf : List PyData → Option (List Bool)
  | [] => some []
  | .bool i :: r => (boolsOf r).map (i :: ·)
  | _ => none

/-- all pairs can be compared -/
def comparable (xs : List PyData) : Bool := xs.all fun x => xs.all fun y => (ltD x y).isSome
def leB (x y : PyData) : Bool := match ltD y x with
  | some true => false
  | _ => true
def isNone : PyData → Bool
  | .none => true
  | _ => false
def sortable (xs : List PyData) : Bool := comparable xs && xs.all (fun x => !isNone x && decide (depD x ≤ 60))
def isNeTup : PyData → Bool
  | .tuple (_ :: _) => true
  | _ => false
def isTup : PyData → Bool
  | .tuple _ => true
  | _ => false
/-- all are tuples, the first has no item -/
def emptyFirst : List PyData → Bool
  | .tuple [] :: xs => xs.all isTup
  | _ => false
/-- all are tuples with an item at least, or none is a tuple -/
def oneKind0 (xs : List PyData) : Bool := xs.all isNeTup || xs.all fun x => !isTup x
def oneKind (xs : List PyData) : Bool := oneKind0 xs || emptyFirst xs
def sortD (xs : List PyData) : List PyData := xs.mergeSort leB
def minD (x : PyData) (xs : List PyData) : PyData := xs.foldl (fun a y => if ltD y a = some true then y else a) x
def maxD (x : PyData) (xs : List PyData) : PyData := xs.foldl (fun a y => if ltD a y = some true then y else a) x

def rangeOk (n : Int) : Bool := decide (-(2 ^ 62) ≤ n ∧ n ≤ 2 ^ 24)
def rangeD (n : Int) : List PyData := (List.range n.toNat).map fun i => .int (i : Nat)

def biD : Bi → List PyData → Option PyData
  | .len, [.list xs] => some (.int (xs.length : Nat))
  | .len, [.tuple xs] => some (.int (xs.length : Nat))
  | .len, [.str s] => if s.cps.size ≤ szL then some (.int (s.cps.size : Nat)) else none
  | .tuple, [.list xs] => some (.tuple xs)
  | .tuple, [.tuple xs] => some (.tuple xs)
  | .list, [.list xs] => some (.list xs)
  | .list, [.tuple xs] => some (.list xs)
  | .sorted, [.list xs] => if sortable xs && oneKind xs then some (.list (sortD xs)) else none
  | .sum, [.list xs] => (intsOf xs).map fun ns => .int ns.sum
  | .all, [.list xs] => (boolsOf xs).map fun bs => .bool (bs.all id)
  | .any, [.list xs] => (boolsOf xs).map fun bs => .bool (bs.any id)
  | .min, [.list (x :: xs)] => if sortable (x :: xs) then some (minD x xs) else none
  | .max, [.list (x :: xs)] => if sortable (x :: xs) then some (maxD x xs) else none
  | .max, [.tuple (x :: xs)] => if sortable (x :: xs) then some (maxD x xs) else none
  | .minD, [.list []] => some .none
  | .minD, [.list (x :: xs)] => if sortable (x :: xs) then some (minD x xs) else none
  | .maxD, [.list []] => some .none
  | .maxD, [.list (x :: xs)] => if sortable (x :: xs) then some (maxD x xs) else none
  | .min2, [.int a, .int b] => some (.int (if b < a then b else a))
  | .max2, [.int a, .int b] => some (.int (if a < b then b else a))
  | .abs, [.int a] => some (.int (if a < 0 then -a else a))
  | .int, [.bool b] => some (.int (if b then 1 else 0))
  | .int, [.int i] => some (.int i)
  | .listRange, [.int n] => if rangeOk n then some (.list (rangeD n)) else none
  | _, _ => none

def ixNat (n : Nat) (i : Int) : Option Nat := if 0 ≤ i then (if i < n then some i.toNat else none) else if -(n : Int) ≤ i then some (i + n).toNat else none
def ixD : PyData → PyData → Option PyData
  | .list xs, .int i => (ixNat xs.length i).bind fun j => xs[j]?
  | .tuple xs, .int i => (ixNat xs.length i).bind fun j => xs[j]?
  | _, _ => none

def sIx (n d : Nat) : Option Int → Nat
  | none => d
  | some i => if i < 0 then (i + n).toNat else min i.toNat n
def cut {α : Type} (xs : List α) (lo hi : Option Int) : List α := (xs.drop (sIx xs.length 0 lo)).take (sIx xs.length xs.length hi - sIx xs.length 0 lo)
def intOpt : Option PyData → Option (Option Int)
  | none => some none
  | some (.int i) => some (some i)
  | _ => none
def sliceD (x : PyData) (lo hi : Option Int) : Option PyData := match x with
  | .list xs => some (.list (cut xs lo hi))
  | .tuple xs => some (.tuple (cut xs lo hi))
  | _ => none
def revD : PyData → Option PyData
  | .list xs => some (.list xs.reverse)
  | .tuple xs => some (.tuple xs.reverse)
  | _ => none

def itemsD : ItK → List PyData → Option (List PyData)
  | .seq, [.list xs] => some xs
  | .seq, [.tuple xs] => some xs
  | .seq, [.str s] => some (charsOf s)
  | .range, [.int n] => if rangeOk n then some (rangeD n) else none
  | .enum, [.list xs] => some ((List.range xs.length).zipWith (fun i x => .tuple [.int (i : Nat), x]) xs)
  | .enum, [.tuple xs] => some ((List.range xs.length).zipWith (fun i x => .tuple [.int (i : Nat), x]) xs)
  | .zip, [.list xs, .list ys] => some (xs.zipWith (fun x y => .tuple [x, y]) ys)
  | .zip, [.tuple xs, .tuple ys] => some (xs.zipWith (fun x y => .tuple [x, y]) ys)
  | _, _ => none

def setAll : List Nat → List PyData → Env → Option Env
  | [], [], r => some r
  | i :: is, v :: vs, r => setAll is vs (r.set i (.val v))
  | _, _, _ => none
def assign (tg : Tg) (v : PyData) (r : Env) : Option Env := match tg with
  | .name i => some (r.set i (.val v))
  | .tup is => match v with
    | .tuple xs => setAll is xs r
    | _ => none
def wipeE (r : Env) : List Nat → Env
  | [] => r
  | v :: vs => (wipeE r vs).set v .non

/-- the turns of a comprehension -/
def compL (f : PyData → DS → Out (Option PyData)) : List PyData → DS → Out (List PyData)
  | [], D => .ok [] D
  | x :: xs, D => (f x D).bind fun r D => (compL f xs D).bind fun ys D => .ok (match r with
    | some y => y :: ys
    | none => ys) D
def compL2 (f : PyData → DS → Out (List PyData)) : List PyData → DS → Out (List PyData)
  | [], D => .ok [] D
  | x :: xs, D => (f x D).bind fun r D => (compL2 f xs D).bind fun ys D => .ok (r ++ ys) D
def fits (ys : List PyData) (D : DS) : Out PyData := if ys.length ≤ szL then .ok (.list ys) D else .stuck

def toldBase : Nat := 1000
abbrev CallF := Bool → Nat → List PyData → DS → Out PyData

def slotD (r : Env) (i : Nat) : Option PyData := match r[i]? with
  | some (.val d) => some d
  | _ => none
def slotP (r : Env) (i : Nat) : Option PyData := match r[i]? with
  | some (.val d) => some d
  | some (.own xs) => some (.list xs)
  | _ => none

section
end
/-- no call -/
def deadF : CallF := fun _ _ _ _ => .stuck
mutual
def evalE (cf : CallF) : CE → Env → DS → Out PyData
  | .const d, _, D => .ok d D
  | .var i, r, D => .lift (slotD r i) D
  | .peek i, r, D => .lift (slotP r i) D
  | .tup es, r, D => (evalEs cf es r D).bind fun vs D => if vs.length ≤ szL then .ok (.tuple vs) D else .stuck
  | .lst es, r, D => (evalEs cf es r D).bind fun vs D => if vs.length ≤ szL then .ok (.list vs) D else .stuck
  | .bin op a b, r, D => (evalE cf a r D).bind fun x D => (evalE cf b r D).bind fun y D => .lift (binD op x y) D
  | .neg a, r, D => (evalE cf a r D).bind fun x D => match x with
    | .int i => .ok (.int (-i)) D
    | _ => .stuck
  | .not a, r, D => (evalE cf a r D).bind fun x D => match x with
    | .bool b => .ok (.bool (!b)) D
    | _ => .stuck
  | .and a b, r, D => (evalE cf a r D).bind fun x D => match x with
    | .bool true => evalE cf b r D
    | .bool false => .ok (.bool false) D
    | _ => .stuck
  | .or a b, r, D => (evalE cf a r D).bind fun x D => match x with
    | .bool true => .ok (.bool true) D
    | .bool false => evalE cf b r D
    | _ => .stuck
  | .ite t a b, r, D => (evalE cf t r D).bind fun x D => match x with
    | .bool true => evalE cf a r D
    | .bool false => evalE cf b r D
    | _ => .stuck
  | .cmp op a b, r, D => (evalE cf a r D).bind fun x D => (evalE cf b r D).bind fun y D => (Out.lift (cmpD op x y) D).bind fun k D => .ok (.bool k) D
  | .chain o1 o2 a b c, r, D => (evalE cf a r D).bind fun x D => (evalE cf b r D).bind fun y D => (Out.lift (cmpD o1 x y) D).bind fun k D => match k with
    | true => (evalE cf c r D).bind fun z D => (Out.lift (cmpD o2 y z) D).bind fun k D => .ok (.bool k) D
    | false => .ok (.bool false) D
  | .call dc f es, r, D => if dc && D.isNone then .stuck else (evalEs cf es r D).bind fun vs D => cf dc f vs D
  | .bi b es, r, D => (evalEs cf es r D).bind fun vs D => .lift (biD b vs) D
  | .isa a t, r, D => (evalE cf a r D).bind fun x D => .ok (.bool (isaD t x)) D
  | .ix a i, r, D => (evalE cf a r D).bind fun x D => (evalE cf i r D).bind fun y D => .lift (ixD x y) D
  | .slice a lo hi, r, D => (evalE cf a r D).bind fun x D => (evalO cf lo r D).bind fun l D => (evalO cf hi r D).bind fun h D => .lift (sliceD x l h) D
  | .rev a, r, D => (evalE cf a r D).bind fun x D => .lift (revD x) D
  | .comp own tg k src test elt, r, D => (evalEs cf src r D).bind fun vs D => (Out.lift (itemsD k vs) D).bind fun its D =>
      (compL (fun x D => (Out.lift (assign tg x (wipeE r own)) D).bind fun r1 D => (evalT cf test r1 D).bind fun b D => match b with
        | true => (evalE cf elt r1 D).bind fun y D => .ok (some y) D
        | false => .ok none D) its D).calm.bind fun ys D => fits ys D
  | .comp2 own own1 tg k src test tg1 src1 elt, r, D => (evalEs cf src r D).bind fun vs D => (Out.lift (itemsD k vs) D).bind fun its D =>
      (compL2 (fun x D => (Out.lift (assign tg x (wipeE r own)) D).bind fun r1 D => (evalT cf test r1 D).bind fun b D => match b with
        | true => (evalE cf src1 r1 D).bind fun v1 D => (Out.lift (itemsD .seq [v1]) D).bind fun its1 D =>
            compL (fun x1 D => (Out.lift (assign tg1 x1 (wipeE r1 own1)) D).bind fun r2 D => (evalE cf elt r2 D).bind fun y D => .ok (some y) D) its1 D
        | false => .ok [] D) its D).calm.bind fun ys D => fits ys D
  | .dget i, _, D => match D with
    | some (c, n) => match i with
      | 0 => .ok (.int c) D
      | 1 => .ok (.int n) D
      | _ => .stuck
    | none => .stuck
  | .told f es, r, D => (evalEs deadF es r D).calm.bind fun vs D => cf false (toldBase + f) vs D
def evalEs (cf : CallF) : List CE → Env → DS → Out (List PyData)
  | [], _, D => .ok [] D
  | e :: es, r, D => (evalE cf e r D).bind fun v D => (evalEs cf es r D).bind fun vs D => .ok (v :: vs) D
def evalO (cf : CallF) : Option CE → Env → DS → Out (Option Int)
  | none, _, D => .ok none D
  | some e, r, D => (evalE cf e r D).bind fun v D => match v with
    | .int i => .ok (some i) D
    | _ => .stuck
def evalT (cf : CallF) : Option CE → Env → DS → Out Bool
  | none, _, D => .ok true D
  | some e, r, D => (evalE cf e r D).bind fun v D => match v with
    | .bool b => .ok b D
    | _ => .stuck
end

section
variable (cf : CallF)
/-- what a statement ends in -/
inductive Res where
  | next (r : Env) (D : DS)
  | ret (d : PyData) (D : DS)
  | exc (c : Nat) (D : DS)
  | stuck

def Res.of {α : Type} (x : Out α) (f : α → DS → Res) : Res := match x with
  | .ok a D => f a D
  | .exc c D => .exc c D
  | .stuck => .stuck
@[simp] theorem Res.of_ok {α : Type} (a : α) (D : DS) (f : α → DS → Res) : Res.of (.ok a D) f = f a D := rfl
@[simp] theorem Res.of_exc {α : Type} (c : Nat) (D : DS) (f : α → DS → Res) : Res.of (.exc c D : Out α) f = .exc c D := rfl
@[simp] theorem Res.of_stuck {α : Type} (f : α → DS → Res) : Res.of (.stuck : Out α) f = .stuck := rfl
def Res.andThen (x : Res) (f : Env → DS → Res) : Res := match x with
  | .next r D => f r D
  | y => y
@[simp] theorem Res.next_andThen (r : Env) (D : DS) (f : Env → DS → Res) : (Res.next r D).andThen f = f r D := rfl
@[simp] theorem Res.ret_andThen (d : PyData) (D : DS) (f : Env → DS → Res) : (Res.ret d D).andThen f = .ret d D := rfl
@[simp] theorem Res.exc_andThen (c : Nat) (D : DS) (f : Env → DS → Res) : (Res.exc c D).andThen f = .exc c D := rfl
@[simp] theorem Res.stuck_andThen (f : Env → DS → Res) : (Res.stuck).andThen f = .stuck := rfl

def forL (f : PyData → Env → DS → Res) : List PyData → Env → DS → Res
  | [], r, D => .next r D
  | x :: xs, r, D => (f x r D).andThen fun r D => forL f xs r D
def whileL (t : Env → DS → Out PyData) (f : Env → DS → Res) : Nat → Env → DS → Res
  | 0, _, _ => .stuck
  | n + 1, r, D => Res.of (t r D) fun b D => match b with
    | .bool true => (f r D).andThen fun r D => whileL t f n r D
    | .bool false => .next r D
    | _ => .stuck
def whileMax : Nat := 1000000

def ownOf (r : Env) (i : Nat) : Option (List PyData) := match r[i]? with
  | some (.own xs) => some xs
  | _ => none
def setO : List (Nat × Bool) → List PyData → Env → Option Env
  | [], [], r => some r
  | (i, false) :: is, v :: vs, r => setO is vs (r.set i (.val v))
  | (i, true) :: is, .list xs :: vs, r => setO is vs (r.set i (.own xs))
  | _, _, _ => none

mutual
def execS : CS → Env → DS → Res
  | .asg tg e, r, D => .of (evalE cf e r D) fun v D => .of (Out.lift (assign tg v r) D) fun r D => .next r D
  | .asgO i e, r, D => .of (evalE cf e r D) fun v D => match v with
    | .list xs => .next (r.set i (.own xs)) D
    | _ => .stuck
  | .par is es, r, D => .of (evalEs cf es r D) fun vs D => .of (Out.lift (setAll is vs r) D) fun r D => .next r D
  | .parO is es, r, D => .of (evalEs cf es r D) fun vs D => .of (Out.lift (setO is vs r) D) fun r D => .next r D
  | .app i e, r, D => .of (Out.lift (ownOf r i) D) fun xs D => .of (evalE cf e r D) fun v D =>
      if xs.length < szL then .next (r.set i (.own (xs ++ [v]))) D else .stuck
  | .appPop i j e, r, D => .of (Out.lift (ownOf r i) D) fun xs D => .of (Out.lift (ownOf r j) D) fun ys D => .of (evalE cf e r D) fun k D => match k with
    | .int n => match ixNat ys.length n with
      | some m => match ys[m]? with
        | some v => if i ≠ j ∧ xs.length < szL ∧ -(2 ^ 63) ≤ n ∧ n < 2 ^ 63 then .next ((r.set j (.own (ys.eraseIdx m))).set i (.own (xs ++ [v]))) D else .stuck
        | none => .stuck
      | none => .stuck
    | _ => .stuck
  | .popTo i j, r, D => match ownOf r j with
    | some ys => match ys.getLast? with
      | some v => if i ≠ j then .next ((r.set j (.own ys.dropLast)).set i (.val v)) D else .stuck
      | none => .stuck
    | none => .stuck
  | .setAt i ix e, r, D => .of (evalE cf e r D) fun v D => .of (Out.lift (ownOf r i) D) fun xs D => .of (evalE cf ix r D) fun k D => match k with
    | .int n => match ixNat xs.length n with
      | some m => .next (r.set i (.own (xs.set m v))) D
      | none => .stuck
    | _ => .stuck
  | .frz i s, r, D => match ownOf r i with
    | some xs => execS s (r.set i (.val (.list xs))) D
    | none => execS s r D
  | .dset i e, r, D => .of (evalE cf e r D) fun v D => match D, v, i with
    | some (c, n), .int k, 0 => .next r (some (k, n))
    | some (c, n), .int k, 1 => .next r (some (c, k))
    | _, _, _ => .stuck
  | .expr e, r, D => .of (evalE cf e r D) fun _ D => .next r D
  | .ret e, r, D => .of (evalE cf e r D) fun v D => .ret v D
  | .raise c, _, D => .exc c D
  | .cond t a b, r, D => .of (evalE cf t r D) fun v D => match v with
    | .bool true => execB a r D
    | .bool false => execB b r D
    | _ => .stuck
  | .for_ tg k src body, r, D => .of (evalEs cf src r D) fun vs D => .of (Out.lift (itemsD k vs) D) fun its D =>
      forL (fun x r D => .of (Out.lift (assign tg x r) D) fun r D => execB body r D) its r D
  | .while_ t body, r, D => whileL (fun r D => evalE cf t r D) (fun r D => execB body r D) whileMax r D
def execB : List CS → Env → DS → Res
  | [], r, D => .next r D
  | s :: ss, r, D => (execS s r D).andThen fun r D => execB ss r D
end

def startE (n : Nat) (vs : List PyData) : Env := vs.map .val ++ List.replicate (n - vs.length) .non

/-- a body run to its end -/
def runFD (fd : FD) (dc : Bool) (vs : List PyData) (D : DS) : Out PyData :=
  if dc = fd.dice ∧ vs.length + (if dc then 1 else 0) = fd.pars then
    match execB cf fd.body (if dc then .non :: startE (fd.slots - 1) vs else startE fd.slots vs) D with
    | .next _ D => .ok .none D
    | .ret d D => .ok d D
    | .exc c D => .exc c D
    | .stuck => .stuck
  else .stuck
end

/-- the name of a refusal -/
def excName (c : Nat) : Option String := (["BadBoard", "BadNumber", "BadPlay", "BadDust", "BadDay", "BadReach", "BadLots", "BadLooks", "BadKey", "BadPart", "BadPlayers", "BadShares", "Nothing", "Full", "BadText"] : List String)[c]?
def refusedD (x : String) : PyData := .tuple [.str (Str.ofString "refused"), .str (Str.ofString x)]
/-- what a deed tells, or how it is refused -/
def tellO (x : Out PyData) : Out PyData := match x with
  | .exc c D => match excName c with
    | some x => .ok (refusedD x) D
    | none => .stuck
  | .ok d D => .ok d D
  | .stuck => .stuck
/-- calls to a depth, and to one less -/
def callP (T : Nat → Option FD) : Nat → CallF × CallF
  | 0 => (deadF, deadF)
  | n + 1 => (fun dc f vs D => match T f with
    | some fd => runFD (callP T n).1 fd dc vs D
    | none => if toldBase ≤ f ∧ dc = false then tellO ((callP T n).2 dc (f - toldBase) vs D) else .stuck, (callP T n).1)
/-- calls, to a depth -/
def call (T : Nat → Option FD) (n : Nat) : CallF := (callP T n).1
/-- a deed told, at the depth of its teller -/
def toldC (T : Nat → Option FD) (n : Nat) (dc : Bool) (f : Nat) (vs : List PyData) (D : DS) : Out PyData := if toldBase ≤ f ∧ dc = false then tellO ((callP T n).2 dc (f - toldBase) vs D) else .stuck
theorem call_zero (T : Nat → Option FD) : call T 0 = deadF := rfl
theorem callS (T : Nat → Option FD) (n : Nat) (dc : Bool) (f : Nat) (vs : List PyData) (D : DS) : call T (n + 1) dc f vs D = match T f with
    | some fd => runFD (call T n) fd dc vs D
    | none => toldC T n dc f vs D := rfl
theorem toldC_zero (T : Nat → Option FD) (dc : Bool) (f : Nat) (vs : List PyData) (D : DS) : toldC T 0 dc f vs D = .stuck := by
  unfold toldC
  split
  · rfl
  · rfl
theorem toldC_succ (T : Nat → Option FD) (n f : Nat) (vs : List PyData) (D : DS) : toldC T (n + 1) false (toldBase + f) vs D = tellO (call T n false f vs D) := by
  unfold toldC
  rw [if_pos ⟨Nat.le_add_right _ _, rfl⟩, Nat.add_sub_cancel_left]
  rfl
theorem told_call (T : Nat → Option FD) (n f : Nat) (vs : List PyData) (D : DS) (h : T (toldBase + f) = none) : call T (n + 2) false (toldBase + f) vs D = tellO (call T n false f vs D) := by
  rw [callS, h]
  exact toldC_succ T n f vs D
end Dk

set_option Elab.async false
set_option linter.all false
set_option maxRecDepth 100000
/-! Sound1: the relation between the evaluator's states and the layer's. -/
namespace Dk
open PySem PySem.Spec PyProof.Rows L2

abbrev Fr := PySem.W.Frag

/-! ### values -/
mutual
theorem dp_mono {K : Fr} {F F' : Hp} (e : Same F F') : ∀ (d : PyData) (v : V), Dp K F v d → Dp K F' v d
  | .none, v, h => by cases h; exact .non
  | .bool b, v, h => by cases h; exact .bl b
  | .int i, v, h => by cases h; exact .int i
  | .str s, v, h => by cases h; exact .str s
  | .list xs, v, h => by
    cases h with
    | lst hs ha => exact .lst (Evl.ex_l e hs) (dpAll_mono e xs _ ha)
  | .tuple xs, v, h => by
    cases h with
    | tup hs ha => exact .tup (Evl.ex_t e hs) (dpAll_mono e xs _ ha)
  | .dict _, v, h => by cases h
theorem dpAll_mono {K : Fr} {F F' : Hp} (e : Same F F') : ∀ (ds : List PyData) (vs : List V), DpAll K F vs ds → DpAll K F' vs ds
  | [], vs, h => by cases h; exact .nil
  | d :: ds, vs, h => by
    cases h with
    | cons h1 h2 => exact .cons (dp_mono e d _ h1) (dpAll_mono e ds _ h2)
end

/-- a value reads as a datum, in the frozen heap -/
def Rv (K : Fr) (F : Hp) (v : V) (d : PyData) : Prop := Dp K F v d ∧ d.canLay0 = true
def Rvs (K : Fr) (F : Hp) (vs : List V) (ds : List PyData) : Prop := DpAll K F vs ds ∧ PyData.canLayAll0 ds = true

section
variable {K : Fr} {F F' : Hp}
theorem Rv.mono {v : V} {d : PyData} (h : Rv K F v d) (e : Same F F') : Rv K F' v d := ⟨dp_mono e d v h.1, h.2⟩
theorem Rvs.mono {vs : List V} {ds : List PyData} (h : Rvs K F vs ds) (e : Same F F') : Rvs K F' vs ds := ⟨dpAll_mono e ds vs h.1, h.2⟩
theorem Rv.non : Rv K F .non .none := ⟨.non, rfl⟩
theorem Rv.bl (b : Bool) : Rv K F (.bl b) (.bool b) := ⟨.bl b, rfl⟩
theorem Rv.int (i : Int) : Rv K F (.int i) (.int i) := ⟨.int i, rfl⟩
theorem Rv.inv_non {v : V} (h : Rv K F v .none) : v = .non := by
  cases h.1; rfl
theorem Rv.inv_bl {v : V} {b : Bool} (h : Rv K F v (.bool b)) : v = .bl b := by
  cases h.1; rfl
theorem Rv.inv_int {v : V} {i : Int} (h : Rv K F v (.int i)) : v = .int i := by
  cases h.1; rfl
theorem Rv.inv_str {v : V} {s : PySem.Str} (h : Rv K F v (.str s)) : v = .str s := by
  cases h.1; rfl
theorem Rv.inv_lst {v : V} {xs : List PyData} (h : Rv K F v (.list xs)) : ∃ a vs, v = .ref a ∧ SqL K F a vs ∧ Rvs K F vs xs := by
  obtain ⟨h1, h2⟩ := h
  cases h1 with
  | lst hs ha => exact ⟨_, _, rfl, hs, ha, by simpa [PyData.canLay0] using h2⟩
theorem Rv.inv_tup {v : V} {xs : List PyData} (h : Rv K F v (.tuple xs)) : ∃ a vs, v = .ref a ∧ SqT K F a vs ∧ Rvs K F vs xs := by
  obtain ⟨h1, h2⟩ := h
  cases h1 with
  | tup hs ha => exact ⟨_, _, rfl, hs, ha, by simpa [PyData.canLay0] using h2⟩
theorem Rv.lst {a : Addr} {vs : List V} {xs : List PyData} (h : SqL K F a vs) (r : Rvs K F vs xs) : Rv K F (.ref a) (.list xs) := ⟨.lst h r.1, by simpa [PyData.canLay0] using r.2⟩
theorem Rv.tup {a : Addr} {vs : List V} {xs : List PyData} (h : SqT K F a vs) (r : Rvs K F vs xs) : Rv K F (.ref a) (.tuple xs) := ⟨.tup h r.1, by simpa [PyData.canLay0] using r.2⟩
theorem Rvs.nil : Rvs K F [] [] := ⟨.nil, rfl⟩
theorem Rvs.cons {v : V} {vs : List V} {d : PyData} {ds : List PyData} (h : Rv K F v d) (r : Rvs K F vs ds) : Rvs K F (v :: vs) (d :: ds) :=
  ⟨.cons h.1 r.1, by simp [PyData.canLayAll0, h.2, r.2]⟩
theorem Rvs.inv_cons {vs : List V} {d : PyData} {ds : List PyData} (h : Rvs K F vs (d :: ds)) : ∃ v vs', vs = v :: vs' ∧ Rv K F v d ∧ Rvs K F vs' ds := by
  obtain ⟨h1, h2⟩ := h
  cases h1 with
  | cons a b =>
    simp only [PyData.canLayAll0, Bool.and_eq_true] at h2
    exact ⟨_, _, rfl, ⟨a, h2.1⟩, b, h2.2⟩
theorem Rvs.inv_nil {vs : List V} (h : Rvs K F vs []) : vs = [] := by
  cases h.1; rfl
theorem Rvs.len : ∀ {vs : List V} {ds : List PyData}, Rvs K F vs ds → vs.length = ds.length
  | vs, [], h => by rw [h.inv_nil]; rfl
  | vs, d :: ds, h => by
    obtain ⟨v, vs', rfl, _, h2⟩ := h.inv_cons
    simp [h2.len]
theorem Rvs.append {vs ws : List V} {ds es : List PyData} (h : Rvs K F vs ds) (r : Rvs K F ws es) : Rvs K F (vs ++ ws) (ds ++ es) := by
  induction ds generalizing vs with
  | nil => rw [h.inv_nil]; exact r
  | cons d ds ih =>
    obtain ⟨v, vs', rfl, h1, h2⟩ := h.inv_cons
    exact .cons h1 (ih h2)
theorem Rvs.get : ∀ {vs : List V} {ds : List PyData} {i : Nat} {d : PyData}, Rvs K F vs ds → ds[i]? = some d → ∃ v, vs[i]? = some v ∧ Rv K F v d
  | vs, [], i, d, h, e => by simp at e
  | vs, d' :: ds, 0, d, h, e => by
    obtain ⟨v, vs', rfl, h1, h2⟩ := h.inv_cons
    simp at e; subst e
    exact ⟨v, by simp, h1⟩
  | vs, d' :: ds, i + 1, d, h, e => by
    obtain ⟨v, vs', rfl, h1, h2⟩ := h.inv_cons
    obtain ⟨w, e2, h3⟩ := Rvs.get (i := i) h2 (by simpa using e)
    exact ⟨w, by simpa using e2, h3⟩
theorem Rvs.get' : ∀ {vs : List V} {ds : List PyData} {i : Nat} {v : V}, Rvs K F vs ds → vs[i]? = some v → ∃ d, ds[i]? = some d ∧ Rv K F v d := by
  intro vs ds i v h e
  have hl := h.len
  have hi : i < vs.length := (List.getElem?_eq_some_iff.mp e).1
  have : ds[i]? = some ds[i] := List.getElem?_eq_getElem (by omega)
  obtain ⟨w, e2, h3⟩ := h.get this
  rw [e] at e2; cases e2
  exact ⟨_, this, h3⟩
theorem Rvs.of_get : ∀ {vs : List V} {ds : List PyData}, vs.length = ds.length → (∀ (i : Nat) (v : V) (d : PyData), vs[i]? = some v → ds[i]? = some d → Rv K F v d) → Rvs K F vs ds
  | [], [], _, _ => .nil
  | [], _ :: _, h, _ => by simp at h
  | _ :: _, [], h, _ => by simp at h
  | v :: vs, d :: ds, h, f => .cons (f 0 v d (by simp) (by simp)) (Rvs.of_get (by simpa using h) fun i v' d' e1 e2 => f (i + 1) v' d' (by simpa using e1) (by simpa using e2))
theorem Rvs.drop {vs : List V} {ds : List PyData} (h : Rvs K F vs ds) (n : Nat) : Rvs K F (vs.drop n) (ds.drop n) :=
  .of_get (by simp [h.len]) fun i v d e1 e2 => by
    rw [List.getElem?_drop] at e1 e2
    obtain ⟨d', e3, r⟩ := h.get' e1
    rw [e2] at e3; cases e3; exact r
theorem Rvs.take {vs : List V} {ds : List PyData} (h : Rvs K F vs ds) (n : Nat) : Rvs K F (vs.take n) (ds.take n) :=
  .of_get (by simp [h.len]) fun i v d e1 e2 => by
    rw [List.getElem?_take] at e1 e2
    split at e1
    · rw [if_pos (by assumption)] at e2
      obtain ⟨d', e3, r⟩ := h.get' e1
      rw [e2] at e3; cases e3; exact r
    · cases e1
theorem Rvs.reverse {vs : List V} {ds : List PyData} (h : Rvs K F vs ds) : Rvs K F vs.reverse ds.reverse := by
  induction ds generalizing vs with
  | nil => rw [h.inv_nil]; exact .nil
  | cons d ds ih =>
    obtain ⟨v, vs', rfl, h1, h2⟩ := h.inv_cons
    rw [List.reverse_cons, List.reverse_cons]
    exact (ih h2).append (.cons h1 .nil)
theorem Rvs.rep {vs : List V} {ds : List PyData} (h : Rvs K F vs ds) : ∀ k : Nat, Rvs K F (List.replicate k vs).flatten (List.replicate k ds).flatten
  | 0 => .nil
  | k + 1 => by
    rw [List.replicate_succ, List.replicate_succ, List.flatten_cons, List.flatten_cons]
    exact h.append (h.rep k)
theorem Rvs.set {vs : List V} {ds : List PyData} {v : V} {d : PyData} (h : Rvs K F vs ds) (r : Rv K F v d) (j : Nat) : Rvs K F (vs.set j v) (ds.set j d) :=
  .of_get (by simp [h.len]) fun i v' d' e1 e2 => by
    rw [List.getElem?_set] at e1 e2
    split at e1
    · rename_i hj
      subst hj
      rw [if_pos rfl] at e2
      split at e1
      · rw [if_pos (by rw [← h.len]; assumption)] at e2
        cases e1; cases e2; exact r
      · cases e1
    · rename_i hj
      rw [if_neg hj] at e2
      obtain ⟨d', e3, r⟩ := h.get' e1
      rw [e2] at e3; cases e3; exact r
theorem Rvs.eraseIdx : ∀ {vs : List V} {ds : List PyData} (j : Nat), Rvs K F vs ds → Rvs K F (vs.eraseIdx j) (ds.eraseIdx j)
  | vs, [], j, h => by rw [h.inv_nil]; exact .nil
  | vs, d :: ds, 0, h => by
    obtain ⟨v, vs', rfl, h1, h2⟩ := h.inv_cons
    exact h2
  | vs, d :: ds, j + 1, h => by
    obtain ⟨v, vs', rfl, h1, h2⟩ := h.inv_cons
    exact .cons h1 (Rvs.eraseIdx j h2)
theorem Rvs.dropLast {vs : List V} {ds : List PyData} (h : Rvs K F vs ds) : Rvs K F vs.dropLast ds.dropLast := by
  rw [List.dropLast_eq_take, List.dropLast_eq_take, h.len]
  exact h.take _
theorem Rvs.ints : ∀ {vs : List V} {ns : List Int}, Rvs K F vs (ns.map .int) → vs = ns.map V.int
  | vs, [], h => h.inv_nil
  | vs, n :: ns, h => by
    obtain ⟨v, vs', rfl, h1, h2⟩ := Rvs.inv_cons (ds := ns.map .int) h
    rw [h1.inv_int, Rvs.ints h2]; rfl
theorem Rvs.bls : ∀ {vs : List V} {ns : List Bool}, Rvs K F vs (ns.map .bool) → vs = ns.map V.bl
  | vs, [], h => h.inv_nil
  | vs, n :: ns, h => by
    obtain ⟨v, vs', rfl, h1, h2⟩ := Rvs.inv_cons (ds := ns.map .bool) h
    rw [h1.inv_bl, Rvs.bls h2]; rfl
end

/-! ### states -/
/-- the tables of code objects (of the defs that make lambdas) -/
class TabEnv where
  tabs : List (Addr × PySem.Str)
variable [TabEnv]
/-- the dice -/
def Dice0 (dc : Option Addr) (F H : Hp) : DS → Prop
  | none => dc = none
  | some (c, n) => ∃ a, dc = some a ∧ H a = some (.lst [.int c, .int n]) ∧ F a = none
def TabsOk (H : Hp) : Prop := LamX.Tabs TabEnv.tabs H
/-- no table is frozen -/
def NoTab (F : Hp) : Prop := ∀ a ps, F a ≠ some (.tbl ps)
structure TF (F H : Hp) : Prop where
  t : TabsOk H
  n : NoTab F
def DiceOk (dc : Option Addr) (F H : Hp) (D : DS) : Prop := Dice0 dc F H D ∧ TF F H
theorem Dice0.there {dc : Option Addr} {F H : Hp} {D : DS} (h : Dice0 dc F H D) {a : Addr} (e : dc = some a) : ∃ c n, H a = some (.lst [.int c, .int n]) ∧ F a = none := by
  cases D with
  | none => rw [show dc = none from h] at e; cases e
  | some p =>
    obtain ⟨b, e1, e2, e3⟩ := h
    rw [e1] at e; cases e
    exact ⟨_, _, e2, e3⟩
theorem DiceOk.there {dc : Option Addr} {F H : Hp} {D : DS} (h : DiceOk dc F H D) {a : Addr} (e : dc = some a) : ∃ o, H a = some o ∧ F a = none := by
  obtain ⟨c, n, h1, h2⟩ := h.1.there e
  exact ⟨_, h1, h2⟩
/-- tables are let alone by what changes lists, and makes new things -/
theorem TabsOk.chg {H H' : Hp} (t : TabsOk H) (k : ∀ a o, H a = some o → (∀ xs, o ≠ .lst xs) → H' a = some o) : TabsOk H' := fun p hp => by
  obtain ⟨ps, h1, h2, h3⟩ := t p hp
  refine ⟨ps, k _ _ h1 (fun xs z => by cases z), h2, fun pos cv hc => ?_⟩
  obtain ⟨c, e1, e2⟩ := h3 pos cv hc
  exact ⟨c, e1, k _ _ e2 fun xs z => by cases z⟩
theorem TabsOk.upd {H : Hp} (t : TabsOk H) {p : Addr} {o : HO} (h : H p = none ∨ ∃ xs, H p = some (.lst xs)) : TabsOk (L2.upd H p o) := t.chg fun a u e n => by
  by_cases q : a = p
  · subst q
    rcases h with h | ⟨xs, h⟩
    · rw [h] at e; cases e
    · rw [h] at e; cases e; exact absurd rfl (n xs)
  · rw [upd_ne q]; exact e

theorem NoTab.upd {F : Hp} (n : NoTab F) {p : Addr} {o : HO} (h : ∀ ps, o ≠ .tbl ps) : NoTab (L2.upd F p o) := fun a ps e => by
  by_cases q : a = p
  · subst q; rw [upd_same] at e; exact h ps (Option.some.inj e)
  · rw [upd_ne q] at e; exact n a ps e
theorem TF.upd {F H : Hp} (t : TF F H) {p : Addr} {o : HO} (h : H p = none ∨ ∃ xs, H p = some (.lst xs)) : TF F (L2.upd H p o) := ⟨t.t.upd h, t.n⟩
theorem TF.frz {F H : Hp} (t : TF F H) {p : Addr} {o : HO} (h : ∀ ps, o ≠ .tbl ps) : TF (L2.upd F p o) H := ⟨t.t, t.n.upd h⟩

/-- from the frozen heap F and the heap H to F' and H': only new things are frozen, all but the dice and the tables stay -/
structure Stp (dc : Option Addr) (F H F' H' : Hp) (D' : DS) : Prop where
  ff : Same F F'
  fh : Same F' H'
  new : ∀ a o, F' a = some o → F a = none → H a = none
  keep : ∀ a o, H a = some o → some a ≠ dc → (∀ ps, o ≠ .tbl ps) → H' a = some o
  tb : ∀ a ps, H a = some (.tbl ps) → ∃ ps', H' a = some (.tbl ps')
  dice : DiceOk dc F' H' D'

section
variable {dc : Option Addr} {F H F1 H1 F2 H2 : Hp} {D D1 D2 : DS}
theorem Stp.refl (h : Same F H) (d : DiceOk dc F H D) : Stp dc F H F H D := ⟨Same.refl F, h, fun a o e n => (by rw [e] at n; cases n), fun _ _ e _ _ => e, fun _ ps e => ⟨ps, e⟩, d⟩
theorem Stp.there (a : Stp dc F H F1 H1 D1) {x : Addr} {w : HO} (h : H x = some w) : ∃ u, H1 x = some u := by
  by_cases hx : some x = dc
  · obtain ⟨u, e1, _⟩ := a.dice.there hx.symm
    exact ⟨u, e1⟩
  · by_cases ht : ∃ ps, w = .tbl ps
    · obtain ⟨ps, rfl⟩ := ht
      obtain ⟨ps', e⟩ := a.tb x ps h
      exact ⟨_, e⟩
    · exact ⟨w, a.keep x w h hx fun ps z => ht ⟨ps, z⟩⟩
/-- what was free is free -/
theorem Stp.back (a : Stp dc F H F1 H1 D1) {x : Addr} (h : H1 x = none) : H x = none := by
  cases y : H x with
  | none => rfl
  | some w =>
    obtain ⟨u, e⟩ := a.there y
    rw [h] at e; cases e
theorem Stp.trans (a : Stp dc F H F1 H1 D1) (b : Stp dc F1 H1 F2 H2 D2) : Stp dc F H F2 H2 D2 := by
  refine ⟨a.ff.trans b.ff, b.fh, fun x o e n => ?_, fun x o e h t => b.keep x o (a.keep x o e h t) h t, fun x ps e => ?_, b.dice⟩
  · cases q : F1 x with
    | some u => exact a.new x u q n
    | none => exact a.back (b.new x o e q)
  · obtain ⟨ps1, e1⟩ := a.tb x ps e
    exact b.tb x ps1 e1
theorem Stp.own (a : Stp dc F H F1 H1 D1) {x : Addr} {o : HO} (h : H x = some o) (n : F x = none) : F1 x = none := by
  cases y : F1 x with
  | none => rfl
  | some w => rw [a.new x w y n] at h; cases h
end

/-- a list of the frame's own -/
def OwnAt (K : Fr) (F H : Hp) (dc : Option Addr) (v : V) (xs : List PyData) : Prop :=
  ∃ a vs, v = .ref a ∧ H a = some (.lst vs) ∧ F a = none ∧ some a ≠ dc ∧ Rvs K F vs xs
theorem OwnAt.step {K : Fr} {dc : Option Addr} {F H F1 H1 : Hp} {D1 : DS} {v : V} {xs : List PyData} (h : OwnAt K F H dc v xs) (s : Stp dc F H F1 H1 D1) : OwnAt K F1 H1 dc v xs := by
  obtain ⟨a, vs, rfl, e1, e2, e3, r⟩ := h
  exact ⟨a, vs, rfl, s.keep a _ e1 e3 (fun _ z => by cases z), s.own e1 e2, e3, r.mono s.ff⟩

/-- a value that is looked at and not kept -/
def VP (K : Fr) (F H : Hp) (dc : Option Addr) (v : V) (d : PyData) : Prop := Rv K F v d ∨ ∃ xs, d = .list xs ∧ OwnAt K F H dc v xs
theorem VP.step {K : Fr} {dc : Option Addr} {F H F1 H1 : Hp} {D1 : DS} {v : V} {d : PyData} (h : VP K F H dc v d) (s : Stp dc F H F1 H1 D1) : VP K F1 H1 dc v d := by
  rcases h with h | ⟨xs, e, h⟩
  · exact .inl (h.mono s.ff)
  · exact .inr ⟨xs, e, h.step s⟩
section
variable {K : Fr} {F H : Hp} {dc : Option Addr} {v : V}
theorem VP.list {xs : List PyData} (h : VP K F H dc v (.list xs)) (e : Same F H) : ∃ a vs, v = .ref a ∧ SqL K H a vs ∧ Rvs K F vs xs := by
  rcases h with h | ⟨ys, e1, a, vs, rfl, e2, e3, e4, r⟩
  · obtain ⟨a, vs, rfl, hs, r⟩ := h.inv_lst
    exact ⟨a, vs, rfl, Evl.ex_l e hs, r⟩
  · cases e1
    exact ⟨a, vs, rfl, Evl.sq_of e2, r⟩
theorem VP.rv {d : PyData} (h : VP K F H dc v d) (e : Same F H) : Rv K H v d := by
  rcases h with h | ⟨ys, rfl, a, vs, rfl, e2, e3, e4, r⟩
  · exact h.mono e
  · exact .lst (Evl.sq_of e2) (r.mono e)
theorem VP.frz {d : PyData} (h : VP K F H dc v d) (n : ∀ xs, d ≠ .list xs) : Rv K F v d := by
  rcases h with h | ⟨ys, e, _⟩
  · exact h
  · exact absurd e (n ys)
theorem VP.int {i : Int} (h : VP K F H dc v (.int i)) : v = .int i := (h.frz (by intro _ e; cases e)).inv_int
theorem VP.bl {b : Bool} (h : VP K F H dc v (.bool b)) : v = .bl b := (h.frz (by intro _ e; cases e)).inv_bl
theorem VP.str {s : PySem.Str} (h : VP K F H dc v (.str s)) : v = .str s := (h.frz (by intro _ e; cases e)).inv_str
theorem VP.tup {xs : List PyData} (h : VP K F H dc v (.tuple xs)) : ∃ a vs, v = .ref a ∧ SqT K F a vs ∧ Rvs K F vs xs := (h.frz (by intro _ e; cases e)).inv_tup
theorem VP.non (h : VP K F H dc v .none) : v = .non := (h.frz (by intro _ e; cases e)).inv_non
end

/-- how a result is held: kept; looked at; a new list of one's own -/
inductive Md where
  | leak | peek | fresh
def ResOk (m : Md) (K : Fr) (H0 F' H' : Hp) (dc : Option Addr) (v : V) (d : PyData) : Prop := match m with
  | .leak => Rv K F' v d
  | .peek => VP K F' H' dc v d
  | .fresh => match d with
    | .list xs => OwnAt K F' H' dc v xs ∧ ∀ a, v = .ref a → H0 a = none
    | d => Rv K F' v d

/-- what is wanted of a result d -/
def Kont (m : Md) (K : Fr) (dc : Option Addr) (F H : Hp) (D' : DS) (d : PyData) (Q : VK) : Prop :=
  ∀ v F' H', Stp dc F H F' H' D' → ResOk m K H F' H' dc v d → Q v H'

section
variable {m : Md} {K : Fr} {dc : Option Addr} {F H F1 H1 : Hp} {D D1 D' : DS} {d : PyData} {Q : VK}
theorem ResOk.back {H0 H1 F' H' : Hp} {v : V} (b : ∀ a, H1 a = none → H0 a = none) (h : ResOk m K H1 F' H' dc v d) : ResOk m K H0 F' H' dc v d := by
  cases m with
  | leak => exact h
  | peek => exact h
  | fresh =>
    cases d with
    | list xs => exact ⟨h.1, fun a e => b a (h.2 a e)⟩
    | _ => exact h
theorem Kont.step (s : Stp dc F H F1 H1 D1) (k : Kont m K dc F H D' d Q) : Kont m K dc F1 H1 D' d Q := fun v F' H' s' r =>
  k v F' H' (s.trans s') (r.back fun a e => s.back e)
/-- a result that makes nothing -/
theorem Kont.flat {v : V} (k : Kont m K dc F H D d Q) (e : Same F H) (dk : DiceOk dc F H D) (h : Rv K F v d) (n : ∀ xs, d ≠ .list xs) : Q v H := by
  refine k v F H (Stp.refl e dk) ?_
  cases m with
  | leak => exact h
  | peek => exact .inl h
  | fresh => cases d with
    | list xs => exact absurd rfl (n xs)
    | _ => exact h
theorem Kont.same {v : V} (k : Kont .leak K dc F H D d Q) (e : Same F H) (dk : DiceOk dc F H D) (h : Rv K F v d) : Q v H := k v F H (Stp.refl e dk) h
theorem DiceOk.upd {p : Addr} {o : HO} (dk : DiceOk dc F H D) (hp : H p = none) (ff : F p = none) (ho : ∀ ps, o ≠ .tbl ps := by intro _ z; cases z) : DiceOk dc F (upd H p o) D ∧ DiceOk dc (L2.upd F p o) (L2.upd H p o) D := by
  obtain ⟨dk, tk⟩ := dk
  have tk2 : TF F (L2.upd H p o) := tk.upd (.inl hp)
  have tk3 : TF (L2.upd F p o) (L2.upd H p o) := tk2.frz ho
  cases D with
  | none => exact ⟨⟨dk, tk2⟩, ⟨dk, tk3⟩⟩
  | some q =>
    obtain ⟨a, e1, e2, e3⟩ := dk
    have ne : a ≠ p := ne_of_none e2 hp
    exact ⟨⟨⟨a, e1, by rw [upd_ne ne]; exact e2, e3⟩, tk2⟩, ⟨⟨a, e1, by rw [upd_ne ne]; exact e2, by rw [upd_ne ne]; exact e3⟩, tk3⟩⟩
theorem DiceOk.updH {p : Addr} {o : HO} (dk : DiceOk dc F H D) (hp : H p = none) : DiceOk dc F (L2.upd H p o) D := by
  obtain ⟨dk, tk⟩ := dk
  have tk2 : TF F (L2.upd H p o) := tk.upd (.inl hp)
  cases D with
  | none => exact ⟨dk, tk2⟩
  | some q =>
    obtain ⟨a, e1, e2, e3⟩ := dk
    exact ⟨⟨a, e1, by rw [upd_ne (ne_of_none e2 hp)]; exact e2, e3⟩, tk2⟩
theorem DiceOk.ne {p : Addr} (dk : DiceOk dc F H D) (hp : H p = none) : some p ≠ dc := fun e => by
  obtain ⟨o, e1, _⟩ := dk.there e.symm
  rw [hp] at e1; cases e1
/-- a new list -/
theorem Kont.lst {p : Addr} {vs : List V} {xs : List PyData} (k : Kont .fresh K dc F H D (.list xs) Q) (e : Same F H) (dk : DiceOk dc F H D) (hp : H p = none) (r : Rvs K F vs xs) : Q (.ref p) (upd H p (.lst vs)) := by
  have fp : F p = none := e.free hp
  refine k (.ref p) F (upd H p (.lst vs)) ⟨Same.refl F, fun a o h => ?_, fun a o h n => (by rw [h] at n; cases n), fun a o h _ _ => ?_, fun a ps h => ⟨ps, by rw [upd_ne (ne_of_none h hp)]; exact h⟩, (dk.upd hp fp).1⟩ ⟨⟨p, vs, rfl, upd_same, fp, dk.ne hp, r⟩, fun a q => ?_⟩
  · rw [upd_ne (ne_of_none h fp)]; exact e a o h
  · rw [upd_ne (ne_of_none h hp)]; exact h
  · cases q; exact hp
/-- a new tuple -/
theorem Kont.tup {p : Addr} {vs : List V} {xs : List PyData} (k : Kont m K dc F H D (.tuple xs) Q) (e : Same F H) (dk : DiceOk dc F H D) (hp : H p = none) (r : Rvs K F vs xs) : Q (.ref p) (upd H p (.tup vs)) := by
  have fp : F p = none := e.free hp
  have ff : Same F (upd F p (.tup vs)) := fun a o h => by rw [upd_ne (ne_of_none h fp)]; exact h
  have z : Rv K (upd F p (.tup vs)) (.ref p) (.tuple xs) := .tup (Evl.st_of upd_same) (r.mono ff)
  refine k (.ref p) (upd F p (.tup vs)) (upd H p (.tup vs)) ⟨ff, fun a o h => ?_, fun a o h n => ?_, fun a o h _ _ => ?_, fun a ps h => ⟨ps, by rw [upd_ne (ne_of_none h hp)]; exact h⟩, (dk.upd hp fp).2⟩ ?_
  · by_cases q : a = p
    · subst q; rw [upd_same] at h ⊢; exact h
    · rw [upd_ne q] at h ⊢; exact e a o h
  · by_cases q : a = p
    · subst q; exact hp
    · rw [upd_ne q, n] at h; cases h
  · rw [upd_ne (ne_of_none h hp)]; exact h
  · cases m with
    | leak => exact z
    | peek => exact .inl z
    | fresh => exact z
end

/-! ### environments -/
def SlOk (K : Fr) (F H : Hp) (dc : Option Addr) (s : Sl) (o : Option (Option V)) : Prop := match s with
  | .non => True
  | .val d => ∃ v, o = some (some v) ∧ Rv K F v d
  | .own xs => ∃ v, o = some (some v) ∧ OwnAt K F H dc v xs

structure Rel (K : Fr) (N : List PySem.Str) (F H : Hp) (dc : Option Addr) (D : DS) (r : Env) (σ : L2.St) : Prop where
  fh : Same F H
  dice : DiceOk dc F H D
  len : σ.length = r.length
  sl : ∀ (i : Nat) (s : Sl), r[i]? = some s → SlOk K F H dc s σ[i]?
  ownI : ∀ (i j : Nat) (xs ys : List PyData) (v : V), r[i]? = some (.own xs) → r[j]? = some (.own ys) → σ[i]? = some (some v) → σ[j]? = some (some v) → i = j
  dsl : ∀ (j : Nat) (a : Addr), N[j]? = some ("dice" : PySem.Str) → dc = some a → σ[j]? = some (some (.ref a))

theorem SlOk.step {K : Fr} {dc : Option Addr} {F H F1 H1 : Hp} {D1 : DS} {s : Sl} {o : Option (Option V)} (h : SlOk K F H dc s o) (t : Stp dc F H F1 H1 D1) : SlOk K F1 H1 dc s o := by
  cases s with
  | non => trivial
  | val d => obtain ⟨v, e, r⟩ := h; exact ⟨v, e, r.mono t.ff⟩
  | own xs => obtain ⟨v, e, r⟩ := h; exact ⟨v, e, r.step t⟩
theorem Rel.step {K : Fr} {N : List PySem.Str} {dc : Option Addr} {F H F1 H1 : Hp} {D D1 : DS} {r : Env} {σ : L2.St} (h : Rel K N F H dc D r σ) (t : Stp dc F H F1 H1 D1) : Rel K N F1 H1 dc D1 r σ :=
  ⟨t.fh, t.dice, h.len, fun i s e => (h.sl i s e).step t, h.ownI, h.dsl⟩

/-! ### readings by the evaluator -/
/-- where an exception class stands -/
abbrev XA := Nat → Addr
def PostE (m : Md) (K : Fr) (E : XK) (xa : XA) (dc : Option Addr) (F H : Hp) (o : Out PyData) (Q : VK) : Prop := match o with
  | .ok d D' => Kont m K dc F H D' d Q
  | .exc c D' => ∀ F' H', Stp dc F H F' H' D' → E (.ref (xa c)) none H'
  | .stuck => False
def PostA (m : Md) (K : Fr) (E : XK) (xa : XA) (dc : Option Addr) (F H : Hp) (o : Out (List PyData)) (Q : List V → Hp → Prop) : Prop := match o with
  | .ok ds D' => ∀ vs F' H', Stp dc F H F' H' D' → Paired (ResOk m K H F' H' dc) vs ds → Q vs H'
  | .exc c D' => ∀ F' H', Stp dc F H F' H' D' → E (.ref (xa c)) none H'
  | .stuck => False
def PostT (K : Fr) (E : XK) (xa : XA) (dc : Option Addr) (F H : Hp) (o : Out Bool) (Q : Bool → Hp → Prop) : Prop := match o with
  | .ok b D' => ∀ F' H', Stp dc F H F' H' D' → Q b H'
  | .exc c D' => ∀ F' H', Stp dc F H F' H' D' → E (.ref (xa c)) none H'
  | .stuck => False

/-- no object of the module is met as a value -/
abbrev K0 : Fr := []
structure Sig where
  N : List PySem.Str
  E : XK
  xa : XA

def spE (G : Sig) (m : Md) (o : Env → DS → Out PyData) : TE := fun σ H Q => ∃ F dc D r, Rel K0 G.N F H dc D r σ ∧ PostE m K0 G.E G.xa dc F H (o r D) Q
def spA (G : Sig) (m : Md) (o : Env → DS → Out (List PyData)) : TA := fun σ H Q => ∃ F dc D r, Rel K0 G.N F H dc D r σ ∧ PostA m K0 G.E G.xa dc F H (o r D) Q
def spT (G : Sig) (o : Env → DS → Out Bool) : TT := fun σ H Q => ∃ F dc D r, Rel K0 G.N F H dc D r σ ∧ PostT K0 G.E G.xa dc F H (o r D) Q

theorem pe_weak {X : Cx} {e : PySem.Expr} {t t' : TE} (h : PE X e t) (i : ∀ σ H Q, t' σ H Q → t σ H Q) : PE X e t' := ⟨fun pins s σ H Q I q => h.run pins s σ H Q I (i σ H Q q)⟩
theorem pt_weak {X : Cx} {e : PySem.Expr} {t t' : TT} (h : PT X e t) (i : ∀ σ H Q, t' σ H Q → t σ H Q) : PT X e t' := ⟨fun pins s σ H Q I q => h.run pins s σ H Q I (i σ H Q q)⟩
theorem pa_weak {X : Cx} {e : List PySem.Expr} {t t' : TA} (h : PA X e t) (i : ∀ σ H Q, t' σ H Q → t σ H Q) : PA X e t' := ⟨fun pos pins s σ H Q I q => h.run pos pins s σ H Q I (i σ H Q q)⟩
theorem ps_weak {X : Cx} {e : PySem.Stmt} {t t' : TS} (h : PS X e t) (i : ∀ D σ H, t' D σ H → t D σ H) : PS X e t' := ⟨fun pins s σ H D I q => h.run pins s σ H D I (i D σ H q)⟩
theorem pss_weak {X : Cx} {e : List PySem.Stmt} {t t' : TS} (h : PSs X e t) (i : ∀ D σ H, t' D σ H → t D σ H) : PSs X e t' := ⟨fun pins s σ H D I q => h.run pins s σ H D I (i D σ H q)⟩

section
variable {G : Sig} {o : Env → DS → Out PyData} {σ : L2.St} {H : Hp} {Q : VK}
theorem kont_fresh_leak {K : Fr} {dc : Option Addr} {F H : Hp} {D' : DS} {d : PyData} {Q : VK} (k : Kont .leak K dc F H D' d Q) : Kont .fresh K dc F H D' d Q := by
  intro v F' H' s r
  cases d with
  | list xs =>
    obtain ⟨⟨a, vs, rfl, e1, e2, e3, rr⟩, hn⟩ := r
    have ff : Same F' (upd F' a (.lst vs)) := fun b o h => by rw [upd_ne (ne_of_none h e2)]; exact h
    refine k (.ref a) (upd F' a (.lst vs)) H' ⟨s.ff.trans ff, fun b o h => ?_, fun b o h n => ?_, s.keep, s.tb, ?_⟩ (.lst (Evl.sq_of upd_same) (rr.mono ff))
    · by_cases q : b = a
      · subst q; rw [upd_same] at h; rw [← h]; exact e1
      · rw [upd_ne q] at h; exact s.fh b o h
    · by_cases q : b = a
      · subst q; exact hn b rfl
      · rw [upd_ne q] at h; exact s.new b o h n
    · obtain ⟨z, zt⟩ := s.dice
      cases D' with
      | none => exact ⟨z, zt.frz (by intro _ q; cases q)⟩
      | some p =>
        obtain ⟨b, f1, f2, f3⟩ := z
        refine ⟨⟨b, f1, f2, ?_⟩, zt.frz (by intro _ q; cases q)⟩
        rw [upd_ne (fun q => e3 (by rw [← q, f1]))]
        exact f3
  | _ => exact k v F' H' s r
theorem kont_fresh_peek {K : Fr} {dc : Option Addr} {F H : Hp} {D' : DS} {d : PyData} {Q : VK} (k : Kont .peek K dc F H D' d Q) : Kont .fresh K dc F H D' d Q := by
  intro v F' H' s r
  refine k v F' H' s ?_
  cases d with
  | list xs => exact .inr ⟨xs, rfl, r.1⟩
  | _ => exact .inl r
theorem kont_leak_peek {K : Fr} {dc : Option Addr} {F H : Hp} {D' : DS} {d : PyData} {Q : VK} (k : Kont .peek K dc F H D' d Q) : Kont .leak K dc F H D' d Q := fun v F' H' s r => k v F' H' s (.inl r)
theorem post_imp {m m' : Md} {K : Fr} {E : XK} {xa : XA} {dc : Option Addr} {F H : Hp} {o : Out PyData} {Q : VK} (i : ∀ d D', Kont m K dc F H D' d Q → Kont m' K dc F H D' d Q) (h : PostE m K E xa dc F H o Q) : PostE m' K E xa dc F H o Q := by
  cases o with
  | ok d D' => exact i d D' h
  | exc c D' => exact h
  | stuck => exact h
theorem sp_fresh_leak (h : spE G .leak o σ H Q) : spE G .fresh o σ H Q := by
  obtain ⟨F, dc, D, r, R, p⟩ := h
  exact ⟨F, dc, D, r, R, post_imp (fun _ _ => kont_fresh_leak) p⟩
theorem sp_fresh_peek (h : spE G .peek o σ H Q) : spE G .fresh o σ H Q := by
  obtain ⟨F, dc, D, r, R, p⟩ := h
  exact ⟨F, dc, D, r, R, post_imp (fun _ _ => kont_fresh_peek) p⟩
theorem sp_leak_peek (h : spE G .peek o σ H Q) : spE G .leak o σ H Q := by
  obtain ⟨F, dc, D, r, R, p⟩ := h
  exact ⟨F, dc, D, r, R, post_imp (fun _ _ => kont_leak_peek) p⟩
end
theorem pe_leak {X : Cx} {G : Sig} {e : PySem.Expr} {o : Env → DS → Out PyData} (h : PE X e (spE G .fresh o)) : PE X e (spE G .leak o) := pe_weak h fun _ _ _ => sp_fresh_leak
theorem pe_peek {X : Cx} {G : Sig} {e : PySem.Expr} {o : Env → DS → Out PyData} (h : PE X e (spE G .leak o)) : PE X e (spE G .peek o) := pe_weak h fun _ _ _ => sp_leak_peek
theorem sqL_K {K : Fr} {H : Hp} {a : Addr} {xs : List V} (h : SqL K0 H a xs) : SqL K H a xs := by
  rcases h with h | ⟨o, its, n, hk, _⟩
  · exact .inl h
  · simp [K0] at hk
theorem sqT_K {K : Fr} {H : Hp} {a : Addr} {xs : List V} (h : SqT K0 H a xs) : SqT K H a xs := by
  rcases h with h | ⟨o, its, n, hk, _⟩
  · exact .inl h
  · simp [K0] at hk
theorem sqL_rd {H : Hp} {a : Addr} {xs : List V} (h : SqL K0 H a xs) : Rd H a (.lst xs) := by
  rcases h with h | ⟨o, its, n, hk, _⟩
  · exact h
  · simp [K0] at hk
theorem sqT_rd {H : Hp} {a : Addr} {xs : List V} (h : SqT K0 H a xs) : Rd H a (.tup xs) := by
  rcases h with h | ⟨o, its, n, hk, _⟩
  · exact h
  · simp [K0] at hk
mutual
theorem dp_K {K : Fr} {F : Hp} : ∀ (d : PyData) (v : V), Dp K0 F v d → Dp K F v d
  | .none, v, h => by cases h; exact .non
  | .bool b, v, h => by cases h; exact .bl b
  | .int i, v, h => by cases h; exact .int i
  | .str s, v, h => by cases h; exact .str s
  | .list xs, v, h => by
    cases h with
    | lst hs ha => exact .lst (sqL_K hs) (dpAll_K xs _ ha)
  | .tuple xs, v, h => by
    cases h with
    | tup hs ha => exact .tup (sqT_K hs) (dpAll_K xs _ ha)
  | .dict _, v, h => by cases h
theorem dpAll_K {K : Fr} {F : Hp} : ∀ (ds : List PyData) (vs : List V), DpAll K0 F vs ds → DpAll K F vs ds
  | [], vs, h => by cases h; exact .nil
  | d :: ds, vs, h => by
    cases h with
    | cons h1 h2 => exact .cons (dp_K d _ h1) (dpAll_K ds _ h2)
end
end Dk

set_option Elab.async false
set_option linter.all false
set_option maxRecDepth 100000
/-! Sound2: operators on values. -/
namespace Dk
open PySem PySem.Spec PyProof.Rows L2
variable [TabEnv]

theorem szL_eq : szL = sizeLine := rfl

/-! ### numbers -/
theorem small64_lt {i : Int} (h : small64 i = true) : -(2 ^ 64) < i ∧ i < 2 ^ 64 := by
  have := of_decide_eq_true h
  omega
theorem small1k_log {i : Int} (h : small1k i = true) : i.natAbs < 2 ^ 1000 := of_decide_eq_true h

/-! ### lists, wider -/
section
variable {X : Cx}
theorem Inv.rd {pins : List (Addr × Obj)} {σ : L2.St} {H : Hp} {s : Shared} {l : Addr} {xs : List V} (I : Inv X pins σ H s) (h : Rd H l (.lst xs)) :
    xs.length ≤ sizeLine ∧ ∃ (its : List Value) (n : Nat), Vals xs its ∧ xs.length = its.length ∧ s.heap.get? l = some { cls := .type "list", data := .seq its.toArray n } := by
  obtain ⟨z, its, n, r, e⟩ := (show ObjOk X.prog X.w H s.heap l (.lst xs) from h.ok I.hok)
  exact ⟨z, its, n, r, r.length, e⟩
def rCatR : R2 := fun x y H Q => ∃ l b xs zs, x = .ref l ∧ y = .ref b ∧ Rd H l (.lst xs) ∧ Rd H b (.lst zs) ∧ xs.length + zs.length ≤ sizeLine ∧ ∀ p, H p = none → Q (.ref p) (upd H p (.lst (xs ++ zs)))
theorem op_catR : OpR X (binaryOp .Add) rCatR := by
  intro pins s σ H x y v u Q I rx ry h
  obtain ⟨l, b, xs, zs, rfl, rfl, hH, hB, hz, q⟩ := h
  cases rx
  cases ry
  obtain ⟨z, its, n, r, hl, e⟩ := Inv.rd I hH
  obtain ⟨z2, its2, n2, r2, hl2, e2⟩ := Inv.rd I hB
  refine PySem.P.add_list e e2 ?_ (by rw [List.size_toArray, List.size_toArray]; omega)
  have ea : its.toArray ++ its2.toArray = (its ++ its2).toArray := by simp
  rw [ea]
  exact ⟨.ref _, _, I.lnew (t' := s.toks) (r.append r2) (by rw [List.length_append]; omega), rfl, q _ I.fresh⟩
def rRepR : R2 := fun x y H Q => ∃ l k xs, x = .ref l ∧ y = .int k ∧ Rd H l (.lst xs) ∧ -(2 ^ 63) ≤ k ∧ k < 2 ^ 63 ∧ xs.length * k.toNat ≤ sizeLine ∧
  ∀ p, H p = none → Q (.ref p) (upd H p (.lst (List.replicate k.toNat xs).flatten))
theorem op_repR : OpR X (binaryOp .Mult) rRepR := by
  intro pins s σ H x y v u Q I rx ry h
  obtain ⟨l, k, xs, rfl, rfl, hH, h1, h2, hz, q⟩ := h
  cases rx
  obtain ⟨t, rfl⟩ := ry
  obtain ⟨z, its, n, r, hl, e⟩ := Inv.rd I hH
  have hlen : its.toArray.size * k.toNat ≤ sizeLine := by rw [List.size_toArray, ← hl]; exact hz
  have hcap : ¬ its.toArray.size * k.toNat > (2 ^ 63 - 1) / 8 := by
    have : (sizeLine : Nat) ≤ (2 ^ 63 - 1) / 8 := by decide
    omega
  have hfit : ¬ (!Builtin.List.listFitsIndex k) = true := by
    rw [fitsIndex_both h1 h2]
    exact Bool.false_ne_true
  have hlong : ¬ Builtin.List.listTooLong (its.toArray.size * k.toNat) = true := by
    rw [notLongL hlen]
    exact Bool.false_ne_true
  have hnew : List.foldl (fun x1 x2 => x1 ++ x2) #[] (List.replicate (if its.toArray.isEmpty = true then 0 else k.toNat) its.toArray) = (List.replicate k.toNat its).flatten.toArray := by
    rw [size_rep its]
    cases its with
    | nil => simp
    | cons a r' => rw [if_neg (by simp)]
  refine wpAny_binaryOp_repeat_ref (T := "list") (U := "int") (by decide) ⟨_, e, rfl⟩ (fun s' => typeIs_int s' k t) noFill_list_mul F.fills_int_mul F.slot_int_rmul repeat_list F.slot_int_index.lookup
    (call_meets F.slot_int_rmul (typeIs_int s k t) F.entry_int_rmul (F.args_int_rmul_2 _ _) (int___rmul___int_list k t l its.toArray n)
      ⟨e, rfl, ⟨_, e, rfl⟩, call_meets F.slot_list_mul ⟨_, e, rfl⟩ F.entry_list_mul (F.args_list_mul_2 _ _) (AutoListH.list___mul___list_int_3 l its.toArray n k t hfit hcap hlong) ⟨e, ?_⟩⟩)
  rw [hnew]
  exact ⟨.ref _, _, I.lnew (t' := s.toks) (r.rep k.toNat) (by rw [PyProof.Rows.lm_len_rep_flat, Nat.mul_comm]; exact hz), rfl, q _ I.fresh⟩
end

/-! ### two-place operators -/
def bop : BOp → PySem.Operator
  | .add => .Add | .sub => .Sub | .mul => .Mult | .fdiv => .FloorDiv | .mod => .Mod | .pow => .Pow | .shl => .LShift
def cop : COp → PySem.CmpOp
  | .eq => .Eq | .ne => .NotEq | .lt => .Lt | .le => .LtE | .gt => .Gt | .ge => .GtE | .isIn => .In | .notIn => .NotIn | .is => .Is | .isNot => .IsNot

/-- an operation's reading serves the evaluator's -/
def Serves (r : R2) (g : PyData → PyData → Option PyData) : Prop := ∀ (F H : Hp) (dc : Option Addr) (D : DS) (x y : V) (dx dy d : PyData) (Q : VK), Same F H → DiceOk dc F H D →
  VP K0 F H dc x dx → VP K0 F H dc y dy → g dx dy = some d → Kont .fresh K0 dc F H D d Q → r x y H Q

theorem strOk_append {a b : PySem.Str} (h1 : (PyData.str a).canLay0 = true) (h2 : (PyData.str b).canLay0 = true) : (PyData.str (a ++ b)).canLay0 = true := by
  simp only [PyData.canLay0, PyData.strOk] at h1 h2 ⊢
  have e : (a ++ b).cps = a.cps ++ b.cps := rfl
  rw [e, Array.all_append, h1, h2]
  rfl

section
variable {X : Cx}
theorem serves_add : ∃ r, OpR X (binaryOp .Add) r ∧ Serves r (binD .add) := by
  refine ⟨_, op_add.or (op_catR.or (op_catA.or op_add_str)), ?_⟩
  intro F H dc D x y dx dy d Q e dk hx hy hd k
  cases dx <;> cases dy <;> simp only [binD] at hd <;> try (simp at hd; done)
  · rename_i i j
    cases hd
    exact .inl ⟨i, j, hx.int, hy.int, k.flat e dk (.int _) (by intro _ q; cases q)⟩
  · rename_i a b
    split at hd
    · rename_i hl
      cases hd
      rw [hx.str, hy.str]
      refine .inr (.inr (.inr ⟨a, b, rfl, rfl, hl, k.flat e dk ⟨.str _, strOk_append (hx.frz (by intro _ q; cases q)).2 (hy.frz (by intro _ q; cases q)).2⟩ (by intro _ q; cases q)⟩))
    · cases hd
  · rename_i a b
    split at hd
    · rename_i hl
      cases hd
      obtain ⟨p, vs, rfl, hs, rv⟩ := hx.list e
      obtain ⟨q, ws, rfl, ht, rw_⟩ := hy.list e
      refine .inr (.inl ⟨p, q, vs, ws, rfl, rfl, sqL_rd hs, sqL_rd ht, by rw [rv.len, rw_.len]; exact hl, fun z hz => k.lst e dk hz (rv.append rw_)⟩)
    · cases hd
  · rename_i a b
    split at hd
    · rename_i hl
      cases hd
      obtain ⟨p, vs, rfl, hs, rv⟩ := hx.tup
      obtain ⟨q, ws, rfl, ht, rw_⟩ := hy.tup
      have nl : ∀ xs, PyData.tuple (a ++ b) ≠ .list xs := by intro _ q; cases q
      refine .inr (.inr (.inl ⟨p, q, vs, ws, rfl, rfl, sqT_K (Evl.ex_t e hs), sqT_K (Evl.ex_t e ht), by rw [rv.len, rw_.len]; exact hl, fun z => ?_, fun _ z => ?_, fun _ _ z hz => k.tup e dk hz (rv.append rw_)⟩))
      · have za : a = [] := by
          have := rv.len
          rw [z] at this
          exact List.eq_nil_of_length_eq_zero this.symm
        subst za
        exact k.flat e dk (.tup ht rw_) nl
      · have za : b = [] := by
          have := rw_.len
          rw [z] at this
          exact List.eq_nil_of_length_eq_zero this.symm
        subst za
        rw [List.append_nil] at k nl
        exact k.flat e dk (.tup hs rv) nl
    · cases hd

theorem serves_mul : ∃ r, OpR X (binaryOp .Mult) r ∧ Serves r (binD .mul) := by
  refine ⟨_, op_mul.or (op_mulW.or (op_repR.or op_repT)), ?_⟩
  intro F H dc D x y dx dy d Q e dk hx hy hd k
  cases dx <;> cases dy <;> simp only [binD] at hd <;> try (simp at hd; done)
  · rename_i i j
    split at hd
    · rename_i hl
      cases hd
      have q := k.flat e dk (.int _) (by intro _ q; cases q)
      simp only [Bool.or_eq_true, Bool.and_eq_true] at hl
      rcases hl with (hl | hl) | ⟨h1, h2⟩
      · exact .inl ⟨i, j, hx.int, hy.int, .inl (small64_lt hl), q⟩
      · exact .inl ⟨i, j, hx.int, hy.int, .inr (small64_lt hl), q⟩
      · exact .inr (.inl ⟨i, j, hx.int, hy.int, wide_mul (small1k_log h1) (small1k_log h2) (by decide) (by decide) (by decide), q⟩)
    · cases hd
  · rename_i a n
    split at hd
    · rename_i hl
      cases hd
      obtain ⟨p, vs, rfl, hs, rv⟩ := hx.list e
      have e1 := rv.len
      refine .inr (.inr (.inl ⟨p, n, vs, rfl, hy.int, sqL_rd hs, by omega, by omega, ?_, fun z hz => k.lst e dk hz (rv.rep _)⟩))
      have : vs.length * n.toNat ≤ 1000 * 1000 := Nat.mul_le_mul (by omega) (by omega)
      have : (1000 * 1000 : Nat) ≤ sizeLine := by decide
      omega
    · cases hd
  · rename_i a n
    split at hd
    · rename_i hl
      cases hd
      obtain ⟨p, vs, rfl, hs, rv⟩ := hx.tup
      have e1 := rv.len
      refine .inr (.inr (.inr ⟨p, n, vs, rfl, hy.int, sqT_K (Evl.ex_t e hs), ?_, hl.2.2.1, hl.2.1, by omega, fun z hz => k.tup e dk hz (rv.rep _)⟩))
      intro z
      rw [z] at e1
      have := List.eq_nil_of_length_eq_zero e1.symm
      subst this
      exact absurd hl.2.2.2 (by decide)
    · cases hd

theorem serves_int {op : PySem.Operator} {C : Int → Int → Prop} {g : Int → Int → Int} {b : BOp} (ho : OpR X (binaryOp op) (rI C fun i j => .int (g i j)))
    (h : ∀ dx dy d, binD b dx dy = some d → ∃ i j, dx = .int i ∧ dy = .int j ∧ C i j ∧ d = .int (g i j)) : ∃ r, OpR X (binaryOp op) r ∧ Serves r (binD b) := by
  refine ⟨_, ho, ?_⟩
  intro F H dc D x y dx dy d Q e dk hx hy hd k
  obtain ⟨i, j, rfl, rfl, c, rfl⟩ := h dx dy d hd
  exact ⟨i, j, hx.int, hy.int, c, k.flat e dk (.int _) (by intro _ q; cases q)⟩

theorem serves_bin (b : BOp) : ∃ r, OpR X (binaryOp (bop b)) r ∧ Serves r (binD b) := by
  cases b with
  | add => exact serves_add
  | mul => exact serves_mul
  | sub =>
    refine serves_int (C := fun _ _ => True) (g := fun i j => i - j) (b := .sub) (op := .Sub) ?_ ?_
    · intro pins s σ H x y v u Q I rx ry ⟨i, j, e1, e2, _, q⟩
      exact op_sub pins s σ H x y v u Q I rx ry ⟨i, j, e1, e2, q⟩
    · intro dx dy d h
      cases dx <;> cases dy <;> simp only [binD] at h <;> try (simp at h; done)
      cases h
      exact ⟨_, _, rfl, rfl, trivial, rfl⟩
  | fdiv =>
    refine serves_int (op := .FloorDiv) (b := .fdiv) op_fdivW ?_
    intro dx dy d h
    cases dx <;> cases dy <;> simp only [binD] at h <;> try (simp at h; done)
    split at h
    · rename_i hl
      cases h
      exact ⟨_, _, rfl, rfl, wide_div hl.1 (small1k_log hl.2) (by decide) (by decide), rfl⟩
    · cases h
  | mod =>
    refine serves_int (op := .Mod) (b := .mod) op_mod ?_
    intro dx dy d h
    cases dx <;> cases dy <;> simp only [binD] at h <;> try (simp at h; done)
    split at h
    · rename_i hl
      cases h
      exact ⟨_, _, rfl, rfl, hl, rfl⟩
    · cases h
  | pow =>
    refine serves_int (op := .Pow) (b := .pow) op_pow ?_
    intro dx dy d h
    cases dx <;> cases dy <;> simp only [binD] at h <;> try (simp at h; done)
    split at h
    · rename_i hl
      cases h
      have := small64_lt hl.2.2
      exact ⟨_, _, rfl, rfl, ⟨hl.1, by omega, by omega⟩, rfl⟩
    · cases h
  | shl =>
    refine serves_int (op := .LShift) (b := .shl) op_shl ?_
    intro dx dy d h
    cases dx <;> cases dy <;> simp only [binD] at h <;> try (simp at h; done)
    split at h
    · rename_i hl
      cases h
      have := small64_lt hl.2.2
      exact ⟨_, _, rfl, rfl, ⟨hl.1, by omega, by omega⟩, rfl⟩
    · cases h
end

/-! ### comparisons -/
mutual
theorem eqD_eqv : ∀ a b : PyData, a.canLay0 = true → eqD a b = PyData.eqv a b
  | .none, b, h => by cases b <;> simp [eqD, PyData.eqv]
  | .bool x, b, h => by cases b <;> simp [eqD, PyData.eqv]
  | .int x, b, h => by cases b <;> simp [eqD, PyData.eqv]
  | .str x, b, h => by
    cases b <;> simp [eqD, PyData.eqv]
    rename_i y
    by_cases e : x = y <;> simp [e]
  | .list x, b, h => by
    cases b <;> simp [eqD, PyData.eqv]
    exact eqDs_eqv x _ (by simpa [PyData.canLay0] using h)
  | .tuple x, b, h => by
    cases b <;> simp [eqD, PyData.eqv]
    exact eqDs_eqv x _ (by simpa [PyData.canLay0] using h)
  | .dict x, b, h => by simp [PyData.canLay0] at h
theorem eqDs_eqv : ∀ a b : List PyData, PyData.canLayAll0 a = true → eqDs a b = PyData.eqvAll a b
  | [], b, h => by cases b <;> simp [eqDs, PyData.eqvAll]
  | x :: a, b, h => by
    cases b with
    | nil => simp [eqDs, PyData.eqvAll]
    | cons y b =>
      simp only [PyData.canLayAll0, Bool.and_eq_true] at h
      rw [eqDs, PyData.eqvAll, eqD_eqv x y h.1, eqDs_eqv a b h.2]
end
mutual
theorem depD_eq : ∀ a : PyData, a.canLay0 = true → depD a = a.depth
  | .none, h => by simp [depD, PyData.depth]
  | .bool x, h => by simp [depD, PyData.depth]
  | .int x, h => by simp [depD, PyData.depth]
  | .str x, h => by simp [depD, PyData.depth]
  | .list x, h => by rw [depD, PyData.depth, depDs_eq x (by simpa [PyData.canLay0] using h)]
  | .tuple x, h => by rw [depD, PyData.depth, depDs_eq x (by simpa [PyData.canLay0] using h)]
  | .dict x, h => by simp [PyData.canLay0] at h
theorem depDs_eq : ∀ a : List PyData, PyData.canLayAll0 a = true → depDs a = PyData.depthAll a
  | [], h => by simp [depDs, PyData.depthAll]
  | x :: a, h => by
    simp only [PyData.canLayAll0, Bool.and_eq_true] at h
    rw [depDs, PyData.depthAll, depD_eq x h.1, depDs_eq a h.2]
end
theorem natLt_lt : ∀ a b : List Nat, natLt a b = decide (a < b)
  | [], [] => by simp [natLt]
  | [], b :: y => by simp [natLt]
  | a :: x, [] => by simp [natLt]
  | a :: x, b :: y => by
    rw [natLt, natLt_lt x y]
    by_cases h : a = b
    · subst h; simp [List.cons_lt_cons_iff]
    · rw [if_neg h]; simp [List.cons_lt_cons_iff, h]
end Dk

namespace Dk
open PySem PySem.Spec PyProof.Rows L2
variable [TabEnv]
mutual
theorem ltD_ok : ∀ (a b : PyData) (k : Bool), a.canLay0 = true → ltD a b = some k → PySem.W.alike a b = true ∧ PySem.W.dataLt a b = k
  | .none, b, k, _, h => by
    cases b <;> simp [ltD] at h
    subst h
    exact ⟨by simp [PySem.W.alike], by simp [PySem.W.dataLt, PySem.W.keyToks]; rfl⟩
  | .bool x, b, k, _, h => by
    cases b <;> simp [ltD] at h
    rename_i y
    subst h
    refine ⟨by simp [PySem.W.alike], ?_⟩
    rw [PySem.W.dataLt_bool]
    cases x <;> cases y <;> rfl
  | .int x, b, k, _, h => by
    cases b <;> simp [ltD] at h
    subst h
    exact ⟨by simp [PySem.W.alike], PySem.W.dataLt_int _ _⟩
  | .str x, b, k, _, h => by
    cases b <;> simp [ltD] at h
    subst h
    exact ⟨by simp [PySem.W.alike], by rw [PySem.W.dataLt_str, natLt_lt]⟩
  | .list x, b, k, l, h => by
    cases b <;> simp [ltD] at h
    rename_i y
    obtain ⟨h1, h2⟩ := ltDs_ok x y k (by simpa [PyData.canLay0] using l) h
    exact ⟨by simpa [PySem.W.alike] using h1, by rw [PySem.W.dataLt_list]; exact h2⟩
  | .tuple x, b, k, l, h => by
    cases b <;> simp [ltD] at h
    rename_i y
    obtain ⟨h1, h2⟩ := ltDs_ok x y k (by simpa [PyData.canLay0] using l) h
    exact ⟨by simpa [PySem.W.alike] using h1, by rw [PySem.W.dataLt_tuple]; exact h2⟩
  | .dict _, b, k, _, h => by cases b <;> simp [ltD] at h
theorem ltDs_ok : ∀ (a b : List PyData) (k : Bool), PyData.canLayAll0 a = true → ltDs a b = some k → PySem.W.alikeAll a b = true ∧ PyProof.Rows.lexLt itemOrd (PySem.W.keyToksAll a) (PySem.W.keyToksAll b) = k
  | [], [], k, _, h => by
    simp [ltDs] at h; subst h
    exact ⟨by simp [PySem.W.alikeAll], by simp [PySem.W.keyToksAll]; rfl⟩
  | [], y :: b, k, _, h => by
    simp [ltDs] at h; subst h
    exact ⟨by simp [PySem.W.alikeAll], by simp [PySem.W.keyToksAll]; rfl⟩
  | x :: a, [], k, _, h => by
    simp [ltDs] at h; subst h
    exact ⟨by simp [PySem.W.alikeAll], by simp [PySem.W.keyToksAll]; rfl⟩
  | x :: a, y :: b, k, l, h => by
    simp only [PyData.canLayAll0, Bool.and_eq_true] at l
    rw [ltDs] at h
    cases e1 : ltD x y with
    | none => rw [e1] at h; simp at h
    | some p =>
      cases e2 : ltDs a b with
      | none => rw [e1, e2] at h; simp at h
      | some q =>
        rw [e1, e2] at h
        obtain ⟨h1, h2⟩ := ltD_ok x y p l.1 e1
        obtain ⟨h3, h4⟩ := ltDs_ok a b q l.2 e2
        refine ⟨by simp [PySem.W.alikeAll, h1, h3], ?_⟩
        rw [PySem.W.dataLt_cons h1, ← eqD_eqv x y l.1, h2, h4]
        simpa using h
end

def cmpV (op : COp) (a b : PyData) : Option PyData := (cmpD op a b).map PyData.bool

section
variable {X : Cx}
def rEqM (K : Fr) : R2 := fun x y H Q => ∃ d e, Dp K H x d ∧ Dp K H y e ∧ d.canLay0 = true ∧ e.canLay0 = true ∧ min d.depth e.depth ≤ 60 ∧ Q (.bl (PyData.eqv d e)) H
def rNeM (K : Fr) : R2 := fun x y H Q => ∃ d e, Dp K H x d ∧ Dp K H y e ∧ d.canLay0 = true ∧ e.canLay0 = true ∧ min d.depth e.depth ≤ 60 ∧ Q (.bl (!PyData.eqv d e)) H
theorem op_eqM (hu : X.A.units + 64 < cLine) : OpR X (compareOp .Eq) (rEqM X.K) := by
  intro pins s σ H x y v u Q I rx ry h
  obtain ⟨d, e, hd, he, sd, se, hm, q⟩ := h
  obtain ⟨as, r1⟩ := Dp.reads I d x v hd rx
  obtain ⟨bs, r2⟩ := Dp.reads I e y u he ry
  exact SeqAt.compareEq_reads r1 r2 sd se (by omega) ⟨.bl _, H, I, rfl, q⟩
theorem op_neM (hu : X.A.units + 64 < cLine) : OpR X (compareOp .NotEq) (rNeM X.K) := by
  intro pins s σ H x y v u Q I rx ry h
  obtain ⟨d, e, hd, he, sd, se, hm, q⟩ := h
  obtain ⟨as, r1⟩ := Dp.reads I d x v hd rx
  obtain ⟨bs, r2⟩ := Dp.reads I e y u he ry
  exact SeqAt.compareNe_reads r1 r2 sd se (by omega) ⟨.bl _, H, I, rfl, q⟩
def rLtM (K : Fr) : R2 := fun x y H Q => ∃ d e, Dp K H x d ∧ Dp K H y e ∧ PySem.W.alike d e = true ∧ d ≠ .none ∧ min d.depth e.depth ≤ 60 ∧ Q (.bl (PySem.W.dataLt d e)) H
theorem op_ltM (hu : X.A.units + 64 < cLine) : OpR X (compareOp .Lt) (rLtM X.K) := by
  intro pins s σ H x y v u Q I rx ry h
  obtain ⟨d, e, hd, he, sd, se, hm, q⟩ := h
  obtain ⟨as, r1⟩ := Dp.reads I d x v hd rx
  obtain ⟨bs, r2⟩ := Dp.reads I e y u he ry
  exact PySem.W.lt_data r1 r2 sd se (by omega) ⟨.bl _, H, I, rfl, q⟩
def rInM (K : Fr) (neg : Bool) : R2 := fun x y H Q => ∃ d ds, Dp K H x d ∧ (Dp K H y (.list ds) ∨ Dp K H y (.tuple ds)) ∧ d.canLay0 = true ∧ PyData.canLayAll0 ds = true ∧ d.depth ≤ 60 ∧ Q (.bl (if neg then !ds.any fun z => PyData.eqv z d else ds.any fun z => PyData.eqv z d)) H
theorem op_inM (hu : X.A.units + 65 < cLine) : OpR X (compareOp .In) (rInM X.K false) := by
  intro pins s σ H x y v u Q I rx ry h
  obtain ⟨d, ds, hd, he, sd, se, hm, q⟩ := h
  obtain ⟨as, r1⟩ := Dp.reads I d x v hd rx
  rcases he with he | he
  · obtain ⟨bs, r2⟩ := Dp.reads I (.list ds) y u he ry
    exact SeqAt.in_list_reads r2 r1 se sd (by omega) ⟨.bl _, H, I, rfl, q⟩
  · obtain ⟨bs, r2⟩ := Dp.reads I (.tuple ds) y u he ry
    exact SeqAt.in_tuple_reads r2 r1 se sd (by omega) ⟨.bl _, H, I, rfl, q⟩
theorem op_notInM (hu : X.A.units + 65 < cLine) : OpR X (compareOp .NotIn) (rInM X.K true) := by
  intro pins s σ H x y v u Q I rx ry h
  obtain ⟨d, ds, hd, he, sd, se, hm, q⟩ := h
  obtain ⟨as, r1⟩ := Dp.reads I d x v hd rx
  rcases he with he | he
  · obtain ⟨bs, r2⟩ := Dp.reads I (.list ds) y u he ry
    exact SeqAt.notIn_list_reads r2 r1 se sd (by omega) ⟨.bl _, H, I, rfl, q⟩
  · obtain ⟨bs, r2⟩ := Dp.reads I (.tuple ds) y u he ry
    exact SeqAt.notIn_tuple_reads r2 r1 se sd (by omega) ⟨.bl _, H, I, rfl, q⟩

theorem kont_bool {F H : Hp} {dc : Option Addr} {D : DS} {b : Bool} {Q : VK} (k : Kont .fresh K0 dc F H D (.bool b) Q) (e : Same F H) (dk : DiceOk dc F H D) : Q (.bl b) H :=
  k.flat e dk (.bl b) (by intro _ q; cases q)
theorem any_congr {xs : List PyData} {a : PyData} (h : PyData.canLayAll0 xs = true) : (xs.any fun x => eqD x a) = xs.any fun x => PyData.eqv x a := by
  induction xs with
  | nil => rfl
  | cons x xs ih =>
    simp only [PyData.canLayAll0, Bool.and_eq_true] at h
    rw [List.any_cons, List.any_cons, ih h.2, eqD_eqv x a h.1]
theorem vp_row {F H : Hp} {dc : Option Addr} {y : V} {dy : PyData} {xs : List PyData} (e : Same F H) (hy : VP K0 F H dc y dy) (h : rowOf dy = some xs) :
    (Dp X.K H y (.list xs) ∨ Dp X.K H y (.tuple xs)) ∧ PyData.canLayAll0 xs = true := by
  have z := hy.rv e
  cases dy <;> simp [rowOf] at h
  · subst h
    exact ⟨.inl (dp_K _ _ z.1), by simpa [PyData.canLay0] using z.2⟩
  · subst h
    exact ⟨.inr (dp_K _ _ z.1), by simpa [PyData.canLay0] using z.2⟩
theorem vp_non {F H : Hp} {dc : Option Addr} {x : V} {dx : PyData} (hx : VP K0 F H dc x dx) : decide (x = .non) = (match dx with | .none => true | _ => false) := by
  rcases hx with h | ⟨xs, rfl, a, vs, rfl, _⟩
  · obtain ⟨h, _⟩ := h
    cases h <;> simp
  · simp
end
end Dk

namespace Dk
open PySem PySem.Spec PyProof.Rows L2
variable [TabEnv]
section
variable {X : Cx}
theorem serves_cmp (hu : X.A.units + 65 < cLine) (op : COp) : ∃ r, OpR X (compareOp (cop op)) r ∧ Serves r (cmpV op) := by
  have hu' : X.A.units + 64 < cLine := by omega
  cases op with
  | eq =>
    refine ⟨_, op_eqM hu', ?_⟩
    intro F H dc D x y dx dy d Q e dk hx hy hd k
    simp only [cmpV, cmpD] at hd
    split at hd
    · rename_i hm
      cases hd
      have zx := hx.rv e
      have zy := hy.rv e
      rw [depD_eq dx zx.2, depD_eq dy zy.2] at hm
      refine ⟨dx, dy, dp_K _ _ zx.1, dp_K _ _ zy.1, zx.2, zy.2, hm, ?_⟩
      rw [← eqD_eqv dx dy zx.2]
      exact kont_bool k e dk
    · simp at hd
  | ne =>
    refine ⟨_, op_neM hu', ?_⟩
    intro F H dc D x y dx dy d Q e dk hx hy hd k
    simp only [cmpV, cmpD] at hd
    split at hd
    · rename_i hm
      cases hd
      have zx := hx.rv e
      have zy := hy.rv e
      rw [depD_eq dx zx.2, depD_eq dy zy.2] at hm
      refine ⟨dx, dy, dp_K _ _ zx.1, dp_K _ _ zy.1, zx.2, zy.2, hm, ?_⟩
      rw [← eqD_eqv dx dy zx.2]
      exact kont_bool k e dk
    · simp at hd
  | lt =>
    refine ⟨_, op_ltM hu', ?_⟩
    intro F H dc D x y dx dy d Q e dk hx hy hd k
    have zx := hx.rv e
    have zy := hy.rv e
    have hn : dx ≠ .none := by
      intro z; subst z
      simp [cmpV, cmpD] at hd
    have hd' : (if min (depD dx) (depD dy) ≤ 60 then ltD dx dy else none).map PyData.bool = some d := by
      cases dx <;> first | exact absurd rfl hn | exact hd
    split at hd'
    · rename_i hm
      cases e1 : ltD dx dy with
      | none => rw [e1] at hd'; simp at hd'
      | some b =>
        rw [e1] at hd'
        simp at hd'
        subst hd'
        obtain ⟨h1, h2⟩ := ltD_ok dx dy b zx.2 e1
        rw [depD_eq dx zx.2, depD_eq dy zy.2] at hm
        refine ⟨dx, dy, dp_K _ _ zx.1, dp_K _ _ zy.1, h1, hn, hm, ?_⟩
        rw [h2]
        exact kont_bool k e dk
    · simp at hd'
  | le =>
    refine ⟨_, op_le, ?_⟩
    intro F H dc D x y dx dy d Q e dk hx hy hd k
    cases dx <;> cases dy <;> simp [cmpV, cmpD] at hd
    subst hd
    exact ⟨_, _, hx.int, hy.int, kont_bool k e dk⟩
  | gt =>
    refine ⟨_, op_gt, ?_⟩
    intro F H dc D x y dx dy d Q e dk hx hy hd k
    cases dx <;> cases dy <;> simp [cmpV, cmpD] at hd
    subst hd
    exact ⟨_, _, hx.int, hy.int, kont_bool k e dk⟩
  | ge =>
    refine ⟨_, op_ge, ?_⟩
    intro F H dc D x y dx dy d Q e dk hx hy hd k
    cases dx <;> cases dy <;> simp [cmpV, cmpD] at hd
    subst hd
    exact ⟨_, _, hx.int, hy.int, kont_bool k e dk⟩
  | isIn =>
    refine ⟨_, op_in_sign.or (op_inM hu), ?_⟩
    intro F H dc D x y dx dy d Q e dk hx hy hd k
    have row : ∀ xs, rowOf dy = some xs → (if depD dx ≤ 60 then some (xs.any fun z => eqD z dx) else none).map PyData.bool = some d → rInM X.K false x y H Q := by
      intro xs hr hd
      obtain ⟨h1, h2⟩ := vp_row (X := X) e hy hr
      split at hd
      · rename_i hm
        have zx := hx.rv e
        simp at hd
        subst hd
        rw [depD_eq dx zx.2] at hm
        refine ⟨dx, xs, dp_K _ _ zx.1, h1, zx.2, h2, hm, ?_⟩
        have z := kont_bool k e dk
        rw [any_congr h2] at z
        exact z
      · simp at hd
    cases dy with
    | str z =>
      cases dx with
      | str a =>
        simp only [cmpV, cmpD, inText] at hd
        split at hd
        · rename_i c hc
          cases hd
          refine .inl ⟨c, z, ?_, hy.str, kont_bool k e dk⟩
          rw [hx.str]
          congr 1
          exact PySem.W.str_of_cps (by simpa using hc)
        · cases hd
      | _ => simp [cmpV, cmpD, rowOf] at hd
    | list xs =>
      refine .inr (row xs rfl ?_)
      cases dx <;> simpa [cmpV, cmpD, rowOf] using hd
    | tuple xs =>
      refine .inr (row xs rfl ?_)
      cases dx <;> simpa [cmpV, cmpD, rowOf] using hd
    | _ => cases dx <;> simp [cmpV, cmpD, rowOf] at hd
  | notIn =>
    refine ⟨_, op_notIn_sign.or (op_notInM hu), ?_⟩
    intro F H dc D x y dx dy d Q e dk hx hy hd k
    have row : ∀ xs, rowOf dy = some xs → (if depD dx ≤ 60 then some (!xs.any fun z => eqD z dx) else none).map PyData.bool = some d → rInM X.K true x y H Q := by
      intro xs hr hd
      obtain ⟨h1, h2⟩ := vp_row (X := X) e hy hr
      split at hd
      · rename_i hm
        have zx := hx.rv e
        simp only [Option.map_some, Option.some.injEq] at hd
        subst hd
        rw [depD_eq dx zx.2] at hm
        refine ⟨dx, xs, dp_K _ _ zx.1, h1, zx.2, h2, hm, ?_⟩
        have z := kont_bool k e dk
        rw [any_congr h2] at z
        exact z
      · simp at hd
    cases dy with
    | str z =>
      cases dx with
      | str a =>
        simp only [cmpV, cmpD, inText] at hd
        split at hd
        · rename_i c hc
          cases hd
          refine .inl ⟨c, z, ?_, hy.str, kont_bool k e dk⟩
          rw [hx.str]
          congr 1
          exact PySem.W.str_of_cps (by simpa using hc)
        · cases hd
      | _ => simp [cmpV, cmpD, rowOf] at hd
    | list xs =>
      refine .inr (row xs rfl ?_)
      cases dx <;> simpa [cmpV, cmpD, rowOf] using hd
    | tuple xs =>
      refine .inr (row xs rfl ?_)
      cases dx <;> simpa [cmpV, cmpD, rowOf] using hd
    | _ => cases dx <;> simp [cmpV, cmpD, rowOf] at hd
  | is =>
    refine ⟨_, op_isN.or op_is_bl, ?_⟩
    intro F H dc D x y dx dy d Q e dk hx hy hd k
    cases dy with
    | none =>
      refine .inl ⟨hy.non, ?_⟩
      rw [vp_non hx]
      cases dx <;> (simp [cmpV, cmpD] at hd; subst hd; exact kont_bool k e dk)
    | bool b =>
      cases dx <;> simp [cmpV, cmpD] at hd
      rename_i a
      subst hd
      refine .inr ⟨a, b, hx.bl, hy.bl, ?_⟩
      have z := kont_bool k e dk
      have q : (a == b) = decide (a = b) := by cases a <;> cases b <;> rfl
      rw [q] at z
      exact z
    | _ => cases dx <;> simp [cmpV, cmpD] at hd
  | isNot =>
    refine ⟨_, op_notN.or op_isnot_bl, ?_⟩
    intro F H dc D x y dx dy d Q e dk hx hy hd k
    cases dy with
    | none =>
      refine .inl ⟨hy.non, ?_⟩
      rw [vp_non hx]
      cases dx <;> (simp [cmpV, cmpD] at hd; subst hd; exact kont_bool k e dk)
    | bool b =>
      cases dx <;> simp [cmpV, cmpD] at hd
      rename_i a
      subst hd
      refine .inr ⟨a, b, hx.bl, hy.bl, ?_⟩
      have z := kont_bool k e dk
      have q : (!(a == b)) = !decide (a = b) := by cases a <;> cases b <;> rfl
      rw [q] at z
      exact z
    | _ => cases dx <;> simp [cmpV, cmpD] at hd
end
end Dk

set_option Elab.async false
set_option linter.all false
set_option maxRecDepth 100000
/-! Sound3: built-ins, subscripts, slices. -/
namespace Dk
open PySem PySem.Spec PyProof.Rows L2
variable [TabEnv]

/-- a call's reading serves the evaluator's -/
def ServesL (r : List V → Hp → VK → Prop) (g : List PyData → Option PyData) : Prop := ∀ (F H : Hp) (dc : Option Addr) (D : DS) (vs : List V) (ds : List PyData) (d : PyData) (Q : VK), Same F H → DiceOk dc F H D →
  Paired (VP K0 F H dc) vs ds → g ds = some d → Kont .fresh K0 dc F H D d Q → r vs H Q

theorem Paired.one {α β : Type} {R : α → β → Prop} {as : List α} {b : β} (h : Paired R as [b]) : ∃ a, as = [a] ∧ R a b := by
  cases h with
  | cons r t => cases t; exact ⟨_, rfl, r⟩
theorem Paired.two {α β : Type} {R : α → β → Prop} {as : List α} {b c : β} (h : Paired R as [b, c]) : ∃ a a', as = [a, a'] ∧ R a b ∧ R a' c := by
  cases h with
  | cons r t => obtain ⟨a', rfl, r2⟩ := Paired.one t; exact ⟨_, _, rfl, r, r2⟩

theorem intsOf_map : ∀ {xs : List PyData} {ns : List Int}, intsOf xs = some ns → xs = ns.map .int
  | [], ns, h => by simp [intsOf] at h; subst h; rfl
  | x :: xs, ns, h => by
    cases x <;> simp [intsOf] at h
    obtain ⟨ms, h1, rfl⟩ := h
    rw [intsOf_map h1]; rfl
theorem boolsOf_map : ∀ {xs : List PyData} {ns : List Bool}, boolsOf xs = some ns → xs = ns.map .bool
  | [], ns, h => by simp [boolsOf] at h; subst h; rfl
  | x :: xs, ns, h => by
    cases x <;> simp [boolsOf] at h
    obtain ⟨ms, h1, rfl⟩ := h
    rw [boolsOf_map h1]; rfl

theorem sortable_mem {xs : List PyData} (h : sortable xs = true) : (∀ x ∈ xs, ∀ y ∈ xs, ∃ k, ltD x y = some k) ∧ (∀ x ∈ xs, x ≠ .none) ∧ ∀ x ∈ xs, depD x ≤ 60 := by
  simp only [sortable, comparable, Bool.and_eq_true, List.all_eq_true, decide_eq_true_eq] at h
  obtain ⟨h1, h2⟩ := h
  refine ⟨fun x hx y hy => Option.isSome_iff_exists.mp (h1 x hx y hy), fun x hx e => ?_, fun x hx => (h2 x hx).2⟩
  have := (h2 x hx).1
  rw [e] at this
  simp [isNone] at this
theorem canLay_mem {x : PyData} : ∀ {xs : List PyData}, PyData.canLayAll0 xs = true → x ∈ xs → x.canLay0 = true
  | y :: ys, h, hx => by
    simp only [PyData.canLayAll0, Bool.and_eq_true] at h
    rcases List.mem_cons.mp hx with rfl | hx
    · exact h.1
    · exact canLay_mem h.2 hx
theorem alike_of {xs : List PyData} (h : sortable xs = true) (l : PyData.canLayAll0 xs = true) : PySem.W.AlikeAll xs := by
  obtain ⟨h1, h2, _⟩ := sortable_mem h
  refine ⟨fun x hx y hy => ?_, h2⟩
  obtain ⟨k, hk⟩ := h1 x hx y hy
  exact (ltD_ok x y k (canLay_mem l hx) hk).1
theorem depthAll_le {n : Nat} : ∀ {xs : List PyData}, (∀ x ∈ xs, depD x ≤ n) → PyData.canLayAll0 xs = true → PyData.depthAll xs ≤ n
  | [], _, _ => by simp [PyData.depthAll]
  | x :: xs, h, l => by
    simp only [PyData.canLayAll0, Bool.and_eq_true] at l
    rw [PyData.depthAll, ← depD_eq x l.1]
    exact Nat.max_le.mpr ⟨h x (by simp), depthAll_le (fun y hy => h y (by simp [hy])) l.2⟩
theorem lt_true_iff {x y : PyData} {k : Bool} (l : x.canLay0 = true) (h : ltD x y = some k) : (ltD x y = some true) = (PySem.W.dataLt x y = true) := by
  rw [(ltD_ok x y k l h).2, h]
  simp
theorem minD_eq : ∀ (xs : List PyData) (x : PyData), sortable (x :: xs) = true → PyData.canLayAll0 (x :: xs) = true → minD x xs = PySem.W.minD x xs := by
  intro xs x h l
  obtain ⟨h1, _, _⟩ := sortable_mem h
  have key : ∀ (ys : List PyData) (a : PyData), a ∈ x :: xs → (∀ y ∈ ys, y ∈ x :: xs) → ys.foldl (fun a y => if ltD y a = some true then y else a) a = ys.foldl (fun a y => if PySem.W.dataLt y a then y else a) a := by
    intro ys
    induction ys with
    | nil => intro a _ _; rfl
    | cons y ys ih =>
      intro a ha hy
      have hy0 := hy y (by simp)
      obtain ⟨k, hk⟩ := h1 y hy0 a ha
      simp only [List.foldl_cons]
      have e : (ltD y a = some true) = (PySem.W.dataLt y a = true) := lt_true_iff (canLay_mem l hy0) hk
      simp only [e]
      apply ih
      · split
        · exact hy0
        · exact ha
      · exact fun z hz => hy z (by simp [hz])
  exact key xs x (by simp) (fun y hy => by simp [hy])
theorem maxD_eq : ∀ (xs : List PyData) (x : PyData), sortable (x :: xs) = true → PyData.canLayAll0 (x :: xs) = true → maxD x xs = PySem.W.maxD x xs := by
  intro xs x h l
  obtain ⟨h1, _, _⟩ := sortable_mem h
  have key : ∀ (ys : List PyData) (a : PyData), a ∈ x :: xs → (∀ y ∈ ys, y ∈ x :: xs) → ys.foldl (fun a y => if ltD a y = some true then y else a) a = ys.foldl (fun a y => if PySem.W.dataLt a y then y else a) a := by
    intro ys
    induction ys with
    | nil => intro a _ _; rfl
    | cons y ys ih =>
      intro a ha hy
      have hy0 := hy y (by simp)
      obtain ⟨k, hk⟩ := h1 a ha y hy0
      simp only [List.foldl_cons]
      have e : (ltD a y = some true) = (PySem.W.dataLt a y = true) := lt_true_iff (canLay_mem l ha) hk
      simp only [e]
      apply ih
      · split
        · exact hy0
        · exact ha
      · exact fun z hz => hy z (by simp [hz])
  exact key xs x (by simp) (fun y hy => by simp [hy])

section
variable {X : Cx}
/-- an item of a list that is the least (or the greatest) -/
theorem item_is {pins : List (Addr × Obj)} {σ : L2.St} {F H : Hp} {s : Shared} {vs : List V} {ds : List PyData} {its : List Value} {h' : Heap} {i : Nat} {v : Value} {d : PyData} {bs : List Addr}
    (I : Inv X pins σ H s) (e : Same F H) (r : Rvs K0 F vs ds) (rv : Vals vs its) (hi : its[i]? = some v) (rd : Reads h' v d bs) (hk : ∀ b o, s.heap.get? b = some o → h'.get? b = some o) : ∃ x, RelV x v ∧ Rv K0 F x d := by
  have hl := rv.length
  have hlt : i < vs.length := by
    have := (List.getElem?_eq_some_iff.mp hi).1
    omega
  have e1 : vs[i]? = some vs[i] := List.getElem?_eq_getElem hlt
  obtain ⟨u, e2, r2⟩ := Vals.get rv e1
  rw [hi] at e2; cases e2
  obtain ⟨d', e3, r3⟩ := r.get' e1
  obtain ⟨as, q⟩ := Dp.reads I d' _ v (dp_K (K := X.K) _ _ (r3.mono e).1) r2
  obtain ⟨z, _⟩ := Reads.unique rd d' as (PyProof.Rows.Reads.keeps hk q)
  subst z
  exact ⟨_, r2, r3⟩

def rMinM (K : Fr) (mx : Bool) : List V → Hp → VK → Prop := fun zs H Q => ∃ (F : Hp) (a : Addr) (vs : List V) (x : PyData) (xs : List PyData), zs = [.ref a] ∧ Same F H ∧ SqL K H a vs ∧ Rvs K0 F vs (x :: xs) ∧ sortable (x :: xs) = true ∧
  ∀ v, Rv K0 F v (if mx then maxD x xs else minD x xs) → Q v H
theorem reads_all {pins : List (Addr × Obj)} {σ : L2.St} {F H : Hp} {s : Shared} {vs : List V} {ds : List PyData} {its : List Value} (I : Inv X pins σ H s) (e : Same F H) (r : Rvs K0 F vs ds) (rv : Vals vs its) : ∃ as, ReadsAll s.heap its ds as :=
  Dp.readsAll I ds vs its (dpAll_K (K := X.K) _ _ (r.mono e).1) rv
theorem cr_minM (hc : X.calm = true) (hu : X.A.units + 65 < cLine) : CallR X (.builtin "min") (rMinM X.K false) := by
  intro pins s σ H zs us Q I r h
  obtain ⟨F, a, vs, x, xs, rfl, e, hs, rr, so, q⟩ := h
  cases Vals.ref1 r
  obtain ⟨its, rv, hp, hz⟩ := I.list hs
  obtain ⟨as, ra⟩ := reads_all I e rr rv
  obtain ⟨_, _, h3⟩ := sortable_mem so
  have dl := depthAll_le h3 rr.2
  refine PySem.W.min_list_data (vs := its.toArray) (I.ok.hd hc) hp.isList (by simpa using ra) (alike_of so rr.2) (by omega) fun i v h' tk bs hi rd hk => ?_
  obtain ⟨w, rw_, rq⟩ := item_is I e rr rv (by simpa using hi) rd hk
  rw [← minD_eq xs x so rr.2] at rq
  exact ⟨w, H, I.kept (t' := tk) hk, rw_, q w rq⟩
theorem cr_maxM (hc : X.calm = true) (hu : X.A.units + 65 < cLine) : CallR X (.builtin "max") (rMinM X.K true) := by
  intro pins s σ H zs us Q I r h
  obtain ⟨F, a, vs, x, xs, rfl, e, hs, rr, so, q⟩ := h
  cases Vals.ref1 r
  obtain ⟨its, rv, hp, hz⟩ := I.list hs
  obtain ⟨as, ra⟩ := reads_all I e rr rv
  obtain ⟨_, _, h3⟩ := sortable_mem so
  have dl := depthAll_le h3 rr.2
  refine PySem.W.max_list_data (vs := its.toArray) (I.ok.hd hc) hp.isList (by simpa using ra) (alike_of so rr.2) (by omega) fun i v h' tk bs hi rd hk => ?_
  obtain ⟨w, rw_, rq⟩ := item_is I e rr rv (by simpa using hi) rd hk
  rw [← maxD_eq xs x so rr.2] at rq
  exact ⟨w, H, I.kept (t' := tk) hk, rw_, q w rq⟩
def rMaxT (K : Fr) : List V → Hp → VK → Prop := fun zs H Q => ∃ (F : Hp) (a : Addr) (vs : List V) (x : PyData) (xs : List PyData), zs = [.ref a] ∧ Same F H ∧ SqT K H a vs ∧ Rvs K0 F vs (x :: xs) ∧ sortable (x :: xs) = true ∧
  ∀ v, Rv K0 F v (maxD x xs) → Q v H
theorem cr_maxT (hc : X.calm = true) (hu : X.A.units + 65 < cLine) : CallR X (.builtin "max") (rMaxT X.K) := by
  intro pins s σ H zs us Q I r h
  obtain ⟨F, a, vs, x, xs, rfl, e, hs, rr, so, q⟩ := h
  cases Vals.ref1 r
  obtain ⟨its, rv, hp, hz⟩ := I.tuple hs
  obtain ⟨as, ra⟩ := reads_all I e rr rv
  obtain ⟨_, _, h3⟩ := sortable_mem so
  have dl := depthAll_le h3 rr.2
  obtain ⟨o, g1, g2, n, g3⟩ := hp
  refine PySem.W.max_tuple_data (vs := its.toArray) (I.ok.hd hc) ⟨o, g1, g2, n, g3⟩ (by simpa using ra) (alike_of so rr.2) (by omega) fun i v h' tk bs hi rd hk => ?_
  obtain ⟨w, rw_, rq⟩ := item_is I e rr rv (by simpa using hi) rd hk
  rw [← maxD_eq xs x so rr.2] at rq
  exact ⟨w, H, I.kept (t' := tk) hk, rw_, q w rq⟩
end
end Dk

namespace Dk
open PySem PySem.Spec PyProof.Rows L2
variable [TabEnv]
section
variable {X : Cx}
theorem each_of {S : Value → PyData → Prop} : ∀ {vs : List V} {its : List Value} {ds : List PyData}, Vals vs its → vs.length = ds.length → (∀ (i : Nat) (x : V) (u : Value) (d : PyData), vs[i]? = some x → its[i]? = some u → ds[i]? = some d → RelV x u → S u d) → PySem.W.EachIs S its ds
  | [], [], [], .nil, _, _ => .nil
  | v :: vs, u :: its, d :: ds, .cons r t, hl, f => .cons (f 0 v u d (by simp) (by simp) (by simp) r) (each_of t (by simpa using hl) fun i x u d e1 e2 e3 => f (i + 1) x u d (by simpa using e1) (by simpa using e2) (by simpa using e3))
  | _ :: _, _, [], _, hl, _ => by simp at hl
  | [], _, _ :: _, _, hl, _ => by simp at hl
theorem of_each {F : Hp} : ∀ {its : List Value} {ds : List PyData}, PySem.W.EachIs (fun u d => ∃ x, RelV x u ∧ Rv K0 F x d) its ds → ∃ vs, Vals vs its ∧ Rvs K0 F vs ds
  | _, _, .nil => ⟨[], .nil, .nil⟩
  | _, _, .cons ⟨x, r, h⟩ t => by
    obtain ⟨vs, r2, h2⟩ := of_each t
    exact ⟨x :: vs, .cons r r2, .cons h h2⟩
theorem merge_congr {α : Type} {le le' : α → α → Bool} {xs : List α} (h : ∀ x ∈ xs, ∀ y ∈ xs, le x y = le' x y) : xs.mergeSort le = xs.mergeSort le' := by
  have e1 : xs.mergeSort le = (xs.attach.mergeSort fun a b => le a.1 b.1).map (·.1) := by
    rw [List.map_mergeSort (s := le) (by intros; rfl)]
    simp
  have e2 : xs.mergeSort le' = (xs.attach.mergeSort fun a b => le' a.1 b.1).map (·.1) := by
    rw [List.map_mergeSort (s := le') (by intros; rfl)]
    simp
  rw [e1, e2]
  have : (fun (a b : {x // x ∈ xs}) => le a.1 b.1) = fun a b => le' a.1 b.1 := by
    funext a b
    exact h a.1 a.2 b.1 b.2
  rw [this]
theorem sortD_eq {xs : List PyData} (h : sortable xs = true) (l : PyData.canLayAll0 xs = true) : xs.mergeSort (PySem.W.dataLe false id) = sortD xs := by
  obtain ⟨h1, _, _⟩ := sortable_mem h
  unfold sortD
  apply merge_congr
  intro x hx y hy
  obtain ⟨k, hk⟩ := h1 y hy x hx
  have e2 := (ltD_ok y x k (canLay_mem l hy) hk).2
  rw [PySem.W.dataLe_eq]
  simp only [leB, hk, id]
  rw [e2]
  cases k <;> rfl
theorem oneKind_ok {xs : List PyData} (h : oneKind0 xs = true) (n : ∀ x ∈ xs, x ≠ .none) : PySem.W.Sortable xs := by
  simp only [oneKind0, Bool.or_eq_true, List.all_eq_true] at h
  rcases h with h | h
  · refine .inl fun d hd => ?_
    have := h d hd
    cases d with
    | tuple ys =>
      cases ys with
      | nil => simp [isNeTup] at this
      | cons y ys => exact ⟨y, ys, rfl⟩
    | _ => simp [isNeTup] at this
  · refine .inr fun d hd => ⟨n d hd, fun ys e => ?_⟩
    have := h d hd
    rw [e] at this
    simp [isTup] at this

def rSortM (K : Fr) : List V → Hp → VK → Prop := fun zs H Q => ∃ (F : Hp) (a : Addr) (vs : List V) (xs : List PyData), zs = [.ref a] ∧ Same F H ∧ SqL K H a vs ∧ Rvs K0 F vs xs ∧ sortable xs = true ∧ oneKind xs = true ∧
  ∀ p ws, H p = none → Rvs K0 F ws (sortD xs) → Q (.ref p) (upd H p (.lst ws))
theorem cr_sortM (hu : X.A.units + 65 < cLine) : CallR X (.builtin "sorted") (rSortM X.K) := by
  intro pins s σ H zs us Q I r h
  obtain ⟨F, a, vs, xs, rfl, e, hs, rr, so, ok, q⟩ := h
  cases Vals.ref1 r
  obtain ⟨its, rv, hp, hz⟩ := I.list hs
  obtain ⟨h1, h2, h3⟩ := sortable_mem so
  have er : PySem.W.EachIs (fun v b => ∃ as, Reads s.heap v (id b) as) its xs := each_of rv rr.len fun i x u d e1 e2 e3 r1 => by
    obtain ⟨d', e4, r4⟩ := rr.get' e1
    rw [e3] at e4; cases e4
    exact Dp.reads I d x u (dp_K (K := X.K) _ _ (r4.mono e).1) r1
  have ee : PySem.W.EachIs (fun u d => ∃ x, RelV x u ∧ Rv K0 F x d) its xs := each_of rv rr.len fun i x u d e1 e2 e3 r1 => by
    obtain ⟨d', e4, r4⟩ := rr.get' e1
    rw [e3] at e4; cases e4
    exact ⟨x, r1, r4⟩
  have al := alike_of so rr.2
  have bnd : ∀ b ∈ xs, X.A.units + 2 + b.depth < cLine := fun b hb => by
    have := h3 b hb
    rw [depD_eq b (canLay_mem rr.2 hb)] at this
    omega
  have fin : ∀ out : List Value, out.length = xs.length → PySem.W.EachIs (fun u d => ∃ x, RelV x u ∧ Rv K0 F x d) out (xs.mergeSort (PySem.W.dataLe false id)) → EP X pins σ Q (.ref (s.heap.objs.size + 1)) { s with heap := PyProof.Rows.sortedAll s.heap its (List.toArray out) } := fun out ho eo => by
    rw [sortD_eq so rr.2] at eo
    obtain ⟨ws, rw_, rq⟩ := of_each eo
    obtain ⟨c, hc⟩ := sortedAll_at s.heap its out.toArray
    have hsz : s.heap.objs.size ≤ s.heap.objs.size + 1 := Nat.le_succ _
    refine ⟨.ref _, upd H (s.heap.objs.size + 1) (.lst ws), I.laid (t' := s.toks) (fun _ _ => sortedAll_old) hsz ?_, rfl, q _ ws (I.hok.fresh hsz) rq⟩
    exact ⟨by rw [rq.len]; simp [sortD]; rw [← rr.len]; exact hz, out, c, rw_, hc⟩
  unfold oneKind at ok
  rw [Bool.or_eq_true] at ok
  rcases ok with ok | ok
  · refine PySem.W.sorted_data (vs := its) (bs := xs) (enc := id) (R := fun u d => ∃ x, RelV x u ∧ Rv K0 F x d) hp.isList ee er ?_ ?_ (by rw [← rr.len]; exact hz) bnd fin
    · rw [List.map_id]
      exact fun d hd d' hd' => al.1 d hd d' hd'
    · rw [List.map_id]
      exact oneKind_ok ok h2
  · unfold emptyFirst at ok
    split at ok
    · rename_i ds0
      refine sortedE (vs := its) (ds0 := ds0) (R := fun u d => ∃ x, RelV x u ∧ Rv K0 F x d) hp.isList ee er (fun d hd d' hd' => al.1 d hd d' hd') (fun d hd => ?_) (by rw [← rr.len]; exact hz) bnd fin
      rcases List.mem_cons.mp hd with rfl | hd
      · exact ⟨[], rfl⟩
      · have := List.all_eq_true.mp ok d hd
        cases d with
        | tuple ys => exact ⟨ys, rfl⟩
        | _ => simp [isTup] at this
    · cases ok

theorem serves_len : ServesL (fun xs H Q => (∃ p ys, xs = [.ref p] ∧ (SqL X.K H p ys ∨ SqT X.K H p ys) ∧ Q (.int ys.length) H) ∨ ∃ z, xs = [.str z] ∧ z.length ≤ sizeLine ∧ Q (.int z.length) H) (biD .len) := by
  intro F H dc D vs ds d Q e dk hv hd k
  have fin : ∀ (n : Int), d = .int n → Q (.int n) H := fun n q => by
    subst q
    exact k.flat e dk (.int n) (by intro _ q; cases q)
  match ds, hd with
  | [.list xs], hd =>
    obtain ⟨v, rfl, h⟩ := Paired.one hv
    obtain ⟨a, ws, rfl, hs, rr⟩ := h.list e
    simp [biD] at hd
    exact .inl ⟨a, ws, rfl, .inl (sqL_K hs), fin _ (by rw [rr.len]; exact hd.symm)⟩
  | [.tuple xs], hd =>
    obtain ⟨v, rfl, h⟩ := Paired.one hv
    obtain ⟨a, ws, rfl, hs, rr⟩ := h.tup
    simp [biD] at hd
    exact .inl ⟨a, ws, rfl, .inr (sqT_K (Evl.ex_t e hs)), fin _ (by rw [rr.len]; exact hd.symm)⟩
  | [.str z], hd =>
    obtain ⟨v, rfl, h⟩ := Paired.one hv
    cases h.str
    simp [biD] at hd
    exact .inr ⟨z, rfl, hd.1, fin _ hd.2.symm⟩
theorem serves_all : ServesL (rAll X.K) (biD .all) := by
  intro F H dc D vs ds d Q e dk hv hd k
  match ds, hd with
  | [.list xs], hd =>
    obtain ⟨v, rfl, h⟩ := Paired.one hv
    obtain ⟨a, ws, rfl, hs, rr⟩ := h.list e
    simp [biD] at hd
    obtain ⟨bs, h1, h2⟩ := hd
    have := boolsOf_map h1
    subst this h2
    have := rr.bls
    subst this
    exact ⟨a, bs, rfl, sqL_K hs, kont_bool k e dk⟩
theorem serves_any : ServesL (rAny X.K) (biD .any) := by
  intro F H dc D vs ds d Q e dk hv hd k
  match ds, hd with
  | [.list xs], hd =>
    obtain ⟨v, rfl, h⟩ := Paired.one hv
    obtain ⟨a, ws, rfl, hs, rr⟩ := h.list e
    simp [biD] at hd
    obtain ⟨bs, h1, h2⟩ := hd
    have := boolsOf_map h1
    subst this h2
    have := rr.bls
    subst this
    exact ⟨a, bs, rfl, sqL_K hs, kont_bool k e dk⟩
theorem serves_sum : ServesL (rSum X.K) (biD .sum) := by
  intro F H dc D vs ds d Q e dk hv hd k
  match ds, hd with
  | [.list xs], hd =>
    obtain ⟨v, rfl, h⟩ := Paired.one hv
    obtain ⟨a, ws, rfl, hs, rr⟩ := h.list e
    simp [biD] at hd
    obtain ⟨bs, h1, h2⟩ := hd
    have := intsOf_map h1
    subst this h2
    have := rr.ints
    subst this
    exact ⟨a, bs, rfl, sqL_K hs, k.flat e dk (.int _) (by intro _ q; cases q)⟩
theorem serves_tuple : ServesL (fun xs H Q => ∃ p ys, xs = [.ref p] ∧ ((SqL X.K H p ys ∧ ∀ l, H l = none → Q (.ref l) (upd H l (.tup ys))) ∨ (SqT X.K H p ys ∧ Q (.ref p) H))) (biD .tuple) := by
  intro F H dc D vs ds d Q e dk hv hd k
  match ds, hd with
  | [.list xs], hd =>
    obtain ⟨v, rfl, h⟩ := Paired.one hv
    obtain ⟨a, ws, rfl, hs, rr⟩ := h.list e
    simp [biD] at hd
    subst hd
    exact ⟨a, ws, rfl, .inl ⟨sqL_K hs, fun l hl => k.tup e dk hl rr⟩⟩
  | [.tuple xs], hd =>
    obtain ⟨v, rfl, h⟩ := Paired.one hv
    obtain ⟨a, ws, rfl, hs, rr⟩ := h.tup
    simp [biD] at hd
    subst hd
    exact ⟨a, ws, rfl, .inr ⟨sqT_K (Evl.ex_t e hs), k.flat e dk (.tup hs rr) (by intro _ q; cases q)⟩⟩
theorem serves_list : ServesL (fun xs H Q => ∃ p ys, xs = [.ref p] ∧ (SqL X.K H p ys ∨ SqT X.K H p ys) ∧ ∀ l, H l = none → Q (.ref l) (upd H l (.lst ys))) (biD .list) := by
  intro F H dc D vs ds d Q e dk hv hd k
  match ds, hd with
  | [.list xs], hd =>
    obtain ⟨v, rfl, h⟩ := Paired.one hv
    obtain ⟨a, ws, rfl, hs, rr⟩ := h.list e
    simp [biD] at hd
    subst hd
    exact ⟨a, ws, rfl, .inl (sqL_K hs), fun l hl => k.lst e dk hl rr⟩
  | [.tuple xs], hd =>
    obtain ⟨v, rfl, h⟩ := Paired.one hv
    obtain ⟨a, ws, rfl, hs, rr⟩ := h.tup
    simp [biD] at hd
    subst hd
    exact ⟨a, ws, rfl, .inr (sqT_K (Evl.ex_t e hs)), fun l hl => k.lst e dk hl rr⟩
theorem serves_sorted : ServesL (rSortM X.K) (biD .sorted) := by
  intro F H dc D vs ds d Q e dk hv hd k
  match ds, hd with
  | [.list xs], hd =>
    obtain ⟨v, rfl, h⟩ := Paired.one hv
    obtain ⟨a, ws, rfl, hs, rr⟩ := h.list e
    simp [biD] at hd
    obtain ⟨⟨h1, h2⟩, h3⟩ := hd
    subst h3
    exact ⟨F, a, ws, xs, rfl, e, sqL_K hs, rr, h1, h2, fun p zs hp rz => k.lst e dk hp rz⟩
/-- an item that is kept -/
theorem Kont.item {F H : Hp} {dc : Option Addr} {D : DS} {d : PyData} {Q : VK} {v : V} (k : Kont .leak K0 dc F H D d Q) (e : Same F H) (dk : DiceOk dc F H D) (h : Rv K0 F v d) : Q v H := k v F H (Stp.refl e dk) h
end
end Dk

namespace Dk
open PySem PySem.Spec PyProof.Rows L2
variable [TabEnv]
/-- .. where the result may be a part of what stands -/
def ServesK (r : List V → Hp → VK → Prop) (g : List PyData → Option PyData) : Prop := ∀ (F H : Hp) (dc : Option Addr) (D : DS) (vs : List V) (ds : List PyData) (d : PyData) (Q : VK), Same F H → DiceOk dc F H D →
  Paired (VP K0 F H dc) vs ds → g ds = some d → Kont .leak K0 dc F H D d Q → r vs H Q
def Serves1 (r : R2) (g : PyData → PyData → Option PyData) : Prop := ∀ (F H : Hp) (dc : Option Addr) (D : DS) (x y : V) (dx dy d : PyData) (Q : VK), Same F H → DiceOk dc F H D →
  VP K0 F H dc x dx → VP K0 F H dc y dy → g dx dy = some d → Kont .leak K0 dc F H D d Q → r x y H Q
section
variable {X : Cx}
theorem serves_min (hu : X.A.units + 65 < cLine) : ServesK (rMinM X.K false) (biD .min) := by
  intro F H dc D vs ds d Q e dk hv hd k
  match ds, hd with
  | [.list (x :: xs)], hd =>
    obtain ⟨v, rfl, h⟩ := Paired.one hv
    obtain ⟨a, ws, rfl, hs, rr⟩ := h.list e
    simp only [biD] at hd
    split at hd
    · rename_i h1
      cases hd
      exact ⟨F, a, ws, x, xs, rfl, e, sqL_K hs, rr, h1, fun v hv => k.item e dk hv⟩
    · cases hd
theorem serves_max : ServesK (fun vs H Q => rMinM X.K true vs H Q ∨ rMaxT X.K vs H Q) (biD .max) := by
  intro F H dc D vs ds d Q e dk hv hd k
  match ds, hd with
  | [.list (x :: xs)], hd =>
    obtain ⟨v, rfl, h⟩ := Paired.one hv
    obtain ⟨a, ws, rfl, hs, rr⟩ := h.list e
    simp only [biD] at hd
    split at hd
    · rename_i h1
      cases hd
      exact .inl ⟨F, a, ws, x, xs, rfl, e, sqL_K hs, rr, h1, fun v hv => k.item e dk hv⟩
    · cases hd
  | [.tuple (x :: xs)], hd =>
    obtain ⟨v, rfl, h⟩ := Paired.one hv
    obtain ⟨a, ws, rfl, hs, rr⟩ := h.tup
    simp only [biD] at hd
    split at hd
    · rename_i h1
      cases hd
      exact .inr ⟨F, a, ws, x, xs, rfl, e, sqT_K (Evl.ex_t e hs), rr, h1, fun v hv => k.item e dk hv⟩
    · cases hd
theorem serves_min2 : ServesL (fun xs H Q => ∃ i j, xs = [.int i, .int j] ∧ Q (.int (if j < i then j else i)) H) (biD .min2) := by
  intro F H dc D vs ds d Q e dk hv hd k
  match ds, hd with
  | [.int a, .int b], hd =>
    obtain ⟨v, v', rfl, h, h'⟩ := Paired.two hv
    simp only [biD] at hd
    cases hd
    exact ⟨a, b, by rw [h.int, h'.int], k.flat e dk (.int _) (by intro _ q; cases q)⟩
theorem serves_max2 : ServesL (fun xs H Q => ∃ i j, xs = [.int i, .int j] ∧ Q (.int (if j > i then j else i)) H) (biD .max2) := by
  intro F H dc D vs ds d Q e dk hv hd k
  match ds, hd with
  | [.int a, .int b], hd =>
    obtain ⟨v, v', rfl, h, h'⟩ := Paired.two hv
    simp only [biD] at hd
    cases hd
    exact ⟨a, b, by rw [h.int, h'.int], k.flat e dk (.int _) (by intro _ q; cases q)⟩
theorem serves_abs : ServesL (fun xs H Q => ∃ i, xs = [.int i] ∧ Q (.int (if i < 0 then -i else i)) H) (biD .abs) := by
  intro F H dc D vs ds d Q e dk hv hd k
  match ds, hd with
  | [.int a], hd =>
    obtain ⟨v, rfl, h⟩ := Paired.one hv
    simp only [biD] at hd
    cases hd
    exact ⟨a, by rw [h.int], k.flat e dk (.int _) (by intro _ q; cases q)⟩
theorem serves_int1 : ServesL (fun xs H Q => (∃ i, xs = [.int i] ∧ Q (.int i) H) ∨ ∃ k, xs = [.bl k] ∧ Q (.int (if k then 1 else 0)) H) (biD .int) := by
  intro F H dc D vs ds d Q e dk hv hd k
  match ds, hd with
  | [.int a], hd =>
    obtain ⟨v, rfl, h⟩ := Paired.one hv
    simp only [biD] at hd
    cases hd
    exact .inl ⟨a, by rw [h.int], k.flat e dk (.int _) (by intro _ q; cases q)⟩
  | [.bool a], hd =>
    obtain ⟨v, rfl, h⟩ := Paired.one hv
    simp only [biD] at hd
    cases hd
    exact .inr ⟨a, by rw [h.bl], k.flat e dk (.int _) (by intro _ q; cases q)⟩

/-! ### isinstance -/
def tyName : Ty → String
  | .int => "int" | .bool => "bool" | .str => "str" | .tuple => "tuple" | .list => "list"
def tyOf : PyData → Value
  | .none => .type "NoneType" | .bool _ => .type "bool" | .int _ => .type "int" | .str _ => .type "str" | .list _ => .type "list" | .tuple _ => .type "tuple" | .dict _ => .type "dict"
theorem vp_ty {F H : Hp} {dc : Option Addr} {v : V} {d : PyData} (e : Same F H) (h : VP K0 F H dc v d) : TyX X.K H v (tyOf d) := by
  obtain ⟨z, _⟩ := h.rv e
  cases z with
  | non => exact .base .non
  | bl b => exact .base (.bl b)
  | int i => exact .base (.int i)
  | str s => exact .base (.str s)
  | lst hs _ =>
    rcases sqL_rd hs with q | ⟨o, q⟩
    · exact .base (.lst q)
    · exact .base (.frz q)
  | tup hs _ =>
    rcases sqT_rd hs with q | ⟨o, q⟩
    · exact .base (.tup q)
    · exact .fTuple q
theorem kit_ok (K : Fr) (t : Ty) (d : PyData) (h : d.canLay0 = true) : PySem.W.kitOne K (tyOf d) (.type (tyName t)) = some (isaD t d) := by
  cases t <;> cases d <;> first | (simp [PyData.canLay0] at h; done) | (simp only [tyOf, tyName, isaD]; rfl) | (simp only [tyOf, tyName, isaD]; decide +kernel)
end
end Dk

set_option Elab.async false
set_option linter.all false
set_option maxRecDepth 100000
/-! Sound4: expressions by the evaluator. -/
namespace Dk
open PySem PySem.Spec PyProof.Rows L2
variable [TabEnv]

abbrev OE := Env → DS → Out PyData

/-! ### sequencing -/
theorem spE_mono {G : Sig} {m : Md} {o : OE} {σ : L2.St} {H : Hp} {Q Q' : VK} (h : spE G m o σ H Q) (i : ∀ v H', Q v H' → Q' v H') : spE G m o σ H Q' := by
  obtain ⟨F, dc, D, r, R, p⟩ := h
  refine ⟨F, dc, D, r, R, ?_⟩
  cases e : o r D with
  | ok d D1 => rw [e] at p; exact fun v F' H' s q => i v H' (p v F' H' s q)
  | exc c D1 => rw [e] at p; exact p
  | stuck => rw [e] at p; exact p
section
variable {G : Sig} {m : Md} {oa ob : OE} {σ : L2.St} {H : Hp} {Q : VK}
/-- the evaluator's way from one state to another, behind one value -/
def Aft (G : Sig) (m : Md) (H : Hp) (Q : VK) (f : PyData → DS → Out PyData) (x : V) : Prop :=
  ∃ F dc D dx, Same F H ∧ DiceOk dc F H D ∧ VP K0 F H dc x dx ∧ PostE m K0 G.E G.xa dc F H (f dx D) Q
theorem PostE.step {m : Md} {E : XK} {xa : XA} {dc : Option Addr} {F H F1 H1 : Hp} {D1 : DS} {o : Out PyData} {Q : VK} (s : Stp dc F H F1 H1 D1) (h : PostE m K0 E xa dc F H o Q) : PostE m K0 E xa dc F1 H1 o Q := by
  cases o with
  | ok d D' => exact Kont.step s h
  | exc c D' => exact fun F' H' s' => h F' H' (s.trans s')
  | stuck => exact h
theorem sp_seq1 {f : PyData → DS → Out PyData} (h : spE G m (fun r D => (oa r D).bind f) σ H Q) : spE G .peek oa σ H fun x H1 => Aft G m H1 Q f x := by
  obtain ⟨F, dc, D, r, R, p⟩ := h
  refine ⟨F, dc, D, r, R, ?_⟩
  cases e : oa r D with
  | ok d D1 =>
    simp only [e, Out.ok_bind] at p
    exact fun v F1 H1 s v1 => ⟨F1, dc, D1, d, s.fh, s.dice, v1, PostE.step s p⟩
  | exc c D1 =>
    simp only [e, Out.exc_bind] at p
    exact p
  | stuck =>
    simp only [e, Out.stuck_bind] at p
    exact p
def Aft2 (G : Sig) (m : Md) (H : Hp) (Q : VK) (f : PyData → PyData → DS → Out PyData) (x y : V) : Prop :=
  ∃ F dc D dx dy, Same F H ∧ DiceOk dc F H D ∧ VP K0 F H dc x dx ∧ VP K0 F H dc y dy ∧ PostE m K0 G.E G.xa dc F H (f dx dy D) Q
theorem sp_seq2 {f : PyData → PyData → DS → Out PyData} (h : spE G m (fun r D => (oa r D).bind fun x D => (ob r D).bind fun y D => f x y D) σ H Q) :
    spE G .peek oa σ H fun x H1 => spE G .peek ob σ H1 fun y H2 => Aft2 G m H2 Q f x y := by
  obtain ⟨F, dc, D, r, R, p⟩ := h
  refine ⟨F, dc, D, r, R, ?_⟩
  cases e : oa r D with
  | ok d D1 =>
    simp only [e, Out.ok_bind] at p
    intro v F1 H1 s v1
    refine ⟨F1, dc, D1, r, R.step s, ?_⟩
    cases e2 : ob r D1 with
    | ok d2 D2 =>
      simp only [e2, Out.ok_bind] at p
      exact fun w F2 H2 s2 v2 => ⟨F2, dc, D2, d, d2, s2.fh, s2.dice, VP.step v1 s2, v2, PostE.step (s.trans s2) p⟩
    | exc c D2 =>
      simp only [e2, Out.exc_bind] at p
      exact fun F2 H2 s2 => p F2 H2 (s.trans s2)
    | stuck =>
      simp only [e2, Out.stuck_bind] at p
      exact p
  | exc c D1 =>
    simp only [e, Out.exc_bind] at p
    exact p
  | stuck =>
    simp only [e, Out.stuck_bind] at p
    exact p
end

section
variable {X : Cx} {G : Sig} {a b c : PySem.Expr} {pos : Pos} {oa ob oc : OE}

/-! ### names, constants -/
theorem pe_varS {i : Nat} {x : PySem.Str} (hN : X.N[i]? = some x) (hv : Vis X.env.scope x) (hd : (x == ("__debug__" : PySem.Str)) = false) (hcd : (x == ("__classdict__" : PySem.Str)) = false) : PE X (.Name x pos) (spE G .leak fun r D => .lift (slotD r i) D) := by
  refine pe_weak (pe_var hN hv hd hcd) fun σ H Q h => ?_
  obtain ⟨F, dc, D, r, R, p⟩ := h
  unfold slotD at p
  cases e : r[i]? with
  | none => simp only [e, Out.lift_none] at p; exact p.elim
  | some s =>
    cases s with
    | non => simp only [e, Out.lift_none] at p; exact p.elim
    | own xs => simp only [e, Out.lift_none] at p; exact p.elim
    | val d =>
      simp only [e, Out.lift_some] at p
      obtain ⟨v, e2, rv⟩ := R.sl i _ e
      exact ⟨v, e2, p v F H (Stp.refl R.fh R.dice) rv⟩
theorem pe_peekS {i : Nat} {x : PySem.Str} (hN : X.N[i]? = some x) (hv : Vis X.env.scope x) (hd : (x == ("__debug__" : PySem.Str)) = false) (hcd : (x == ("__classdict__" : PySem.Str)) = false) : PE X (.Name x pos) (spE G .peek fun r D => .lift (slotP r i) D) := by
  refine pe_weak (pe_var hN hv hd hcd) fun σ H Q h => ?_
  obtain ⟨F, dc, D, r, R, p⟩ := h
  unfold slotP at p
  cases e : r[i]? with
  | none => simp only [e, Out.lift_none] at p; exact p.elim
  | some s =>
    cases s with
    | non => simp only [e, Out.lift_none] at p; exact p.elim
    | own xs =>
      simp only [e, Out.lift_some] at p
      obtain ⟨v, e2, rv⟩ := R.sl i _ e
      exact ⟨v, e2, p v F H (Stp.refl R.fh R.dice) (.inr ⟨xs, rfl, rv⟩)⟩
    | val d =>
      simp only [e, Out.lift_some] at p
      obtain ⟨v, e2, rv⟩ := R.sl i _ e
      exact ⟨v, e2, p v F H (Stp.refl R.fh R.dice) (.inl rv)⟩
/-- a constant, or a module's constant -/
theorem pe_constS {e : PySem.Expr} {v : V} {d : PyData} (h : PE X e (tC v)) (rv : ∀ F, Rv K0 F v d) : PE X e (spE G .leak fun _ D => .ok d D) := by
  refine pe_weak h fun σ H Q h => ?_
  obtain ⟨F, dc, D, r, R, p⟩ := h
  exact p v F H (Stp.refl R.fh R.dice) (rv F)

/-! ### operators -/
theorem pe_binS (op : BOp) (ha : PE X a (spE G .peek oa)) (hb : PE X b (spE G .peek ob)) :
    PE X (.BinOp a (bop op) b pos) (spE G .fresh fun r D => (oa r D).bind fun x D => (ob r D).bind fun y D => .lift (binD op x y) D) := by
  obtain ⟨r, ho, sv⟩ := serves_bin (X := X) op
  refine pe_weak (pe_op ho ha hb) fun σ H Q h => ?_
  refine spE_mono (sp_seq2 (f := fun x y D => .lift (binD op x y) D) h) fun x H1 h1 => spE_mono h1 fun y H2 h2 => ?_
  obtain ⟨F, dc, D, dx, dy, e, dk, vx, vy, p⟩ := h2
  cases q : binD op dx dy with
  | none => simp only [q, Out.lift_none] at p; exact p.elim
  | some d =>
    simp only [q, Out.lift_some] at p
    exact sv F H2 dc D x y dx dy d Q e dk vx vy q p
end
end Dk

namespace Dk
open PySem PySem.Spec PyProof.Rows L2
variable [TabEnv]
/-- a value as a truth -/
def asB (o : OE) : Env → DS → Out Bool := fun r D => (o r D).bind fun v D => match v with
  | .bool b => .ok b D
  | _ => .stuck

section
variable {G : Sig} {m : Md} {oa ob : OE} {σ : L2.St} {H : Hp} {Q : VK}
def AftR (G : Sig) (m : Md) (σ : L2.St) (H : Hp) (Q : VK) (f : PyData → Env → DS → Out PyData) (x : V) : Prop :=
  ∃ F dc D r dx, Rel K0 G.N F H dc D r σ ∧ VP K0 F H dc x dx ∧ PostE m K0 G.E G.xa dc F H (f dx r D) Q
theorem sp_seqR {f : PyData → Env → DS → Out PyData} (h : spE G m (fun r D => (oa r D).bind fun x D => f x r D) σ H Q) : spE G .peek oa σ H fun x H1 => AftR G m σ H1 Q f x := by
  obtain ⟨F, dc, D, r, R, p⟩ := h
  refine ⟨F, dc, D, r, R, ?_⟩
  cases e : oa r D with
  | ok d D1 =>
    simp only [e, Out.ok_bind] at p
    exact fun v F1 H1 s v1 => ⟨F1, dc, D1, r, d, R.step s, v1, PostE.step s p⟩
  | exc c D1 =>
    simp only [e, Out.exc_bind] at p
    exact p
  | stuck =>
    simp only [e, Out.stuck_bind] at p
    exact p
theorem PostT.step {E : XK} {xa : XA} {dc : Option Addr} {F H F1 H1 : Hp} {D1 : DS} {o : Out Bool} {Q : Bool → Hp → Prop} (s : Stp dc F H F1 H1 D1) (h : PostT K0 E xa dc F H o Q) : PostT K0 E xa dc F1 H1 o Q := by
  cases o with
  | ok d D' => exact fun F' H' s' => h F' H' (s.trans s')
  | exc c D' => exact fun F' H' s' => h F' H' (s.trans s')
  | stuck => exact h
/-- behind a test -/
def AftT (G : Sig) (m : Md) (σ : L2.St) (H : Hp) (Q : VK) (f : Bool → Env → DS → Out PyData) (c : Bool) : Prop :=
  ∃ F dc D r, Rel K0 G.N F H dc D r σ ∧ PostE m K0 G.E G.xa dc F H (f c r D) Q
theorem sp_seqT {ot : Env → DS → Out Bool} {f : Bool → Env → DS → Out PyData} (h : spE G m (fun r D => (ot r D).bind fun x D => f x r D) σ H Q) : spT G ot σ H fun c H1 => AftT G m σ H1 Q f c := by
  obtain ⟨F, dc, D, r, R, p⟩ := h
  refine ⟨F, dc, D, r, R, ?_⟩
  cases e : ot r D with
  | ok d D1 =>
    simp only [e, Out.ok_bind] at p
    exact fun F1 H1 s => ⟨F1, dc, D1, r, R.step s, PostE.step s p⟩
  | exc c D1 =>
    simp only [e, Out.exc_bind] at p
    exact p
  | stuck =>
    simp only [e, Out.stuck_bind] at p
    exact p
theorem spT_seqT {ot : Env → DS → Out Bool} {f : Bool → Env → DS → Out Bool} {Q : Bool → Hp → Prop} (h : spT G (fun r D => (ot r D).bind fun x D => f x r D) σ H Q) :
    spT G ot σ H fun c H1 => ∃ F dc D r, Rel K0 G.N F H1 dc D r σ ∧ PostT K0 G.E G.xa dc F H1 (f c r D) Q := by
  obtain ⟨F, dc, D, r, R, p⟩ := h
  refine ⟨F, dc, D, r, R, ?_⟩
  cases e : ot r D with
  | ok d D1 =>
    simp only [e, Out.ok_bind] at p
    exact fun F1 H1 s => ⟨F1, dc, D1, r, R.step s, PostT.step s p⟩
  | exc c D1 =>
    simp only [e, Out.exc_bind] at p
    exact p
  | stuck =>
    simp only [e, Out.stuck_bind] at p
    exact p
theorem spT_mono {o : Env → DS → Out Bool} {Q Q' : Bool → Hp → Prop} (h : spT G o σ H Q) (i : ∀ v H', Q v H' → Q' v H') : spT G o σ H Q' := by
  obtain ⟨F, dc, D, r, R, p⟩ := h
  refine ⟨F, dc, D, r, R, ?_⟩
  cases e : o r D with
  | ok d D1 => rw [e] at p; exact fun F' H' s => i d H' (p F' H' s)
  | exc c D1 => rw [e] at p; exact p
  | stuck => rw [e] at p; exact p
theorem spT_of {o o' : Env → DS → Out Bool} {Q : Bool → Hp → Prop} (e : ∀ r D, o r D = o' r D) (h : spT G o σ H Q) : spT G o' σ H Q := by
  have : o = o' := funext fun r => funext fun D => e r D
  rw [← this]; exact h
/-- a truth off a value -/
theorem spT_asB {o : OE} {Q : Bool → Hp → Prop} (h : spT G (asB o) σ H Q) : spE G .peek o σ H fun x H1 => ∃ c, x = .bl c ∧ Q c H1 := by
  obtain ⟨F, dc, D, r, R, p⟩ := h
  refine ⟨F, dc, D, r, R, ?_⟩
  unfold asB at p
  cases e : o r D with
  | ok d D1 =>
    simp only [e, Out.ok_bind] at p
    intro v F1 H1 s v1
    cases d with
    | bool b => exact ⟨b, VP.bl v1, p F1 H1 s⟩
    | _ => exact p.elim
  | exc c D1 =>
    simp only [e, Out.exc_bind] at p
    exact p
  | stuck =>
    simp only [e, Out.stuck_bind] at p
    exact p
end

section
variable {X : Cx} {G : Sig} {m : Md} {a b c : PySem.Expr} {rest : List PySem.Expr} {pos : Pos} {oa ob oc : OE}
theorem pt_valS {e : PySem.Expr} {o : OE} (h : PE X e (spE G .peek o)) (he : ∀ whole, isTrue e X.env whole = (do let v ← whole; standAt e.pos; holding [v] (truthy v))) : PT X e (spT G (asB o)) :=
  pt_weak (pt_val h he) fun σ H Q h => spT_asB h
theorem pe_negS (ha : PE X a (spE G .peek oa)) : PE X (.UnaryOp .USub a pos) (spE G .leak fun r D => (oa r D).bind fun x D => match x with
    | .int i => .ok (.int (-i)) D
    | _ => .stuck) := by
  refine pe_weak (pe_un un_neg ha) fun σ H Q h => ?_
  refine spE_mono (sp_seq1 (f := fun x D => match x with | .int i => .ok (.int (-i)) D | _ => .stuck) h) fun x H1 h1 => ?_
  obtain ⟨F, dc, D, dx, e, dk, vx, p⟩ := h1
  cases dx with
  | int i => exact ⟨i, vx.int, (show Kont _ _ _ _ _ _ _ _ from p).flat e dk (.int _) (by intro _ q; cases q)⟩
  | _ => exact p.elim
theorem pe_notS (ha : PE X a (spE G .peek oa)) : PE X (.UnaryOp .Not a pos) (spE G .leak fun r D => (oa r D).bind fun x D => match x with
    | .bool b => .ok (.bool (!b)) D
    | _ => .stuck) := by
  refine pe_weak (pe_not ha) fun σ H Q h => ?_
  refine spE_mono (sp_seq1 (f := fun x D => match x with | .bool b => .ok (.bool (!b)) D | _ => .stuck) h) fun x H1 h1 => ?_
  obtain ⟨F, dc, D, dx, e, dk, vx, p⟩ := h1
  cases dx with
  | bool i => exact ⟨i, vx.bl, (show Kont _ _ _ _ _ _ _ _ from p).flat e dk (.bl _) (by intro _ q; cases q)⟩
  | _ => exact p.elim
theorem pt_notS (ha : PT X a (spT G (asB oa))) : PT X (.UnaryOp .Not a pos) (spT G (asB fun r D => (oa r D).bind fun x D => match x with
    | .bool b => .ok (.bool (!b)) D
    | _ => .stuck)) := by
  refine pt_weak (pt_not ha) fun σ H Q h => ?_
  have h' : spT G (fun r D => (asB oa r D).bind fun x D => (Out.ok (!x) D)) σ H Q := spT_of (fun r D => by
    simp only [asB]
    cases oa r D with
    | ok d D1 => cases d <;> rfl
    | exc c D1 => rfl
    | stuck => rfl) h
  refine spT_mono (spT_seqT (f := fun x _ D => .ok (!x) D) h') fun k H1 h1 => ?_
  obtain ⟨F, dc, D, r, R, p⟩ := h1
  exact p F H1 (Stp.refl R.fh R.dice)
theorem pe_andS (ha : PE X a (spE G .peek oa)) (hb : PE X (.BoolOp .And (b :: rest) pos) (spE G .leak ob)) : PE X (.BoolOp .And (a :: b :: rest) pos) (spE G .leak fun r D => (oa r D).bind fun x D => match x with
    | .bool true => ob r D
    | .bool false => .ok (.bool false) D
    | _ => .stuck) := by
  refine pe_weak (pe_and ha hb) fun σ H Q h => ?_
  refine spE_mono (sp_seqR (f := fun x r D => match x with | .bool true => ob r D | .bool false => .ok (.bool false) D | _ => .stuck) h) fun x H1 h1 => ?_
  obtain ⟨F, dc, D, r, dx, R, vx, p⟩ := h1
  cases dx with
  | bool k =>
    refine ⟨k, vx.bl, ?_⟩
    cases k with
    | true => exact iteT ⟨F, dc, D, r, R, p⟩
    | false => exact iteF ((show Kont _ _ _ _ _ _ _ _ from p).flat R.fh R.dice (.bl _) (by intro _ q; cases q))
  | _ => exact p.elim
theorem pe_orS (ha : PE X a (spE G .peek oa)) (hb : PE X (.BoolOp .Or (b :: rest) pos) (spE G .leak ob)) : PE X (.BoolOp .Or (a :: b :: rest) pos) (spE G .leak fun r D => (oa r D).bind fun x D => match x with
    | .bool true => .ok (.bool true) D
    | .bool false => ob r D
    | _ => .stuck) := by
  refine pe_weak (pe_or ha hb) fun σ H Q h => ?_
  refine spE_mono (sp_seqR (f := fun x r D => match x with | .bool true => .ok (.bool true) D | .bool false => ob r D | _ => .stuck) h) fun x H1 h1 => ?_
  obtain ⟨F, dc, D, r, dx, R, vx, p⟩ := h1
  cases dx with
  | bool k =>
    refine ⟨k, vx.bl, ?_⟩
    cases k with
    | false => exact iteF ⟨F, dc, D, r, R, p⟩
    | true => exact iteT ((show Kont _ _ _ _ _ _ _ _ from p).flat R.fh R.dice (.bl _) (by intro _ q; cases q))
  | _ => exact p.elim
theorem pw_andS (ha : PT X a (spT G (asB oa))) (hb : PW X (.BoolOp .And (b :: rest) pos) (spT G (asB ob))) : PW X (.BoolOp .And (a :: b :: rest) pos) (spT G (asB fun r D => (oa r D).bind fun x D => match x with
    | .bool true => ob r D
    | .bool false => .ok (.bool false) D
    | _ => .stuck)) := by
  have z := pw_and ha hb
  refine ⟨fun wh pins s σ H Q I h => z.run wh pins s σ H Q I ?_⟩
  have h' : spT G (fun r D => (asB oa r D).bind fun x D => (match x with | true => asB ob r D | false => Out.ok false D)) σ H Q := spT_of (fun r D => by
    simp only [asB]
    cases oa r D with
    | ok d D1 => cases d <;> first | rfl | (rename_i k; cases k <;> rfl)
    | exc c D1 => rfl
    | stuck => rfl) h
  refine spT_mono (spT_seqT (f := fun x r D => (match x with | true => asB ob r D | false => Out.ok false D)) h') fun k H1 h1 => ?_
  obtain ⟨F, dc, D, r, R, p⟩ := h1
  cases k with
  | true => exact iteT ⟨F, dc, D, r, R, p⟩
  | false => exact iteF (p F H1 (Stp.refl R.fh R.dice))
theorem pw_orS (ha : PT X a (spT G (asB oa))) (hb : PW X (.BoolOp .Or (b :: rest) pos) (spT G (asB ob))) : PW X (.BoolOp .Or (a :: b :: rest) pos) (spT G (asB fun r D => (oa r D).bind fun x D => match x with
    | .bool true => .ok (.bool true) D
    | .bool false => ob r D
    | _ => .stuck)) := by
  have z := pw_or ha hb
  refine ⟨fun wh pins s σ H Q I h => z.run wh pins s σ H Q I ?_⟩
  have h' : spT G (fun r D => (asB oa r D).bind fun x D => (match x with | true => Out.ok true D | false => asB ob r D)) σ H Q := spT_of (fun r D => by
    simp only [asB]
    cases oa r D with
    | ok d D1 => cases d <;> first | rfl | (rename_i k; cases k <;> rfl)
    | exc c D1 => rfl
    | stuck => rfl) h
  refine spT_mono (spT_seqT (f := fun x r D => (match x with | true => Out.ok true D | false => asB ob r D)) h') fun k H1 h1 => ?_
  obtain ⟨F, dc, D, r, R, p⟩ := h1
  cases k with
  | false => exact iteF ⟨F, dc, D, r, R, p⟩
  | true => exact iteT (p F H1 (Stp.refl R.fh R.dice))
theorem pe_iteS (ht : PT X c (spT G (asB oc))) (ha : PE X a (spE G m oa)) (hb : PE X b (spE G m ob)) : PE X (.IfExp c a b pos) (spE G m fun r D => (oc r D).bind fun x D => match x with
    | .bool true => oa r D
    | .bool false => ob r D
    | _ => .stuck) := by
  refine pe_weak (pe_ifExp ht ha hb) fun σ H Q h => ?_
  have h' : spE G m (fun r D => (asB oc r D).bind fun x D => (match x with | true => oa r D | false => ob r D)) σ H Q := by
    have e : (fun (r : Env) (D : DS) => (oc r D).bind fun x D => match x with | .bool true => oa r D | .bool false => ob r D | _ => .stuck) = fun r D => (asB oc r D).bind fun x D => (match x with | true => oa r D | false => ob r D) := by
      funext r D
      simp only [asB]
      cases oc r D with
      | ok d D1 => cases d <;> first | rfl | (rename_i k; cases k <;> rfl)
      | exc c D1 => rfl
      | stuck => rfl
    rw [e] at h
    exact h
  refine spT_mono (sp_seqT (f := fun x r D => (match x with | true => oa r D | false => ob r D)) h') fun k H1 h1 => ?_
  obtain ⟨F, dc, D, r, R, p⟩ := h1
  cases k with
  | true => exact iteT ⟨F, dc, D, r, R, p⟩
  | false => exact iteF ⟨F, dc, D, r, R, p⟩

/-! ### comparisons -/
def oCmp (op : COp) (oa ob : OE) : OE := fun r D => (oa r D).bind fun x D => (ob r D).bind fun y D => (Out.lift (cmpD op x y) D).bind fun k D => .ok (.bool k) D
theorem lift_cmpV (op : COp) (x y : PyData) (D : DS) : ((Out.lift (cmpD op x y) D).bind fun k D => Out.ok (PyData.bool k) D) = Out.lift (cmpV op x y) D := by
  unfold cmpV
  cases cmpD op x y <;> rfl
theorem pe_cmpS (hu : X.A.units + 65 < cLine) (op : COp) (ha : PE X a (spE G .peek oa)) (hb : PE X b (spE G .peek ob)) (hm : behindInMarks (cop op) b = false) :
    PE X (.Compare a [cop op] [b] pos) (spE G .leak (oCmp op oa ob)) := by
  obtain ⟨r, ho, sv⟩ := serves_cmp (X := X) hu op
  refine pe_leak (pe_weak (pe_cmpR ho ha hb hm) fun σ H Q h => ?_)
  refine spE_mono (sp_seq2 (f := fun x y D => (Out.lift (cmpD op x y) D).bind fun k D => .ok (.bool k) D) h) fun x H1 h1 => spE_mono h1 fun y H2 h2 => ?_
  obtain ⟨F, dc, D, dx, dy, e, dk, vx, vy, p⟩ := h2
  simp only [lift_cmpV] at p
  cases q : cmpV op dx dy with
  | none => simp only [q, Out.lift_none] at p; exact p.elim
  | some d =>
    simp only [q, Out.lift_some] at p
    exact sv F H2 dc D x y dx dy d Q e dk vx vy q p
theorem pt_cmpS (hu : X.A.units + 65 < cLine) (op : COp) (ha : PE X a (spE G .peek oa)) (hb : PE X b (spE G .peek ob)) (hm : behindInMarks (cop op) b = false) :
    PT X (.Compare a [cop op] [b] pos) (spT G (asB (oCmp op oa ob))) := by
  obtain ⟨r, ho, sv⟩ := serves_cmp (X := X) hu op
  refine pt_weak (pt_cmpR ho ha hb hm) fun σ H Q h => ?_
  have h2 := spT_asB h
  refine spE_mono (sp_seq2 (m := .fresh) (f := fun x y D => (Out.lift (cmpD op x y) D).bind fun k D => .ok (.bool k) D) (sp_fresh_peek h2)) fun x H1 h1 => spE_mono h1 fun y H2 h2 => ?_
  obtain ⟨F, dc, D, dx, dy, e, dk, vx, vy, p⟩ := h2
  simp only [lift_cmpV] at p
  cases q : cmpV op dx dy with
  | none => simp only [q, Out.lift_none] at p; exact p.elim
  | some d =>
    simp only [q, Out.lift_some] at p
    exact sv F H2 dc D x y dx dy d _ e dk vx vy q p
end
end Dk

namespace Dk
open PySem PySem.Spec PyProof.Rows L2
variable [TabEnv]
section
variable {G : Sig} {m : Md} {oa ob oc : OE} {σ : L2.St} {H : Hp} {Q : VK}
def oChain (o1 o2 : COp) (oa ob oc : OE) : OE := fun r D => (oa r D).bind fun x D => (ob r D).bind fun y D => (Out.lift (cmpD o1 x y) D).bind fun k D => match k with
    | true => (oc r D).bind fun z D => (Out.lift (cmpD o2 y z) D).bind fun k D => .ok (.bool k) D
    | false => .ok (.bool false) D
theorem sp_chain {o1 o2 : COp} {r1 r2 : R2} (s1 : Serves r1 (cmpV o1)) (s2 : Serves r2 (cmpV o2)) (h : spE G .fresh (oChain o1 o2 oa ob oc) σ H Q) :
    tChain r1 r2 (spE G .peek oa) (spE G .peek ob) (spE G .peek oc) σ H Q := by
  obtain ⟨F, dc, D, r, R, p⟩ := h
  refine ⟨F, dc, D, r, R, ?_⟩
  unfold oChain at p
  cases e1 : oa r D with
  | stuck => simp only [e1, Out.stuck_bind] at p; exact p
  | exc c D1 => simp only [e1, Out.exc_bind] at p; exact p
  | ok dx D1 =>
    simp only [e1, Out.ok_bind] at p
    intro x F1 H1 t1 vx
    refine ⟨F1, dc, D1, r, R.step t1, ?_⟩
    cases e2 : ob r D1 with
    | stuck => simp only [e2, Out.stuck_bind] at p; exact p
    | exc c D2 => simp only [e2, Out.exc_bind] at p; exact fun F2 H2 t2 => p F2 H2 (t1.trans t2)
    | ok dy D2 =>
      simp only [e2, Out.ok_bind] at p
      intro y F2 H2 t2 vy
      cases q : cmpD o1 dx dy with
      | none => simp only [q, Out.lift_none, Out.stuck_bind] at p; exact p.elim
      | some k =>
        simp only [q, Out.lift_some, Out.ok_bind] at p
        have R2 := R.step (t1.trans t2)
        refine s1 F2 H2 dc D2 x y dx dy (.bool k) _ t2.fh t2.dice (VP.step vx t2) vy (by simp [cmpV, q]) ?_
        intro v F3 H3 t3 rv
        have ev : v = .bl k := Rv.inv_bl rv
        subst ev
        refine ⟨k, rfl, ?_⟩
        cases k with
        | false =>
          refine iteF ?_
          exact p (.bl false) F3 H3 ((t1.trans t2).trans t3) (Rv.bl false)
        | true =>
          refine iteT ⟨F3, dc, D2, r, R2.step t3, ?_⟩
          cases e3 : oc r D2 with
          | stuck => simp only [e3, Out.stuck_bind] at p; exact p
          | exc c D3 => simp only [e3, Out.exc_bind] at p; exact fun F4 H4 t4 => p F4 H4 (((t1.trans t2).trans t3).trans t4)
          | ok dz D3 =>
            simp only [e3, Out.ok_bind] at p
            intro z F4 H4 t4 vz
            cases q2 : cmpD o2 dy dz with
            | none => simp only [q2, Out.lift_none, Out.stuck_bind] at p; exact p.elim
            | some k2 =>
              simp only [q2, Out.lift_some, Out.ok_bind] at p
              refine s2 F4 H4 dc D3 y z dy dz (.bool k2) _ t4.fh t4.dice (VP.step (VP.step vy t3) t4) vz (by simp [cmpV, q2]) ?_
              exact Kont.step (((t1.trans t2).trans t3).trans t4) p
end
section
variable {X : Cx} {G : Sig} {m : Md} {a b c : PySem.Expr} {pos : Pos} {oa ob oc : OE}
theorem pe_chainS (hu : X.A.units + 65 < cLine) (o1 o2 : COp) (ha : PE X a (spE G .peek oa)) (hb : PE X b (spE G .peek ob)) (hc : PE X c (spE G .peek oc)) (hm : lastMarks [cop o1, cop o2] [b, c] = false) :
    PE X (.Compare a [cop o1, cop o2] [b, c] pos) (spE G .leak (oChain o1 o2 oa ob oc)) := by
  obtain ⟨r1, h1, s1⟩ := serves_cmp (X := X) hu o1
  obtain ⟨r2, h2, s2⟩ := serves_cmp (X := X) hu o2
  exact pe_leak (pe_weak (pe_chain h1 h2 ha hb hc hm) fun σ H Q h => sp_chain s1 s2 h)
theorem pt_chainS (hu : X.A.units + 65 < cLine) (o1 o2 : COp) (ha : PE X a (spE G .peek oa)) (hb : PE X b (spE G .peek ob)) (hc : PE X c (spE G .peek oc)) (hm : lastMarks [cop o1, cop o2] [b, c] = false) :
    PT X (.Compare a [cop o1, cop o2] [b, c] pos) (spT G (asB (oChain o1 o2 oa ob oc))) := by
  obtain ⟨r1, h1, s1⟩ := serves_cmp (X := X) hu o1
  obtain ⟨r2, h2, s2⟩ := serves_cmp (X := X) hu o2
  exact pt_weak (pt_chain h1 h2 ha hb hc hm) fun σ H Q h => sp_chain s1 s2 (sp_fresh_peek (spT_asB h))
end

/-! ### argument lists -/
abbrev OA := Env → DS → Out (List PyData)
theorem resOk_step {m : Md} (hm : m ≠ .fresh) {dc : Option Addr} {H0 H0' F H F1 H1 : Hp} {D1 : DS} {v : V} {d : PyData} (s : Stp dc F H F1 H1 D1) (h : ResOk m K0 H0 F H dc v d) : ResOk m K0 H0' F1 H1 dc v d := by
  cases m with
  | leak => exact Rv.mono h s.ff
  | peek => exact VP.step h s
  | fresh => exact absurd rfl hm
theorem PostA.step {m : Md} (hm : m ≠ .fresh) {E : XK} {xa : XA} {dc : Option Addr} {F H F1 H1 : Hp} {D1 : DS} {o : Out (List PyData)} {Q : List V → Hp → Prop} (s : Stp dc F H F1 H1 D1) (h : PostA m K0 E xa dc F H o Q) : PostA m K0 E xa dc F1 H1 o Q := by
  cases o with
  | ok d D' =>
    intro vs F' H' s' q
    refine h vs F' H' (s.trans s') ?_
    refine Paired.mapP q fun v d r => ?_
    cases m with
    | leak => exact r
    | peek => exact r
    | fresh => exact absurd rfl hm
  | exc c D' => exact fun F' H' s' => h F' H' (s.trans s')
  | stuck => exact h
section
variable {X : Cx} {G : Sig} {m : Md} {e : PySem.Expr} {es : List PySem.Expr} {oe : OE} {oes : OA}
theorem pa_nilS : PA X [] (spA G m fun _ D => .ok [] D) := by
  refine pa_weak pa_nil fun σ H Q h => ?_
  obtain ⟨F, dc, D, r, R, p⟩ := h
  exact p [] F H (Stp.refl R.fh R.dice) .nil
theorem pa_consS (hm : m ≠ .fresh) (he : PE X e (spE G m oe)) (hes : PA X es (spA G m oes)) (hs : starEach (e :: es) X.env = (false, eval e X.env) :: starEach es X.env) :
    PA X (e :: es) (spA G m fun r D => (oe r D).bind fun v D => (oes r D).bind fun vs D => .ok (v :: vs) D) := by
  refine pa_weak (pa_cons he hes hs) fun σ H Q h => ?_
  obtain ⟨F, dc, D, r, R, p⟩ := h
  refine ⟨F, dc, D, r, R, ?_⟩
  cases e1 : oe r D with
  | stuck => simp only [e1, Out.stuck_bind] at p; exact p
  | exc c D1 => simp only [e1, Out.exc_bind] at p; exact p
  | ok dx D1 =>
    simp only [e1, Out.ok_bind] at p
    intro x F1 H1 t1 vx
    refine ⟨F1, dc, D1, r, R.step t1, ?_⟩
    cases e2 : oes r D1 with
    | stuck => simp only [e2, Out.stuck_bind] at p; exact p
    | exc c D2 => simp only [e2, Out.exc_bind] at p; exact fun F2 H2 t2 => p F2 H2 (t1.trans t2)
    | ok dy D2 =>
      simp only [e2, Out.ok_bind] at p
      intro ys F2 H2 t2 vy
      refine p (x :: ys) F2 H2 (t1.trans t2) (.cons (resOk_step hm t2 vx) (Paired.mapP vy fun v d r => ?_))
      cases m with
      | leak => exact r
      | peek => exact r
      | fresh => exact absurd rfl hm
theorem paired_rvs {F : Hp} : ∀ {vs : List V} {ds : List PyData}, Paired (Rv K0 F) vs ds → Rvs K0 F vs ds
  | _, _, .nil => .nil
  | _, _, .cons h t => .cons h (paired_rvs t)
theorem pe_tupS {pos : Pos} {k : Nat} (h : PA X es (spA G .leak oes)) : PE X (.Tuple es k pos) (spE G .leak fun r D => (oes r D).bind fun vs D => if vs.length ≤ szL then .ok (.tuple vs) D else .stuck) := by
  refine pe_weak (pe_tup h) fun σ H Q h => ?_
  obtain ⟨F, dc, D, r, R, p⟩ := h
  refine ⟨F, dc, D, r, R, ?_⟩
  cases e1 : oes r D with
  | stuck => simp only [e1, Out.stuck_bind] at p; exact p
  | exc c D1 => simp only [e1, Out.exc_bind] at p; exact p
  | ok ds D1 =>
    simp only [e1, Out.ok_bind] at p
    intro vs F1 H1 t1 vx
    have rr : Rvs K0 F1 vs ds := paired_rvs vx
    split at p
    · rename_i hl
      exact ⟨by rw [rr.len]; exact hl, fun q hq => (Kont.step t1 p).tup t1.fh t1.dice hq rr⟩
    · exact p.elim
theorem pe_lstS {pos : Pos} (h : PA X es (spA G .leak oes)) : PE X (.List es pos) (spE G .fresh fun r D => (oes r D).bind fun vs D => if vs.length ≤ szL then .ok (.list vs) D else .stuck) := by
  refine pe_weak (pe_lst h) fun σ H Q h => ?_
  obtain ⟨F, dc, D, r, R, p⟩ := h
  refine ⟨F, dc, D, r, R, ?_⟩
  cases e1 : oes r D with
  | stuck => simp only [e1, Out.stuck_bind] at p; exact p
  | exc c D1 => simp only [e1, Out.exc_bind] at p; exact p
  | ok ds D1 =>
    simp only [e1, Out.ok_bind] at p
    intro vs F1 H1 t1 vx
    have rr : Rvs K0 F1 vs ds := paired_rvs vx
    split at p
    · rename_i hl
      exact ⟨by rw [rr.len]; exact hl, fun q hq => (Kont.step t1 p).lst t1.fh t1.dice hq rr⟩
    · exact p.elim
/-- a built-in on values -/
theorem sp_bi {σ : L2.St} {H : Hp} {Q : VK} {r : List V → Hp → VK → Prop} {g : List PyData → Option PyData} (sv : ServesL r g) (h : spE G .fresh (fun r D => (oes r D).bind fun vs D => .lift (g vs) D) σ H Q) : tCB r (spA G .peek oes) σ H Q := by
  obtain ⟨F, dc, D, r, R, p⟩ := h
  refine ⟨F, dc, D, r, R, ?_⟩
  cases e1 : oes r D with
  | stuck => simp only [e1, Out.stuck_bind] at p; exact p
  | exc c D1 => simp only [e1, Out.exc_bind] at p; exact p
  | ok ds D1 =>
    simp only [e1, Out.ok_bind] at p
    intro vs F1 H1 t1 vx
    cases q : g ds with
    | none => simp only [q, Out.lift_none] at p; exact p.elim
    | some d =>
      simp only [q, Out.lift_some] at p
      exact sv F1 H1 dc D1 vs ds d Q t1.fh t1.dice vx q (Kont.step t1 p)
theorem sp_biK {σ : L2.St} {H : Hp} {Q : VK} {r : List V → Hp → VK → Prop} {g : List PyData → Option PyData} (sv : ServesK r g) (h : spE G .leak (fun r D => (oes r D).bind fun vs D => .lift (g vs) D) σ H Q) : tCB r (spA G .peek oes) σ H Q := by
  obtain ⟨F, dc, D, r, R, p⟩ := h
  refine ⟨F, dc, D, r, R, ?_⟩
  cases e1 : oes r D with
  | stuck => simp only [e1, Out.stuck_bind] at p; exact p
  | exc c D1 => simp only [e1, Out.exc_bind] at p; exact p
  | ok ds D1 =>
    simp only [e1, Out.ok_bind] at p
    intro vs F1 H1 t1 vx
    cases q : g ds with
    | none => simp only [q, Out.lift_none] at p; exact p.elim
    | some d =>
      simp only [q, Out.lift_some] at p
      exact sv F1 H1 dc D1 vs ds d Q t1.fh t1.dice vx q (Kont.step t1 p)
end

/-! ### subscripts -/
section
variable {X : Cx} {G : Sig} {a b : PySem.Expr} {pos : Pos} {oa ob : OE}
theorem serves_ix : Serves1 (rIx X.K) ixD := by
  intro F H dc D x y dx dy d Q e dk hx hy hd k
  cases dx with
  | list xs =>
    cases dy with
    | int i =>
      obtain ⟨p, vs, rfl, hs, rr⟩ := hx.list e
      simp only [ixD, Option.bind_eq_some_iff] at hd
      obtain ⟨j, h1, h2⟩ := hd
      obtain ⟨v, h3, rv⟩ := rr.get h2
      refine .inl ⟨p, vs, i, v, rfl, hy.int, sqL_K hs, ?_, k.item e dk rv⟩
      unfold atI
      rw [rr.len]
      show (ixN xs.length i).bind _ = _
      rw [show ixN xs.length i = some j from h1]
      exact h3
    | _ => simp [ixD] at hd
  | tuple xs =>
    cases dy with
    | int i =>
      obtain ⟨p, vs, rfl, hs, rr⟩ := hx.tup
      simp only [ixD, Option.bind_eq_some_iff] at hd
      obtain ⟨j, h1, h2⟩ := hd
      obtain ⟨v, h3, rv⟩ := rr.get h2
      refine .inr (.inl ⟨p, vs, i, v, rfl, hy.int, sqT_K (Evl.ex_t e hs), ?_, k.item e dk rv⟩)
      unfold atI
      rw [rr.len]
      show (ixN xs.length i).bind _ = _
      rw [show ixN xs.length i = some j from h1]
      exact h3
    | _ => simp [ixD] at hd
  | _ => simp [ixD] at hd
theorem pe_ixS (ha : PE X a (spE G .peek oa)) (hb : PE X b (spE G .peek ob)) (hs : PlainIx b) :
    PE X (.Subscript a b pos) (spE G .leak fun r D => (oa r D).bind fun x D => (ob r D).bind fun y D => .lift (ixD x y) D) := by
  refine pe_weak (pe_ix ix_seq ha hb hs) fun σ H Q h => ?_
  refine spE_mono (sp_seq2 (f := fun x y D => .lift (ixD x y) D) h) fun x H1 h1 => spE_mono h1 fun y H2 h2 => ?_
  obtain ⟨F, dc, D, dx, dy, e, dk, vx, vy, p⟩ := h2
  cases q : ixD dx dy with
  | none => simp only [q, Out.lift_none] at p; exact p.elim
  | some d =>
    simp only [q, Out.lift_some] at p
    exact serves_ix F H2 dc D x y dx dy d Q e dk vx vy q p
theorem sIx_eq (n d : Nat) (o : Option Int) : sIx n d o = HT.sIx n d o := by
  cases o <;> rfl
theorem cut_ok {K : Fr} {F : Hp} {vs : List V} {xs : List PyData} (h : Rvs K F vs xs) (lo hi : Option Int) : Rvs K F (cutV vs lo hi) (cut xs lo hi) := by
  unfold cutV cut
  rw [h.len, sIx_eq, sIx_eq]
  exact (h.drop _).take _
theorem serves_slice {F H : Hp} {dc : Option Addr} {D : DS} {x : V} {dx d : PyData} {lo hi : Option Int} {Q : VK} (e : Same F H) (dk : DiceOk dc F H D) (hx : VP K0 F H dc x dx) (hd : sliceD dx lo hi = some d) (k : Kont .fresh K0 dc F H D d Q) :
    rSlL X.K x lo hi H Q ∨ rSlA X.K x lo hi H Q := by
  cases dx with
  | list xs =>
    simp [sliceD] at hd
    subst hd
    obtain ⟨p, vs, rfl, hs, rr⟩ := hx.list e
    exact .inl ⟨p, vs, rfl, sqL_K hs, fun q hq => k.lst e dk hq (cut_ok rr lo hi)⟩
  | tuple xs =>
    simp [sliceD] at hd
    subst hd
    obtain ⟨p, vs, rfl, hs, rr⟩ := hx.tup
    refine .inr ⟨p, vs, rfl, sqT_K (Evl.ex_t e hs), fun z => ?_, fun _ q hq => k.tup e dk hq (cut_ok rr lo hi)⟩
    have ec : cut xs lo hi = xs := by
      unfold cut
      rw [sIx_eq, sIx_eq, ← rr.len, z.1, z.2]
      simp [rr.len]
    rw [ec] at k
    exact k.flat e dk (.tup hs rr) (by intro _ q; cases q)
  | _ => simp [sliceD] at hd
def oOpt (o : Option OE) : Env → DS → Out (Option Int) := fun r D => match o with
  | none => .ok none D
  | some o => (o r D).bind fun v D => match v with
    | .int i => .ok (some i) D
    | _ => .stuck
/-- an optional part -/
def spO (G : Sig) (o : Env → DS → Out (Option Int)) : TO := fun σ H Q => ∃ F dc D r, Rel K0 G.N F H dc D r σ ∧ (match o r D with
  | .ok i D' => ∀ F' H', Stp dc F H F' H' D' → Q i H'
  | .exc c D' => ∀ F' H', Stp dc F H F' H' D' → G.E (.ref (G.xa c)) none H'
  | .stuck => False)
theorem po_weak {e : Option PySem.Expr} {t t' : TO} (h : PO X e t) (i : ∀ σ H Q, t' σ H Q → t σ H Q) : PO X e t' := ⟨fun pins s σ H Q I q => h.run pins s σ H Q I (i σ H Q q)⟩
theorem po_noneS : PO X none (spO G (oOpt none)) := po_weak po_none fun σ H Q h => by
  obtain ⟨F, dc, D, r, R, p⟩ := h
  exact p F H (Stp.refl R.fh R.dice)
theorem po_someS {o : OE} (he : PE X a (spE G .peek o)) : PO X (some a) (spO G (oOpt (some o))) := po_weak (po_some he) fun σ H Q h => by
  obtain ⟨F, dc, D, r, R, p⟩ := h
  refine ⟨F, dc, D, r, R, ?_⟩
  simp only [oOpt] at p
  cases e1 : o r D with
  | stuck => simp only [e1, Out.stuck_bind] at p
  | exc c D1 => simp only [e1, Out.exc_bind] at p; exact p
  | ok d D1 =>
    simp only [e1, Out.ok_bind] at p
    intro v F1 H1 s1 v1
    cases d with
    | int i => exact ⟨i, VP.int v1, p F1 H1 s1⟩
    | _ => simp at p
theorem pe_sliceS {lo hi : Option PySem.Expr} {ol oh : Env → DS → Out (Option Int)} {p2 : Pos} (ha : PE X a (spE G .peek oa)) (hl : PO X lo (spO G ol)) (hh : PO X hi (spO G oh)) :
    PE X (.Subscript a (.Slice lo hi none p2) pos) (spE G .fresh fun r D => (oa r D).bind fun x D => (ol r D).bind fun l D => (oh r D).bind fun h D => .lift (sliceD x l h) D) := by
  refine pe_weak (pe_slice (sl_list.or sl_tupA) ha hl hh) fun σ H Q h => ?_
  obtain ⟨F, dc, D, r, R, p⟩ := h
  refine ⟨F, dc, D, r, R, ?_⟩
  cases e1 : oa r D with
  | stuck => simp only [e1, Out.stuck_bind] at p; exact p
  | exc c D1 => simp only [e1, Out.exc_bind] at p; exact p
  | ok dx D1 =>
    simp only [e1, Out.ok_bind] at p
    intro x F1 H1 t1 vx
    refine ⟨F1, dc, D1, r, R.step t1, ?_⟩
    cases e2 : ol r D1 with
    | stuck => simp only [e2, Out.stuck_bind] at p; exact p
    | exc c D2 => simp only [e2, Out.exc_bind] at p; exact fun F2 H2 t2 => p F2 H2 (t1.trans t2)
    | ok l D2 =>
      simp only [e2, Out.ok_bind] at p
      intro F2 H2 t2
      refine ⟨F2, dc, D2, r, R.step (t1.trans t2), ?_⟩
      cases e3 : oh r D2 with
      | stuck => simp only [e3, Out.stuck_bind] at p; exact p
      | exc c D3 => simp only [e3, Out.exc_bind] at p; exact fun F3 H3 t3 => p F3 H3 ((t1.trans t2).trans t3)
      | ok u D3 =>
        simp only [e3, Out.ok_bind] at p
        intro F3 H3 t3
        cases q : sliceD dx l u with
        | none => simp only [q, Out.lift_none] at p; exact p.elim
        | some d =>
          simp only [q, Out.lift_some] at p
          exact serves_slice t3.fh t3.dice (VP.step (VP.step vx t2) t3) q (Kont.step ((t1.trans t2).trans t3) p)
end
end Dk

set_option Elab.async false
set_option linter.all false
set_option maxRecDepth 100000
set_option maxHeartbeats 2000000
/-! Told1: a list walked, summed, while an exception is handled. -/
namespace Dk
open PySem PySem.Spec PyProof.Rows L2 HotX
section
variable {prog : Program} {w : World} {A : Around} {E : Value → Shared → Prop} {s : Shared}
theorem hot_ne_iter {x1 it l : Addr} {i : Nat} {h : Heap} (hot : HotAt A x1 h) (hit : h.IsListIter it l i) : x1 ≠ it := by
  rintro rfl
  obtain ⟨_, o1, vs1, h1, d1, c1⟩ := hot
  obtain ⟨o, ho, hc, hd⟩ := hit
  rw [h1] at ho
  cases ho
  rw [d1] at hd
  cases hd
  simp at c1
/-- a list's iterator at its end -/
theorem listEndHot {it l x1 : Addr} {i : Nat} {items} {Q : Option Value → Shared → Prop} (hot : HotAt A x1 s.heap) (hit : s.heap.IsListIter it l i) (hl : s.heap.IsList l items) (hx : items[i]? = none)
    (hQ : ∀ h', Heap.ExtBut it s.heap h' → Q none { s with heap := h' }) : wpAny (model prog w) A (pyNext (.ref it)) Q E s := by
  have nit := hot_ne_iter hot hit
  obtain ⟨hh, o1, vs1, h1, d1, c1⟩ := hot
  obtain ⟨oi, hoi, hci, hdi⟩ := id hit
  obtain ⟨ol, hol, _, nl, hdl⟩ := hl
  unfold pyNext
  refine wpAny_bind (wpAny_attempt (wpAny_callSpecial?_slot (name := Str.ofString "__next__") hit.typeIs slot_listiter_next (wpAny_call_entry slot_listiter_next hit.typeIs entry_listiter_next ?_ (args_listiter_next _))))
  show wpAny _ _ (field (.ref it) 0 >>= _) _ _ s
  refine wpAny_bind (wpAny_field hoi hdi (x := .ref l) rfl ?_)
  show wpAny _ _ (if (Value.ref l == Value.none) = true then _ else _) _ _ s
  rw [if_neg (show ¬ ((Value.ref l == Value.none) = true) from Bool.false_ne_true)]
  show wpAny _ _ (field (.ref it) 1 >>= _) _ _ s
  refine wpAny_bind (wpAny_field hoi hdi (x := .int i 0) rfl ?_)
  show wpAny _ _ (seqItems? (.ref l) >>= _) _ _ s
  refine wpAny_bind (wpAny_seqItems hol hdl ?_)
  simp only [Int.toNat_natCast, hx]
  refine wpAny_bind (wpAny_rule (wpAny_bind (wpAny_setField hoi hdi (by simp) ?_)))
  show wpAny _ _ (newExc (.type "StopIteration") [] >>= _) _ _ _
  refine wpAny_bind ?_
  simp only [newExc, newTuple]
  refine wpAny_bind (wpAny_newObj_type ?_ (by size_fits))
  refine wpAny_bind (m := firstArgMember _ _) (wpAny_of_eq (a := Value.none) (by first | rfl | (simp only [firstArgMember]; rfl)) ?_)
  refine wpAny_newObj_type ?_ (by size_fits)
  generalize hU : s.heap.update it (Obj.mapFields (·.setIfInBounds 0 Value.none)) = U
  have hU1 : U.get? x1 = some o1 := by
    rw [← hU, Heap.get?_update_other _ _ (Ne.symm nit)]
    exact h1
  refine raiseNew_hot ⟨hh, o1, vs1, Heap.get?_push_of_some _ (Heap.get?_push_of_some _ hU1), d1, c1⟩ (Nat.ne_of_lt (Heap.lt_size (Heap.get?_push_of_some _ hU1))) (Heap.get?_push_size _ rfl) rfl (by first | (simp; done) | (simp; omega) | (simp only [Array.size_append]; simp; omega)) ?_
  refine wpAny_bind (wpAny_isInstance (T := "StopIteration") (b := true) ⟨_, Heap.get?_update_self _ (Heap.get?_push_size _ rfl) rfl, rfl⟩ isSubtype_stop ?_)
  refine wpAny_pure (hQ _ fun b o hb e => ?_)
  have e2 : U.get? b = some o := by
    rw [← hU, Heap.get?_update_other _ _ (Ne.symm hb)]
    exact e
  rw [Heap.get?_update_other _ _ (Nat.ne_of_gt (Heap.lt_size (Heap.get?_push_of_some _ e2)))]
  exact Heap.get?_push_of_some _ (Heap.get?_push_of_some _ e2)
theorem HotAt.to {x1 : Addr} {h h' : Heap} (hot : HotAt A x1 h) (k : ∀ o, h.get? x1 = some o → h'.get? x1 = some o) : HotAt A x1 h' := by
  obtain ⟨hh, o1, vs1, h1, d1, c1⟩ := hot
  exact ⟨hh, o1, vs1, k _ h1, d1, c1⟩
theorem walksHot (x1 I ax : Addr) (hne : ax ≠ I) (items : Array Value) :
    Walks prog w A I [I, ax, x1] [I] items.size (fun i v => items[i]? = some v) (fun i h => h.IsListIter I ax i ∧ h.IsList ax items ∧ HotAt A x1 h) where
  sub := fun b hb => by simp at hb; simp [hb]
  frame := fun _ _ _ st hk => ⟨st.1.at fun o e => hk I (by simp) o e, st.2.1.at fun o e => hk ax (by simp) o e, HotAt.to st.2.2 fun o e => hk x1 (by simp) o e⟩
  item := fun i s Q E hi st hQ => by
    have nx := hot_ne_iter st.2.2 st.1
    refine wpAny_pyNext_list_item st.1 st.2.1 (x := items[i]) (by simp [hi]) fun h' hit' hs' => ?_
    exact hQ _ h' s.toks (by simp [hi]) ⟨hit', st.2.1.extBut hs'.extBut hne, HotAt.to st.2.2 fun o e => hs'.extBut x1 o nx e⟩ fun b o hb e => hs'.extBut b o (fun h => hb (by simp [h])) e
  done := fun s Q E st hQ => listEndHot st.2.2 st.1 st.2.1 (by simp) fun h' he' => hQ h' s.toks fun b o hb e => he' b o (fun h => hb (by simp [h])) e
  self := fun _ _ _ _ st hQ => wpAny_pyIter_listiter st.1 hQ
/-- the sum of a list of whole numbers -/
theorem sumHot {l x1 : Addr} {xs : Array (Int × Tok)} {Q : Value → Shared → Prop} (hot : HotAt A x1 s.heap) (hl : s.heap.IsList l (intItems xs))
    (h : ∀ h' tk t', (∀ b o, s.heap.get? b = some o → h'.get? b = some o) → Q (.int (preSum (numAt xs) xs.size) t') { s with heap := h', toks := tk }) :
    wpAny (model prog w) A (PySem.call (.builtin "sum") [.ref l]) Q E s := by
  refine call_sum_walkG (iter_intList hl fun s₂ e st hfp hlI => ?_)
  subst e
  have hot2 : HotAt A.in1 x1 (s.heap.push { cls := .type "list_iterator", data := .fields #[.ref l, .int 0 0] }) := HotAt.to (A := A.in1) hot fun o e => Heap.get?_push_of_some _ e
  have x1lt : x1 < s.heap.objs.size := by obtain ⟨_, o, _, e, _⟩ := hot; exact Heap.lt_size e
  refine ⟨_, _, _, _, _, _, numAt xs, rfl, walksHot (A := A.in1) x1 _ l hlI (intItems xs), ⟨st.1, st.2, hot2⟩, fun b hb => ?_, (fun _ _ => intItems_at), fun h' tk t' hk => ?_⟩
  · simp only [List.mem_cons, List.not_mem_nil, or_false] at hb
    rcases hb with rfl | rfl | rfl
    · exact hfp _ (by simp)
    · exact hfp _ (by simp)
    · show b < (s.heap.push _).objs.size
      rw [Heap.size_push]
      exact Nat.lt_succ_of_lt x1lt
  · have := h h' tk t' fun b o e => hk b o (fun hm => by
      simp only [List.mem_cons, List.not_mem_nil, or_false] at hm
      exact Nat.ne_of_lt (Heap.lt_size e) hm) (Heap.get?_push_of_some _ e)
    simpa [intItems] using this
end
end Dk
namespace Dk
open PySem PySem.Spec PyProof.Rows L2 HotX
section
variable {X : Cx}
theorem HotC.hot {X : Cx} {pins : List (Addr × Obj)} {σ : L2.St} {H : Hp} {s : Shared} (c : L2H.HotC X) (I : Inv X pins σ H s) : ∃ x1, HotAt X.A x1 s.heap := L2H.HotC.at c I
def cntB (bs : List Bool) : Int := (bs.map fun b => if b then (1 : Int) else 0).sum
/-- the flags' comprehension, as the law writes it -/
def flagsComp (cs : PySem.Scope) (p2 p3 p4 p5 p6 p7 : Pos) : PySem.Expr := .ListComp (.Call (.Name "int" p2) [.Name "flag" p3] [] p4) [⟨.Name "flag" p5, .Name "flags" p6, [], 0⟩] cs p7
structure FlagSc (cs : PySem.Scope) : Prop where
  free : ∀ y ∈ cs.names, y.2 ≠ .free
  cell : ∀ y ∈ cs.names, y.2 ≠ .cell
  kind : cs.kind = .function
  names : ∀ y ∈ cs.names, y.2 = .local → cs.names.lookup y.1 = some .local
  flag : cs.names.lookup ("flag" : PySem.Str) = some .local
  int : cs.names.lookup ("int" : PySem.Str) = some .globalImplicit
theorem flags_ints : ∀ (bs : List Bool) (us ys : List Value), Vals (bs.map V.bl) us → Paired (fun v y => ∃ (b : Bool) (t : Tok), v = Value.bool b ∧ y = Value.int (if b then 1 else 0) t) us ys → IntsAre ys (bs.map fun b => if b then (1 : Int) else 0)
  | [], us, ys, h1, h2 => by
    cases h1
    cases h2
    exact .nil
  | b :: bs, us, ys, h1, h2 => by
    cases h1 with
    | cons r rr =>
      cases h2 with
      | cons f ff =>
        obtain ⟨b', t, e1, rfl⟩ := f
        cases r
        cases e1
        exact .cons _ t (flags_ints bs _ _ rr ff)
theorem pe_sumFlags {j : Nat} {cs : PySem.Scope} {p1 p2 p3 p4 p5 p6 p7 p8 : Pos} (hc : L2H.HotC X) (S : FlagSc cs) (hj : X.N[j]? = some ("flags" : PySem.Str)) (hv : Vis X.env.scope "flags") (hg : Gl X "sum") (hm : X.mg "sum" = none) (hi : X.mg "int" = none) :
    PE X (.Call (.Name "sum" p1) [flagsComp cs p2 p3 p4 p5 p6 p7] [] p8) (fun σ H Q => ∃ a bs, σ[j]? = some (some (.ref a)) ∧ SqL X.K H a (bs.map V.bl) ∧ Q (.int (cntB bs)) H) := by
  refine ⟨fun pins s σ H Q I h => ?_⟩
  obtain ⟨a, bs, e1, e2, q⟩ := h
  obtain ⟨its, rv, hl, hz⟩ := I.list e2
  obtain ⟨x1, hot⟩ := HotC.hot hc I
  obtain ⟨mb, b1, b2⟩ := I.mod.blt
  have lst : s.heap.IsList a its.toArray := hl.isList
  refine wpAny_Call_Name_kw (ld_blt (u := .builtin "sum") I hg hm (by decide +kernel) ?_)
  refine PyProof.Rows.callWith_builtin1 ?_
  refine Calls.spliced_cons ?_
  -- the comprehension
  refine wpAny_ListComp_walk (p := fun _ => true) (F := fun v y => ∃ (b : Bool) (t : Tok), v = .bool b ∧ y = .int (if b then 1 else 0) t) S.free S.cell S.kind S.names S.flag ?_
  refine thn ((pe_var (i := j) hj hv (by decide +kernel) (by decide +kernel)).run pins s σ H (fun v H1 => v = .ref a ∧ H1 = H) I ⟨.ref a, e1, rfl, rfl⟩) fun u s1 ⟨v, H1, I1, r1, q1⟩ => ?_
  obtain ⟨rfl, rfl⟩ := q1
  obtain rfl : u = Value.ref a := r1
  obtain ⟨its1, rv1, hl1, _⟩ := I1.list e2
  obtain ⟨x1, hot1⟩ := HotC.hot hc I1
  have x1lt : x1 < s1.heap.objs.size := by obtain ⟨_, o, _, e, _⟩ := hot1; exact Heap.lt_size e
  have alt : a < s1.heap.objs.size := by obtain ⟨o, e, _⟩ := hl1.isList; exact Heap.lt_size e
  refine wpAny_pyIter_list hl1.isList ?_
  have hlen : its1.length = bs.length := by rw [← rv1.length]; simp
  have kp : ∀ b o, s1.heap.get? b = some o → (s1.heap.push { cls := .type "list_iterator", data := .fields #[.ref a, .int 0 0] }).get? b = some o := fun b o e => Heap.get?_push_of_some _ e
  refine ⟨_, _, _, _, _, _, rfl, walksHot x1 s1.heap.objs.size a (Nat.ne_of_lt alt) its1.toArray, ?_, ⟨⟨_, Heap.get?_push_size _ rfl, rfl, rfl⟩, hl1.isList.push _, HotAt.to hot1 (kp x1)⟩, ?_, ⟨?_, ?_⟩, ?_⟩
  · rw [List.size_toArray, hlen]
    simpa using hz
  · intro b hb
    simp only [List.mem_cons, List.not_mem_nil, or_false] at hb
    show b < (s1.heap.push _).objs.size
    rw [Heap.size_push]
    rcases hb with rfl | rfl | rfl
    · exact Nat.lt_succ_self _
    · exact Nat.lt_succ_of_lt alt
    · exact Nat.lt_succ_of_lt x1lt
  · intro C i v s3 m3 E' hP hns hm3 hk ht
    simp only [List.forIn_nil]
    exact wpAny_pure ⟨rfl, s3.heap, s3.toks, rfl, fun _ _ e => e⟩
  · intro C i v s3 m3 E' hP _ hns hm3 hk ht
    have hvb : ∃ b, v = Value.bool b := by
      have hP : its1.toArray[i]? = some v := hP
      rw [List.getElem?_toArray] at hP
      have hi2 : i < bs.length := by rw [← hlen]; exact (List.getElem?_eq_some_iff.mp hP).1
      obtain ⟨u, hu, ru⟩ := rv1.get (i := i) (x := .bl bs[i]) (by rw [List.getElem?_map, List.getElem?_eq_getElem hi2]; rfl)
      rw [hP] at hu
      cases hu
      exact ⟨_, ru⟩
    obtain ⟨b, rfl⟩ := hvb
    have k3 : ∀ b o, X.base.get? b = some o → s3.heap.get? b = some o := fun b o e => hk b o (fun z => by
      simp only [List.mem_cons, List.not_mem_nil, or_false] at z
      exact Nat.ne_of_lt (Heap.lt_size (I1.bk b o e)) z) (kp b o (I1.bk b o e))
    refine wpAny_Call_Name_kw (Calls.Name_function_global (env := compEnv cs C X.env) S.kind S.int (Calls.loadGlobal_builtin (v := .type "int") (mb := mb) (mg := X.mg) ?_ hi ?_ ?_ ?_))
    · show s3.heap.Ns X.env.globals X.mg
      rw [I1.ok.glob]
      exact I1.mod.glob.keeps k3
    · show s3.heap.Ns X.env.builtins mb
      rw [I1.ok.blt]
      exact b1.keeps k3
    · exact (b2 "int" (by decide)).trans (by decide +kernel)
    refine PyProof.Rows.callWith_type1 (Calls.spliced_cons (wpAny_Name (wpAny_loadName_local S.kind S.flag hns hm3 (Calls.spliced_nil ?_)) (by decide)))
    exact call_int_bool ⟨⟨b, _, rfl, rfl⟩, s3.heap, _, rfl, fun _ _ e => e⟩
  · intro D h' tk ys vs hD hlD hpl hlen2 hP hF hk
    refine Calls.spliced_nil ?_
    have k4 : ∀ b o, s1.heap.get? b = some o → h'.get? b = some o := fun b o e => hk b o (fun z => by
      simp only [List.mem_cons, List.not_mem_nil, or_false] at z
      exact Nat.ne_of_lt (Heap.lt_size e) z) (kp b o e)
    have hi : IntsAre ys.toList (bs.map fun b => if b then (1 : Int) else 0) := by
      have ev : vs = its1 := by
        refine List.ext_getElem? fun k => ?_
        by_cases hk1 : k < vs.length
        · have h1 := hP k vs[k] (List.getElem?_eq_getElem hk1)
          have h1 : its1.toArray[k]? = some vs[k] := h1
          rw [List.getElem?_toArray] at h1
          rw [h1, List.getElem?_eq_getElem hk1]
        · have h2 : its1.length ≤ k := by
            have : vs.length = its1.length := by rw [hlen2]; simp
            omega
          rw [List.getElem?_eq_none (by omega), List.getElem?_eq_none h2]
      rw [ev, List.filter_eq_self.mpr (by simp)] at hF
      exact flags_ints bs its1 ys.toList rv1 hF
    obtain ⟨xs, e⟩ := hi.allInts.items
    have hn : numsOf (intItems xs).toList = bs.map fun b => if b then (1 : Int) else 0 := by rw [← e]; simpa using hi.numsOf
    rw [nums_intItems] at hn
    have e : ys = intItems xs := by simpa using e
    rw [e] at hlD
    refine sumHot (s := { s1 with heap := h', toks := tk }) (x1 := x1) (HotAt.to hot1 (k4 x1)) hlD fun h2 tk2 t2 hk2 => ?_
    rw [preSum_eq, List.take_of_length_le (by simp), hn]
    exact ⟨.int (cntB bs), H1, I1.kept fun b o e => hk2 b o (k4 b o e), ⟨_, rfl⟩, q⟩
end
end Dk

set_option Elab.async false
set_option linter.all false
set_option maxRecDepth 100000
set_option maxHeartbeats 2000000
/-! Told2: the one class that a refusal has, told while it is handled. -/
namespace Dk
open PySem PySem.Spec PyProof.Rows L2 HotX
/-- isinstance(e, C), e a pinned exception of the class D -/
theorem call_isP {X : Cx} {a D : Addr} {oe : Obj} (hp : (a, oe) ∈ X.pn) (C : ExcC X.K D) (hz : Zc (.ref D) none oe) (hf : ∃ vs, oe.data = .fields vs) : CallR X (.builtin "isinstance") (rIsE X.K D a) := by
  intro pins s σ H xs us Q I r h
  obtain ⟨cl, cv, b, rfl, hcv, e, q⟩ := h
  obtain ⟨u1, u2, rfl⟩ : ∃ u1 u2, us = [u1, u2] := by
    cases r with
    | cons _ rr => cases rr with
      | cons _ r3 => cases r3; exact ⟨_, _, rfl⟩
  have r1 : RelV (.ref a) u1 := by cases r; assumption
  have r2 : RelV cl u2 := by
    cases r with
    | cons _ rr => cases rr; assumption
  obtain rfl : u1 = Value.ref a := r1
  obtain rfl := hcv _ r2
  obtain ⟨hget, _⟩ := I.pin (a, oe) (List.mem_append_left _ hp)
  obtain ⟨vs, hv⟩ := hf
  have J : PySem.W.InstAt s.heap a oe D none := by
    obtain ⟨oc, od, oda, osl⟩ := oe
    obtain ⟨h1, h2⟩ := hz
    simp only at h1 h2 hv
    subst h1 h2 hv
    exact ⟨hget, rfl, rfl, trivial⟩
  refine PySem.W.kia_one (PySem.W.handS_kitx_exc C.hg C.hk C.hs C.hd C.ha C.hn C.ht C.hm) I.kIn J e (fun z => nomatch z) fun tk => ?_
  exact ⟨.bl b, H, I.kept (t' := tk) fun _ _ z => z, rfl, q⟩

variable [TabEnv]
/-- the classes, in the teller's order: each by its number in Core's -/
def tOrd : List Nat := [0, 1, 2, 3, 4, 5, 6, 7, 12, 13, 14, 8, 9, 10, 11]
def excNm (c : Nat) : PySem.Str := Str.ofString ((excName c).getD "")
/-- what the module says of the refusals -/
structure ExcOk (K : Fr) (mg : PySem.Str → Option Value) (xa : Nat → Addr) : Prop where
  at_ : ∀ c, c < 15 → mg (excNm c) = some (.ref (xa c))
  cls : ∀ c, c < 15 → ExcC K (xa c)
  kit : ∀ c d, c < 15 → d < 15 → PySem.W.kitOne K (.ref (xa c)) (.ref (xa d)) = some (decide (c = d))
  val : ∀ c, c < 15 → PySem.W.kitOne K (.ref (xa c)) (.type "ValueError") = some true
/-- isinstance(e, X) -/
def isaE : PySem.Expr → Option PySem.Str
  | .Call (.Name f _) [.Name e _, .Name x _] [] _ => if f == ("isinstance" : PySem.Str) && e == ("e" : PySem.Str) then some x else none
  | _ => none
def strE : PySem.Expr → Option PySem.Str
  | .Constant (.str x) _ _ => some x
  | _ => none
def mapE {α : Type} (f : PySem.Expr → Option α) : List PySem.Expr → Option (List α)
  | [] => some []
  | e :: es => match f e, mapE f es with
    | some x, some xs => some (x :: xs)
    | _, _ => none
section
variable {X : Cx} {xa : Nat → Addr} {c : Nat} {a : Addr} {oe : Obj}
/-- the context in which the teller's body runs -/
structure TermCx (X : Cx) (xa : Nat → Addr) (c : Nat) (a : Addr) (oe : Obj) : Prop where
  N : X.N = ([("e" : PySem.Str), "flags", "kinds"] : List PySem.Str)
  hot : L2H.HotC X
  pin : (a, oe) ∈ X.pn
  c15 : c < 15
  z : Zc (.ref (xa c)) none oe
  f : ∃ vs, oe.data = .fields vs
  ex : ExcOk X.K X.mg xa
  ve : Vis X.env.scope "e"
  lf : X.env.scope.names.lookup ("flags" : PySem.Str) = some .local
  lk : X.env.scope.names.lookup ("kinds" : PySem.Str) = some .local
  gl : ∀ x ∈ ([("isinstance" : PySem.Str), "sum", "ValueError"] : List PySem.Str) ++ (List.range 15).map excNm, X.env.scope.names.lookup x = some .globalImplicit
  bl : ∀ x ∈ (["isinstance", "sum", "ValueError", "int"] : List PySem.Str), X.mg x = none
def tFlag (a : Addr) (b : Bool) : TE := fun σ H Q => σ[0]? = some (some (.ref a)) ∧ Q (.bl b) H
def tFlags (a : Addr) (bs : List Bool) : TA := fun σ H Q => σ[0]? = some (some (.ref a)) ∧ Q (bs.map V.bl) H
theorem pe_e (T : TermCx X xa c a oe) (p : Pos) : PE X (.Name "e" p) (tVar 0) := pe_var (i := 0) (by rw [T.N]; rfl) T.ve (by decide +kernel) (by decide +kernel)
theorem excNm_plain : ∀ d < 15, (excNm d == ("__debug__" : PySem.Str)) = false := by decide +kernel
theorem pe_isa (T : TermCx X xa c a oe) {e : PySem.Expr} {d : Nat} (hd : d < 15) (h : isaE e = some (excNm d)) : PE X e (tFlag a (decide (c = d))) := by
  unfold isaE at h
  split at h
  · rename_i f p1 y p2 x p3 p4
    split at h
    · rename_i q
      rw [Bool.and_eq_true] at q
      have e1 : f = "isinstance" := eq_of_beq q.1
      have e2 : y = "e" := eq_of_beq q.2
      subst e1 e2
      cases h
      have hx : Gl X (excNm d) := T.gl _ (List.mem_append_right _ (List.mem_map.mpr ⟨d, by simpa using hd, rfl⟩))
      refine pe_weak (pe_callB (call_isP T.pin (T.ex.cls c T.c15) T.z T.f) (T.gl _ (by simp)) (T.bl _ (by simp)) (by decide +kernel) (pa_cons (pe_e T p2) (pa_cons (pe_glob (v := .ref (xa d)) hx (T.ex.at_ d hd) rfl (excNm_plain d hd)) pa_nil))) fun σ H Q h => ?_
      obtain ⟨h1, h2⟩ := h
      exact ⟨.ref a, h1, .ref (xa d), .ref (xa d), decide (c = d), rfl, fun u r => r, T.ex.kit c d T.c15 hd, h2⟩
    · cases h
  · cases h
theorem isa_noStar {e : PySem.Expr} {x : PySem.Str} (h : isaE e = some x) (es : List PySem.Expr) (env : PySem.Env) : starEach (e :: es) env = (false, eval e env) :: starEach es env := by
  unfold isaE at h
  split at h
  · rfl
  · cases h
theorem str_noStar {e : PySem.Expr} {x : PySem.Str} (h : strE e = some x) (es : List PySem.Expr) (env : PySem.Env) : starEach (e :: es) env = (false, eval e env) :: starEach es env := by
  unfold strE at h
  split at h
  · rfl
  · cases h
theorem pa_isas (T : TermCx X xa c a oe) : ∀ {es : List PySem.Expr} {ds : List Nat}, (∀ d ∈ ds, d < 15) → mapE isaE es = some (ds.map excNm) → PA X es (tFlags a (ds.map fun d => decide (c = d)))
  | [], ds, _, h => by
    cases ds with
    | nil => exact pa_weak pa_nil fun σ H Q h => h.2
    | cons d ds => simp [mapE] at h
  | e :: es, ds, hd, h => by
    unfold mapE at h
    cases h1 : isaE e with
    | none => simp [h1] at h
    | some x =>
      cases h2 : mapE isaE es with
      | none => simp [h1, h2] at h
      | some xs =>
        simp only [h1, h2, Option.some.injEq] at h
        cases ds with
        | nil => simp at h
        | cons d ds =>
          simp only [List.map_cons, List.cons.injEq] at h
          obtain ⟨rfl, rfl⟩ := h
          refine pa_weak (pa_cons (pe_isa T (hd d (by simp)) h1) (pa_isas T (fun d h => hd d (by simp [h])) h2) (isa_noStar h1 es X.env)) fun σ H Q h => ?_
          exact ⟨h.1, h.1, h.2⟩
theorem pa_strs : ∀ {es : List PySem.Expr} {xs : List PySem.Str}, mapE strE es = some xs → PA X es (fun _ H Q => Q (xs.map V.str) H)
  | [], xs, h => by
    simp only [mapE, Option.some.injEq] at h
    subst h
    exact pa_weak pa_nil fun σ H Q h => h
  | e :: es, xs, h => by
    unfold mapE at h
    cases h1 : strE e with
    | none => simp [h1] at h
    | some x =>
      cases h2 : mapE strE es with
      | none => simp [h1, h2] at h
      | some ys =>
        simp only [h1, h2, Option.some.injEq] at h
        subst h
        have pe : PE X e (tC (.str x)) := by
          have h1' := h1
          unfold strE at h1'
          split at h1'
          · cases h1'; exact pe_str
          · cases h1'
        exact pa_weak (pa_cons pe (pa_strs h2) (str_noStar h1 es X.env)) fun σ H Q h => h
/-! ### the statements -/
theorem ndN (T : TermCx X xa c a oe) : X.N.Nodup := by rw [T.N]; decide +kernel
/-- flags = [..] -/
theorem ps_fl1 (T : TermCx X xa c a oe) {es : List PySem.Expr} {ds : List Nat} {p1 p2 p3 : Pos} (hd : ∀ d ∈ ds, d < 15) (hl : ds.length ≤ 15) (h : mapE isaE es = some (ds.map excNm)) :
    PS X (.Assign [.Name "flags" p1] (.List es p2) p3) (fun D σ H => σ[0]? = some (some (.ref a)) ∧ ∀ p, H p = none → D.nx (σ.set 1 (some (.ref p))) (upd H p (.lst ((ds.map fun d => decide (c = d)).map V.bl)))) := by
  refine ps_weak (ps_set (i := 1) (ndN T) (by rw [T.N]; rfl) (.inl T.lf) (pe_lst (pa_isas T hd h)) (hf := .inr T.lf)) fun D σ H h => ?_
  refine ⟨h.1, ?_, fun p hp => h.2 p hp⟩
  simp only [List.length_map]
  exact Nat.le_trans hl (by decide)
/-- flags = flags + [..] -/
theorem ps_fl2 (T : TermCx X xa c a oe) {es : List PySem.Expr} {ds : List Nat} {p1 p2 p3 p4 p5 : Pos} (hd : ∀ d ∈ ds, d < 15) (hl : ds.length ≤ 15) (h : mapE isaE es = some (ds.map excNm)) :
    PS X (.Assign [.Name "flags" p1] (.BinOp (.Name "flags" p2) .Add (.List es p3) p4) p5) (fun D σ H => σ[0]? = some (some (.ref a)) ∧ ∃ l xs, σ[1]? = some (some (.ref l)) ∧ H l = some (.lst xs) ∧ xs.length ≤ 100 ∧
      ∀ b p, H b = none → upd H b (.lst ((ds.map fun d => decide (c = d)).map V.bl)) p = none → D.nx (σ.set 1 (some (.ref p))) (upd (upd H b (.lst ((ds.map fun d => decide (c = d)).map V.bl))) p (.lst (xs ++ (ds.map fun d => decide (c = d)).map V.bl)))) := by
  refine ps_weak (ps_set (i := 1) (ndN T) (by rw [T.N]; rfl) (.inl T.lf) (pe_op op_cat (pe_var (i := 1) (by rw [T.N]; rfl) (.inl T.lf) (by decide +kernel) (by decide +kernel)) (pe_lst (pa_isas T hd h))) (hf := .inr T.lf)) fun D σ H h => ?_
  obtain ⟨h0, l, xs, h1, h2, h3, q⟩ := h
  have z : ((ds.map fun d => decide (c = d)).map V.bl).length ≤ 15 := by simpa using hl
  refine ⟨.ref l, h1, h0, Nat.le_trans z (by decide), fun b hb => ⟨l, b, xs, _, rfl, rfl, ?_, upd_same, ?_, fun p hp => q b p hb hp⟩⟩
  · rw [upd_ne (ne_of_none h2 hb)]; exact h2
  · refine Nat.le_trans (Nat.add_le_add h3 z) (by decide)
/-- kinds = [..] -/
theorem ps_kd1 (T : TermCx X xa c a oe) {es : List PySem.Expr} {xs : List PySem.Str} {p1 p2 p3 : Pos} (hl : xs.length ≤ 15) (h : mapE strE es = some xs) :
    PS X (.Assign [.Name "kinds" p1] (.List es p2) p3) (fun D σ H => ∀ p, H p = none → D.nx (σ.set 2 (some (.ref p))) (upd H p (.lst (xs.map V.str)))) := by
  refine ps_weak (ps_set (i := 2) (ndN T) (by rw [T.N]; rfl) (.inl T.lk) (pe_lst (pa_strs h)) (hf := .inr T.lk)) fun D σ H h => ?_
  refine ⟨?_, fun p hp => h p hp⟩
  simp only [List.length_map]
  exact Nat.le_trans hl (by decide)
theorem ps_kd2 (T : TermCx X xa c a oe) {es : List PySem.Expr} {xs : List PySem.Str} {p1 p2 p3 p4 p5 : Pos} (hl : xs.length ≤ 15) (h : mapE strE es = some xs) :
    PS X (.Assign [.Name "kinds" p1] (.BinOp (.Name "kinds" p2) .Add (.List es p3) p4) p5) (fun D σ H => ∃ l ys, σ[2]? = some (some (.ref l)) ∧ H l = some (.lst ys) ∧ ys.length ≤ 100 ∧
      ∀ b p, H b = none → upd H b (.lst (xs.map V.str)) p = none → D.nx (σ.set 2 (some (.ref p))) (upd (upd H b (.lst (xs.map V.str))) p (.lst (ys ++ xs.map V.str)))) := by
  refine ps_weak (ps_set (i := 2) (ndN T) (by rw [T.N]; rfl) (.inl T.lk) (pe_op op_cat (pe_var (i := 2) (by rw [T.N]; rfl) (.inl T.lk) (by decide +kernel) (by decide +kernel)) (pe_lst (pa_strs h))) (hf := .inr T.lk)) fun D σ H h => ?_
  obtain ⟨l, ys, h1, h2, h3, q⟩ := h
  have z : (xs.map V.str).length ≤ 15 := by simpa using hl
  refine ⟨.ref l, h1, Nat.le_trans z (by decide), fun b hb => ⟨l, b, ys, _, rfl, rfl, ?_, upd_same, ?_, fun p hp => q b p hb hp⟩⟩
  · rw [upd_ne (ne_of_none h2 hb)]; exact h2
  · refine Nat.le_trans (Nat.add_le_add h3 z) (by decide)
/-- if sum(..) != 1 or not isinstance(e, ValueError): .. -/
def termTest (cs : PySem.Scope) (q1 q2 q3 q4 q5 q6 q7 q8 q9 q10 q11 q12 q13 q14 q15 q16 : Pos) : PySem.Expr :=
  .BoolOp .Or [.Compare (.Call (.Name "sum" q1) [flagsComp cs q2 q3 q4 q5 q6 q7] [] q8) [.NotEq] [.Constant (.int 1) 0 q9] q10, .UnaryOp .Not (.Call (.Name "isinstance" q11) [.Name "e" q12, .Name "ValueError" q13] [] q14) q15] q16
theorem pt_term (T : TermCx X xa c a oe) {cs : PySem.Scope} (S : FlagSc cs) {q1 q2 q3 q4 q5 q6 q7 q8 q9 q10 q11 q12 q13 q14 q15 q16 : Pos} :
    PT X (termTest cs q1 q2 q3 q4 q5 q6 q7 q8 q9 q10 q11 q12 q13 q14 q15 q16) (fun σ H Q => σ[0]? = some (some (.ref a)) ∧ ∃ l bs, σ[1]? = some (some (.ref l)) ∧ SqL X.K H l (bs.map V.bl) ∧ cntB bs = 1 ∧ Q false H) := by
  have h1 := pe_sumFlags (j := 1) (p1 := q1) (p2 := q2) (p3 := q3) (p4 := q4) (p5 := q5) (p6 := q6) (p7 := q7) (p8 := q8) T.hot S (by rw [T.N]; rfl) (.inl T.lf) (T.gl _ (by simp)) (T.bl _ (by simp)) (T.bl _ (by simp))
  have hv : PE X (.Name "ValueError" q13) (tC (.ty "ValueError")) := pe_bltn (T.gl _ (by simp)) (T.bl _ (by simp)) (by decide +kernel) rfl
  have h2 := pe_callB (p := q11) (pos := q14) (call_isP T.pin (T.ex.cls c T.c15) T.z T.f) (T.gl "isinstance" (by simp)) (T.bl "isinstance" (by simp)) (by decide +kernel) (pa_cons (pe_e T q12) (pa_cons hv pa_nil))
  have w := (pw_or (pos := q16) (pt_cmpR (pos := q10) op_ne h1 (pe_int (i := 1) (j := 0) (pos := q9)) rfl) (pw_or1 (pt_not (pos := q15) (pt_val h2)))).pt
  refine pt_weak w fun σ H Q h => ?_
  obtain ⟨h0, l, bs, e1, e2, e3, q⟩ := h
  refine ⟨l, bs, e1, e2, rfl, _, rfl, ?_⟩
  have : (!decide (V.int (cntB bs) = V.int 1)) = false := by rw [e3]; simp
  rw [this]
  show (if false = true then _ else _)
  rw [if_neg (by simp)]
  exact ⟨.ref a, h0, .ty "ValueError", .type "ValueError", true, rfl, fun u r => r, T.ex.val c T.c15, true, rfl, q⟩
/-- return ("refused", kinds[flags.index(True)]) -/
theorem ps_rt (T : TermCx X xa c a oe) {q1 q2 q3 q4 q5 q6 q7 q8 q9 : Pos} {k1 : Nat} (hq : (q4.endLine == q6.line) = true) :
    PS X (.Return (some (.Tuple [.Constant (.str "refused") 0 q1, .Subscript (.Name "kinds" q2) (.Call (.Attribute (.Name "flags" q3) "index" q4) [.Constant (.bool true) 0 q5] [] q6) q7] k1 q8)) q9)
      (fun D σ H => ∃ (l : Addr) (bs : List Bool) (k : Addr) (xs : List PySem.Str) (j : Nat) (x : PySem.Str), σ[1]? = some (some (.ref l)) ∧ H l = some (.lst (bs.map V.bl)) ∧ σ[2]? = some (some (.ref k)) ∧ H k = some (.lst (xs.map V.str)) ∧ bs[j]? = some true ∧ (∀ m < j, bs[m]? = some false) ∧ xs[j]? = some x ∧
        ∀ p, H p = none → D.rt (.ref p) (upd H p (.tup [.str "refused", .str x]))) := by
  refine ps_weak (ps_ret (pe_tup (pa_cons pe_str (pa_cons (pe_ix ix_list (pe_var (i := 2) (by rw [T.N]; rfl) (.inl T.lk) (by decide +kernel) (by decide +kernel)) (pe_bm PySem.F.plainAttrs_list PySem.F.slot_list_index PySem.F.type_list_index mt_index (pe_var (i := 1) (by rw [T.N]; rfl) (.inl T.lf) (by decide +kernel) (by decide +kernel)) (pa_cons pe_bl pa_nil) (hline := hq)) (fun _ _ => rfl)) pa_nil)))) fun D σ H h => ?_
  obtain ⟨l, bs, k, xs, j, x, e1, e2, e3, e4, e5, e6, e7, q⟩ := h
  refine ⟨.ref k, e3, .ref l, e1, .inl ⟨rfl, _, Evl.sq_of e2⟩, l, _, .bl true, j, .bl true, rfl, rfl, Evl.sq_of e2, rfl, ?_, ?_, rfl, ?_, ?_⟩
  · rw [List.all_eq_true]; intro v hv; obtain ⟨b, _, rfl⟩ := List.mem_map.mp hv; rfl
  · rw [List.getElem?_map, e5]; rfl
  · intro m z' hm hz
    rw [List.getElem?_map, e6 m hm] at hz
    cases hz
    rfl
  · refine ⟨k, _, (j : Nat), .str x, rfl, rfl, Evl.sq_of e4, ?_, (by show 2 ≤ sizeLine; decide), fun p hp => q p hp⟩
    unfold atI ixN
    have hj : j < (xs.map V.str).length := by
      have := (List.getElem?_eq_some_iff.mp e7).1
      simpa using this
    rw [if_pos (by omega), if_pos (by omega)]
    simp only [Option.bind_some, Int.toNat_natCast]
    rw [List.getElem?_map, e7]
    rfl
end
end Dk

set_option Elab.async false
set_option linter.all false
set_option maxRecDepth 100000
set_option maxHeartbeats 2000000
/-! Told3: the teller of a refusal's class, called while it is handled. -/
namespace Dk
open PySem PySem.Spec PyProof.Rows L2 HotX
variable [TabEnv]
theorem ord_at : ∀ c < 15, (tOrd.map fun d => decide (c = d))[tOrd.idxOf c]? = some true ∧ (∀ m < tOrd.idxOf c, (tOrd.map fun d => decide (c = d))[m]? = some false) ∧ (tOrd.map excNm)[tOrd.idxOf c]? = some (excNm c) ∧ cntB (tOrd.map fun d => decide (c = d)) = 1 := by decide +kernel
def termBody (es1 es2 es3 es4 ks1 ks2 : List PySem.Expr) (cs : PySem.Scope) (r1 r2 r3 r4 r5 r6 r7 r8 r9 r10 r11 r12 r13 r14 r15 r16 r17 r18 r19 r20 r21 r22 r23 r24 r25 r26 q1 q2 q3 q4 q5 q6 q7 q8 q9 q10 q11 q12 q13 q14 q15 q16 t1 t2 t3 t4 t5 u1 u2 u3 u4 u5 u6 u7 u8 u9 : Pos) (k0 k1 : Nat) : List PySem.Stmt := [
  .Assign [.Name "flags" r1] (.List es1 r2) r3,
  .Assign [.Name "flags" r4] (.BinOp (.Name "flags" r5) .Add (.List es2 r6) r7) r8,
  .Assign [.Name "flags" r9] (.BinOp (.Name "flags" r10) .Add (.List es3 r11) r12) r13,
  .Assign [.Name "flags" r14] (.BinOp (.Name "flags" r15) .Add (.List es4 r16) r17) r18,
  .Assign [.Name "kinds" r19] (.List ks1 r20) r21,
  .Assign [.Name "kinds" r22] (.BinOp (.Name "kinds" r23) .Add (.List ks2 r24) r25) r26,
  .If (termTest cs q1 q2 q3 q4 q5 q6 q7 q8 q9 q10 q11 q12 q13 q14 q15 q16) [.Return (some (.Tuple [.Constant (.str "refused") 0 t1, .Constant (.str "other") 0 t2] k0 t3)) t4] [] t5,
  .Return (some (.Tuple [.Constant (.str "refused") 0 u1, .Subscript (.Name "kinds" u2) (.Call (.Attribute (.Name "flags" u3) "index" u4) [.Constant (.bool true) 0 u5] [] u6) u7] k1 u8)) u9]
section
variable {es1 es2 es3 es4 ks1 ks2 : List PySem.Expr} {cs : PySem.Scope} {r1 r2 r3 r4 r5 r6 r7 r8 r9 r10 r11 r12 r13 r14 r15 r16 r17 r18 r19 r20 r21 r22 r23 r24 r25 r26 q1 q2 q3 q4 q5 q6 q7 q8 q9 q10 q11 q12 q13 q14 q15 q16 t1 t2 t3 t4 t5 u1 u2 u3 u4 u5 u6 u7 u8 u9 : Pos} {k0 k1 : Nat}
structure TermTx (es1 es2 es3 es4 ks1 ks2 : List PySem.Expr) (cs : PySem.Scope) (u4 u6 : Pos) : Prop where
  e1 : mapE isaE es1 = some ([0, 1, 2, 3].map excNm)
  e2 : mapE isaE es2 = some ([4, 5, 6].map excNm)
  e3 : mapE isaE es3 = some ([7, 12, 13, 14].map excNm)
  e4 : mapE isaE es4 = some ([8, 9, 10, 11].map excNm)
  k1 : mapE strE ks1 = some ([0, 1, 2, 3, 4, 5, 6, 7].map excNm)
  k2 : mapE strE ks2 = some ([12, 13, 14, 8, 9, 10, 11].map excNm)
  sc : FlagSc cs
  hq : (u4.endLine == u6.line) = true
theorem term_body {X : Cx} {xa : Nat → Addr} {c : Nat} {a : Addr} {oe : Obj} (T : TermCx X xa c a oe) (W : TermTx es1 es2 es3 es4 ks1 ks2 cs u4 u6) (H : Hp) (nx : L2.St → Hp → Prop) (Q : VK)
    (h : ∀ H' t, Same H H' → H t = none → H' t = some (.tup [.str "refused", .str (excNm c)]) → Q (.ref t) H') :
    ∃ t, PSs X (termBody es1 es2 es3 es4 ks1 ks2 cs r1 r2 r3 r4 r5 r6 r7 r8 r9 r10 r11 r12 r13 r14 r15 r16 r17 r18 r19 r20 r21 r22 r23 r24 r25 r26 q1 q2 q3 q4 q5 q6 q7 q8 q9 q10 q11 q12 q13 q14 q15 q16 t1 t2 t3 t4 t5 u1 u2 u3 u4 u5 u6 u7 u8 u9 k0 k1) t ∧ t { nx := nx, rt := Q } [some (.ref a), none, none] H := by
  refine ⟨_, pss_cons (ps_fl1 (ds := [0, 1, 2, 3]) T (by decide) (by decide) W.e1) (pss_cons (ps_fl2 (ds := [4, 5, 6]) T (by decide) (by decide) W.e2) (pss_cons (ps_fl2 (ds := [7, 12, 13, 14]) T (by decide) (by decide) W.e3) (pss_cons (ps_fl2 (ds := [8, 9, 10, 11]) T (by decide) (by decide) W.e4)
    (pss_cons (ps_kd1 (xs := [0, 1, 2, 3, 4, 5, 6, 7].map excNm) T (by decide) W.k1) (pss_cons (ps_kd2 (xs := [12, 13, 14, 8, 9, 10, 11].map excNm) T (by decide) W.k2)
    (pss_cons (ps_if (pt_term T W.sc) (pss_one (ps_ret (pe_tup (pa_cons pe_str (pa_cons pe_str pa_nil))))) pss_nil) (pss_one (ps_rt T W.hq)))))))), ?_⟩
  obtain ⟨o1, o2, o3, o4⟩ := ord_at c T.c15
  refine ⟨rfl, fun f1 n1 => ?_⟩
  refine ⟨rfl, f1, _, rfl, upd_same, by simp, fun g1 f2 m1 n2 => ?_⟩
  refine ⟨rfl, f2, _, rfl, upd_same, by simp, fun g2 f3 m2 n3 => ?_⟩
  refine ⟨rfl, f3, _, rfl, upd_same, by simp, fun g3 f4 m3 n4 => ?_⟩
  refine fun f5 n5 => ?_
  refine ⟨f5, _, rfl, upd_same, by simp, fun g4 f6 m4 n6 => ?_⟩
  -- the heaps, one behind the other
  generalize hA : (upd H f1 _) = A at *
  generalize hB : (upd (upd A g1 _) f2 _) = B at *
  generalize hC : (upd (upd B g2 _) f3 _) = C at *
  generalize hD : (upd (upd C g3 _) f4 _) = D at *
  generalize hE : (upd D f5 _) = E at *
  generalize hF : (upd (upd E g4 _) f6 _) = F at *
  have up2 : ∀ {U : Hp} {g f : Addr} {x y : HO}, U g = none → upd U g x f = none → Same U (upd (upd U g x) f y) := fun {U g f x y} h1 h2 => fun b o e => by
    have n1 : b ≠ g := ne_of_none e h1
    have e1 : upd U g x b = some o := by rw [upd_ne n1]; exact e
    rw [upd_ne (ne_of_none e1 h2)]
    exact e1
  have up1 : ∀ {U : Hp} {f : Addr} {y : HO}, U f = none → Same U (upd U f y) := fun {U f y} h1 => fun b o e => by
    rw [upd_ne (ne_of_none e h1)]
    exact e
  have sA : Same H A := hA ▸ up1 n1
  have sB : Same A B := hB ▸ up2 m1 n2
  have sC : Same B C := hC ▸ up2 m2 n3
  have sD : Same C D := hD ▸ up2 m3 n4
  have sE : Same D E := hE ▸ up1 n5
  have sF : Same E F := hF ▸ up2 m4 n6
  have sHF : Same H F := ((((sA.trans sB).trans sC).trans sD).trans sE).trans sF
  have dF : D f4 = some (.lst ((tOrd.map fun d => decide (c = d)).map V.bl)) := by rw [← hD, upd_same]; rfl
  have fF : F f4 = some (.lst ((tOrd.map fun d => decide (c = d)).map V.bl)) := sF _ _ (sE _ _ dF)
  have kF : F f6 = some (.lst ((tOrd.map excNm).map V.str)) := by rw [← hF, upd_same]; rfl
  refine ⟨rfl, f4, tOrd.map (fun d => decide (c = d)), rfl, Evl.sq_of fF, o4, ?_⟩
  show (if false = true then _ else _)
  rw [if_neg (by simp)]
  refine ⟨f4, tOrd.map (fun d => decide (c = d)), f6, tOrd.map excNm, tOrd.idxOf c, excNm c, rfl, fF, rfl, kF, o1, o2, o3, fun p hp => ?_⟩
  exact h _ p (sHF.trans (up1 hp)) (sHF.free hp) upd_same
end
end Dk

set_option Elab.async false
set_option linter.all false
set_option maxRecDepth 100000
set_option maxHeartbeats 2000000
/-! Told4: the call of that teller, in the except suite. -/
namespace Dk
open PySem PySem.Spec PyProof.Rows L2 HotX
variable [TabEnv]
section
variable {es1 es2 es3 es4 ks1 ks2 : List PySem.Expr} {cs : PySem.Scope} {r1 r2 r3 r4 r5 r6 r7 r8 r9 r10 r11 r12 r13 r14 r15 r16 r17 r18 r19 r20 r21 r22 r23 r24 r25 r26 q1 q2 q3 q4 q5 q6 q7 q8 q9 q10 q11 q12 q13 q14 q15 q16 t1 t2 t3 t4 t5 u1 u2 u3 u4 u5 u6 u7 u8 u9 : Pos} {k0 k1 : Nat}
/-- the teller's def -/
structure TermDef (K : Fr) (mg : PySem.Str → Option Value) (xa : Nat → Addr) : Prop where
  ex : ∃ (f : Addr) (fd : FuncData) (params : Arguments) (body : List PySem.Stmt) (scope : PySem.Scope), mg "_law_term" = some (.ref f) ∧ PySem.W.keepIn K (.ref f) = true ∧ Binds K fd ["e"] [] ∧ FunD K "_law_term" "_law_term" params body scope [] [] f fd ∧
    FnScope ["e", "flags", "kinds"] ["e"] scope ∧ scope.names.lookup ("flags" : PySem.Str) = some .local ∧ scope.names.lookup ("kinds" : PySem.Str) = some .local ∧
    (∀ x ∈ ([("isinstance" : PySem.Str), "sum", "ValueError"] : List PySem.Str) ++ (List.range 15).map excNm, scope.names.lookup x = some .globalImplicit) ∧
    (∀ x ∈ (["isinstance", "sum", "ValueError", "int"] : List PySem.Str), mg x = none) ∧ ExcOk K mg xa ∧
    ∀ (X : Cx) (c : Nat) (a : Addr) (oe : Obj) (H : Hp) (nx : L2.St → Hp → Prop) (Q : VK), TermCx X xa c a oe → (∀ H' t, Same H H' → H t = none → H' t = some (.tup [.str "refused", .str (excNm c)]) → Q (.ref t) H') →
      ∃ t, PSs X body t ∧ t { nx := nx, rt := Q } [some (.ref a), none, none] H
theorem pe_term {X : Cx} {xa : Nat → Addr} {c i : Nat} {a : Addr} {oe : Obj} {en : PySem.Str} {p q pos : Pos} {k : Nat} (TD : TermDef X.K X.mg xa) (hp : (a, oe) ∈ X.pn) (hot : X.A.handled = some (.ref a)) (c15 : c < 15) (z : L2N.Zn (.ref (xa c)) none oe) (hf : ∃ vs, oe.data = .fields vs) (hr : L2H.RoomH (k + 1) X.A)
    (hN : X.N[i]? = some en) (hv : Vis X.env.scope en) (h1 : (en == ("__debug__" : PySem.Str)) = false) (h2 : (en == ("__classdict__" : PySem.Str)) = false) (hg : Gl X "_law_term") :
    PE X (.Call (.Name "_law_term" p) [.Name en q] [] pos) (fun σ H Q => σ[i]? = some (some (.ref a)) ∧ ∀ H' t, Same H H' → H t = none → H' t = some (.tup [.str "refused", .str (excNm c)]) → Q (.ref t) H') := by
  obtain ⟨f, fd, params, body, scope, hm, hk, hb, Fd, S, lf, lk2, gls, bls, EO, run⟩ := TD.ex
  obtain ⟨oc, od, dV, kV, doc, pm, an, cdv, ct, osl, rfl, lk, hcd, _, _⟩ := Fd.ex
  obtain ⟨vs0, hvs⟩ := hf
  have hot1 : L2H.Hot1 X.A (a, oe) := ⟨hot, vs0, hvs, z.2.2 vs0 hvs⟩
  refine ⟨fun pins s σ H Q I h => ?_⟩
  obtain ⟨e0, fin⟩ := h
  refine wpAny_Call_Name_kw (ld_glob I hg hm ?_ (by decide))
  refine PySem.W.callWith_K (h₀ := X.base) I.ok.mod.kin hk (thn ((pa_cons (pe_var (i := i) hN hv h1 h2) pa_nil).run pos pins s σ H (fun vs H1 => vs = [.ref a] ∧ H1 = H) I ⟨.ref a, e0, rfl, rfl⟩) fun us s1 ⟨vs, H1, I1, r, q0⟩ => ⟨I1.kIn, ?_⟩) (by rfl) (by rfl)
  obtain ⟨rfl, rfl⟩ := q0
  have P1 := I1.pin (a, oe) (List.mem_append_left _ hp)
  have hpin : L2H.PinOk X.stack H1 s1 (a, oe) := ⟨P1.1, P1.2.1, fun hm => (List.mem_cons.mp (I1.stkSub a hm)).elim P1.2.2.1 P1.2.2.2.1, P1.2.2.2.2⟩
  have hul : us.length = 1 := by rw [← r.length]; rfl
  have bnd := hb s1 us I1.kIn (by simpa using hul)
  rw [List.append_nil] at bnd
  have kinds : ∀ y ∈ (["e"] : List PySem.Str).zip us, scope.names.lookup y.1 = some .local ∨ (scope.names.lookup y.1 = some .cell ∧ ((cellsFrom (s1.heap.objs.size + 1) scope.names []).lookup y.1).isSome = true) := fun ⟨n, v⟩ hy => by
    rcases S.par n (List.of_mem_zip hy).1 with w1 | w1
    · exact .inl w1
    · exact .inr ⟨w1, PySem.W.cellsFrom_some _ _ _ (.inl w1)⟩
  have rc : codeAny (model X.prog X.w) X.A (.call (.ref f) ⟨us, []⟩) (CR CX0 X.stack X.prog X.w H1 s1 Q (fun _ _ _ => False)) s1 := by
    refine codeAny_call_function hr.depth (I1.kIn _ _ lk) rfl S.co S.gen rfl (PySem.W.codeRec_of I1.kIn hcd) (bnd _ _ _ _ ?_)
    refine wpAny_newFunctionEnv_cells S.kind kinds fun env he s2 x => ?_
    subst he
    refine ⟨I1.nolimit.keeps x.toInCall.keep, codeAny_func ?_⟩
    let Y := L2H.cxH CX0 X.prog X.w X.K X.mg X.base ["e", "flags", "kinds"] "_law_term" scope f cdv X.A X.stack s1 H1 (fun _ _ _ => False) (a, oe)
    have J : Inv Y [] (L2.start ["e", "flags", "kinds"] [.ref a]) H1 s2 := L2H.inv_startH S hpin I1.env0 rfl r x
    have TC : TermCx Y xa c a oe := ⟨rfl, ⟨(a, oe), hot1, List.mem_singleton.mpr rfl⟩, List.mem_singleton.mpr rfl, c15, z.zc, ⟨vs0, hvs⟩, EO, ?_, lf, lk2, gls, bls⟩
    · obtain ⟨t, ht, hq⟩ := run Y c a oe H1 (fun _ H' => Q .non H') Q TC fin
      refine wpAny_mono (ht.run [] s2 _ H1 _ J hq) (fun fl s3 hs => ?_) fun e s3 hs => hs
      have done : ∀ {σ' : L2.St} {H' : Hp} {v : V} {u : Value}, Inv Y [] σ' H' s3 → RelV v u → Q v H' → L2.CE X.stack X.prog X.w H1 s1 Q u s3 := fun {σ' H' v u} J' rv q' => ⟨v, H', J'.os, J'.bare, J'.base, J'.hok, rv, q'⟩
      cases fl with
      | ret u =>
        obtain ⟨v, σ', H', J', rv, q'⟩ := hs
        exact done J' rv q'
      | next =>
        obtain ⟨σ', H', J', q'⟩ := hs
        exact done (v := V.non) (u := Value.none) J' rfl q'
      | brk =>
        obtain ⟨_, _, _, q'⟩ := hs
        exact q'.elim
      | cont =>
        obtain ⟨_, _, _, q'⟩ := hs
        exact q'.elim
    · rcases S.par "e" (by simp) with w1 | w1
      · exact .inl w1
      · exact .inr (.inl w1)
  refine wpAny_call (codeAny_mono rc fun r s' hq => ?_)
  cases r with
  | error e => exact (show False from hq).elim
  | ok fl =>
    cases fl with
    | ret u => exact I1.after hq
    | next => exact False.elim hq
    | brk => exact False.elim hq
    | cont => exact False.elim hq
end
end Dk

set_option Elab.async false
set_option linter.all false
set_option maxRecDepth 100000
set_option maxHeartbeats 2000000
/-! Told5: a deed handed over as a lambda; its refusals are told. -/
namespace Dk
open PySem PySem.Spec PyProof.Rows L2 HotX
variable [TabEnv]
/-- what is wanted of an exception that leaves the lambda -/
def lamXe (X : Cx) (A : Around) (outer : List PySem.Env) (s : Shared) (H : Hp) (E : XK) (scope : PySem.Scope) (f c' : Addr) : Value → Shared → Prop := fun e s' =>
  wpAny (model X.prog X.w) (A.deeper (LamX.lamEnv X scope s.heap.objs.size f c')) (leaving (LamX.lamEnv X scope s.heap.objs.size f c') e) (fun _ s2 => L2N.CX X.prog X.w outer H s E e s2) (fun e2 s2 => L2N.CX X.prog X.w outer H s E e2 s2) s'
/-- the context of the lambda's body -/
def lamN (X : Cx) (A : Around) (outer : List PySem.Env) (s : Shared) (H : Hp) (E : XK) (scope : PySem.Scope) (f c' : Addr) : Cx := (LamX.lamCx X A outer s H E scope f c').tr [] (lamXe X A outer s H E scope f c')
theorem lamN_takes {X : Cx} {A : Around} {outer : List PySem.Env} {s : Shared} {H : Hp} {E : XK} {scope : PySem.Scope} {f c' : Addr} : L2N.Takes (lamN X A outer s H E scope f c') (fun cls d _ H => E cls d H) := L2N.takes_of rfl rfl rfl rfl
theorem takesN {X : Cx} : L2N.Takes X (fun _ _ _ _ => False) := fun _ _ x => by
  obtain ⟨_, _, _, _, _, _, _, _, _, _, _, _, _, _, _, _, z⟩ := x
  exact z.elim
/-- all but the table at P stays, and that is a table -/
structure Grow (P : Addr) (H H1 : Hp) : Prop where
  k : ∀ b o, b ≠ P → H b = some o → H1 b = some o
  t : ∃ ps, H1 P = some (.tbl ps)
section
variable {X : Cx} {pins : List (Addr × Obj)} {σ : L2.St} {H : Hp} {s : Shared}
/-- a lambda is made -/
theorem lamMade {T : List (Addr × PySem.Str)} {c P : Addr} {params : Arguments} {body : PySem.Expr} {scope : PySem.Scope} {pos : Pos} {E : Value → Shared → Prop} {Q : Value → Shared → Prop} (I : Inv X pins σ H s) (TB : LamX.TabB X.base X.mg c P) (hcode : X.env.code = .ref c)
    (hm : (P, X.env.qual ++ "<lambda>") ∈ T) (hu : ∀ p ∈ T, p.1 = P → p.2 = X.env.qual ++ "<lambda>") (hT : LamX.Tabs T H) (hdef : defaultsOf params X.env = ([], [])) (hfree : ∀ y ∈ scope.names, y.2 = .free → ∃ c, X.env.cells.lookup y.1 = some c)
    (h : ∀ (f c' : Addr) (pm ctv : Value) (H1 : Hp) (s' : Shared), Inv X pins σ H1 s' → Grow P H H1 → LamX.Tabs T H1 →
      s'.heap.get? f = some (PySem.W.kla_obj "<lambda>" (X.env.qual ++ "<lambda>") params body scope (cloFrom X.env.cells scope.names []) pm c' ctv) → H1 f = none → f ∉ frs X.stack → H1 c' = some (LamX.CodeO c' (X.env.qual ++ "<lambda>")) → Q (.ref f) s') :
    wpAny (model X.prog X.w) X.A (eval (.Lambda params body scope pos) X.env) Q E s := by
  obtain ⟨ps, tabP, trip, told⟩ := hT _ hm
  have bms : s.heap.BuiltinsAt X.mg P := TB.bm.keeps I.bk
  have objP : s.heap.get? P = some { cls := .none, data := .fields ps } := I.hok P _ tabP
  have fresh_fr : ∀ f, s.heap.objs.size ≤ f → f ∉ frs X.stack := fun f hf z => by
    rcases List.mem_cons.mp (I.stkSub _ z) with e | e
    · have := I.lt
      rw [← e] at this
      exact Nat.lt_irrefl _ (Nat.lt_of_lt_of_le this hf)
    · exact I.nofs hf e
  refine PySem.W.kla_eval hdef ?_
  cases among : codeAmong pos ps.toList with
  | some cv =>
    obtain ⟨c', rfl, isC⟩ := told pos cv among
    refine PySem.W.kla_makeFunctionHit (mg := X.mg) (c := c) (P := P) (ps := ps) (closure_ok hfree) I.ok.glob (I.mod.glob.keeps I.bk) hcode (TB.code.keeps I.bk) objP trip among bms fun ctv g1 tk keep1 size1 => ?_
    have J : Inv X pins σ H { s with heap := g1.push (PySem.W.kla_obj "<lambda>" (X.env.qual ++ "<lambda>") params body scope (cloFrom X.env.cells scope.names []) ((X.mg "__name__").getD .none) c' ctv), toks := tk } := I.kept fun b o e => Heap.get?_push_of_some _ (keep1 b o e)
    exact h g1.objs.size c' ((X.mg "__name__").getD .none) ctv H _ J ⟨fun _ _ _ e => e, ps, tabP⟩ hT (Heap.get?_push_size _ rfl) (I.hok.fresh size1) (fresh_fr _ size1) isC
  | none =>
    refine PySem.W.kla_makeFunction (mg := X.mg) (c := c) (P := P) (ps := ps) (closure_ok hfree) I.ok.glob (I.mod.glob.keeps I.bk) hcode (TB.code.keeps I.bk) objP trip among TB.gP bms fun c' ctv g1 tk keep1 ge1 lt1 rec1 tab1 => ?_
    obtain ⟨c2, oc, vs, t, ec, hoc, hd, hv⟩ := rec1
    cases ec
    have size1 : s.heap.objs.size ≤ g1.objs.size := Nat.le_trans ge1 (Nat.le_of_lt lt1)
    have newC : H c' = none := I.hok.fresh ge1
    have neP : P ≠ c' := ne_of_none tabP newC
    have J := LamX.inv_table (t' := tk) (more := #[rawInt pos.line, rawInt pos.col, .ref c']) (h' := g1.push (PySem.W.kla_obj "<lambda>" (X.env.qual ++ "<lambda>") params body scope (cloFrom X.env.cells scope.names []) ((X.mg "__name__").getD .none) c' ctv)) I tabP
      (fun b o hb e => Heap.get?_push_of_some _ (keep1 b o hb e)) (Heap.get?_push_of_some _ tab1) ge1 ⟨oc, vs, t, Heap.get?_push_of_some _ hoc, hd, hv⟩
    generalize hG : upd (upd H P (.tbl (ps ++ #[rawInt pos.line, rawInt pos.col, .ref c']))) c' (LamX.CodeO c' (X.env.qual ++ "<lambda>")) = G at J
    have gP : G P = some (.tbl (ps ++ #[rawInt pos.line, rawInt pos.col, .ref c'])) := by rw [← hG, upd_ne neP, upd_same]
    have gC : G c' = some (LamX.CodeO c' (X.env.qual ++ "<lambda>")) := by rw [← hG, upd_same]
    have gK : ∀ b o, b ≠ P → H b = some o → G b = some o := fun b o nb e => by rw [← hG, upd_ne (ne_of_none e newC), upd_ne nb]; exact e
    have flat : (ps ++ #[rawInt pos.line, rawInt pos.col, .ref c']).toList = ps.toList ++ [rawInt pos.line, rawInt pos.col, .ref c'] := by simp
    have code_ne : ∀ {b : Addr} {q : PySem.Str}, H b = some (LamX.CodeO b q) → b ≠ P := fun {b q} e z => by
      rw [z, tabP] at e
      exact LamX.codeO_ne ps (Option.some.inj e).symm
    refine h g1.objs.size c' ((X.mg "__name__").getD .none) ctv G _ J ⟨gK, _, gP⟩ (fun p hp => ?_) (Heap.get?_push_size _ rfl) ?_ (fresh_fr _ size1) gC
    · by_cases hb : p.1 = P
      · rw [hu p hp hb, hb]
        refine ⟨_, gP, by rw [flat]; exact PySem.TriplesOk_snoc _ _ _ _ trip, fun p' cv hcv => ?_⟩
        rw [flat] at hcv
        rcases LamX.among_app _ trip hcv with z | z
        · obtain ⟨c0, e1, e2⟩ := told p' cv z
          exact ⟨c0, e1, gK _ _ (code_ne e2) e2⟩
        · exact ⟨c', z, gC⟩
      · obtain ⟨ps', a1, a2, a3⟩ := hT p hp
        refine ⟨ps', gK _ _ hb a1, a2, fun p' cv hcv => ?_⟩
        obtain ⟨c0, e1, e2⟩ := a3 p' cv hcv
        exact ⟨c0, e1, gK _ _ (code_ne e2) e2⟩
    · have n1 : g1.objs.size ≠ c' := Nat.ne_of_gt lt1
      have n2 : g1.objs.size ≠ P := Nat.ne_of_gt (Nat.lt_of_lt_of_le (Heap.lt_size objP) size1)
      rw [← hG, upd_ne n1, upd_ne n2]
      exact I.hok.fresh size1
/-- the deed is done -/
theorem pe_deed {CXg : CXT} {Eg : XK} {Ng : List PySem.Str} {qg : PySem.Str} {sg : PySem.Scope} {g f c' : Addr} {cdg pm ctv : Value} {params : Arguments} {body : PySem.Expr} {scope : PySem.Scope} {k i : Nat} {a : PySem.Str} {pn : List (Addr × Obj)} {xe : Value → Shared → Prop} {W : WX} {E : XK} {tb : L2.TE} {p1 p2 : Pos}
    (I : Inv X pins σ H s) (L : LamX.LamS X.env.scope scope) (hf : s.heap.get? f = some (PySem.W.kla_obj "<lambda>" (X.env.qual ++ "<lambda>") params body scope (cloFrom X.env.cells scope.names []) pm c' ctv)) (hfn : H f = none) (hfr : f ∉ frs X.stack)
    (hbind : bindArgs (PySem.W.kla_fn "<lambda>" (X.env.qual ++ "<lambda>") params body scope (cloFrom X.env.cells scope.names []) pm (.ref c') ctv) ⟨[], []⟩ = pure [])
    (tk : L2N.Takes ((cxOf CXg X.prog X.w X.K X.mg X.base Ng qg sg g cdg X.A X.stack s H Eg).tr pn xe) W) (hr : Room (k + 1) (X.A.deeper (envOfC qg sg s.heap.objs.size g cdg)))
    (hbody : ∀ (A : Around) (outer : List PySem.Env) (s : Shared) (H : Hp), Room k (A.deeper (LamX.lamEnv X scope s.heap.objs.size f c')) → PE (lamN X A outer s H E scope f c') body tb)
    (hN : Ng[i]? = some a) (hv : Vis sg a) (hd : (a == ("__debug__" : PySem.Str)) = false) (hcd : (a == ("__classdict__" : PySem.Str)) = false) :
    PE ((cxOf CXg X.prog X.w X.K X.mg X.base Ng qg sg g cdg X.A X.stack s H Eg).tr pn xe) (.Call (.Name a p1) [] [] p2)
      (fun σZ HZ Q => σZ[i]? = some (some (.ref f)) ∧ HZ c' = some (LamX.CodeO c' (X.env.qual ++ "<lambda>")) ∧ (∀ cls d H', E cls d H' → W cls d σZ H') ∧ tb σ HZ Q) := by
  refine ⟨fun pinsZ sZ σZ HZ Q IZ h => ?_⟩
  obtain ⟨hs, hc, hW, ht⟩ := h
  refine wpAny_Call_Name_kw (thn ((pe_var (pos := p1) (i := i) hN hv hd hcd).run pinsZ sZ σZ HZ (fun v H1 => v = .ref f ∧ H1 = HZ) IZ ⟨.ref f, hs, rfl, rfl⟩) fun u s1 ⟨v, H1, I1, r1, q1⟩ => ?_)
  obtain ⟨ev, eH⟩ := q1
  subst ev eH
  obtain rfl : u = Value.ref f := r1
  have atF : s1.heap.get? f = some (PySem.W.kla_obj "<lambda>" (X.env.qual ++ "<lambda>") params body scope (cloFrom X.env.cells scope.names []) pm c' ctv) := I1.base.keep f _ hf hfn hfr (fun z => nomatch (show f ∈ ([] : List Addr) from z))
  refine PySem.W.callWith_F0 ⟨_, _, _, _, atF⟩ ?_
  obtain ⟨⟨oc, vs, t, hoc, hdc, hvc⟩, _, _⟩ := I1.hok c' _ hc
  have run : codeAny (model X.prog X.w) (X.A.deeper (envOfC qg sg s.heap.objs.size g cdg)) (.call (.ref f) ⟨[], []⟩) (CR (L2N.CX X.prog X.w) (envOfC qg sg s.heap.objs.size g cdg :: X.stack) X.prog X.w H1 s1 Q E) s1 := by
    refine PySem.W.kla_callFunE hr.depth atF rfl L.co L.gen rfl ⟨c', oc, vs, t, rfl, hoc, hdc, hvc⟩ ?_
    rw [hbind]
    refine wpAny_pure (wpAny_newFunctionEnv (fun y hy => (L.own y hy).2) (fun y hy => absurd hy (by simp)) (fun h2 hns hsb => ⟨I1.nolimit.fresh _ hsb, ?_⟩) L.kind)
    show codeAny _ _ (.expr body (LamX.lamEnv X scope s1.heap.objs.size f c')) _ _
    have kp : ∀ b o, s1.heap.get? b = some o → h2.get? b = some o := fun b o e => hsb.extBut b o (Nat.ne_of_lt (Heap.lt_size e)) (Heap.get?_push_of_some _ e)
    have J := (LamX.lam_start2 (E := E) (tk := s1.toks + ([] : List (PySem.Str × Value)).length) (f := f) (c' := c') I L I1.env0 hr.hd I1.base hns kp).toTry (lamXe X (X.A.deeper (envOfC qg sg s.heap.objs.size g cdg)) (envOfC qg sg s.heap.objs.size g cdg :: X.stack) s1 H1 E scope f c')
    refine PySem.W.kla_codeExpr (wpAny_mono ((hbody _ _ s1 H1 (hr.deeper _)).run [] _ _ H1 Q J ht) (fun v s' hq => ?_) fun e s' hq => hq)
    obtain ⟨w', H', J', rv, q⟩ := hq
    exact ⟨w', H', J'.os, J'.bare, J'.base, J'.hok, rv, q⟩
  refine wpAny_call (codeAny_mono run fun r s' hq => ?_)
  cases r with
  | error e => exact tk e s' (L2N.XE.of_call I1 hW hq)
  | ok fl =>
    cases fl with
    | ret u => exact I1.after hq
    | next => exact False.elim hq
    | brk => exact False.elim hq
    | cont => exact False.elim hq
end
end Dk

set_option Elab.async false
set_option linter.all false
set_option maxRecDepth 100000
set_option maxHeartbeats 2000000
/-! Told6: what a deed tells, or how it is refused. -/
namespace Dk
open PySem PySem.Spec PyProof.Rows L2 HotX
variable [TabEnv]
def toldBody (p1 p2 p3 p4 p5 p6 p7 p8 p9 p10 : Pos) : List PySem.Stmt := [.Try [.Return (some (.Call (.Name "deed" p1) [] [] p2)) p3] [.ExceptHandler (some (.Name "DustError" p4)) (some "e") [.Return (some (.Call (.Name "_law_term" p5) [.Name "e" p6] [] p7)) p8] p9] [] [] p10]
/-- the teller of deeds -/
structure ToldDef (K : Fr) (mg : PySem.Str → Option Value) (xa : Nat → Addr) : Prop where
  ex : ∃ (g : Addr) (fd : FuncData) (params : Arguments) (sg : PySem.Scope) (p1 p2 p3 p4 p5 p6 p7 p8 p9 p10 : Pos), mg "_law_told" = some (.ref g) ∧ PySem.W.keepIn K (.ref g) = true ∧ Binds K fd ["deed"] [] ∧
    FunD K "_law_told" "_law_told" params (toldBody p1 p2 p3 p4 p5 p6 p7 p8 p9 p10) sg [] [] g fd ∧ FnScope ["deed", "e"] ["deed"] sg ∧ sg.names.lookup ("e" : PySem.Str) = some .local ∧ sg.names.lookup ("DustError" : PySem.Str) = some .globalImplicit ∧ sg.names.lookup ("_law_term" : PySem.Str) = some .globalImplicit
  dust : mg "DustError" = some (.ref (xa 15))
  exm : ∀ c < 15, PySem.W.exmOne K (.ref (xa c)) (.ref (xa 15)) = some true
  term : TermDef K mg xa
/-- what is told of a refusal -/
def toldX (xa : Nat → Addr) (Q : VK) : XK := fun cls d H' => ∃ c, c < 15 ∧ cls = .ref (xa c) ∧ d = none ∧ ∀ H2 tp, Same H' H2 → H' tp = none → H2 tp = some (.tup [.str "refused", .str (excNm c)]) → Q (.ref tp) H2
def tTell (xa : Nat → Addr) (P : Addr) (t : XK → L2.TE) : L2.TE := fun σ H Q => TabsOk H ∧ ∀ H1, Grow P H H1 → TabsOk H1 → t (toldX xa Q) σ H1 Q
theorem pe_tell {X : Cx} {xa : Nat → Addr} {c P : Addr} {k : Nat} {params : Arguments} {body : PySem.Expr} {scope : PySem.Scope} {t : XK → L2.TE} {p lpos pos : Pos} (TD : ToldDef X.K X.mg xa) (hg : Gl X "_law_told")
    (TB : LamX.TabB X.base X.mg c P) (hcode : X.env.code = .ref c) (hmT : (P, X.env.qual ++ "<lambda>") ∈ TabEnv.tabs) (hu : ∀ p ∈ TabEnv.tabs, p.1 = P → p.2 = X.env.qual ++ "<lambda>") (hr : Room (k + 2) X.A) (L : LamX.LamS X.env.scope scope) (hdef : defaultsOf params X.env = ([], []))
    (hbind : ∀ (q : PySem.Str) (cl : List (PySem.Str × Addr)) (pm cv ctv : Value), bindArgs (PySem.W.kla_fn "<lambda>" q params body scope cl pm cv ctv) ⟨[], []⟩ = pure [])
    (hbody : ∀ (A : Around) (outer : List PySem.Env) (s : Shared) (H : Hp) (E : XK) (f c' : Addr), Room k (A.deeper (LamX.lamEnv X scope s.heap.objs.size f c')) → PE (lamN X A outer s H E scope f c') body (t E)) :
    PE X (.Call (.Name "_law_told" p) [.Lambda params body scope lpos] [] pos) (tTell xa P t) := by
  obtain ⟨g, fd, pg, sg, p1, p2, p3, p4, p5, p6, p7, p8, p9, p10, hm, hk, hb, Fd, S, le, ld, lt⟩ := TD.ex
  obtain ⟨oc, od, dV, kV, doc, pm0, an, cdv, ct, osl, rfl, lk, hcg, _, _⟩ := Fd.ex
  refine ⟨fun pins s σ H Q I h => ?_⟩
  obtain ⟨hT, h⟩ := h
  refine wpAny_Call_Name_kw (ld_glob I hg hm ?_ (by decide))
  refine PySem.W.callWith_K (h₀ := X.base) I.ok.mod.kin hk ?_ (by rfl) (by rfl)
  show wpAny _ _ (spliced ((false, eval (.Lambda params body scope lpos) X.env) :: backTo pos (starEach [] X.env))) _ _ s
  refine Calls.spliced_cons (lamMade I TB hcode hmT hu hT hdef (L.has I.ok) fun f c' pm' ctv H1 s' I1 eN T1 hf hfn hfr hco => ?_)
  refine Calls.spliced_nil ⟨I1.kIn, ?_⟩
  have run : codeAny (model X.prog X.w) X.A (.call (.ref g) ⟨[.ref f], []⟩) (CR CX0 X.stack X.prog X.w H1 s' Q (fun _ _ _ => False)) s' := by
    refine LamX.run_ofS (N := ["deed", "e"]) (ps := ["deed"]) (us := [.ref f]) (vs := [.ref f]) lk hcg S hr I1.env0 (by have := hb s' [.ref f] I1.kIn rfl; simpa using this) (.cons rfl .nil) rfl fun hr' => ?_
    let Z := (cxOf CX0 X.prog X.w X.K X.mg X.base ["deed", "e"] "_law_told" sg g cdv X.A X.stack s' H1 (fun _ _ _ => False)).nox
    have vd : Vis sg "deed" := by
      rcases S.par "deed" (by simp) with w1 | w1
      · exact .inl w1
      · exact .inr (.inl w1)
    refine ⟨_, PSs.nox (pss_one (L2N.ps_try_as (X := Z) (c := .ref (xa 15)) (i := 1) (Wout := fun _ _ _ _ => False)
      (tb := fun W D σ2 H2 => ∃ Ech : XK, (∀ cls d H3, Ech cls d H3 → W cls d σ2 H3) ∧ σ2[0]? = some (some (.ref f)) ∧ H2 c' = some (LamX.CodeO c' (X.env.qual ++ "<lambda>")) ∧ t Ech σ H2 D.rt)
      (ts := fun a cls d D σ2 H2 => ∃ c, c < 15 ∧ cls = .ref (xa c) ∧ d = none ∧ σ2[1]? = some (some (.ref a)) ∧ ∀ H3 tp, Same H2 H3 → H2 tp = none → H3 tp = some (.tup [.str "refused", .str (excNm c)]) → D.rt (.ref tp) H3)
      rfl rfl S.nd rfl le ⟨ld, by decide, .inl TD.dust⟩ takesN (fun W pn xe tk po => ?_) (fun a oe cls d pn hz hfl => ?_))), ?_⟩
    · refine ⟨fun pins2 s2 σ2 H2 D I2 h2 => ?_⟩
      obtain ⟨Ech, hW, e1, e2, e3⟩ := h2
      have act := pe_deed (CXg := CX0) (Eg := fun _ _ _ => False) (i := 0) (k := k) (E := Ech) (p1 := p1) (p2 := p2) I1 L hf hfn hfr (hbind _ _ _ _ _) tk hr' (fun A outer s H hr2 => hbody A outer s H Ech f c' hr2) rfl vd (by decide) (by decide)
      exact (pss_one (ps_ret (pos := p3) act)).run pins2 s2 σ2 H2 D I2 ⟨e1, e2, hW, e3⟩
    · refine ⟨fun pins2 s2 σ2 H2 D I2 h2 => ?_⟩
      obtain ⟨c, c15, rfl, rfl, e1, e2⟩ := h2
      have hr3 : L2H.RoomH (k + 1) (Z.suite a ((a, oe) :: pn)).A := ⟨hr'.dp, hr'.un⟩
      have te := pe_term (X := Z.suite a ((a, oe) :: pn)) (xa := xa) (c := c) (i := 1) (a := a) (oe := oe) (en := "e") (p := p5) (q := p6) (pos := p7) (k := k) TD.term List.mem_cons_self rfl c15 hz hfl hr3 rfl (.inl le) (by decide) (by decide) lt
      exact (pss_one (ps_ret (pos := p8) te)).run pins2 s2 σ2 H2 D I2 ⟨e1, e2⟩
    · refine ⟨toldX xa Q, fun cls d H3 hx => ?_, rfl, hco, h H1 eN T1⟩
      obtain ⟨c, c15, rfl, rfl, hq⟩ := hx
      exact ⟨true, TD.exm c c15, fun _ a na => ⟨c, c15, rfl, rfl, rfl, hq⟩, fun z => by cases z⟩
  refine wpAny_call (codeAny_mono run fun r s2 hq => ?_)
  cases r with
  | error e => exact (show False from hq).elim
  | ok fl =>
    cases fl with
    | ret u => exact I1.after hq
    | next => exact False.elim hq
    | brk => exact False.elim hq
    | cont => exact False.elim hq
end Dk

set_option Elab.async false
set_option linter.all false
set_option maxRecDepth 100000
/-! Sound5: what loops walk. -/
namespace PySem
open Sem (wp)
open AutoSeq1 (wpAny_loadPart')
set_option maxHeartbeats 1000000 in
theorem dk_enumerate_newT (l : Addr) (items : Array Value) (n : Nat) (dct : Option Addr) (sl : Array (Option Value)) :
    Meets (Builtin.«enumerate.__new__» ⟨[.type "enumerate", .ref l], []⟩) (fun _ R s => s.heap.get? l = some { cls := .type "tuple", dict := dct, data := .seq items n, slots := sl } ∧
      R (.ok (.ret (.ref (s.heap.push { cls := .type "tuple_iterator", data := .fields #[.ref l, .int 0 0] }).objs.size)))
        { s with heap := (s.heap.push { cls := .type "tuple_iterator", data := .fields #[.ref l, .int 0 0] }).push { cls := .type "enumerate", data := .fields #[.none, .bool false, .ref s.heap.objs.size, rawInt 0, .none, .none] } }) :=
  .of_wp fun prog w A R s h => by
    obtain ⟨hp, g, d, tk, os⟩ := s; obtain ⟨hl, h⟩ := h
    have hsub := sub_enumerate
    have hL : Heap.IsTuple (Shared.heap ⟨hp, g, d, tk, os⟩) l items := ⟨_, hl, rfl, n, rfl⟩
    have q1 : ∀ {A' : Around} {E : Value → Shared → Prop} {Q : Value → Shared → Prop}, Q (.ref hp.objs.size) ⟨hp.push { cls := .type "tuple_iterator", data := .fields #[.ref l, .int 0 0] }, g, d, tk, os⟩ → wpAny (model prog w) A' (pyIter (.ref l)) Q E ⟨hp, g, d, tk, os⟩ :=
      fun q => (begins_tuple l items).iter prog w _ _ ⟨hp, g, d, tk, os⟩ _ hL q
    wp_walk using wpAny_loadPart' hl
    refine wpAny_stack_any fun st => wpAny_pure ?_
    split
    · rename_i c _ _ _ _ _
      cases (c == Value.type "enumerate")
      · wp_walk using wpAny_loadPart' hl, q1
        exact ⟨_, rfl, h⟩
      · wp_walk using wpAny_loadPart' hl, q1
        exact ⟨_, rfl, h⟩
    · wp_walk using wpAny_loadPart' hl, q1
      exact ⟨_, rfl, h⟩
theorem dk_call_enumerate_tuple {prog : Program} {w : World} {A : Around} {E : Value → Shared → Prop} {s : Shared} {l : Addr} {items : Array Value} {Q : Value → Shared → Prop} (hL : s.heap.IsTuple l items)
    (h : ∀ h', IsEnum h' (s.heap.objs.size + 1) s.heap.objs.size 0 .none → h'.IsTupleIter s.heap.objs.size l 0 → h'.objs.size = s.heap.objs.size + 2 →
      (∀ b o, s.heap.get? b = some o → h'.get? b = some o) → Q (.ref (s.heap.objs.size + 1)) { s with heap := h' }) :
    wpAny (model prog w) A (call (.type "enumerate") [.ref l]) Q E s := by
  obtain ⟨⟨c, dct, dt, sl⟩, hl, hc, n, hd⟩ := hL
  replace hc : c = .type "tuple" := hc
  replace hd : dt = .seq items n := hd
  subst hc hd
  refine callType_new F.called_enumerate (by decide) (F.typeCall_enumerate_1 _) (F.newCall_enumerate_1 _) (fun obj => F.args_object_init_2 obj _) F.entry_enumerate_new
    (dk_enumerate_newT l items n dct sl) ⟨hl, ?_⟩
  have hz : (s.heap.push { cls := .type "tuple_iterator", data := .fields #[.ref l, .int 0 0] }).objs.size = s.heap.objs.size + 1 := Heap.size_push ..
  show _ ∧ _
  rw [hz]
  have he : IsEnum ((s.heap.push { cls := .type "tuple_iterator", data := .fields #[.ref l, .int 0 0] }).push
      { cls := .type "enumerate", data := .fields #[.none, .bool false, .ref s.heap.objs.size, rawInt 0, .none, .none] }) (s.heap.objs.size + 1) s.heap.objs.size 0 .none := by
    have := Heap.get?_push_size (s.heap.push { cls := .type "tuple_iterator", data := .fields #[.ref l, .int 0 0] })
      (o := { cls := .type "enumerate", data := .fields #[.none, .bool false, .ref s.heap.objs.size, rawInt 0, .none, .none] }) rfl
    rw [hz] at this; exact this
  refine ⟨⟨_, he, rfl⟩, h _ he ⟨_, Heap.get?_push_of_some _ (Heap.get?_push_size _ rfl), rfl, rfl⟩ (by rw [Heap.size_push, hz]) fun b o x => Heap.get?_push_of_some _ (Heap.get?_push_of_some _ x)⟩
end PySem

namespace Dk
open PySem PySem.Spec PyProof.Rows L2
variable [TabEnv]
/-! ### enumerate(tuple) -/
def IteT (K : Fr) (a : Addr) : It :=
  ⟨fun i H => ∃ (xs : List V) (x : V), SqT K H a xs ∧ xs[i]? = some x, fun i H v H' => ∃ T x, v = .ref T ∧ H T = none ∧ H' = upd H T (.tup [.int (i : Nat), x]) ∧ ∀ xs, SqT K H a xs → xs[i]? = some x, fun i H => ∃ xs : List V, SqT K H a xs ∧ xs.length = i⟩
theorem turn_enumT {P : Program} {w : World} {K : Fr} {elts : List PySem.Expr} {kk : Nat} {tpos : Pos} (a e it : Addr) (hai : a ≠ it) (hae : a ≠ e) :
    Turn P w K (.Tuple elts kk tpos) (IteT K a) [e, it] e (fun i h => (∃ old, IsEnum h e it ((i : Nat) : Int) old) ∧ h.IsTupleIter it a i ∧ e ≠ it) where
  mem := by simp
  obj := fun i h st b hb => by
    obtain ⟨⟨old, he⟩, ⟨o, ho, hc, hd⟩, _⟩ := st
    have e' : b = e ∨ b = it := by simpa using hb
    rcases e' with z | z
    · rw [z]; exact ⟨_, he, fun v q => nomatch q⟩
    · rw [z]; exact ⟨o, ho, fun v q => by rw [hd] at q; cases q⟩
  keep := fun i h h' st k => let ⟨⟨old, he⟩, hi, hne⟩ := st; ⟨⟨old, k e (by simp) _ he⟩, hi.at fun o q => k it (by simp) o q, hne⟩
  item := by
    intro X hP hw hK hc i pins s σ H E I hf st hg
    subst hP hw hK
    obtain ⟨⟨old, he⟩, hit, hne⟩ := st
    obtain ⟨xs, x, hq, hx⟩ := hg
    obtain ⟨its, rv, p, hz⟩ := I.tuple hq
    obtain ⟨u, hu, ru⟩ := rv.get hx
    have hel : e < s.heap.objs.size := Heap.lt_size he
    have hil : it < s.heap.objs.size := by obtain ⟨_, q, _⟩ := hit; exact Heap.lt_size q
    have hlt : i < its.toArray.size := by
      have := (List.getElem?_eq_some_iff.mp hu).1
      simpa using this
    have D := Draws.tuple (prog := X.prog) (w := X.w) (A := X.A.in1) (I.ok.hd hc) it a hai its.toArray
    refine wpAny_pyNext_enum_itemD D he ⟨hit, p⟩ hlt hne (by simp only [List.mem_cons, List.not_mem_nil, or_false, not_or]; exact ⟨hne, fun z => hae z.symm⟩) fun x' h' tk hx' ho st' hT hsz hk => ?_
    have ex : x' = u := by
      have : its.toArray[i]? = some u := by simpa using hu
      rw [this] at hx'; exact (Option.some.inj hx').symm
    subst ex
    refine ⟨_, rfl, wpAny_letOwnedTupleGo_enum (s := { s with heap := h', toks := tk + 1 }) ho fun h'' he' sb => ?_⟩
    have hT2 : h''.get? s.heap.objs.size = some { cls := .type "tuple", data := .seq #[.int i tk, x'] } := (sb.2 _ (Nat.ne_of_gt hel)).trans hT
    have new : ObjOk X.prog X.w (upd H s.heap.objs.size (.tup [.int (i : Nat), x])) h'' s.heap.objs.size (.tup [.int (i : Nat), x]) :=
      ⟨by show 2 ≤ sizeLine; decide, [.int i tk, x'], .cons ⟨_, rfl⟩ (.cons ru .nil), ⟨_, hT2, rfl, _, rfl⟩⟩
    have I1 : L2.Inv X pins σ (upd H s.heap.objs.size (.tup [.int (i : Nat), x])) { s with heap := h'', toks := tk + 1 } :=
      I.turnedNew (ch := [e, it]) (fun b ob hb q => (sb.2 b (fun z => hb (by simp [z]))).trans (hk b ob (fun z => hb (by simp [z])) (fun z => hb (by simp [z])) q)) hf (Nat.le_refl _) new
    refine ⟨.ref s.heap.objs.size, _, I1, rfl, ⟨_, x, rfl, I.hok.fresh (Nat.le_refl _), rfl, fun ys hy => by rw [I.tuple_inj hy hq]; exact hx⟩, ⟨⟨x', ?_⟩, st'.1.at fun o q => (sb.2 it (Ne.symm hne)).trans q, hne⟩, fun b hb => ?_⟩
    · have e1 : ((i + 1 : Nat) : Int) = (i : Int) + 1 := by omega
      rw [e1]; exact he'
    · have hb' : b < s.heap.objs.size := by
        have e' : b = e ∨ b = it := by simpa using hb
        rcases e' with z | z
        · rw [z]; exact hel
        · rw [z]; exact hil
      rw [upd_ne (Nat.ne_of_lt hb')]
      exact (hf b hb).1
  done := by
    intro X hP hw hK hc i pins s σ H E I hf st hg
    subst hP hw hK
    obtain ⟨⟨old, he⟩, hit, hne⟩ := st
    obtain ⟨xs, hq, hx⟩ := hg
    obtain ⟨its, rv, p, hz⟩ := I.tuple hq
    obtain ⟨f0, f1, f2, f3, f4, f5⟩ := hf it (by simp)
    have hl := rv.length
    have D := Draws.tuple (prog := X.prog) (w := X.w) (A := X.A.in1) (I.ok.hd hc) it a hai its.toArray
    have ei : its.toArray.size = i := by simp; omega
    exact wpAny_pyNext_enum_endD D he (by rw [ei]; exact ⟨hit, p⟩) fun h' eb => ⟨rfl, I.turned (t' := s.toks) (fun b o hb q => eb b o hb q) f0 f1 f3 f4 f5⟩
  self := fun A i s Q E st h => let ⟨⟨_, he⟩, _⟩ := st; wpAny_pyIter_enum he h
def iEnumT (K : Fr) (ta : TA) : TI := fun σ H R => ta σ H fun vs H1 => ∃ a xs, vs = [.ref a] ∧ SqT K H1 a xs ∧ R (IteT K a) H1
theorem pi_enumT {X : Cx} {e : PySem.Expr} {ta : TA} {p pos tpos : Pos} {elts : List PySem.Expr} {kk : Nat} (hg : Gl X "enumerate") (hm : X.mg "enumerate" = none) (ha : PA X [e] ta) (hs : starEach [e] X.env = [(false, eval e X.env)] := by rfl) :
    PI X (.Tuple elts kk tpos) (.Call (.Name "enumerate" p) [e] [] pos) (iEnumT X.K ta) := by
  refine ⟨fun pins s σ H R I h => ?_⟩
  refine Call_ (ld_blt I hg hm boot_enumerate (PyProof.Rows.callWith_type1 (thn (ha.run pos pins s σ H _ I h) fun us s1 ⟨vs, H1, I1, r1, q1⟩ => ?_) hs rfl))
  obtain ⟨a, xs, ex, hq, q⟩ := q1
  subst ex
  cases r1 with
  | cons r rr =>
    cases rr
    cases r
    obtain ⟨its, rv, p', hz⟩ := I1.tuple hq
    obtain ⟨o1, ho1, _⟩ := id p'
    have hal : a < s1.heap.objs.size := Heap.lt_size ho1
    refine dk_call_enumerate_tuple (show s1.heap.IsTuple a its.toArray from p') fun h' he hit hsz hk => wpAny_pyIter_enum he ?_
    have I2 : L2.Inv X pins σ H1 { s1 with heap := h' } := I1.kept (t' := s1.toks) hk
    refine ⟨s1.heap.objs.size + 1, [s1.heap.objs.size + 1, s1.heap.objs.size], _, _, H1, rfl, I2, turn_enumT a (s1.heap.objs.size + 1) s1.heap.objs.size (Nat.ne_of_lt hal) (Nat.ne_of_lt (Nat.lt_succ_of_lt hal)), ⟨⟨.none, he⟩, hit, Nat.succ_ne_self _⟩, fun b hb => ?_, q⟩
    have e' : b = s1.heap.objs.size + 1 ∨ b = s1.heap.objs.size := by simpa using hb
    have hle : s1.heap.objs.size ≤ b := by
      rcases e' with z | z
      · rw [z]; exact Nat.le_add_right _ _
      · rw [z]; exact Nat.le_refl _
    exact I1.fpOk hle (I1.hok.fresh hle)
theorem walk_enumT {K : Fr} {a : Addr} {xs : List V} : Walk (IteT K a) xs.length (fun H => SqT K H a xs) (YPair (fun i => some (.int (i : Nat))) (fun i => xs[i]?)) := by
  refine ⟨fun i _ hi q => ⟨xs, xs[i], q, by simp [hi]⟩, fun _ q => ⟨xs, q, rfl⟩, fun i H v H' _ q y => ?_⟩
  obtain ⟨T, x, h1, h2, h3, h4⟩ := y
  exact ⟨T, .int (i : Nat), x, h1, h2, h3, rfl, h4 xs q⟩
theorem walk_zipT {K : Fr} {a b : Addr} {xs ys : List V} {n : Nat} (hn : n = min xs.length ys.length) : Walk (RZ.ItzT K a b) n (fun H => SqT K H a xs ∧ SqT K H b ys) (YPair (fun i => xs[i]?) (fun i => ys[i]?)) := by
  subst hn
  refine ⟨fun i _ hi q => ?_, fun _ q => ⟨xs, ys, q.1, q.2, by omega⟩, fun i H v H' _ q y => ?_⟩
  · have h1 : i < xs.length := by omega
    have h2 : i < ys.length := by omega
    exact ⟨xs, ys, xs[i], ys[i], q.1, q.2, by simp [h1], by simp [h2]⟩
  · obtain ⟨T, x, z, h1, h2, h3, h4, h5⟩ := y
    exact ⟨T, x, z, h1, h2, h3, h4 xs q.1, h5 ys q.2⟩
end Dk

namespace Dk
open PySem PySem.Spec PyProof.Rows L2
variable [TabEnv]
/-- at turn i the datum its[i] comes; a new pair may be made -/
def Yl (F0 : Hp) (its : List PyData) : Nat → Hp → V → Hp → Prop := fun i H x H' => ∃ d, its[i]? = some d ∧ ∀ F, Same F0 F → Same F H → ∃ F', Same F F' ∧ Same F' H' ∧ (∀ a o, F' a = some o → F a = none → H a = none) ∧ Same H H' ∧ (NoTab F → NoTab F') ∧ Rv K0 F' x d
/-- how long the source stays: what is kept, as long as the frozen heap stands; what is looked at, as long as nothing but the dice changes -/
def Stay (m : Md) (dc : Option Addr) (F H H1 : Hp) : Prop := match m with
  | .leak => Same F H1
  | _ => ∃ F1 D1, Stp dc F H F1 H1 D1
def Src (m : Md) (dc : Option Addr) (F H : Hp) (J : It) (its : List PyData) : Prop := ∃ Gd : Hp → Prop, Walk J its.length Gd (Yl F its) ∧ ∀ H1, Stay m dc F H H1 → Gd H1
def spI (G : Sig) (m : Md) (o : OA) : TI := fun σ H R => ∃ F dc D r, Rel K0 G.N F H dc D r σ ∧ (match o r D with
  | .ok its D' => ∀ F' H' J, Stp dc F H F' H' D' → Src m dc F' H' J its → R J H'
  | .exc c D' => ∀ F' H', Stp dc F H F' H' D' → G.E (.ref (G.xa c)) none H'
  | .stuck => False)
theorem pi_weak {X : Cx} {tg it : PySem.Expr} {t t' : TI} (h : PI X tg it t) (i : ∀ σ H Q, t' σ H Q → t σ H Q) : PI X tg it t' := ⟨fun pins s σ H Q I q => h.run pins s σ H Q I (i σ H Q q)⟩
theorem PI.or {X : Cx} {tg it : PySem.Expr} {t t' : TI} (h : PI X tg it t) (h' : PI X tg it t') : PI X tg it (fun σ H R => t σ H R ∨ t' σ H R) := ⟨fun pins s σ H Q I q => by
  rcases q with q | q
  · exact h.run pins s σ H Q I q
  · exact h'.run pins s σ H Q I q⟩
section
variable {F H : Hp} {dc : Option Addr} {vs ws : List V} {xs ys : List PyData}
theorem yl_plain (r : Rvs K0 F vs xs) {i : Nat} {H x H'} (h : YAt vs i H x H') : Yl F xs i H x H' := by
  obtain ⟨rfl, e⟩ := h
  obtain ⟨d, e2, rv⟩ := r.get' e
  exact ⟨d, e2, fun F1 s1 s2 => ⟨F1, Same.refl _, s2, fun a o e n => (by rw [e] at n; cases n), Same.refl _, fun n => n, rv.mono s1⟩⟩
theorem yl_pair {f g : Nat → Option V} {its : List PyData} (h : ∀ i x y, f i = some x → g i = some y → ∃ dx dy, its[i]? = some (.tuple [dx, dy]) ∧ Rv K0 F x dx ∧ Rv K0 F y dy) {i : Nat} {H x H'} (q : YPair f g i H x H') : Yl F its i H x H' := by
  obtain ⟨T, x, y, rfl, nT, rfl, e1, e2⟩ := q
  obtain ⟨dx, dy, e3, r1, r2⟩ := h i x y e1 e2
  refine ⟨_, e3, fun F1 s1 s2 => ⟨upd F1 T (.tup [x, y]), ?_, ?_, ?_, ?_, fun n => n.upd (by intro _ z; cases z), ?_⟩⟩
  · intro a o e
    rw [upd_ne (ne_of_none e (s2.free nT))]; exact e
  · intro a o e
    by_cases q : a = T
    · subst q; rw [upd_same] at e ⊢; exact e
    · rw [upd_ne q] at e ⊢; exact s2 a o e
  · intro a o e n
    by_cases q : a = T
    · subst q; exact nT
    · rw [upd_ne q, n] at e; cases e
  · intro a o e
    rw [upd_ne (ne_of_none e nT)]; exact e
  · have ff : Same F1 (upd F1 T (.tup [x, y])) := fun a o e => by rw [upd_ne (ne_of_none e (s2.free nT))]; exact e
    exact .tup (Evl.st_of upd_same) (.cons ((r1.mono s1).mono ff) (.cons ((r2.mono s1).mono ff) .nil))
/-- the list that is looked at stays -/
theorem vp_stays {X : Cx} {m : Md} (hm : m ≠ .fresh) {H0 : Hp} {v : V} (h : ResOk m K0 H0 F H dc v (.list xs)) (e : Same F H) : ∃ a vs, v = .ref a ∧ SqL X.K H a vs ∧ Rvs K0 F vs xs ∧ ∀ H1, Stay m dc F H H1 → SqL X.K H1 a vs := by
  have key : ∀ {v : V}, Rv K0 F v (.list xs) → ∃ a vs, v = .ref a ∧ SqL X.K H a vs ∧ Rvs K0 F vs xs ∧ ∀ H1, Same F H1 → SqL X.K H1 a vs := fun {v} h => by
    obtain ⟨a, vs, rfl, hs, r⟩ := h.inv_lst
    exact ⟨a, vs, rfl, sqL_K (Evl.ex_l e hs), r, fun H1 s => sqL_K (Evl.ex_l s hs)⟩
  cases m with
  | fresh => exact absurd rfl hm
  | leak => exact key h
  | peek =>
    rcases h with h | ⟨ys, e1, a, vs, rfl, e2, e3, e4, r⟩
    · obtain ⟨a, vs, rfl, h1, h2, h3⟩ := key h
      exact ⟨a, vs, rfl, h1, h2, fun H1 ⟨F1, D1, s⟩ => h3 H1 (s.ff.trans s.fh)⟩
    · cases e1
      exact ⟨a, vs, rfl, Evl.sq_of e2, r, fun H1 ⟨F1, D1, s⟩ => Evl.sq_of (s.keep a _ e2 e4 (fun _ z => by cases z))⟩
theorem stay_same {m : Md} {H1 : Hp} (h : Stay m dc F H H1) : Same F H1 := by
  cases m with
  | leak => exact h
  | peek => obtain ⟨F1, D1, s⟩ := h; exact s.ff.trans s.fh
  | fresh => obtain ⟨F1, D1, s⟩ := h; exact s.ff.trans s.fh
theorem res_frz {m : Md} (hm : m ≠ .fresh) {H0 : Hp} {v : V} {d : PyData} (h : ResOk m K0 H0 F H dc v d) (n : ∀ xs, d ≠ .list xs) : Rv K0 F v d := by
  cases m with
  | fresh => exact absurd rfl hm
  | leak => exact h
  | peek => exact VP.frz h n
theorem vp_staysT {X : Cx} {m : Md} (hm : m ≠ .fresh) {H0 : Hp} {v : V} (h : ResOk m K0 H0 F H dc v (.tuple xs)) (e : Same F H) : ∃ a vs, v = .ref a ∧ SqT X.K H a vs ∧ Rvs K0 F vs xs ∧ ∀ H1, Stay m dc F H H1 → SqT X.K H1 a vs := by
  obtain ⟨a, vs, rfl, hs, r⟩ := (res_frz hm h (by intro _ q; cases q)).inv_tup
  exact ⟨a, vs, rfl, sqT_K (Evl.ex_t e hs), r, fun H1 s => sqT_K (Evl.ex_t (stay_same s) hs)⟩
end

section
variable {X : Cx} {G : Sig} {m : Md} {e e2 tg : PySem.Expr} {oe : OE} {oes : OA} {p pos tpos : Pos} {elts : List PySem.Expr} {kk : Nat}
theorem zipWith_get {α β γ : Type} {f : α → β → γ} {xs : List α} {ys : List β} {i : Nat} {x : α} {y : β} (h1 : xs[i]? = some x) (h2 : ys[i]? = some y) : (xs.zipWith f ys)[i]? = some (f x y) := by
  rw [List.getElem?_zipWith, h1, h2]
theorem src_enum {F : Hp} {vs : List V} {xs : List PyData} (r : Rvs K0 F vs xs) : ∀ (i : Nat) (x y : V), some (V.int (i : Nat)) = some x → vs[i]? = some y →
    ∃ dx dy, ((List.range xs.length).zipWith (fun (i : Nat) x => PyData.tuple [.int (i : Nat), x]) xs)[i]? = some (.tuple [dx, dy]) ∧ Rv K0 F x dx ∧ Rv K0 F y dy := by
  intro i x y e1 e2
  cases e1
  obtain ⟨d, e3, rv⟩ := r.get' e2
  have hi : i < xs.length := (List.getElem?_eq_some_iff.mp e3).1
  exact ⟨.int i, d, zipWith_get (by simp [hi]) e3, .int _, rv⟩
theorem src_zip {F : Hp} {vs ws : List V} {xs ys : List PyData} (r : Rvs K0 F vs xs) (r' : Rvs K0 F ws ys) : ∀ (i : Nat) (x y : V), vs[i]? = some x → ws[i]? = some y →
    ∃ dx dy, (xs.zipWith (fun x y => PyData.tuple [x, y]) ys)[i]? = some (.tuple [dx, dy]) ∧ Rv K0 F x dx ∧ Rv K0 F y dy := by
  intro i x y e1 e2
  obtain ⟨d, e3, rv⟩ := r.get' e1
  obtain ⟨d', e4, rv'⟩ := r'.get' e2
  exact ⟨d, d', zipWith_get e3 e4, rv, rv'⟩
theorem zip_forms {ds its : List PyData} (h : itemsD .zip ds = some its) : (∃ xs ys, ds = [.list xs, .list ys]) ∨ ∃ xs ys, ds = [.tuple xs, .tuple ys] := by
  match ds, h with
  | [.list xs, .list ys], _ => exact .inl ⟨_, _, rfl⟩
  | [.tuple xs, .tuple ys], _ => exact .inr ⟨_, _, rfl⟩
theorem pi_seqS (hmd : m ≠ .fresh) (he : PE X e (spE G m oe)) : PI X tg e (spI G m fun r D => (oe r D).bind fun v D => .lift (itemsD .seq [v]) D) := by
  refine pi_weak (PI.or (pi_list he) (PI.or (pi_tup he) (pi_str he))) fun σ H R h => ?_
  obtain ⟨F, dc, D, r, Rl, q⟩ := h
  cases e1 : oe r D with
  | stuck => simp only [e1, Out.stuck_bind] at q
  | exc c D1 => simp only [e1, Out.exc_bind] at q; exact .inl ⟨F, dc, D, r, Rl, by rw [e1]; exact q⟩
  | ok d D1 =>
    simp only [e1, Out.ok_bind] at q
    cases d with
    | list xs =>
      simp only [itemsD, Out.lift_some] at q
      refine .inl ⟨F, dc, D, r, Rl, ?_⟩
      rw [e1]
      intro v F1 H1 s v1
      obtain ⟨a, vs, rfl, hs, rr, st⟩ := vp_stays (X := X) hmd v1 s.fh
      refine ⟨a, rfl, ⟨vs, hs⟩, q F1 H1 _ s ⟨fun H => SqL X.K H a vs, ?_, st⟩⟩
      have w := walk_list (K := X.K) (a := a) (xs := vs)
      rw [rr.len] at w
      exact w.mono (fun _ z => z) fun i H x H' _ _ y => yl_plain rr y
    | tuple xs =>
      simp only [itemsD, Out.lift_some] at q
      refine .inr (.inl ⟨F, dc, D, r, Rl, ?_⟩)
      rw [e1]
      intro v F1 H1 s v1
      obtain ⟨a, vs, rfl, hs, rr, st⟩ := vp_staysT (X := X) hmd v1 s.fh
      refine ⟨a, rfl, ⟨vs, hs⟩, q F1 H1 _ s ⟨fun H => SqT X.K H a vs, ?_, st⟩⟩
      have w := walk_tup (K := X.K) (a := a) (xs := vs)
      rw [rr.len] at w
      exact w.mono (fun _ z => z) fun i H x H' _ _ y => yl_plain rr y
    | str z =>
      simp only [itemsD, Out.lift_some] at q
      refine .inr (.inr ⟨F, dc, D, r, Rl, ?_⟩)
      rw [e1]
      intro v F1 H1 s v1
      have fz := res_frz hmd v1 (by intro _ q; cases q)
      have cl := fz.2
      cases fz.inv_str
      refine ⟨z, rfl, q F1 H1 _ s ⟨fun _ => True, ?_, fun _ _ => trivial⟩⟩
      have w := walk_str (z := z)
      have el : (charsOf z).length = z.cps.size := by simp [charsOf]
      rw [el]
      refine w.mono (fun _ z => z) fun i H x H' hi _ y => ?_
      obtain ⟨rfl, c, hc, rfl⟩ := y
      refine ⟨.str ⟨#[c]⟩, ?_, fun F2 s1 s2 => ⟨F2, Same.refl _, s2, fun a o e n => (by rw [e] at n; cases n), Same.refl _, fun n => n, ⟨.str _, ?_⟩⟩⟩
      · simp [charsOf, hc]
      · simp only [PyData.canLay0, PyData.strOk, Array.all_eq_true, decide_eq_true_eq] at cl ⊢
        intro j hj
        have hj0 : j = 0 := by simp at hj; omega
        subst hj0
        obtain ⟨hlt, hh⟩ := Array.getElem?_eq_some_iff.mp hc
        have := cl i hlt
        rw [hh] at this
        simpa using this
    | _ => simp [itemsD] at q
theorem pi_rangeS (hmd : m ≠ .fresh) (hg : Gl X "range") (hm : X.mg "range" = none) (ha : PA X [e] (spA G m oes)) (hs : starEach [e] X.env = [(false, eval e X.env)]) :
    PI X tg (.Call (.Name "range" p) [e] [] pos) (spI G m fun r D => (oes r D).bind fun vs D => .lift (itemsD .range vs) D) := by
  refine pi_weak (pi_range1 hg hm ha hs) fun σ H R h => ?_
  obtain ⟨F, dc, D, r, Rl, q⟩ := h
  refine ⟨F, dc, D, r, Rl, ?_⟩
  cases e1 : oes r D with
  | stuck => simp only [e1, Out.stuck_bind] at q
  | exc c D1 => simp only [e1, Out.exc_bind] at q; exact q
  | ok ds D1 =>
    simp only [e1, Out.ok_bind] at q
    intro vs F1 H1 s v1
    match ds, q, v1 with
    | [.int n], q, v1 =>
      simp only [itemsD] at q
      by_cases hn : rangeOk n = true
      · simp only [hn, if_true, Out.lift_some] at q
        obtain ⟨v, rfl, hv⟩ := Paired.one v1
        have hb := of_decide_eq_true hn
        refine ⟨n, by rw [(res_frz hmd hv (by intro _ q; cases q)).inv_int], by omega, by omega, q F1 H1 _ s ⟨fun _ => True, ?_, fun _ _ => trivial⟩⟩
        have el : (rangeD n).length = n.toNat := by simp [rangeD]
        rw [el]
        refine walk_range.mono (fun _ z => z) fun i H x H' hi _ y => ?_
        obtain ⟨rfl, rfl⟩ := y
        refine ⟨.int (i : Nat), by simp [rangeD, hi], fun F2 s1 s2 => ⟨F2, Same.refl _, s2, fun a o e n => (by rw [e] at n; cases n), Same.refl _, fun n => n, ?_⟩⟩
        show Rv K0 F2 (V.int (0 + (i : Int))) _
        have : (0 : Int) + (i : Int) = (i : Int) := by omega
        rw [this]
        exact .int _
      · simp [hn] at q
    | [], q, v1 => simp [itemsD] at q
    | _ :: _ :: _, q, v1 => simp [itemsD] at q
    | [.none], q, v1 => simp [itemsD] at q
    | [.bool _], q, v1 => simp [itemsD] at q
    | [.str _], q, v1 => simp [itemsD] at q
    | [.list _], q, v1 => simp [itemsD] at q
    | [.tuple _], q, v1 => simp [itemsD] at q
    | [.dict _], q, v1 => simp [itemsD] at q
theorem pi_enumS (hmd : m ≠ .fresh) (hg : Gl X "enumerate") (hm : X.mg "enumerate" = none) (ha : PA X [e] (spA G m oes)) (hs : starEach [e] X.env = [(false, eval e X.env)]) :
    PI X (.Tuple elts kk tpos) (.Call (.Name "enumerate" p) [e] [] pos) (spI G m fun r D => (oes r D).bind fun vs D => .lift (itemsD .enum vs) D) := by
  refine pi_weak (PI.or (pi_enum hg hm ha hs) (pi_enumT hg hm ha hs)) fun σ H R h => ?_
  obtain ⟨F, dc, D, r, Rl, q⟩ := h
  cases e1 : oes r D with
  | stuck => simp only [e1, Out.stuck_bind] at q
  | exc c D1 => simp only [e1, Out.exc_bind] at q; exact .inl ⟨F, dc, D, r, Rl, by rw [e1]; exact q⟩
  | ok ds D1 =>
    simp only [e1, Out.ok_bind] at q
    match ds, q, e1 with
    | [.list xs], q, e1 =>
      simp only [itemsD, Out.lift_some] at q
      refine .inl ⟨F, dc, D, r, Rl, ?_⟩
      rw [e1]
      intro vs F1 H1 s v1
      obtain ⟨v, rfl, hv⟩ := Paired.one v1
      obtain ⟨a, vs, rfl, hs, rr, st⟩ := vp_stays (X := X) hmd hv s.fh
      refine ⟨a, vs, rfl, hs, q F1 H1 _ s ⟨fun H => SqL X.K H a vs, ?_, st⟩⟩
      have w := walk_enum (K := X.K) (a := a) (xs := vs)
      have el : ((List.range xs.length).zipWith (fun (i : Nat) x => PyData.tuple [.int (i : Nat), x]) xs).length = vs.length := by simp [rr.len]
      rw [el]
      exact w.mono (fun _ z => z) fun i H x H' _ _ y => yl_pair (src_enum rr) y
    | [.tuple xs], q, e1 =>
      simp only [itemsD, Out.lift_some] at q
      refine .inr ⟨F, dc, D, r, Rl, ?_⟩
      rw [e1]
      intro vs F1 H1 s v1
      obtain ⟨v, rfl, hv⟩ := Paired.one v1
      obtain ⟨a, vs, rfl, hs, rr, st⟩ := vp_staysT (X := X) hmd hv s.fh
      refine ⟨a, vs, rfl, hs, q F1 H1 _ s ⟨fun H => SqT X.K H a vs, ?_, st⟩⟩
      have w := walk_enumT (K := X.K) (a := a) (xs := vs)
      have el : ((List.range xs.length).zipWith (fun (i : Nat) x => PyData.tuple [.int (i : Nat), x]) xs).length = vs.length := by simp [rr.len]
      rw [el]
      exact w.mono (fun _ z => z) fun i H x H' _ _ y => yl_pair (src_enum rr) y
    | [], q, e1 => simp [itemsD] at q
    | _ :: _ :: _, q, e1 => simp [itemsD] at q
    | [.none], q, e1 => simp [itemsD] at q
    | [.bool _], q, e1 => simp [itemsD] at q
    | [.str _], q, e1 => simp [itemsD] at q
    | [.int _], q, e1 => simp [itemsD] at q
    | [.dict _], q, e1 => simp [itemsD] at q
theorem pi_zipS (hmd : m ≠ .fresh) (hg : Gl X "zip") (hm : X.mg "zip" = none) (ha : PA X [e, e2] (spA G m oes)) (hs : starEach [e, e2] X.env = (false, eval e X.env) :: starEach [e2] X.env) (hpl : (backTo pos (starEach [e2] X.env)).any (·.1) = false) :
    PI X (.Tuple elts kk tpos) (.Call (.Name "zip" p) [e, e2] [] pos) (spI G m fun r D => (oes r D).bind fun vs D => .lift (itemsD .zip vs) D) := by
  refine pi_weak (RZ.pi_zipA hg hm ha hs hpl) fun σ H R h => ?_
  obtain ⟨F, dc, D, r, Rl, q⟩ := h
  refine ⟨F, dc, D, r, Rl, ?_⟩
  cases e1 : oes r D with
  | stuck => simp only [e1, Out.stuck_bind] at q
  | exc c D1 => simp only [e1, Out.exc_bind] at q; exact q
  | ok ds D1 =>
    simp only [e1, Out.ok_bind] at q
    have key : (∃ xs ys, ds = [.list xs, .list ys]) ∨ ∃ xs ys, ds = [.tuple xs, .tuple ys] := by
      cases h : itemsD .zip ds with
      | none => simp [h] at q
      | some its => exact zip_forms h
    rcases key with ⟨xs, ys, rfl⟩ | ⟨xs, ys, rfl⟩
    · simp only [itemsD, Out.lift_some] at q
      intro vs F1 H1 s v1
      obtain ⟨v, v', rfl, hv, hv'⟩ := Paired.two v1
      obtain ⟨a, vs, rfl, hs, rr, st⟩ := vp_stays (X := X) hmd hv s.fh
      obtain ⟨b, ws, rfl, hs', rr', st'⟩ := vp_stays (X := X) hmd hv' s.fh
      refine ⟨a, b, vs, ws, rfl, .inl ⟨hs, hs', q F1 H1 _ s ⟨fun H => SqL X.K H a vs ∧ SqL X.K H b ws, ?_, fun H2 s2 => ⟨st H2 s2, st' H2 s2⟩⟩⟩⟩
      have w := walk_zip (K := X.K) (a := a) (b := b) (xs := vs) (ys := ws) (n := (xs.zipWith (fun x y => PyData.tuple [x, y]) ys).length) (by simp [rr.len, rr'.len])
      exact w.mono (fun _ z => z) fun i H x H' _ _ y => yl_pair (src_zip rr rr') y
    · simp only [itemsD, Out.lift_some] at q
      intro vs F1 H1 s v1
      obtain ⟨v, v', rfl, hv, hv'⟩ := Paired.two v1
      obtain ⟨a, vs, rfl, hs, rr, st⟩ := vp_staysT (X := X) hmd hv s.fh
      obtain ⟨b, ws, rfl, hs', rr', st'⟩ := vp_staysT (X := X) hmd hv' s.fh
      refine ⟨a, b, vs, ws, rfl, .inr ⟨hs, hs', q F1 H1 _ s ⟨fun H => SqT X.K H a vs ∧ SqT X.K H b ws, ?_, fun H2 s2 => ⟨st H2 s2, st' H2 s2⟩⟩⟩⟩
      have w := walk_zipT (K := X.K) (a := a) (b := b) (xs := vs) (ys := ws) (n := (xs.zipWith (fun x y => PyData.tuple [x, y]) ys).length) (by simp [rr.len, rr'.len])
      exact w.mono (fun _ z => z) fun i H x H' _ _ y => yl_pair (src_zip rr rr') y
end
end Dk

set_option Elab.async false
set_option linter.all false
set_option maxRecDepth 100000
/-! Sound6: targets, comprehensions. -/
namespace Dk
open PySem PySem.Spec PyProof.Rows L2
variable [TabEnv]

/-! ### environments that change -/
section
variable {N : List PySem.Str} {F H : Hp} {dc : Option Addr} {D : DS} {r : Env} {σ : L2.St}
theorem Rel.setV (R : Rel K0 N F H dc D r σ) {i : Nat} {v : V} {d : PyData} (hv : Rv K0 F v d) (hn : N[i]? ≠ some ("dice" : PySem.Str)) : Rel K0 N F H dc D (r.set i (.val d)) (σ.set i (some v)) := by
  refine ⟨R.fh, R.dice, by simp [R.len], fun j s e => ?_, fun j k xs ys w e1 e2 e3 e4 => ?_, fun j a e1 e2 => ?_⟩
  · by_cases hj : i = j
    · subst hj
      rw [List.getElem?_set] at e
      simp only [if_true] at e
      split at e
      · rename_i hl
        cases e
        exact ⟨v, by rw [List.getElem?_set_self (by rw [R.len]; exact hl)], hv⟩
      · cases e
    · rw [List.getElem?_set_ne hj] at e ⊢
      exact R.sl j s e
  · have hj : i ≠ j := fun q => by
      subst q
      rw [List.getElem?_set] at e1
      simp only [if_true] at e1
      split at e1 <;> cases e1
    have hk : i ≠ k := fun q => by
      subst q
      rw [List.getElem?_set] at e2
      simp only [if_true] at e2
      split at e2 <;> cases e2
    rw [List.getElem?_set_ne hj] at e1 e3
    rw [List.getElem?_set_ne hk] at e2 e4
    exact R.ownI j k xs ys w e1 e2 e3 e4
  · have hj : i ≠ j := fun q => by subst q; exact hn e1
    rw [List.getElem?_set_ne hj]
    exact R.dsl j a e1 e2
theorem Rel.setO (R : Rel K0 N F H dc D r σ) {i : Nat} {v : V} {xs : List PyData} (hv : OwnAt K0 F H dc v xs) (hn : N[i]? ≠ some ("dice" : PySem.Str))
    (ap : ∀ j ys, j ≠ i → r[j]? = some (.own ys) → σ[j]? ≠ some (some v)) : Rel K0 N F H dc D (r.set i (.own xs)) (σ.set i (some v)) := by
  refine ⟨R.fh, R.dice, by simp [R.len], fun j s e => ?_, fun j k xs ys w e1 e2 e3 e4 => ?_, fun j a e1 e2 => ?_⟩
  · by_cases hj : i = j
    · subst hj
      rw [List.getElem?_set] at e
      simp only [if_true] at e
      split at e
      · rename_i hl
        cases e
        exact ⟨v, by rw [List.getElem?_set_self (by rw [R.len]; exact hl)], hv⟩
      · cases e
    · rw [List.getElem?_set_ne hj] at e ⊢
      exact R.sl j s e
  · have lt : ∀ {l : Nat} {zs : List PyData}, (r.set i (.own xs))[l]? = some (.own zs) → l < σ.length := fun {l zs} q => by
      have := (List.getElem?_eq_some_iff.mp q).1
      rw [R.len]; simpa using this
    by_cases hj : i = j
    · by_cases hk : i = k
      · rw [← hj, ← hk]
      · subst hj
        rw [List.getElem?_set_ne hk] at e2 e4
        rw [List.getElem?_set_self (by have := (List.getElem?_eq_some_iff.mp e3).1; simpa using this)] at e3
        cases e3
        exact absurd e4 (ap k ys (Ne.symm hk) e2)
    · by_cases hk : i = k
      · subst hk
        rw [List.getElem?_set_ne hj] at e1 e3
        rw [List.getElem?_set_self (by have := (List.getElem?_eq_some_iff.mp e4).1; simpa using this)] at e4
        cases e4
        exact absurd e3 (ap j _ (Ne.symm hj) e1)
      · rw [List.getElem?_set_ne hj] at e1 e3
        rw [List.getElem?_set_ne hk] at e2 e4
        exact R.ownI j k _ ys w e1 e2 e3 e4
  · have hj : i ≠ j := fun q => by subst q; exact hn e1
    rw [List.getElem?_set_ne hj]
    exact R.dsl j a e1 e2
theorem Rel.setN (R : Rel K0 N F H dc D r σ) {i : Nat} (hn : N[i]? ≠ some ("dice" : PySem.Str)) : Rel K0 N F H dc D (r.set i .non) (σ.set i none) := by
  refine ⟨R.fh, R.dice, by simp [R.len], fun j s e => ?_, fun j k xs ys w e1 e2 e3 e4 => ?_, fun j a e1 e2 => ?_⟩
  · by_cases hj : i = j
    · subst hj
      rw [List.getElem?_set] at e
      simp only [if_true] at e
      split at e
      · cases e; trivial
      · cases e
    · rw [List.getElem?_set_ne hj] at e ⊢
      exact R.sl j s e
  · have hj : i ≠ j := fun q => by
      subst q
      rw [List.getElem?_set] at e1
      simp only [if_true] at e1
      split at e1 <;> cases e1
    have hk : i ≠ k := fun q => by
      subst q
      rw [List.getElem?_set] at e2
      simp only [if_true] at e2
      split at e2 <;> cases e2
    rw [List.getElem?_set_ne hj] at e1 e3
    rw [List.getElem?_set_ne hk] at e2 e4
    exact R.ownI j k xs ys w e1 e2 e3 e4
  · have hj : i ≠ j := fun q => by subst q; exact hn e1
    rw [List.getElem?_set_ne hj]
    exact R.dsl j a e1 e2
/-- no slot of these is the dice's -/
def NoDice (N : List PySem.Str) (is : List Nat) : Prop := ∀ i ∈ is, N[i]? ≠ some ("dice" : PySem.Str)
theorem Rel.wipe (R : Rel K0 N F H dc D r σ) : ∀ {is : List Nat}, NoDice N is → Rel K0 N F H dc D (wipeE r is) (L2.wipe σ is)
  | [], _ => R
  | i :: is, h => (Rel.wipe R (is := is) fun j hj => h j (by simp [hj])).setN (h i (by simp))
end

theorem wipe_get (σ : L2.St) (vs : List Nat) (j : Nat) : (L2.wipe σ vs)[j]? = if j ∈ vs ∧ j < σ.length then some none else σ[j]? := by
  induction vs with
  | nil => simp [L2.wipe]
  | cons v vs ih =>
    rw [L2.wipe, List.getElem?_set, wipe_length, ih]
    by_cases h : v = j
    · subst h
      by_cases h2 : v < σ.length
      · simp [h2]
      · simp [h2]
    · have h' : ¬ j = v := fun q => h q.symm
      simp [h, h']
theorem wipe_set {σ : L2.St} {vs : List Nat} {i : Nat} {o : Option V} (h : i ∈ vs) : L2.wipe (σ.set i o) vs = L2.wipe σ vs := by
  apply List.ext_getElem?
  intro j
  rw [wipe_get, wipe_get, List.length_set]
  by_cases hj : j ∈ vs ∧ j < σ.length
  · rw [if_pos hj, if_pos hj]
  · rw [if_neg hj, if_neg hj]
    by_cases e : i = j
    · subst e
      have : ¬ i < σ.length := fun q => hj ⟨h, q⟩
      rw [List.getElem?_eq_none (by simpa using this), List.getElem?_eq_none (by simpa using this)]
    · rw [List.getElem?_set_ne e]
theorem wipe_wipe (σ : L2.St) (vs : List Nat) : L2.wipe (L2.wipe σ vs) vs = L2.wipe σ vs := by
  apply List.ext_getElem?
  intro j
  simp only [wipe_get, wipe_length]
  by_cases hj : j ∈ vs ∧ j < σ.length
  · simp only [if_pos hj]
  · simp only [if_neg hj]

/-! ### targets -/
def tgIx : Tg → List Nat
  | .name i => [i]
  | .tup is => is
/-- a target's reading serves the evaluator's -/
def GOk (N : List PySem.Str) (tg : Tg) (g : TG) : Prop := ∀ (F H : Hp) (dc : Option Addr) (D : DS) (r r1 : Env) (σ : L2.St) (v : V) (d : PyData) (Q : L2.St → Hp → Prop), Rel K0 N F H dc D r σ → Rv K0 F v d → Dk.assign tg d r = some r1 →
  (∀ σ1, Rel K0 N F H dc D r1 σ1 → (∀ vs : List Nat, (∀ i ∈ tgIx tg, i ∈ vs) → L2.wipe σ1 vs = L2.wipe σ vs) → Q σ1 H) → g v σ H Q
theorem gok_name {N : List PySem.Str} {i : Nat} (hn : NoDice N [i]) : GOk N (.name i) (gName i) := by
  intro F H dc D r r1 σ v d Q R hv ha k
  simp only [Dk.assign, Option.some.injEq] at ha
  subst ha
  exact k _ (R.setV hv (hn i (by simp))) fun vs hs => wipe_set (hs i (by simp [tgIx]))
def gsOf : List Nat → TGs
  | [] => gNil
  | i :: is => gCons (gName i) (gsOf is)
theorem gok_names {N : List PySem.Str} : ∀ (is : List Nat), NoDice N is → ∀ (F H : Hp) (dc : Option Addr) (D : DS) (r r1 : Env) (σ : L2.St) (vs : List V) (ds : List PyData) (Q : L2.St → Hp → Prop), Rel K0 N F H dc D r σ → Rvs K0 F vs ds → setAll is ds r = some r1 →
    (∀ σ1, Rel K0 N F H dc D r1 σ1 → (∀ ws : List Nat, (∀ i ∈ is, i ∈ ws) → L2.wipe σ1 ws = L2.wipe σ ws) → Q σ1 H) → gsOf is vs σ H Q
  | [], hn, F, H, dc, D, r, r1, σ, vs, ds, Q, R, hv, ha, k => by
    cases ds with
    | nil =>
      simp only [setAll, Option.some.injEq] at ha
      subst ha
      exact ⟨hv.inv_nil, k σ R fun _ _ => rfl⟩
    | cons d ds => simp [setAll] at ha
  | i :: is, hn, F, H, dc, D, r, r1, σ, vs, ds, Q, R, hv, ha, k => by
    cases ds with
    | nil => simp [setAll] at ha
    | cons d ds =>
      obtain ⟨v, vs', rfl, h1, h2⟩ := hv.inv_cons
      refine ⟨v, vs', rfl, gok_names is (fun j hj => hn j (by simp [hj])) F H dc D _ r1 _ vs' ds Q (R.setV h1 (hn i (by simp))) h2 ha fun σ1 R1 hw => k σ1 R1 fun ws hs => ?_⟩
      rw [hw ws fun j hj => hs j (by simp [hj]), wipe_set (hs i (by simp))]
theorem gok_tup {X : Cx} {N : List PySem.Str} {is : List Nat} (hn : NoDice N is) : GOk N (.tup is) (gTup X.K is.length (gsOf is)) := by
  intro F H dc D r r1 σ v d Q R hv ha k
  cases d with
  | tuple xs =>
    simp only [Dk.assign] at ha
    obtain ⟨a, vs, rfl, hs, rr⟩ := hv.inv_tup
    have hl : ∀ (is : List Nat) (xs : List PyData) (r : Env), setAll is xs r = some r1 → xs.length = is.length := by
      intro is
      induction is with
      | nil => intro xs r h; cases xs <;> simp [setAll] at h ⊢
      | cons i is ih => intro xs r h; cases xs with
        | nil => simp [setAll] at h
        | cons x xs => simp only [setAll] at h; simp [ih xs _ h]
    exact ⟨a, vs, rfl, sqT_K (Evl.ex_t R.fh hs), by rw [rr.len, hl is xs r ha], gok_names is hn F H dc D r r1 σ vs xs Q R rr ha k⟩
  | _ => simp [Dk.assign] at ha

/-! ### list comprehensions -/
/-- one turn of the block -/
def turnF (tg : Tg) (own : List Nat) (r : Env) (ot : Env → DS → Out Bool) (oe : OE) : PyData → DS → Out (Option PyData) := fun x D =>
  (Out.lift (Dk.assign tg x (wipeE r own)) D).bind fun r1 D => (ot r1 D).bind fun b D => match b with
    | true => (oe r1 D).bind fun y D => .ok (some y) D
    | false => .ok none D
theorem compL_cons_ok {f : PyData → DS → Out (Option PyData)} {x : PyData} {xs ys : List PyData} {D D' : DS} (h : compL f (x :: xs) D = .ok ys D') :
    ∃ o D1 zs, f x D = .ok o D1 ∧ compL f xs D1 = .ok zs D' ∧ ys = (match o with | some y => y :: zs | none => zs) := by
  rw [compL] at h
  cases e : f x D with
  | stuck => simp [e] at h
  | exc c D1 => simp [e] at h
  | ok o D1 =>
    simp only [e, Out.ok_bind] at h
    cases e2 : compL f xs D1 with
    | stuck => simp [e2] at h
    | exc c D2 => simp [e2] at h
    | ok zs D2 =>
      simp only [e2, Out.ok_bind, Out.ok.injEq] at h
      exact ⟨o, D1, zs, rfl, by rw [← h.2]; exact e2, h.1.symm⟩
/-- what holds between two turns: D0 the new list, F1, H1 the state ahead of it -/
def Pv (dc : Option Addr) (F1 H1 : Hp) (D0 : Addr) (f : PyData → DS → Out (Option PyData)) (its ys : List PyData) (D' : DS) (i : Nat) (H : Hp) : Prop :=
  ∃ F D vs ds zs, Stp dc F1 H1 F H D ∧ H D0 = some (.lst vs) ∧ F D0 = none ∧ Rvs K0 F vs ds ∧ compL f (its.drop i) D = .ok zs D' ∧ ds ++ zs = ys
theorem Stp.newObj {dc : Option Addr} {F H : Hp} {D : DS} {p : Addr} {o : HO} (e : Same F H) (dk : DiceOk dc F H D) (hp : H p = none) : Stp dc F H F (upd H p o) D :=
  ⟨Same.refl F, fun a u h => by rw [upd_ne (ne_of_none h (e.free hp))]; exact e a u h, fun a u h n => (by rw [h] at n; cases n), fun a u h _ _ => (by rw [upd_ne (ne_of_none h hp)]; exact h), fun a ps h => ⟨ps, by rw [upd_ne (ne_of_none h hp)]; exact h⟩, dk.updH hp⟩
/-- an object that neither stood ahead nor is frozen is changed -/
theorem Stp.change {dc : Option Addr} {F H F1 H1 : Hp} {D1 : DS} {p : Addr} {o : HO} (s : Stp dc F H F1 H1 D1) (hp : H p = none) (fp : F1 p = none) (nd : some p ≠ dc) (hl : ∃ xs, H1 p = some (.lst xs)) : Stp dc F H F1 (upd H1 p o) D1 := by
  refine ⟨s.ff, fun a u h => ?_, s.new, fun a u h hd ht => ?_, fun a ps h => ?_, ?_⟩
  · rw [upd_ne (ne_of_none h fp)]; exact s.fh a u h
  · rw [upd_ne (ne_of_none h hp)]; exact s.keep a u h hd ht
  · rw [upd_ne (ne_of_none h hp)]; exact s.tb a ps h
  · obtain ⟨z, zt⟩ := s.dice
    have zt2 : TF F1 (upd H1 p o) := zt.upd (.inr hl)
    cases D1 with
    | none => exact ⟨z, zt2⟩
    | some q =>
      obtain ⟨a, e1, e2, e3⟩ := z
      exact ⟨⟨a, e1, by rw [upd_ne (fun q => nd (by rw [← q, e1]))]; exact e2, e3⟩, zt2⟩
theorem compL_mono_len {f : PyData → DS → Out (Option PyData)} : True := trivial

section
variable {X : Cx} {G : Sig} {tg it elt : PySem.Expr} {ifs : List PySem.Expr} {scope : PySem.Scope} {own : List (PySem.Str × Nat)} {pos : Pos} {g : TG} {t : Tg} {oi : OA} {ot : Env → DS → Out Bool} {oe : OE}
/-- the reading of a comprehension, by the evaluator -/
theorem sp_comp {m : Md} {G0 : Sig} (hN0 : G0.N = G.N) (hE0 : ∀ c d H, ¬ G0.E c d H) (hd : NoDice G.N (own.map (·.2))) (ho : ∀ i ∈ tgIx t, i ∈ own.map (·.2)) (gk : GOk G.N t g) {σ : L2.St} {H : Hp} {Q : VK}
    (h : spE G .fresh (fun r D => (oi r D).bind fun its D => (compL (turnF t (own.map (·.2)) r ot oe) its D).calm.bind fun ys D => fits ys D) σ H Q) :
    tLc (spI G m oi) g (spT G0 ot) (spE G0 .leak oe) (own.map (·.2)) σ H Q := by
  obtain ⟨F, dc, D, r, R, p⟩ := h
  refine ⟨F, dc, D, r, R, ?_⟩
  cases e1 : oi r D with
  | stuck => simp only [e1, Out.stuck_bind] at p; exact p
  | exc c D1 => simp only [e1, Out.exc_bind] at p; exact p
  | ok its D1 =>
    simp only [e1, Out.ok_bind] at p
    intro F1 H1 J s1 src D0 hD0
    obtain ⟨Gd, w, st⟩ := src
    cases e2 : compL (turnF t (own.map (·.2)) r ot oe) its D1 with
    | stuck => simp only [e2, Out.calm_stuck, Out.stuck_bind] at p; exact p.elim
    | exc c D2 => simp only [e2, Out.calm_exc, Out.stuck_bind] at p; exact p.elim
    | ok ys D2 =>
      simp only [e2, Out.calm_ok, Out.ok_bind, fits] at p
      split at p
      · rename_i hl
        have nd : some D0 ≠ dc := s1.dice.ne hD0
        have R1 := R.step s1
        refine lc_it w (Pv dc F1 H1 D0 (turnF t (own.map (·.2)) r ot oe) its ys D2) ?_ ?_ ?_ ?_
        · exact ⟨F1, D1, [], [], ys, Stp.newObj s1.fh s1.dice hD0, upd_same, s1.fh.free hD0, .nil, by simpa using e2, rfl⟩
        · rintro i H _ ⟨F2, D3, vs, ds, zs, s2, _⟩
          exact st H (by cases m with | leak => exact s2.ff.trans s2.fh | peek => exact ⟨F2, D3, s2⟩ | fresh => exact ⟨F2, D3, s2⟩)
        · rintro i x H2 H3 hi ⟨F2, D3, vs, ds, zs, s2, a1, a2, a3, a4, a5⟩ ⟨d, hd1, yl⟩
          obtain ⟨F3, f1, f2, f3, f4, f5, rv⟩ := yl F2 s2.ff s2.fh
          have dr : its.drop i = d :: its.drop (i + 1) := by
            rw [List.drop_eq_getElem_cons hi]
            congr 1
            rw [List.getElem?_eq_getElem hi] at hd1
            exact Option.some.inj hd1
          rw [dr] at a4
          obtain ⟨o, D4, zs', b1, b2, b3⟩ := compL_cons_ok a4
          have s3 : Stp dc F2 H2 F3 H3 D3 := ⟨f1, f2, f3, fun a o e _ _ => f4 a o e, fun a ps e => ⟨ps, f4 a _ e⟩, by
            obtain ⟨z, zt⟩ := s2.dice
            have zt2 : TF F3 H3 := ⟨zt.t.chg fun a o e _ => f4 a o e, f5 zt.n⟩
            cases D3 with
            | none => exact ⟨z, zt2⟩
            | some q =>
              obtain ⟨a, c1, c2, c3⟩ := z
              refine ⟨⟨a, c1, f4 a _ c2, ?_⟩, zt2⟩
              cases y : F3 a with
              | none => rfl
              | some u => rw [f3 a u y c3] at c2; cases c2⟩
          have s4 := s2.trans s3
          have D0f : F3 D0 = none := s3.own a1 a2
          have D0h : H3 D0 = some (.lst vs) := f4 _ _ a1
          have Rw : Rel K0 G.N F3 H3 dc D3 (wipeE r (own.map (·.2))) (L2.wipe σ (own.map (·.2))) := (R1.step s4).wipe hd
          unfold turnF at b1
          cases e3 : Dk.assign t d (wipeE r (own.map (·.2))) with
          | none => simp [e3] at b1
          | some r1 =>
            simp only [e3, Out.lift_some, Out.ok_bind] at b1
            refine gk F3 H3 dc D3 _ r1 _ x d _ Rw rv e3 fun σ1 Rσ hw => ⟨?_, ?_⟩
            · rw [hw _ ho, wipe_wipe]
            · refine ⟨F3, dc, D3, r1, by rw [hN0]; exact Rσ, ?_⟩
              cases e4 : ot r1 D3 with
              | stuck => simp [e4] at b1
              | exc c D5 => simp [e4] at b1
              | ok b D5 =>
                simp only [e4, Out.ok_bind] at b1
                intro F5 H5 s5
                have D0f5 := s5.own D0h D0f
                have D0h5 := s5.keep D0 _ D0h nd (fun _ z => by cases z)
                cases b with
                | false =>
                  simp only [Out.ok.injEq] at b1
                  refine iteF ?_
                  obtain ⟨rfl, rfl⟩ := b1
                  exact ⟨F5, D5, vs, ds, zs', s4.trans s5, D0h5, D0f5, a3.mono ((f1.trans s5.ff)), b2, by rw [← a5, b3]⟩
                | true =>
                  refine iteT ⟨F5, dc, D5, r1, by rw [hN0]; exact Rσ.step s5, ?_⟩
                  cases e5 : oe r1 D5 with
                  | stuck => simp [e5] at b1
                  | exc c D6 => simp [e5] at b1
                  | ok y D6 =>
                    simp only [e5, Out.ok_bind, Out.ok.injEq] at b1
                    obtain ⟨rfl, rfl⟩ := b1
                    intro v F6 H6 s6 rv6
                    have D0f6 := s6.own D0h5 D0f5
                    have D0h6 := s6.keep D0 _ D0h5 nd (fun _ z => by cases z)
                    have tot := (s4.trans s5).trans s6
                    have rd : Rvs K0 F6 vs ds := a3.mono ((f1.trans s5.ff).trans s6.ff)
                    refine ⟨vs, D0h6, ?_, F6, D6, vs ++ [v], ds ++ [y], zs', tot.change hD0 D0f6 nd ⟨_, D0h6⟩, upd_same, D0f6, rd.append (.cons rv6 .nil), b2, by rw [← a5, b3]; simp⟩
                    have : ys.length = ds.length + (zs'.length + 1) := by rw [← a5, b3]; simp
                    rw [rd.len]
                    show ds.length < szL
                    omega
        · rintro H2 ⟨F2, D3, vs, ds, zs, s2, a1, a2, a3, a4, a5⟩
          rw [List.drop_length, compL] at a4
          simp only [Out.ok.injEq] at a4
          obtain ⟨rfl, rfl⟩ := a4
          rw [List.append_nil] at a5
          subst a5
          refine p (.ref D0) F2 H2 (s1.trans s2) ⟨⟨D0, vs, rfl, a1, a2, nd, a3⟩, fun a q => ?_⟩
          cases q
          exact s1.back hD0
      · exact p.elim
end
end Dk

namespace Dk
open PySem PySem.Spec PyProof.Rows L2
variable [TabEnv]
/-! ### two clauses -/
theorem lc_in {J : It} {n : Nat} {Gd : Hp → Prop} {Y : Nat → Hp → V → Hp → Prop} (w : Walk J n Gd Y) {g : TG} {tt : TT} {te : TE} {vs : List Nat} {σ : L2.St} {H1 : Hp} {D : Addr} {Qd : Hp → Prop} (Pv : Nat → Hp → Prop) (h0 : Pv 0 H1) (hG : ∀ i H, i ≤ n → Pv i H → Gd H)
    (hs : ∀ i x H H', i < n → Pv i H → Y i H x H' → g x (L2.wipe σ vs) H' fun σ2 H2 => L2.wipe σ2 vs = L2.wipe σ vs ∧ tt σ2 H2 fun b H3 =>
      if b = true then te σ2 H3 fun y H4 => ∃ acc, H4 D = some (.lst acc) ∧ acc.length < sizeLine ∧ Pv (i + 1) (upd H4 D (.lst (acc ++ [y]))) else Pv (i + 1) H3) (hd : ∀ H, Pv n H → Qd H) :
    ∃ W : Nat → Nat → Hp → Prop, (∃ m, W 0 m H1) ∧ ∀ i m H, W i m H →
      (J.stop i H ∧ Qd H) ∨ (J.go i H ∧ ∃ Nx : Hp → Prop, (∀ H', Nx H' → ∃ m', m' < m ∧ W (i + 1) m' H') ∧ ∀ x H', J.yld i H x H' → g x (L2.wipe σ vs) H' fun σ2 H2 => L2.wipe σ2 vs = L2.wipe σ vs ∧ tt σ2 H2 fun b H3 =>
        if b = true then te σ2 H3 fun y H4 => ∃ acc, H4 D = some (.lst acc) ∧ acc.length < sizeLine ∧ Nx (upd H4 D (.lst (acc ++ [y]))) else Nx H3) := by
  refine ⟨fun i m H => m = n - i ∧ i ≤ n ∧ Pv i H, ⟨n, by simp, Nat.zero_le _, h0⟩, ?_⟩
  rintro i m H ⟨rfl, hi, p⟩
  have q := hG i H hi p
  by_cases hlt : i < n
  · refine .inr ⟨w.goes i H hlt q, Pv (i + 1), fun H' p' => ⟨n - (i + 1), by omega, rfl, hlt, p'⟩, fun x H' y => hs i x H H' hlt p (w.yields i H x H' hlt q y)⟩
  · have e : i = n := by omega
    subst e
    exact .inl ⟨w.stops H q, hd H p⟩
def turnF2 (tg tg1 : Tg) (own own1 : List Nat) (r : Env) (ot : Env → DS → Out Bool) (oi1 : OA) (oe : OE) : PyData → DS → Out (List PyData) := fun x D =>
  (Out.lift (Dk.assign tg x (wipeE r own)) D).bind fun r1 D => (ot r1 D).bind fun b D => match b with
    | true => (oi1 r1 D).bind fun its1 D => compL (turnF tg1 own1 r1 (fun _ D => .ok true D) oe) its1 D
    | false => .ok [] D
theorem compL2_cons_ok {f : PyData → DS → Out (List PyData)} {x : PyData} {xs ys : List PyData} {D D' : DS} (h : compL2 f (x :: xs) D = .ok ys D') :
    ∃ o D1 zs, f x D = .ok o D1 ∧ compL2 f xs D1 = .ok zs D' ∧ ys = o ++ zs := by
  rw [compL2] at h
  cases e : f x D with
  | stuck => simp [e] at h
  | exc c D1 => simp [e] at h
  | ok o D1 =>
    simp only [e, Out.ok_bind] at h
    cases e2 : compL2 f xs D1 with
    | stuck => simp [e2] at h
    | exc c D2 => simp [e2] at h
    | ok zs D2 =>
      simp only [e2, Out.ok_bind, Out.ok.injEq] at h
      exact ⟨o, D1, zs, rfl, by rw [← h.2]; exact e2, h.1.symm⟩
def Pv2 (dc : Option Addr) (F1 H1 : Hp) (D0 : Addr) (f : PyData → DS → Out (List PyData)) (its ys : List PyData) (D' : DS) (i : Nat) (H : Hp) : Prop :=
  ∃ F D vs ds zs, Stp dc F1 H1 F H D ∧ H D0 = some (.lst vs) ∧ F D0 = none ∧ Rvs K0 F vs ds ∧ compL2 f (its.drop i) D = .ok zs D' ∧ ds ++ zs = ys
section
variable {G : Sig} {own : List (PySem.Str × Nat)} {g g1 : TG} {t t1 : Tg} {oi oi1 : OA} {ot : Env → DS → Out Bool} {oe : OE}
theorem Stp.yield {dc : Option Addr} {F2 H2 F3 H3 : Hp} {D3 : DS} (dk : DiceOk dc F2 H2 D3) (f1 : Same F2 F3) (f2 : Same F3 H3) (f3 : ∀ a o, F3 a = some o → F2 a = none → H2 a = none) (f4 : Same H2 H3) (f5 : NoTab F2 → NoTab F3) : Stp dc F2 H2 F3 H3 D3 := by
  obtain ⟨dk, tk⟩ := dk
  have tk2 : TF F3 H3 := ⟨tk.t.chg fun a o e _ => f4 a o e, f5 tk.n⟩
  refine ⟨f1, f2, f3, fun a o e _ _ => f4 a o e, fun a ps e => ⟨ps, f4 a _ e⟩, ?_⟩
  cases D3 with
  | none => exact ⟨dk, tk2⟩
  | some q =>
    obtain ⟨a, c1, c2, c3⟩ := dk
    refine ⟨⟨a, c1, f4 a _ c2, ?_⟩, tk2⟩
    cases y : F3 a with
    | none => rfl
    | some u => rw [f3 a u y c3] at c2; cases c2
/-- an object that no slot owns and that is not frozen is changed -/
theorem rel_change {N : List PySem.Str} {F H : Hp} {dc : Option Addr} {D : DS} {r : Env} {σ : L2.St} {p : Addr} {o : HO} (R : Rel K0 N F H dc D r σ) (hl : ∃ xs, H p = some (.lst xs)) (fp : F p = none) (nd : some p ≠ dc) (na : ∀ (j : Nat) (xs : List PyData) (v : V), r[j]? = some (.own xs) → σ[j]? = some (some v) → v ≠ .ref p) : Rel K0 N F (upd H p o) dc D r σ := by
  refine ⟨fun a u h => ?_, ?_, R.len, fun j s e => ?_, R.ownI, R.dsl⟩
  · rw [upd_ne (ne_of_none h fp)]; exact R.fh a u h
  · obtain ⟨z, zt⟩ := R.dice
    have zt2 : TF F (upd H p o) := zt.upd (.inr hl)
    cases D with
    | none => exact ⟨z, zt2⟩
    | some q =>
      obtain ⟨a, e1, e2, e3⟩ := z
      exact ⟨⟨a, e1, by rw [upd_ne (fun q => nd (by rw [← q, e1]))]; exact e2, e3⟩, zt2⟩
  · have z := R.sl j s e
    cases s with
    | non => trivial
    | val d => exact z
    | own xs =>
      obtain ⟨v, e1, a, vs, rfl, e2, e3, e4, e5⟩ := z
      refine ⟨_, e1, a, vs, rfl, ?_, e3, e4, e5⟩
      rw [upd_ne (fun q => na j xs _ e e1 (by rw [q]))]
      exact e2
/-- the inner loop: it adds what compL gives to the list at D0 -/
theorem sp_inner {G0 : Sig} {N : List PySem.Str} {own1 : List Nat} (hN0 : G0.N = N) (hd : NoDice N own1) (ho : ∀ i ∈ tgIx t1, i ∈ own1) (gk : GOk N t1 g1) {σ : L2.St} {dc : Option Addr} {F1 H1 F H : Hp} {D0 : Addr} {D D' : DS} {r : Env} {vs : List V} {ds its zs : List PyData} {J : It} {Nx : Hp → Prop}
    (hD0 : H1 D0 = none) (nd : some D0 ≠ dc) (R : Rel K0 N F H dc D r σ) (s : Stp dc F1 H1 F H D) (src : Src .leak dc F H J its) (a1 : H D0 = some (.lst vs)) (a2 : F D0 = none) (a3 : Rvs K0 F vs ds)
    (na : ∀ (j : Nat) (xs : List PyData) (v : V), r[j]? = some (.own xs) → σ[j]? = some (some v) → v ≠ .ref D0)
    (e : compL (turnF t1 own1 r (fun _ D => .ok true D) oe) its D = .ok zs D') (hl : ds.length + zs.length ≤ szL)
    (fin : ∀ F' H' vs', Stp dc F1 H1 F' H' D' → Same F F' → H' D0 = some (.lst vs') → F' D0 = none → Rvs K0 F' vs' (ds ++ zs) → Nx H') :
    ∃ W1 : Nat → Nat → Hp → Prop, (∃ m, W1 0 m H) ∧ ∀ j k H, W1 j k H →
      (J.stop j H ∧ Nx H) ∨ (J.go j H ∧ ∃ Nx1 : Hp → Prop, (∀ H', Nx1 H' → ∃ k', k' < k ∧ W1 (j + 1) k' H') ∧ ∀ x H', J.yld j H x H' → g1 x (L2.wipe σ own1) H' fun σ3 H5 => L2.wipe σ3 own1 = L2.wipe σ own1 ∧ tYes σ3 H5 fun b H6 =>
        if b = true then (spE G0 .leak oe) σ3 H6 fun y H7 => ∃ acc, H7 D0 = some (.lst acc) ∧ acc.length < sizeLine ∧ Nx1 (upd H7 D0 (.lst (acc ++ [y]))) else Nx1 H6) := by
  obtain ⟨Gd, w, st⟩ := src
  refine lc_in w (fun i H' => ∃ F' D2 ws es ts, Stp dc F1 H1 F' H' D2 ∧ Same F F' ∧ (∀ r' : Env, r' = r → Rel K0 N F' H' dc D2 r' σ) ∧ H' D0 = some (.lst ws) ∧ F' D0 = none ∧ Rvs K0 F' ws es ∧ compL (turnF t1 own1 r (fun _ D => .ok true D) oe) (its.drop i) D2 = .ok ts D' ∧ es ++ ts = ds ++ zs) ?_ ?_ ?_ ?_
  · exact ⟨F, D, vs, ds, zs, s, Same.refl F, fun r' q => by rw [q]; exact R, a1, a2, a3, by simpa using e, rfl⟩
  · rintro i H' _ ⟨F', D2, ws, es, ts, s', f', _⟩
    exact st H' (f'.trans s'.fh)
  · rintro i x H2 H3 hi ⟨F2, D3, ws, es, ts, s2, ff, Rr, b1, b2, b3, b4, b5⟩ ⟨d, hd1, yl⟩
    obtain ⟨F3, f1, f2, f3, f4, f5, rv⟩ := yl F2 ff s2.fh
    have dr : its.drop i = d :: its.drop (i + 1) := by
      rw [List.drop_eq_getElem_cons hi]
      congr 1
      rw [List.getElem?_eq_getElem hi] at hd1
      exact Option.some.inj hd1
    rw [dr] at b4
    obtain ⟨o, D4, ts', c1, c2, c3⟩ := compL_cons_ok b4
    have s3 : Stp dc F2 H2 F3 H3 D3 := Stp.yield s2.dice f1 f2 f3 f4 f5
    have D0f : F3 D0 = none := s3.own b1 b2
    have D0h : H3 D0 = some (.lst ws) := f4 _ _ b1
    have Rw : Rel K0 N F3 H3 dc D3 (wipeE r own1) (L2.wipe σ own1) := ((Rr r rfl).step s3).wipe hd
    unfold turnF at c1
    cases e3 : Dk.assign t1 d (wipeE r own1) with
    | none => simp [e3] at c1
    | some r1 =>
      simp only [e3, Out.lift_some, Out.ok_bind] at c1
      refine gk F3 H3 dc D3 _ r1 _ x d _ Rw rv e3 fun σ1 Rσ hw => ⟨?_, ?_⟩
      · rw [hw _ ho, wipe_wipe]
      · simp only [tYes, if_true]
        refine ⟨F3, dc, D3, r1, by rw [hN0]; exact Rσ, ?_⟩
        cases e5 : oe r1 D3 with
        | stuck => simp [e5] at c1
        | exc c D6 => simp [e5] at c1
        | ok y D6 =>
          simp only [e5, Out.ok_bind, Out.ok.injEq] at c1
          obtain ⟨rfl, rfl⟩ := c1
          intro v F6 H6 s6 rv6
          have D0f6 := s6.own D0h D0f
          have D0h6 := s6.keep D0 _ D0h nd (fun _ z => by cases z)
          have tot := (s2.trans s3).trans s6
          have rd : Rvs K0 F6 ws es := b3.mono (f1.trans s6.ff)
          have sb : Stp dc F2 H2 F6 H6 D6 := s3.trans s6
          refine ⟨ws, D0h6, ?_, F6, D6, ws ++ [v], es ++ [y], ts', tot.change hD0 D0f6 nd ⟨_, D0h6⟩, (ff.trans f1).trans s6.ff, fun r' q => ?_, upd_same, D0f6, rd.append (.cons rv6 .nil), c2, by rw [← b5, c3]; simp⟩
          · have z : es.length + ts.length = ds.length + zs.length := by have := congrArg List.length b5; simpa using this
            have : ts.length = ts'.length + 1 := by rw [c3]; simp
            rw [rd.len]
            show es.length < szL
            omega
          · rw [q]
            have R6 := (Rr r rfl).step sb
            exact rel_change R6 ⟨_, D0h6⟩ D0f6 nd na
  · rintro H' ⟨F', D2, ws, es, ts, s', f', _, b1, b2, b3, b4, b5⟩
    rw [List.drop_length, compL] at b4
    simp only [Out.ok.injEq] at b4
    obtain ⟨rfl, rfl⟩ := b4
    rw [List.append_nil] at b5
    exact fin F' H' ws s' f' b1 b2 (by rw [← b5]; exact b3)
theorem assign_own {tg : Tg} {d : PyData} {r r1 : Env} {is : List Nat} (hs : ∀ i ∈ tgIx tg, i ∈ is) (h : Dk.assign tg d (wipeE r is) = some r1) : ∀ (j : Nat) (xs : List PyData), r1[j]? = some (.own xs) → r[j]? = some (.own xs) ∧ j ∉ is := by
  have w : ∀ (is : List Nat) (j : Nat) (xs : List PyData), (wipeE r is)[j]? = some (.own xs) → r[j]? = some (.own xs) ∧ j ∉ is := by
    intro is
    induction is with
    | nil => intro j xs q; exact ⟨q, by simp⟩
    | cons v vs ih =>
      intro j xs q
      rw [wipeE, List.getElem?_set] at q
      split at q
      · split at q <;> cases q
      · rename_i hv
        obtain ⟨h1, h2⟩ := ih j xs q
        exact ⟨h1, by simp only [List.mem_cons, not_or]; exact ⟨fun z => hv z.symm, h2⟩⟩
  have sa : ∀ (ks : List Nat) (ds : List PyData) (r0 r2 : Env), setAll ks ds r0 = some r2 → ∀ (j : Nat) (xs : List PyData), r2[j]? = some (.own xs) → r0[j]? = some (.own xs) := by
    intro ks
    induction ks with
    | nil =>
      intro ds r0 r2 q j xs e
      cases ds with
      | nil => simp only [setAll, Option.some.injEq] at q; rw [q]; exact e
      | cons d ds => simp [setAll] at q
    | cons k ks ih =>
      intro ds r0 r2 q j xs e
      cases ds with
      | nil => simp [setAll] at q
      | cons d ds =>
        have z := ih ds _ r2 q j xs e
        rw [List.getElem?_set] at z
        split at z
        · split at z <;> cases z
        · exact z
  intro j xs e
  cases tg with
  | name i =>
    simp only [Dk.assign, Option.some.injEq] at h
    subst h
    rw [List.getElem?_set] at e
    split at e
    · split at e <;> cases e
    · exact w is j xs e
  | tup ks =>
    cases d with
    | tuple ys =>
      simp only [Dk.assign] at h
      exact w is j xs (sa ks ys _ r1 h j xs e)
    | _ => simp [Dk.assign] at h
theorem wipe_eq_get {σ σ1 : L2.St} {is : List Nat} (h : L2.wipe σ1 is = L2.wipe σ is) {j : Nat} (hj : j ∉ is) : σ1[j]? = σ[j]? := by
  have := congrArg (fun l : L2.St => l[j]?) h
  simp only [wipe_get] at this
  simpa [hj] using this
/-- the reading of a comprehension of two clauses, by the evaluator -/
theorem sp_comp2 {m : Md} {G0 : Sig} {own1 : List Nat} (hN0 : G0.N = G.N) (hd : NoDice G.N (own.map (·.2))) (ho : ∀ i ∈ tgIx t, i ∈ own.map (·.2)) (gk : GOk G.N t g) (hd1 : NoDice G.N own1) (ho1 : ∀ i ∈ tgIx t1, i ∈ own1) (gk1 : GOk G.N t1 g1) {σ : L2.St} {H : Hp} {Q : VK}
    (h : spE G .fresh (fun r D => (oi r D).bind fun its D => (compL2 (turnF2 t t1 (own.map (·.2)) own1 r ot oi1 oe) its D).calm.bind fun ys D => fits ys D) σ H Q) :
    tLc2 (spI G m oi) g (spT G0 ot) (spI G0 .leak oi1) g1 tYes (spE G0 .leak oe) (own.map (·.2)) own1 σ H Q := by
  obtain ⟨F, dc, D, r, R, p⟩ := h
  refine ⟨F, dc, D, r, R, ?_⟩
  cases e1 : oi r D with
  | stuck => simp only [e1, Out.stuck_bind] at p; exact p
  | exc c D1 => simp only [e1, Out.exc_bind] at p; exact p
  | ok its D1 =>
    simp only [e1, Out.ok_bind] at p
    intro F1 H1 J s1 src D0 hD0
    obtain ⟨Gd, w, st⟩ := src
    cases e2 : compL2 (turnF2 t t1 (own.map (·.2)) own1 r ot oi1 oe) its D1 with
    | stuck => simp only [e2, Out.calm_stuck, Out.stuck_bind] at p; exact p.elim
    | exc c D2 => simp only [e2, Out.calm_exc, Out.stuck_bind] at p; exact p.elim
    | ok ys D2 =>
      simp only [e2, Out.calm_ok, Out.ok_bind, fits] at p
      split at p
      · rename_i hl
        have nd : some D0 ≠ dc := s1.dice.ne hD0
        have R1 := R.step s1
        refine ⟨fun i k H => k = its.length - i ∧ i ≤ its.length ∧ Pv2 dc F1 H1 D0 (turnF2 t t1 (own.map (·.2)) own1 r ot oi1 oe) its ys D2 i H, ⟨its.length, by simp, Nat.zero_le _, F1, D1, [], [], ys, Stp.newObj s1.fh s1.dice hD0, upd_same, s1.fh.free hD0, .nil, by simpa using e2, rfl⟩, ?_⟩
        rintro i k H2 ⟨rfl, hi, F2, D3, vs, ds, zs, s2, a1, a2, a3, a4, a5⟩
        have hG := st H2 (by cases m with | leak => exact s2.ff.trans s2.fh | peek => exact ⟨F2, D3, s2⟩ | fresh => exact ⟨F2, D3, s2⟩)
        by_cases hlt : i < its.length
        · refine .inr ⟨w.goes i H2 hlt hG, Pv2 dc F1 H1 D0 (turnF2 t t1 (own.map (·.2)) own1 r ot oi1 oe) its ys D2 (i + 1), fun H' p' => ⟨its.length - (i + 1), by omega, rfl, hlt, p'⟩, fun x H3 y => ?_⟩
          obtain ⟨d, hd0, yl⟩ := w.yields i H2 x H3 hlt hG y
          obtain ⟨F3, f1, f2, f3, f4, f5, rv⟩ := yl F2 s2.ff s2.fh
          have dr : its.drop i = d :: its.drop (i + 1) := by
            rw [List.drop_eq_getElem_cons hlt]
            congr 1
            rw [List.getElem?_eq_getElem hlt] at hd0
            exact Option.some.inj hd0
          rw [dr] at a4
          obtain ⟨o, D4, zs', b1, b2, b3⟩ := compL2_cons_ok a4
          have s3 : Stp dc F2 H2 F3 H3 D3 := Stp.yield s2.dice f1 f2 f3 f4 f5
          have s4 := s2.trans s3
          have D0f : F3 D0 = none := s3.own a1 a2
          have D0h : H3 D0 = some (.lst vs) := f4 _ _ a1
          have Rw : Rel K0 G.N F3 H3 dc D3 (wipeE r (own.map (·.2))) (L2.wipe σ (own.map (·.2))) := (R1.step s4).wipe hd
          unfold turnF2 at b1
          cases e3 : Dk.assign t d (wipeE r (own.map (·.2))) with
          | none => simp [e3] at b1
          | some r1 =>
            simp only [e3, Out.lift_some, Out.ok_bind] at b1
            refine gk F3 H3 dc D3 _ r1 _ x d _ Rw rv e3 fun σ1 Rσ hw => ⟨?_, ?_⟩
            · rw [hw _ ho, wipe_wipe]
            · have na : ∀ (j : Nat) (xs : List PyData) (v : V), r1[j]? = some (.own xs) → σ1[j]? = some (some v) → v ≠ .ref D0 := by
                intro j xs v q1 q2 q3
                obtain ⟨h1, h2⟩ := assign_own ho e3 j xs q1
                have hw2 : L2.wipe σ1 (own.map (·.2)) = L2.wipe σ (own.map (·.2)) := by rw [hw _ ho, wipe_wipe]
                have z := wipe_eq_get hw2 h2
                rw [q2] at z
                obtain ⟨v', g1, a, vs', rfl, g2, _⟩ := R1.sl j _ h1
                rw [← z] at g1
                cases g1
                cases q3
                rw [hD0] at g2
                cases g2
              refine ⟨F3, dc, D3, r1, by rw [hN0]; exact Rσ, ?_⟩
              cases e4 : ot r1 D3 with
              | stuck => simp [e4] at b1
              | exc c D5 => simp [e4] at b1
              | ok b D5 =>
                simp only [e4, Out.ok_bind] at b1
                intro F5 H5 s5
                have D0f5 := s5.own D0h D0f
                have D0h5 := s5.keep D0 _ D0h nd (fun _ z => by cases z)
                have a35 : Rvs K0 F5 vs ds := a3.mono (f1.trans s5.ff)
                cases b with
                | false =>
                  simp only [Out.ok.injEq] at b1
                  refine iteF ?_
                  obtain ⟨rfl, rfl⟩ := b1
                  exact ⟨F5, D5, vs, ds, zs', s4.trans s5, D0h5, D0f5, a35, b2, by rw [← a5, b3]; rfl⟩
                | true =>
                  refine iteT ⟨F5, dc, D5, r1, by rw [hN0]; exact Rσ.step s5, ?_⟩
                  cases e5 : oi1 r1 D5 with
                  | stuck => simp [e5] at b1
                  | exc c D6 => simp [e5] at b1
                  | ok its1 D6 =>
                    simp only [e5, Out.ok_bind] at b1
                    intro F6 H6 J1 s6 src1
                    have D0f6 := s6.own D0h5 D0f5
                    have D0h6 := s6.keep D0 _ D0h5 nd (fun _ z => by cases z)
                    refine sp_inner (G0 := G0) (N := G.N) hN0 hd1 ho1 gk1 hD0 nd ((Rσ.step s5).step s6) ((s4.trans s5).trans s6) src1 D0h6 D0f6 (a35.mono s6.ff) na b1 ?_ fun F7 H7 vs7 s7 ff7 g1 g2 g3 => ?_
                    · have : ys.length = ds.length + (o.length + zs'.length) := by rw [← a5, b3]; simp
                      omega
                    · exact ⟨F7, D4, vs7, ds ++ o, zs', s7, g1, g2, g3, b2, by rw [← a5, b3]; simp⟩
        · have ei : i = its.length := by omega
          subst ei
          refine .inl ⟨w.stops H2 hG, ?_⟩
          rw [List.drop_length, compL2] at a4
          simp only [Out.ok.injEq] at a4
          obtain ⟨rfl, rfl⟩ := a4
          rw [List.append_nil] at a5
          subst a5
          refine p (.ref D0) F2 H2 (s1.trans s2) ⟨⟨D0, vs, rfl, a1, a2, nd, a3⟩, fun a q => ?_⟩
          cases q
          exact s1.back hD0
      · exact p.elim
end
end Dk

set_option Elab.async false
set_option linter.all false
set_option maxRecDepth 100000
/-! Sound7: statements by the evaluator. -/
namespace Dk
open PySem PySem.Spec PyProof.Rows L2
variable [TabEnv]

/-- a state within a body that was entered at F0, H0 -/
structure RelS (N : List PySem.Str) (F0 H0 F H : Hp) (dc : Option Addr) (D : DS) (r : Env) (σ : L2.St) : Prop where
  rel : Rel K0 N F H dc D r σ
  stp : Stp dc F0 H0 F H D
  own : ∀ (j : Nat) (xs : List PyData) (a : Addr), r[j]? = some (.own xs) → σ[j]? = some (some (.ref a)) → H0 a = none
abbrev OS := Env → DS → Res
def PostS (G : Sig) (F0 H0 Fc : Hp) (dc : Option Addr) (o : Res) (E : Ends) : Prop := match o with
  | .next r' D' => ∀ σ' F' H', RelS G.N F0 H0 F' H' dc D' r' σ' → Same Fc F' → E.nx σ' H'
  | .ret d D' => ∀ v F' H', Stp dc F0 H0 F' H' D' → Rv K0 F' v d → E.rt v H'
  | .exc c D' => ∀ F' H', Stp dc F0 H0 F' H' D' → G.E (.ref (G.xa c)) none H'
  | .stuck => False
def spS (G : Sig) (o : OS) : TS := fun E σ H => ∃ F0 H0 F dc D r, RelS G.N F0 H0 F H dc D r σ ∧ PostS G F0 H0 F dc (o r D) E
theorem PostS.mono {G : Sig} {F0 H0 Fc Fd : Hp} {dc : Option Addr} {o : Res} {E : Ends} (e : Same Fc Fd) (h : PostS G F0 H0 Fc dc o E) : PostS G F0 H0 Fd dc o E := by
  cases o with
  | next r' D' => exact fun σ' F' H' R ff => h σ' F' H' R (e.trans ff)
  | ret d D' => exact h
  | exc c D' => exact h
  | stuck => exact h

section
variable {N : List PySem.Str} {F0 H0 F H F1 H1 : Hp} {dc : Option Addr} {D D1 : DS} {r : Env} {σ : L2.St}
theorem RelS.step (R : RelS N F0 H0 F H dc D r σ) (s : Stp dc F H F1 H1 D1) : RelS N F0 H0 F1 H1 dc D1 r σ := ⟨R.rel.step s, R.stp.trans s, R.own⟩
theorem RelS.setV (R : RelS N F0 H0 F H dc D r σ) {i : Nat} {v : V} {d : PyData} (hv : Rv K0 F v d) (hn : N[i]? ≠ some ("dice" : PySem.Str)) : RelS N F0 H0 F H dc D (r.set i (.val d)) (σ.set i (some v)) := by
  refine ⟨R.rel.setV hv hn, R.stp, fun j xs a e1 e2 => ?_⟩
  have hj : i ≠ j := fun q => by
    subst q
    rw [List.getElem?_set] at e1
    simp only [if_true] at e1
    split at e1 <;> cases e1
  rw [List.getElem?_set_ne hj] at e1 e2
  exact R.own j xs a e1 e2
theorem RelS.setO (R : RelS N F0 H0 F H dc D r σ) {i : Nat} {v : V} {xs : List PyData} (hv : OwnAt K0 F H dc v xs) (hn : N[i]? ≠ some ("dice" : PySem.Str))
    (ap : ∀ (j : Nat) (ys : List PyData), j ≠ i → r[j]? = some (.own ys) → σ[j]? ≠ some (some v)) (nw : ∀ a, v = .ref a → H0 a = none) : RelS N F0 H0 F H dc D (r.set i (.own xs)) (σ.set i (some v)) := by
  refine ⟨R.rel.setO hv hn ap, R.stp, fun j ys a e1 e2 => ?_⟩
  by_cases hj : i = j
  · subst hj
    rw [List.getElem?_set_self (by have := (List.getElem?_eq_some_iff.mp e2).1; simpa using this)] at e2
    cases e2
    exact nw a rfl
  · rw [List.getElem?_set_ne hj] at e1 e2
    exact R.own j ys a e1 e2
/-- a list of the frame's own is changed in place -/
theorem RelS.change (R : RelS N F0 H0 F H dc D r σ) {i : Nat} {xs ys : List PyData} {a : Addr} {ws : List V} (e1 : r[i]? = some (.own xs)) (e2 : σ[i]? = some (some (.ref a))) (hw : Rvs K0 F ws ys) :
    RelS N F0 H0 F (upd H a (.lst ws)) dc D (r.set i (.own ys)) σ := by
  obtain ⟨v, q, a', vs, rfl, h1, h2, h3, h4⟩ := R.rel.sl i _ e1
  rw [e2] at q
  cases q
  have ha0 := R.own i xs a e1 e2
  refine ⟨⟨fun b u h => ?_, ?_, by simpa using R.rel.len, fun j s e => ?_, fun j k us vs w g1 g2 g3 g4 => ?_, R.rel.dsl⟩, R.stp.change ha0 h2 h3 ⟨_, h1⟩, fun j us b g1 g2 => ?_⟩
  · rw [upd_ne (ne_of_none h h2)]; exact R.rel.fh b u h
  · obtain ⟨z, zt⟩ := R.rel.dice
    have zt2 : TF F (upd H a (.lst ws)) := zt.upd (.inr ⟨_, h1⟩)
    cases D with
    | none => exact ⟨z, zt2⟩
    | some q =>
      obtain ⟨b, f1, f2, f3⟩ := z
      exact ⟨⟨b, f1, by rw [upd_ne (fun q => h3 (by rw [← q, f1]))]; exact f2, f3⟩, zt2⟩
  · by_cases hj : i = j
    · subst hj
      rw [List.getElem?_set] at e
      simp only [if_true] at e
      split at e
      · cases e
        exact ⟨.ref a, e2, a, ws, rfl, upd_same, h2, h3, hw⟩
      · cases e
    · rw [List.getElem?_set_ne hj] at e
      have z := R.rel.sl j s e
      cases s with
      | non => trivial
      | val d => exact z
      | own us =>
        obtain ⟨v, g1, b, vs', rfl, g2, g3, g4, g5⟩ := z
        refine ⟨_, g1, b, vs', rfl, ?_, g3, g4, g5⟩
        rw [upd_ne (fun q => hj (by subst q; exact R.rel.ownI i j xs us _ e1 e e2 g1))]
        exact g2
  · have back : ∀ (l : Nat) (zs : List PyData), (r.set i (.own ys))[l]? = some (.own zs) → ∃ us, r[l]? = some (.own us) := fun l zs q => by
      by_cases hl : i = l
      · subst hl; exact ⟨xs, e1⟩
      · rw [List.getElem?_set_ne hl] at q; exact ⟨zs, q⟩
    obtain ⟨u1, b1⟩ := back j us g1
    obtain ⟨u2, b2⟩ := back k vs g2
    exact R.rel.ownI j k u1 u2 w b1 b2 g3 g4
  · by_cases hj : i = j
    · subst hj
      exact R.own i xs b e1 g2
    · rw [List.getElem?_set_ne hj] at g1
      exact R.own j us b g1 g2
/-- a list of the frame's own is frozen -/
theorem RelS.frz' (R : RelS N F0 H0 F H dc D r σ) {i : Nat} {xs : List PyData} (e1 : r[i]? = some (.own xs)) : ∃ F', RelS N F0 H0 F' H dc D (r.set i (.val (.list xs))) σ ∧ Same F F' := by
  obtain ⟨v, e2, a, vs, rfl, h1, h2, h3, h4⟩ := R.rel.sl i _ e1
  have ff : Same F (upd F a (.lst vs)) := fun b u h => by rw [upd_ne (ne_of_none h h2)]; exact h
  have fh : Same (upd F a (.lst vs)) H := fun b u h => by
    by_cases q : b = a
    · subst q; rw [upd_same] at h; rw [← h]; exact h1
    · rw [upd_ne q] at h; exact R.rel.fh b u h
  have dk : DiceOk dc (upd F a (.lst vs)) H D := by
    obtain ⟨z, zt⟩ := R.rel.dice
    cases D with
    | none => exact ⟨z, zt.frz (by intro _ q; cases q)⟩
    | some q =>
      obtain ⟨b, f1, f2, f3⟩ := z
      exact ⟨⟨b, f1, f2, by rw [upd_ne (fun q => h3 (by rw [← q, f1]))]; exact f3⟩, zt.frz (by intro _ q; cases q)⟩
  refine ⟨upd F a (.lst vs), ⟨⟨fh, dk, by simpa using R.rel.len, fun j s e => ?_, fun j k us vs w g1 g2 g3 g4 => ?_, R.rel.dsl⟩, ⟨R.stp.ff.trans ff, fh, fun b u h n => ?_, R.stp.keep, R.stp.tb, dk⟩, fun j us b g1 g2 => ?_⟩, ff⟩
  · by_cases hj : i = j
    · subst hj
      rw [List.getElem?_set] at e
      simp only [if_true] at e
      split at e
      · cases e
        exact ⟨.ref a, e2, .lst (Evl.sq_of upd_same) (h4.mono ff)⟩
      · cases e
    · rw [List.getElem?_set_ne hj] at e
      have z := R.rel.sl j s e
      cases s with
      | non => trivial
      | val d => obtain ⟨v, g1, g2⟩ := z; exact ⟨v, g1, g2.mono ff⟩
      | own us =>
        obtain ⟨v, g1, b, vs', rfl, g2, g3, g4, g5⟩ := z
        refine ⟨_, g1, b, vs', rfl, g2, ?_, g4, g5.mono ff⟩
        rw [upd_ne (fun q => hj (by subst q; exact R.rel.ownI i j xs us _ e1 e e2 g1))]
        exact g3
  · have nj : ∀ (l : Nat) (zs : List PyData), (r.set i (.val (.list xs)))[l]? = some (.own zs) → r[l]? = some (.own zs) := fun l zs q => by
      rw [List.getElem?_set] at q
      split at q
      · split at q <;> cases q
      · exact q
    exact R.rel.ownI j k us vs w (nj j us g1) (nj k vs g2) g3 g4
  · by_cases q : b = a
    · subst q; exact R.own i xs b e1 e2
    · rw [upd_ne q] at h; exact R.stp.new b u h n
  · have nj : r[j]? = some (.own us) := by
      rw [List.getElem?_set] at g1
      split at g1
      · split at g1 <;> cases g1
      · exact g1
    exact R.own j us b nj g2
end

section
variable {X : Cx} {G : Sig} {st : PySem.Stmt} {rest : List PySem.Stmt} {e a b : PySem.Expr} {pos : Pos} {o o1 o2 : OS} {oe oa : OE}
theorem spS_of {o o' : OS} {E : Ends} {σ : L2.St} {H : Hp} (e : ∀ r D, o r D = o' r D) (h : spS G o E σ H) : spS G o' E σ H := by
  have : o = o' := funext fun r => funext fun D => e r D
  rw [← this]; exact h
theorem pss_nilS : PSs X [] (spS G fun r D => .next r D) := by
  refine pss_weak pss_nil fun E σ H h => ?_
  obtain ⟨F0, H0, F, dc, D, r, R, p⟩ := h
  exact p σ F H R (Same.refl F)
theorem pss_consS (h1 : PS X st (spS G o1)) (h2 : PSs X rest (spS G o2)) : PSs X (st :: rest) (spS G fun r D => (o1 r D).andThen fun r D => o2 r D) := by
  refine pss_weak (pss_cons h1 h2) fun E σ H h => ?_
  obtain ⟨F0, H0, F, dc, D, r, R, p⟩ := h
  refine ⟨F0, H0, F, dc, D, r, R, ?_⟩
  cases e1 : o1 r D with
  | next r' D' =>
    simp only [e1, Res.next_andThen] at p
    exact fun σ' F' H' R' ff => ⟨F0, H0, F', dc, D', r', R', PostS.mono ff p⟩
  | ret d D' => simp only [e1, Res.ret_andThen] at p; exact p
  | exc c D' => simp only [e1, Res.exc_andThen] at p; exact p
  | stuck => simp only [e1, Res.stuck_andThen] at p; exact p
/-- behind a value -/
theorem spS_seq {m : Md} {f : PyData → Env → DS → Res} {E : Ends} {σ : L2.St} {H : Hp} {Q : VK} (h : spS G (fun r D => Res.of (oe r D) fun v D => f v r D) E σ H)
    (k : ∀ F0 H0 F H H2 dc D r v d, RelS G.N F0 H0 F H dc D r σ → (∀ a, H2 a = none → H0 a = none) → (∀ (j : Nat) xs a, r[j]? = some (.own xs) → σ[j]? = some (some (.ref a)) → H2 a ≠ none) → ResOk m K0 H2 F H dc v d → PostS G F0 H0 F dc (f d r D) E → Q v H) : spE G m oe σ H Q := by
  obtain ⟨F0, H0, F, dc, D, r, R, p⟩ := h
  refine ⟨F, dc, D, r, R.rel, ?_⟩
  cases e1 : oe r D with
  | stuck => simp only [e1, Res.of_stuck] at p; exact p
  | exc c D1 =>
    simp only [e1, Res.of_exc] at p
    exact fun F' H' s => p F' H' (R.stp.trans s)
  | ok d D1 =>
    simp only [e1, Res.of_ok] at p
    intro v F1 H1 s q
    refine k F0 H0 F1 H1 H dc D1 r v d (R.step s) (fun a e => R.stp.back e) (fun j xs a g1 g2 g3 => ?_) q (PostS.mono s.ff p)
    obtain ⟨v', q1, a', vs, rfl, q2, _⟩ := R.rel.sl j _ g1
    rw [g2] at q1
    cases q1
    rw [q2] at g3
    cases g3
theorem ps_retS (he : PE X e (spE G .leak oe)) : PS X (.Return (some e) pos) (spS G fun r D => .of (oe r D) fun v D => .ret v D) := by
  refine ps_weak (ps_ret he) fun E σ H h => ?_
  exact spS_seq (f := fun v r D => .ret v D) h fun F0 H0 F H H2 dc D r v d R _ _ q p => p v F H R.stp q
theorem ps_retNS : PS X (.Return none pos) (spS G fun r D => .ret .none D) := by
  refine ps_weak ps_retN fun E σ H h => ?_
  obtain ⟨F0, H0, F, dc, D, r, R, p⟩ := h
  exact p .non F H R.stp .non
theorem ps_exprS (he : PE X e (spE G .peek oe)) (hs : swapsWith e none pos.line X.env = pure false) : PS X (.Expr e pos) (spS G fun r D => .of (oe r D) fun _ D => .next r D) := by
  refine ps_weak (ps_expr he hs) fun E σ H h => ?_
  exact spS_seq (f := fun v r D => .next r D) h fun F0 H0 F H H2 dc D r v d R _ _ q p => p σ F H R (Same.refl F)
/-- target = value: any target -/
theorem tAsg_S {t : Tg} {g : TG} (gk : GOk G.N t g) (own_ok : True) {E : Ends} {σ : L2.St} {H : Hp} (h : spS G (fun r D => Res.of (oe r D) fun v D => Res.of (Out.lift (Dk.assign t v r) D) fun r D => .next r D) E σ H)
    (gs : ∀ (F0 H0 F H : Hp) (dc : Option Addr) (D : DS) (r r1 : Env) (σ : L2.St) (v : V) (d : PyData) (Q : L2.St → Hp → Prop), RelS G.N F0 H0 F H dc D r σ → Rv K0 F v d → Dk.assign t d r = some r1 → (∀ σ1, RelS G.N F0 H0 F H dc D r1 σ1 → Q σ1 H) → g v σ H Q) :
    tAsg (spE G .leak oe) g E σ H := by
  refine spS_seq (f := fun v r D => Res.of (Out.lift (Dk.assign t v r) D) fun r D => .next r D) h fun F0 H0 F H H2 dc D r v d R _ _ q p => ?_
  cases e1 : Dk.assign t d r with
  | none => simp only [e1, Out.lift_none, Res.of_stuck] at p; exact p.elim
  | some r1 =>
    simp only [e1, Out.lift_some, Res.of_ok] at p
    exact gs F0 H0 F H dc D r r1 σ v d E.nx R q e1 fun σ1 R1 => p σ1 F H R1 (Same.refl F)
/-- as GOk, with the entry carried along -/
def GOkS (N : List PySem.Str) (t : Tg) (g : TG) : Prop := ∀ (F0 H0 F H : Hp) (dc : Option Addr) (D : DS) (r r1 : Env) (σ : L2.St) (v : V) (d : PyData) (Q : L2.St → Hp → Prop), RelS N F0 H0 F H dc D r σ → Rv K0 F v d → Dk.assign t d r = some r1 →
  (∀ σ1, RelS N F0 H0 F H dc D r1 σ1 → Q σ1 H) → g v σ H Q
theorem goks_name {N : List PySem.Str} {i : Nat} (hn : NoDice N [i]) : GOkS N (.name i) (gName i) := by
  intro F0 H0 F H dc D r r1 σ v d Q R hv ha k
  simp only [Dk.assign, Option.some.injEq] at ha
  subst ha
  exact k _ (R.setV hv (hn i (by simp)))
theorem goks_names {N : List PySem.Str} : ∀ (is : List Nat), NoDice N is → ∀ (F0 H0 F H : Hp) (dc : Option Addr) (D : DS) (r r1 : Env) (σ : L2.St) (vs : List V) (ds : List PyData) (Q : L2.St → Hp → Prop), RelS N F0 H0 F H dc D r σ → Rvs K0 F vs ds → setAll is ds r = some r1 →
    (∀ σ1, RelS N F0 H0 F H dc D r1 σ1 → Q σ1 H) → gsOf is vs σ H Q
  | [], hn, F0, H0, F, H, dc, D, r, r1, σ, vs, ds, Q, R, hv, ha, k => by
    cases ds with
    | nil =>
      simp only [setAll, Option.some.injEq] at ha
      subst ha
      exact ⟨hv.inv_nil, k σ R⟩
    | cons d ds => simp [setAll] at ha
  | i :: is, hn, F0, H0, F, H, dc, D, r, r1, σ, vs, ds, Q, R, hv, ha, k => by
    cases ds with
    | nil => simp [setAll] at ha
    | cons d ds =>
      obtain ⟨v, vs', rfl, h1, h2⟩ := hv.inv_cons
      exact ⟨v, vs', rfl, goks_names is (fun j hj => hn j (by simp [hj])) F0 H0 F H dc D _ r1 _ vs' ds Q (R.setV h1 (hn i (by simp))) h2 ha k⟩
theorem setAll_len {r1 : Env} : ∀ (is : List Nat) (xs : List PyData) (r : Env), setAll is xs r = some r1 → xs.length = is.length := by
  intro is
  induction is with
  | nil => intro xs r h; cases xs <;> simp [setAll] at h ⊢
  | cons i is ih => intro xs r h; cases xs with
    | nil => simp [setAll] at h
    | cons x xs => simp only [setAll] at h; simp [ih xs _ h]
theorem goks_tup {N : List PySem.Str} {is : List Nat} (hn : NoDice N is) : GOkS N (.tup is) (gTup X.K is.length (gsOf is)) := by
  intro F0 H0 F H dc D r r1 σ v d Q R hv ha k
  cases d with
  | tuple xs =>
    simp only [Dk.assign] at ha
    obtain ⟨a, vs, rfl, hs, rr⟩ := hv.inv_tup
    exact ⟨a, vs, rfl, sqT_K (Evl.ex_t R.rel.fh hs), by rw [rr.len, setAll_len is xs r ha], goks_names is hn F0 H0 F H dc D r r1 σ vs xs Q R rr ha k⟩
  | _ => simp [Dk.assign] at ha
/-- name = a new list -/
theorem tAsg_O {i : Nat} (hn : NoDice G.N [i]) {E : Ends} {σ : L2.St} {H : Hp} (h : spS G (fun r D => Res.of (oe r D) fun v D => match v with | .list xs => .next (r.set i (.own xs)) D | _ => .stuck) E σ H) :
    tAsg (spE G .fresh oe) (gName i) E σ H := by
  refine spS_seq (f := fun v r D => match v with | .list xs => .next (r.set i (.own xs)) D | _ => .stuck) h fun F0 H0 F H H2 dc D r v d R bk ow q p => ?_
  cases d with
  | list xs =>
    obtain ⟨q1, q2⟩ := q
    obtain ⟨a, vs, rfl, z⟩ := id q1
    refine p _ F H (R.setO q1 (hn i (by simp)) (fun j ys hj e1 e2 => ?_) fun b e => ?_) (Same.refl F)
    · exact ow j ys a e1 e2 (q2 a rfl)
    · cases e
      exact bk a (q2 a rfl)
  | _ => exact p.elim
end
end Dk

namespace Dk
open PySem PySem.Spec PyProof.Rows L2
variable [TabEnv]
section
variable {X : Cx} {G : Sig} {e c it tg : PySem.Expr} {body els : List PySem.Stmt} {st : PySem.Stmt} {pos apos cpos : Pos} {oe oc : OE} {o o1 o2 : OS} {oi : OA}
theorem own_slot {N : List PySem.Str} {F0 H0 F H : Hp} {dc : Option Addr} {D : DS} {r : Env} {σ : L2.St} {i : Nat} {xs : List PyData} (R : RelS N F0 H0 F H dc D r σ) (h : ownOf r i = some xs) :
    r[i]? = some (.own xs) ∧ ∃ a vs, σ[i]? = some (some (.ref a)) ∧ H a = some (.lst vs) ∧ F a = none ∧ some a ≠ dc ∧ Rvs K0 F vs xs := by
  unfold ownOf at h
  cases e : r[i]? with
  | none => simp [e] at h
  | some s =>
    cases s with
    | own ys =>
      simp [e] at h
      subst h
      obtain ⟨v, e2, a, vs, rfl, h1, h2, h3, h4⟩ := R.rel.sl i _ e
      exact ⟨rfl, a, vs, e2, h1, h2, h3, h4⟩
    | _ => simp [e] at h
/-- xs.append(e) -/
theorem ps_appS {i : Nat} {x : PySem.Str} {xp : Pos} (hx : PE X (.Name x xp) (tVar i)) (he : PE X e (spE G .leak oe)) (hs1 : starEach [e] X.env = (false, eval e X.env) :: starEach [] X.env)
    (hline : (apos.endLine == cpos.line) = true) :
    PS X (.Expr (.Call (.Attribute (.Name x xp) "append" apos) [e] [] cpos) pos) (spS G fun r D => .of (Out.lift (ownOf r i) D) fun xs D => .of (oe r D) fun v D =>
      if xs.length < szL then .next (r.set i (.own (xs ++ [v]))) D else .stuck) := by
  have hfew : ((backTo cpos (starEach [e] X.env)).all (fun x => !x.1) && (backToKw cpos (keywordEach [] X.env)).all (fun x => x.1.isSome)
      && decide (([e] : List PySem.Expr).length + ([] : List Keyword).length + (if ([] : List Keyword).isEmpty then 0 else 1) < 30)) = true := by
    rw [hs1]; rfl
  refine ps_weak (ps_expr (pe_bm PySem.F.plainAttrs_list PySem.F.slot_list_append PySem.F.type_list_append mt_append hx (pa_cons he pa_nil hs1) rfl hfew hline hs1 rfl)) fun E σ H h => ?_
  obtain ⟨F0, H0, F, dc, D, r, R, p⟩ := h
  cases e0 : ownOf r i with
  | none => simp only [e0, Out.lift_none, Res.of_stuck] at p; exact p.elim
  | some xs =>
    simp only [e0, Out.lift_some, Res.of_ok] at p
    obtain ⟨er, a, vs, e1, h1, h2, h3, h4⟩ := own_slot R e0
    refine ⟨.ref a, e1, .inl ⟨rfl, _, Evl.sq_of h1⟩, F, dc, D, r, R.rel, ?_⟩
    cases e2 : oe r D with
    | stuck => simp only [e2, Res.of_stuck] at p; exact p
    | exc c D1 => simp only [e2, Res.of_exc] at p; exact fun F' H' s => p F' H' (R.stp.trans s)
    | ok d D1 =>
      simp only [e2, Res.of_ok] at p
      intro v F1 H1 s rv
      split at p
      · rename_i hl
        have g1 := s.keep a _ h1 h3 (fun _ z => by cases z)
        refine ⟨a, vs, v, rfl, rfl, g1, by rw [h4.len]; exact hl, ?_⟩
        exact p σ F1 _ ((R.step s).change er e1 ((h4.mono s.ff).append (.cons rv .nil))) s.ff
      · exact p.elim
theorem ps_condS (hc : PT X c (spT G (asB oc))) (ha : PSs X body (spS G o1)) (hb : PSs X els (spS G o2)) : PS X (.If c body els pos) (spS G fun r D => .of (oc r D) fun v D => match v with
    | .bool true => o1 r D
    | .bool false => o2 r D
    | _ => .stuck) := by
  refine ps_weak (ps_if hc ha hb) fun E σ H h => ?_
  obtain ⟨F0, H0, F, dc, D, r, R, p⟩ := h
  refine ⟨F, dc, D, r, R.rel, ?_⟩
  unfold asB
  cases e1 : oc r D with
  | stuck => simp only [e1, Res.of_stuck] at p; exact p
  | exc c D1 => simp only [e1, Res.of_exc] at p; exact fun F' H' s => p F' H' (R.stp.trans s)
  | ok d D1 =>
    simp only [e1, Res.of_ok] at p
    cases d with
    | bool k =>
      intro F1 H1 s
      cases k with
      | true => exact iteT ⟨F0, H0, F1, dc, D1, r, R.step s, PostS.mono s.ff p⟩
      | false => exact iteF ⟨F0, H0, F1, dc, D1, r, R.step s, PostS.mono s.ff p⟩
    | _ => exact p.elim
/-- a for -/
theorem ps_forS {t : Tg} {g : TG} (hp : PassesOwn (model X.prog X.w) X.A X.env X.xe) (hcm : X.calm = true) (hi : PI X tg it (spI G .leak oi)) (hg : PG X tg g) (gk : GOkS G.N t g) (hb : PSs X body (spS G o)) (hs : ∀ x, foldedSetIterable it X.env x = pure x) :
    PS X (.For tg it body [] pos) (spS G fun r D => .of (oi r D) fun its D => forL (fun x r D => .of (Out.lift (Dk.assign t x r) D) fun r D => o r D) its r D) := by
  refine ps_weak (ps_for hp hcm hi hg hb hs) fun E σ H h => ?_
  obtain ⟨F0, H0, F, dc, D, r, R, p⟩ := h
  refine ⟨F, dc, D, r, R.rel, ?_⟩
  cases e1 : oi r D with
  | stuck => simp only [e1, Res.of_stuck] at p; exact p
  | exc c D1 => simp only [e1, Res.of_exc] at p; exact fun F' H' s => p F' H' (R.stp.trans s)
  | ok its D1 =>
    simp only [e1, Res.of_ok] at p
    intro F1 H1 J s src
    obtain ⟨Gd, w, stg⟩ := src
    refine for_it w (fun i σ' H' => ∃ F2 D2 r2, RelS G.N F0 H0 F2 H' dc D2 r2 σ' ∧ Same F1 F2 ∧ PostS G F0 H0 F2 dc (forL (fun x r D => Res.of (Out.lift (Dk.assign t x r) D) fun r D => o r D) (its.drop i) r2 D2) E) ?_ ?_ ?_ ?_
    · exact ⟨F1, D1, r, R.step s, Same.refl _, by simpa using PostS.mono s.ff p⟩
    · rintro i σ' H' _ ⟨F2, D2, r2, R2, ff, _⟩
      exact stg H' (ff.trans R2.rel.fh)
    · rintro i x σ' H2 H3 hi2 ⟨F2, D2, r2, R2, ff, q⟩ ⟨d, hd0, yl⟩
      obtain ⟨F3, f1, f2, f3, f4, f5, rv⟩ := yl F2 ff R2.rel.fh
      have dr : its.drop i = d :: its.drop (i + 1) := by
        rw [List.drop_eq_getElem_cons hi2]
        congr 1
        rw [List.getElem?_eq_getElem hi2] at hd0
        exact Option.some.inj hd0
      rw [dr, forL] at q
      have s3 : Stp dc F2 H2 F3 H3 D2 := Stp.yield R2.rel.dice f1 f2 f3 f4 f5
      have R3 := R2.step s3
      cases e3 : Dk.assign t d r2 with
      | none => simp only [e3, Out.lift_none, Res.of_stuck, Res.stuck_andThen] at q; exact q.elim
      | some r3 =>
        simp only [e3, Out.lift_some, Res.of_ok] at q
        refine gk F0 H0 F3 H3 dc D2 r2 r3 σ' x d _ R3 rv e3 fun σ1 R4 => ⟨F0, H0, F3, dc, D2, r3, R4, ?_⟩
        cases e4 : o r3 D2 with
        | next r' D' =>
          simp only [e4, Res.next_andThen] at q
          intro σ5 F5 H5 R5 g5
          exact ⟨F5, D', r', R5, (ff.trans f1).trans g5, PostS.mono (f1.trans g5) q⟩
        | ret d D' => simp only [e4, Res.ret_andThen] at q; exact q
        | exc c D' => simp only [e4, Res.exc_andThen] at q; exact q
        | stuck => simp only [e4, Res.stuck_andThen] at q; exact q
    · rintro σ' H' ⟨F2, D2, r2, R2, ff, q⟩
      rw [List.drop_length, forL] at q
      exact q σ' F2 H' R2 (Same.refl F2)
end
end Dk

namespace Dk
open PySem PySem.Spec PyProof.Rows L2
variable [TabEnv]
section
variable {N : List PySem.Str} {F0 H0 F H : Hp} {dc : Option Addr} {D : DS} {r : Env} {σ : L2.St}
theorem RelS.diceSet (R : RelS N F0 H0 F H dc D r σ) {a : Addr} {c n c' n' : Int} (hD : D = some (c, n)) (ha : dc = some a) : RelS N F0 H0 F (upd H a (.lst [.int c', .int n'])) dc (some (c', n')) r σ := by
  subst hD
  obtain ⟨⟨b, e1, e2, e3⟩, zt⟩ := R.rel.dice
  rw [ha] at e1
  cases e1
  have dk : DiceOk dc F (upd H a (.lst [.int c', .int n'])) (some (c', n')) := ⟨⟨a, ha, upd_same, e3⟩, zt.upd (.inr ⟨_, e2⟩)⟩
  have fh : Same F (upd H a (.lst [.int c', .int n'])) := fun b u h => by rw [upd_ne (ne_of_none h e3)]; exact R.rel.fh b u h
  refine ⟨⟨fh, dk, R.rel.len, fun j s e => ?_, R.rel.ownI, R.rel.dsl⟩, ⟨R.stp.ff, fh, R.stp.new, fun b u h nd nt => ?_, fun b ps h => ?_, dk⟩, R.own⟩
  · have z := R.rel.sl j s e
    cases s with
    | non => trivial
    | val d => exact z
    | own xs =>
      obtain ⟨v, g1, b, vs, rfl, g2, g3, g4, g5⟩ := z
      refine ⟨_, g1, b, vs, rfl, ?_, g3, g4, g5⟩
      rw [upd_ne (fun q => g4 (by rw [q, ha]))]
      exact g2
  · rw [upd_ne (fun q => nd (by rw [q, ha]))]
    exact R.stp.keep b u h nd nt
  · obtain ⟨ps', z⟩ := R.stp.tb b ps h
    refine ⟨ps', ?_⟩
    rw [upd_ne (fun q => by rw [q, e2] at z; cases z)]
    exact z
end
theorem sw_sub (e o i : PySem.Expr) (p : Pos) (l : Nat) (env : PySem.Env) : swapsWithSole [.Subscript o i p] e l env = pure false := by
  cases e <;> rfl
theorem ss_sub (e o i : PySem.Expr) (p : Pos) (env : PySem.Env) : swappedStores [.Subscript o i p] e env = pure none := by
  cases e <;> rfl
theorem ss_name (e : PySem.Expr) (x : PySem.Str) (p : Pos) (env : PySem.Env) : swappedStores [.Name x p] e env = pure none := by
  cases e <;> rfl
def isComp : PySem.Expr → Bool
  | .ListComp _ _ _ _ => true
  | .SetComp _ _ _ _ => true
  | .DictComp _ _ _ _ _ => true
  | _ => false
def isTupE : PySem.Expr → Bool
  | .Tuple _ _ _ => true
  | _ => false
theorem sw_any {e : PySem.Expr} (h : isComp e = false) (t : Option PySem.Expr) (l : Nat) (env : PySem.Env) : swapsWith e t l env = pure false := by
  cases e <;> first | rfl | (simp [isComp] at h)
theorem sw_tup (e : PySem.Expr) (ts : List PySem.Expr) (k : Nat) (p : Pos) (l : Nat) (env : PySem.Env) : swapsWithSole [.Tuple ts k p] e l env = pure false := by
  cases e <;> rfl
theorem ss_tup {e : PySem.Expr} (h : isTupE e = false) (ts : List PySem.Expr) (k : Nat) (p : Pos) (env : PySem.Env) : swappedStores [.Tuple ts k p] e env = pure none := by
  cases e <;> first | rfl | (simp [isTupE] at h)

section
variable {X : Cx} {G : Sig} {e c it tg : PySem.Expr} {body els : List PySem.Stmt} {st : PySem.Stmt} {pos apos cpos : Pos} {oe oc oix : OE} {o o1 o2 : OS} {oi : OA}
theorem ps_frzS {i : Nat} (h : PS X st (spS G o)) : PS X st (spS G fun r D => match ownOf r i with
    | some xs => o (r.set i (.val (.list xs))) D
    | none => o r D) := by
  refine ps_weak h fun E σ H h => ?_
  obtain ⟨F0, H0, F, dc, D, r, R, p⟩ := h
  cases e0 : ownOf r i with
  | none => simp only [e0] at p; exact ⟨F0, H0, F, dc, D, r, R, p⟩
  | some xs =>
    simp only [e0] at p
    have er := (own_slot R e0).1
    obtain ⟨F', R', ff⟩ := R.frz' er
    exact ⟨F0, H0, F', dc, D, _, R', PostS.mono ff p⟩
theorem ps_raiseS {C : Nat} {x m : PySem.Str} {j : Nat} {p1 p2 : Pos} {bmB : List Value} {B newId initId : String} (hc : X.calm = true) (tk : L2N.Takes X (fun cls d _ H => G.E cls d H)) (Fa : ExcBaseFacts B newId initId bmB)
    (q : PySem.W.excIn X.K (G.xa C) bmB newId = true) (gC : X.mg x = some (.ref (G.xa C))) (kC : PySem.W.keepIn X.K (.ref (G.xa C)) = true) (rs : Raises X (.ref (G.xa C))) (hg : Gl X x) (hdb : (x == ("__debug__" : PySem.Str)) = false) :
    PS X (.Raise (some (.Call (.Name x p1) [.Constant (.str m) j p2] [] cpos)) none pos) (spS G fun _ D => .exc C D) := by
  refine ps_weak (L2N.ps_raise hc tk (L2N.pmk_own Fa q gC kC rs hg hdb)) fun E σ H h => ?_
  obtain ⟨F0, H0, F, dc, D, r, R, p⟩ := h
  exact p F H R.stp
/-- dice[k] = e -/
theorem ps_dsetS {j : Nat} {x : PySem.Str} {xp kp sp : Pos} {k : Int} {kk : Nat} (hN : G.N[j]? = some ("dice" : PySem.Str)) (hx : PE X (.Name x xp) (tVar j)) (he : PE X e (spE G .peek oe)) (hk : k = 0 ∨ k = 1) :
    PS X (.Assign [.Subscript (.Name x xp) (.Constant (.int k) kk kp) sp] e pos) (spS G fun r D => .of (oe r D) fun v D => match D, v, k.toNat with
      | some (c, n), .int z, 0 => .next r (some (z, n))
      | some (c, n), .int z, 1 => .next r (some (c, z))
      | _, _, _ => .stuck) := by
  refine ps_weak (ps_asg he (pg_sub hx pe_int set_list) (sw_sub _ _ _ _ _ _) (ss_sub _ _ _ _ _)) fun E σ H h => ?_
  refine spS_seq (f := fun v r D => match D, v, k.toNat with
      | some (c, n), .int z, 0 => .next r (some (z, n))
      | some (c, n), .int z, 1 => .next r (some (c, z))
      | _, _, _ => .stuck) h fun F0 H0 F H H2 dc D r v d R _ _ q p => ?_
  cases D with
  | none => exact p.elim
  | some cn =>
    obtain ⟨c, n⟩ := cn
    cases d with
    | int z =>
      have ev : v = .int z := VP.int q
      subst ev
      obtain ⟨a, e1, e2, e3⟩ := R.rel.dice.1
      have hs := R.rel.dsl j a hN e1
      rcases hk with rfl | rfl
      · exact ⟨.ref a, hs, a, _, 0, 0, rfl, rfl, e2, rfl, p σ F _ (R.diceSet rfl e1) (Same.refl F)⟩
      · exact ⟨.ref a, hs, a, _, 1, 1, rfl, rfl, e2, rfl, p σ F _ (R.diceSet rfl e1) (Same.refl F)⟩
    | _ => exact p.elim
end
end Dk

namespace Dk
open PySem PySem.Spec PyProof.Rows L2
variable [TabEnv]
def parNames (env : PySem.Env) (ts : List PySem.Expr) : List PySem.Str := ts.filterMap fun
    | .Name id pos => if env.kindOf id == some .local && pos.line == (ts.head?.map (·.pos.line)).getD 0 then some id else none
    | _ => none
theorem ss_par {ts vs : List PySem.Expr} {k k2 : Nat} {p p2 : Pos} {env : PySem.Env} (h : (parNames env ts).length ≠ ts.length) : swappedStores [.Tuple ts k p] (.Tuple vs k2 p2) env = pure none := by
  unfold swappedStores
  dsimp only
  split
  · rfl
  · split
    · rfl
    · rw [if_pos]
      simp only [Bool.or_eq_true, bne_iff_ne]
      exact .inl h
section
variable {X : Cx} {G : Sig} {e : PySem.Expr} {es ts : List PySem.Expr} {pos apos cpos apos2 cpos2 : Pos} {oe : OE} {oes : OA}
/-- a, b = x, y where a tuple is made -/
theorem ps_parS {is : List Nat} {k k2 : Nat} {p p2 : Pos} (hw : swappedStores [.Tuple ts k p] (.Tuple es k2 p2) X.env = pure none) (h1 : (assignEach [.Tuple ts k p] X.env).map (·.2) = [PySem.assign (.Tuple ts k p) X.env]) (hn : NoDice G.N is) (hlen : is.length ≤ szL) (hg : PG X (.Tuple ts k p) (gTup X.K is.length (gsOf is))) (he : PA X es (spA G .leak oes)) :
    PS X (.Assign [.Tuple ts k p] (.Tuple es k2 p2) pos) (spS G fun r D => .of (oes r D) fun vs D => .of (Out.lift (setAll is vs r) D) fun r D => .next r D) := by
  refine ps_weak (ps_asg (pe_tup he) hg (sw_tup _ _ _ _ _ _) hw h1) fun E σ H h => ?_
  obtain ⟨F0, H0, F, dc, D, r, R, p⟩ := h
  refine ⟨F, dc, D, r, R.rel, ?_⟩
  cases e1 : oes r D with
  | stuck => simp only [e1, Res.of_stuck] at p; exact p
  | exc c D1 => simp only [e1, Res.of_exc] at p; exact fun F' H' s => p F' H' (R.stp.trans s)
  | ok ds D1 =>
    simp only [e1, Res.of_ok] at p
    intro vs F1 H1 s q
    have rr : Rvs K0 F1 vs ds := paired_rvs q
    cases e2 : setAll is ds r with
    | none => simp only [e2, Out.lift_none, Res.of_stuck] at p; exact p.elim
    | some r1 =>
      simp only [e2, Out.lift_some, Res.of_ok] at p
      have R1 := R.step s
      have hl := setAll_len is ds r e2
      refine ⟨?_, fun t ht => ?_⟩
      · rw [rr.len, hl]
        exact hlen
      · have s2 : Stp dc F1 H1 F1 (upd H1 t (.tup vs)) D1 := Stp.newObj s.fh s.dice ht
        refine ⟨t, vs, rfl, Evl.st_of upd_same, by rw [rr.len, hl], ?_⟩
        exact goks_names is hn F0 H0 F1 _ dc D1 r r1 σ vs ds E.nx (R1.step s2) rr e2 fun σ1 R2 => p σ1 F1 _ R2 s.ff
end
end Dk

namespace Dk
open PySem PySem.Spec PyProof.Rows L2
variable [TabEnv]
section
variable {X : Cx} {G : Sig} {a b : PySem.Expr} {pos px py : Pos} {oes : OA} {x y : PySem.Str}
theorem ss_two {k k2 : Nat} {p p2 : Pos} {env : PySem.Env} (hk : env.blockKind = .function) (hx : env.kindOf x = some .local) (hy : env.kindOf y = some .local) (hl : px.line = py.line) (hne : x ≠ y)
    (h1 : ([a, b].any fun | .Starred .. => true | _ => false) = false) (h2 : [a, b].all (foldedForSure 8) = false) (h3 : [a, b].all (constantsAlone 8) = false) : swappedStores [.Tuple [.Name x px, .Name y py] k p] (.Tuple [a, b] k2 p2) env = pure (some [x, y]) := by
  have hne' : ¬ y = x := fun e => hne e.symm
  unfold swappedStores
  dsimp only
  rw [if_neg (by simp [hk]), if_neg (by rw [Bool.not_eq_true]; exact h1), h2, h3]
  simp [hx, hy, PySem.Expr.pos, hl, List.eraseDups_cons, hne, hne']
/-- a, b = x, y where the names are stored from the right -/
theorem ps_parW {i j k k2 : Nat} {p p2 : Pos} (hc : X.calm = true) (hN : X.N.Nodup) (hi : X.N[i]? = some x) (hj : X.N[j]? = some y) (hij : i ≠ j) (hx : X.env.scope.names.lookup x = some .local) (hy : X.env.scope.names.lookup y = some .local)
    (hw : swappedStores [.Tuple [.Name x px, .Name y py] k p] (.Tuple [a, b] k2 p2) X.env = pure (some [x, y])) (hn : NoDice G.N [i, j]) (he : PA X [a, b] (spA G .leak oes)) :
    PS X (.Assign [.Tuple [.Name x px, .Name y py] k p] (.Tuple [a, b] k2 p2) pos) (spS G fun r D => .of (oes r D) fun vs D => .of (Out.lift (setAll [i, j] vs r) D) fun r D => .next r D) := by
  refine ps_weak (ps_par hc hN hi hj hij hx hy he hw (sw_tup _ _ _ _ _ _)) fun E σ H h => ?_
  obtain ⟨F0, H0, F, dc, D, r, R, p⟩ := h
  refine ⟨F, dc, D, r, R.rel, ?_⟩
  cases e1 : oes r D with
  | stuck => simp only [e1, Res.of_stuck] at p; exact p
  | exc c D1 => simp only [e1, Res.of_exc] at p; exact fun F' H' s => p F' H' (R.stp.trans s)
  | ok ds D1 =>
    simp only [e1, Res.of_ok] at p
    intro vs F1 H1 s q
    have rr : Rvs K0 F1 vs ds := paired_rvs q
    cases e2 : setAll [i, j] ds r with
    | none => simp only [e2, Out.lift_none, Res.of_stuck] at p; exact p.elim
    | some r1 =>
      simp only [e2, Out.lift_some, Res.of_ok] at p
      have R1 := R.step s
      obtain ⟨v, vs1, e3, w, vs2, e4, e5, z⟩ := goks_names [i, j] hn F0 H0 F1 _ dc D1 r r1 σ vs ds E.nx R1 rr e2 fun σ1 R2 => p σ1 F1 _ R2 s.ff
      subst e5 e4
      exact ⟨v, w, e3, z⟩
end
end Dk

namespace Dk
open PySem PySem.Spec PyProof.Rows L2
variable [TabEnv]
section
variable {X : Cx} {G : Sig} {e : PySem.Expr} {pos apos cpos apos2 cpos2 : Pos} {oe : OE}
/-- xs.append(ys.pop(e)) -/
theorem ps_appPopS {i j : Nat} {x y : PySem.Str} {xp yp : Pos} (hx : PE X (.Name x xp) (tVar i)) (hy : PE X (.Name y yp) (tVar j)) (he : PE X e (spE G .peek oe)) (hs1 : starEach [e] X.env = (false, eval e X.env) :: starEach [] X.env)
    (hline : (apos.endLine == cpos.line) = true) (hline2 : (apos2.endLine == cpos2.line) = true) :
    PS X (.Expr (.Call (.Attribute (.Name x xp) "append" apos) [.Call (.Attribute (.Name y yp) "pop" apos2) [e] [] cpos2] [] cpos) pos) (spS G fun r D => .of (Out.lift (ownOf r i) D) fun xs D => .of (Out.lift (ownOf r j) D) fun ys D => .of (oe r D) fun k D => match k with
    | .int n => match ixNat ys.length n with
      | some m => match ys[m]? with
        | some v => if i ≠ j ∧ xs.length < szL ∧ -(2 ^ 63) ≤ n ∧ n < 2 ^ 63 then .next ((r.set j (.own (ys.eraseIdx m))).set i (.own (xs ++ [v]))) D else .stuck
        | none => .stuck
      | none => .stuck
    | _ => .stuck) := by
  have hfew : ((backTo cpos2 (starEach [e] X.env)).all (fun x => !x.1) && (backToKw cpos2 (keywordEach [] X.env)).all (fun x => x.1.isSome)
      && decide (([e] : List PySem.Expr).length + ([] : List Keyword).length + (if ([] : List Keyword).isEmpty then 0 else 1) < 30)) = true := by
    rw [hs1]; rfl
  have pop := pe_bm (cpos := cpos2) (apos := apos2) PySem.F.plainAttrs_list PySem.F.slot_list_pop PySem.F.type_list_pop (mt_popAt (X := X)) hy (pa_cons he pa_nil hs1) rfl hfew hline2 hs1 rfl
  refine ps_weak (ps_expr (pe_bm PySem.F.plainAttrs_list PySem.F.slot_list_append PySem.F.type_list_append mt_append hx (pa_cons pop pa_nil) rfl rfl hline rfl rfl)) fun E σ H h => ?_
  obtain ⟨F0, H0, F, dc, D, r, R, p⟩ := h
  cases e0 : ownOf r i with
  | none => simp only [e0, Out.lift_none, Res.of_stuck] at p; exact p.elim
  | some xs =>
    simp only [e0, Out.lift_some, Res.of_ok] at p
    obtain ⟨er, a, vs, e1, h1, h2, h3, h4⟩ := own_slot R e0
    cases e0' : ownOf r j with
    | none => simp only [e0', Out.lift_none, Res.of_stuck] at p; exact p.elim
    | some ys =>
      simp only [e0', Out.lift_some, Res.of_ok] at p
      obtain ⟨er', b, ws, e1', h1', h2', h3', h4'⟩ := own_slot R e0'
      refine ⟨.ref a, e1, .inl ⟨rfl, _, Evl.sq_of h1⟩, .ref b, e1', .inl ⟨rfl, _, Evl.sq_of h1'⟩, F, dc, D, r, R.rel, ?_⟩
      cases e2 : oe r D with
      | stuck => simp only [e2, Res.of_stuck] at p; exact p
      | exc c D1 => simp only [e2, Res.of_exc] at p; exact fun F' H' s => p F' H' (R.stp.trans s)
      | ok d D1 =>
        simp only [e2, Res.of_ok] at p
        intro v F1 H1 s rv
        cases d with
        | int n =>
          simp only at p
          cases e3 : ixNat ys.length n with
          | none => simp only [e3] at p; exact p.elim
          | some m =>
            simp only [e3] at p
            cases e4 : ys[m]? with
            | none => simp only [e4] at p; exact p.elim
            | some y =>
              simp only [e4] at p
              split at p
              · rename_i hl
                obtain ⟨hij, hl1, hl2, hl3⟩ := hl
                have R1 := R.step s
                have g1 := s.keep a _ h1 h3 (fun _ z => by cases z)
                have g1' := s.keep b _ h1' h3' (fun _ z => by cases z)
                have r4 := h4'.mono s.ff
                obtain ⟨z, q1, q2⟩ := r4.get e4
                have hab : a ≠ b := fun q => hij (R.rel.ownI i j xs ys (.ref a) er er' e1 (by rw [q]; exact e1'))
                obtain ⟨sq, _⟩ := ixN_seq (n := ys.length) (i := n) (j := m) e3
                refine ⟨b, ws, n, m, z, rfl, by rw [VP.int rv], g1', hl2, hl3, by rw [r4.len]; exact sq, q1, ?_⟩
                have R2 := R1.change (ws := ws.eraseIdx m) er' e1' (r4.eraseIdx m)
                refine ⟨a, vs, z, rfl, rfl, by rw [upd_ne hab]; exact g1, by rw [h4.len]; exact hl1, ?_⟩
                have er2 : (r.set j (.own (ys.eraseIdx m)))[i]? = some (.own xs) := by rw [List.getElem?_set_ne (Ne.symm hij)]; exact er
                exact p σ F1 _ (R2.change er2 e1 ((h4.mono s.ff).append (.cons q2 .nil))) s.ff
              · exact p.elim
        | _ => exact p.elim
end
end Dk

set_option Elab.async false
set_option linter.all false
set_option maxRecDepth 100000
/-! Rev: xs[::-1], a tuple too. -/
namespace HT
open PySem PySem.Spec PyProof.Rows
section
variable {prog : Program} {w : World} {A : Around} {E : Value → Shared → Prop} {s : Shared}
theorem dk_applied_rev {sl : Addr} {t : Tok} {n : Nat} {Q : Int × Int × Nat → Shared → Prop} (hs : s.heap.IsSliceOf sl .none .none (.int (-1) t))
    (h : Q ((n : Int) - 1, -1, n) s) : wpAny (model prog w) A (Builtin.Slice.sliceApplied (.ref sl) (pure (n : Int))) Q E s := by
  obtain ⟨os, hos, hcs, hds⟩ := id hs
  unfold Builtin.Slice.sliceApplied Builtin.Slice.sliceFields
  refine wpAny_bind (wpAny_bind (wpAny_field hos hds (x := .none) rfl (wpAny_bind (wpAny_field hos hds (x := .none) rfl (wpAny_bind (wpAny_field hos hds (x := .int (-1) t) rfl (wpAny_pure ?_)))))))
  refine wpAny_bind (slicePart_int ?_)
  show wpAny _ _ (if ((-1 : Int) == 0) = true then _ else _) _ _ s
  rw [if_neg (by decide)]
  refine wpAny_bind (slicePart_none (wpAny_bind (slicePart_none (wpAny_bind (wpAny_pure ?_)))))
  show wpAny _ _ (pure ((n : Int) - 1, (-1 : Int), Builtin.Slice.slicePlaces ((n : Int) - 1) (-1) (-1))) _ _ s
  have e : Builtin.Slice.slicePlaces ((n : Int) - 1) (-1) (-1) = n := by
    unfold Builtin.Slice.slicePlaces
    rw [if_neg (by decide)]
    have q : (- -1 : Int) = 1 := rfl
    rw [q, Int.ediv_one]
    split <;> omega
  rw [e]
  exact wpAny_pure h
theorem dk_fm {α β : Type} {f : α → Option β} {g : α → β} : ∀ l : List α, (∀ m ∈ l, f m = some (g m)) → l.filterMap f = l.map g
  | [], _ => rfl
  | a :: l, h => by
    rw [List.filterMap_cons, h a (by simp), List.map_cons, dk_fm l fun m hm => h m (by simp [hm])]
theorem dk_pick_rev (xs : Array Value) : ((List.range xs.size).filterMap fun (m : Nat) => xs[(((xs.size : Int) - 1) + (m : Int) * (-1)).toNat]?).toArray = xs.toList.reverse.toArray := by
  congr 1
  rw [dk_fm (g := fun m => xs.toList.reverse.getD m .none)]
  · apply List.ext_getElem?
    intro i
    rw [List.getElem?_map]
    by_cases hi : i < xs.size
    · have h2 : i < xs.toList.reverse.length := by simpa using hi
      rw [List.getElem?_range hi, List.getElem?_eq_getElem h2]
      simp only [Option.map_some, List.getD_eq_getElem?_getD, List.getElem?_eq_getElem h2, Option.getD_some]
    · rw [List.getElem?_eq_none (by simpa using hi), List.getElem?_eq_none (by simpa using hi)]
      rfl
  · intro m hm
    rw [List.mem_range] at hm
    have e1 : (((xs.size : Int) - 1) + (m : Int) * (-1)).toNat = xs.size - 1 - m := by omega
    have h2 : m < xs.toList.reverse.length := by simpa using hm
    rw [e1, List.getD_eq_getElem?_getD, List.getElem?_eq_getElem h2, List.getElem_reverse, Array.getElem?_eq_getElem (by omega)]
    simp
theorem dk_getItem_tuple_rev {t sl : Addr} {items : Array Value} {tk : Tok} {Q : Value → Shared → Prop} (ht : IsTup s.heap t items) (hs : s.heap.IsSliceOf sl .none .none (.int (-1) tk))
    (h : Q (.ref s.heap.objs.size) { s with heap := s.heap.push { cls := .type "tuple", data := .seq items.toList.reverse.toArray } })
    (hsz : items.size ≤ sizeLine) : wpAny (model prog w) A (getItem (.ref t) (.ref sl)) Q E s := by
  have htake : sizeOk (.seq items.toList.reverse.toArray) := by
    show items.toList.reverse.toArray.size ≤ sizeLine
    rw [List.size_toArray, List.length_reverse, Array.length_toList]
    omega
  obtain ⟨os, hos, hcs, hds⟩ := id hs
  have hTs : s.TypeIs (.ref sl) "slice" := ⟨os, hos, hcs⟩
  unfold getItem
  try with_reducible refine wpAny_holding ?_
  first | refine wpAny_bind (wpAny_pure ?_) | skip
  refine wpAny_bind (wpAny_sequenceKey ht.typeIs (by decide) ?_)
  refine wpAny_bind (wpAny_callSpecial?_slot (name := Str.ofString "__getitem__") ht.typeIs PyProof.Rows.slot_tuple_getitem
    (wpAny_call_entry PyProof.Rows.slot_tuple_getitem ht.typeIs entry_tuple_getitem ?_ (args_tuple_getitem _ _)))
  show wpAny _ _ (Builtin.Tuple.tupleItemsOf (.ref t) >>= _) _ _ s
  refine wpAny_bind (tupleItemsOf_ ht ?_)
  refine wpAny_bind (wpAny_typeOf hTs ?_)
  rw [if_pos (by decide)]
  refine wpAny_bind (dk_applied_rev hs ?_)
  have hno : ¬ ((((items.size : Int) - 1) == 0 && (-1 : Int) == 1 && items.size == items.size) = true) := by
    intro q
    rw [Bool.and_eq_true, Bool.and_eq_true] at q
    exact absurd q.1.2 (by decide)
  show wpAny _ _ (if ((((items.size : Int) - 1) == 0 && (-1 : Int) == 1 && items.size == items.size) = true) then _ else _) _ _ s
  rw [if_neg hno, dk_pick_rev]
  first
    | exact wpAny_bind (m := Builtin.Tuple.tupleExact _) (wpAny_newObj_type (wpAny_pure ⟨_, rfl, wpAny_pure h⟩) htake)
    | exact wpAny_bind (m := Builtin.Tuple.tupleExact _) (wpAny_newObj_type (wpAny_bind (wpAny_pure (wpAny_pure ⟨_, rfl, wpAny_pure h⟩))) htake)
    | exact wpAny_bind (wpAny_bind (m := Builtin.Tuple.tupleExact _) (wpAny_newObj_type (wpAny_pure (wpAny_pure ⟨_, rfl, wpAny_pure h⟩)) htake))
    | exact wpAny_bind (wpAny_bind (m := Builtin.Tuple.tupleExact _) (wpAny_newObj_type (wpAny_pure ⟨_, rfl, wpAny_pure h⟩) htake))
end
end HT
namespace Dk
open PySem PySem.Spec PyProof.Rows L2
variable [TabEnv]
section
variable {X : Cx} {e : PySem.Expr} {te : TE} {k : Nat} {p1 p2 p3 pos : Pos}
def tRevT (K : Fr) (te : TE) : TE := fun σ H Q => te σ H fun x H1 => ∃ a xs, x = .ref a ∧ SqT K H1 a xs ∧ ∀ p, H1 p = none → Q (.ref p) (upd H1 p (.tup xs.reverse))
theorem pe_revT (he : PE X e te) : PE X (.Subscript e (.Slice none none (some (.UnaryOp .USub (.Constant (.int 1) k p1) p2)) p3) pos) (tRevT X.K te) := by
  refine ⟨fun pins s σ H Q I h => ?_⟩
  refine Subscript_ (thn (he.run pins s σ H _ I h) fun v s1 ⟨x, H1, I1, r1, q1⟩ => ?_)
  obtain ⟨a, xs, ex, hx, q⟩ := q1
  subst ex
  cases r1
  have hst : PO X (some (.UnaryOp .USub (.Constant (.int 1) k p1) p2)) (tPart (tUn (rU fun i => .int (-i)) (tC (.int 1)))) := po_some (pe_un un_neg pe_int)
  refine wpAny_Slice (thn (po_none.run pins s1 σ H1 (fun o H2 => o = none ∧ H2 = H1) I1 ⟨rfl, rfl⟩) fun vl s2 ⟨l, H2, I2, pl, el, e2⟩ => ?_)
  subst el e2
  refine thn (po_none.run pins s2 σ H2 (fun o H3 => o = none ∧ H3 = H2) I2 ⟨rfl, rfl⟩) fun vu s3 ⟨u, H3, I3, pu, eu, e3⟩ => ?_
  subst eu e3
  refine thn (hst.run pins s3 σ H3 (fun o H4 => o = some (-1) ∧ H4 = H3) I3 ⟨1, rfl, -1, rfl, rfl, rfl⟩) fun vs s4 ⟨o, H4, I4, ps, eo, e4⟩ => ?_
  subst eo e4
  cases pl
  cases pu
  cases ps with
  | int i t =>
  have I5 : Inv X pins σ H4 { s4 with heap := s4.heap.push { cls := .type "slice", data := .fields #[.none, .none, .int (-1) t] } } := I4.kept (t' := s4.toks) fun b ob q => Heap.get?_push_of_some _ q
  obtain ⟨its, r, ht, hz⟩ := I5.tuple hx
  have hlen := r.length
  show wpAny (model X.prog X.w) X.A (subscriptTail e (.Slice none none (some (.UnaryOp .USub (.Constant (.int 1) k p1) p2)) p3) (.ref a) (.ref s4.heap.objs.size)) (EP X pins σ Q) X.xe { s4 with heap := s4.heap.push { cls := .type "slice", data := .fields #[.none, .none, .int (-1) t] } }
  refine tail_any (ops := [.ref a, .ref s4.heap.objs.size]) ht.typeIs PyProof.Rows.slot_tuple_getitem.lookup ?_ (by with_unfolding_all rfl)
  refine HT.dk_getItem_tuple_rev ht (Heap.IsSliceOf.new _ .none .none (.int (-1) t)) ?_ (by rw [List.size_toArray]; omega)
  refine ⟨.ref _, _, I5.laid (t' := s4.toks) (o := .tup xs.reverse) (fun b ob q => Heap.get?_push_of_some _ q) (Nat.le_refl _) ?_, rfl, q _ (I5.hok.fresh (Nat.le_refl _))⟩
  exact ⟨by rw [List.length_reverse]; exact hz, _, r.reverse, IsTup.new _ _⟩
theorem pe_orR {t t' : TE} (h : PE X e t) (h' : PE X e t') : PE X e (fun σ H Q => t σ H Q ∨ t' σ H Q) := ⟨fun pins s σ H Q I q => by
  rcases q with q | q
  · exact h.run pins s σ H Q I q
  · exact h'.run pins s σ H Q I q⟩
theorem pe_revS {G : Sig} {oa : OE} (ha : PE X e (spE G .peek oa)) : PE X (.Subscript e (.Slice none none (some (.UnaryOp .USub (.Constant (.int 1) k p1) p2)) p3) pos) (spE G .fresh fun r D => (oa r D).bind fun x D => .lift (revD x) D) := by
  refine pe_weak (pe_orR (pe_revL ha) (pe_revT ha)) fun σ H Q h => ?_
  obtain ⟨F, dc, D, r, Rl, q⟩ := h
  cases e1 : oa r D with
  | stuck => simp only [e1, Out.stuck_bind] at q; exact q.elim
  | exc c D1 => simp only [e1, Out.exc_bind] at q; exact .inl ⟨F, dc, D, r, Rl, by rw [e1]; exact q⟩
  | ok d D1 =>
    simp only [e1, Out.ok_bind] at q
    cases d with
    | list xs =>
      refine .inl ⟨F, dc, D, r, Rl, ?_⟩
      rw [e1]
      intro v F1 H1 s vx
      obtain ⟨a, vs, rfl, hs, rr, _⟩ := vp_stays (X := X) (m := .peek) (by simp) vx s.fh
      refine ⟨a, vs, rfl, hs, fun p hp => ?_⟩
      have q' := PostE.step s q
      exact Kont.lst (show Kont .fresh K0 dc F1 H1 D1 (.list xs.reverse) Q from q') s.fh s.dice hp rr.reverse
    | tuple xs =>
      refine .inr ⟨F, dc, D, r, Rl, ?_⟩
      rw [e1]
      intro v F1 H1 s vx
      obtain ⟨a, vs, rfl, hs, rr, _⟩ := vp_staysT (X := X) (m := .peek) (by simp) vx s.fh
      refine ⟨a, vs, rfl, hs, fun p hp => ?_⟩
      have q' := PostE.step s q
      exact Kont.tup (show Kont .fresh K0 dc F1 H1 D1 (.tuple xs.reverse) Q from q') s.fh s.dice hp rr.reverse
    | _ => exact q.elim
end
end Dk

set_option Elab.async false
set_option linter.all false
set_option maxRecDepth 100000
/-! Sound8: from the program's syntax to core terms, and soundness. -/
namespace Dk
open PySem PySem.Spec PyProof.Rows L2
variable [TabEnv]

/-- what a module's name is -/
inductive GV where
  | fn (id : Nat) (dice : Bool) (ps : List PySem.Str)
  | const (d : PyData)
  | exc (c : Nat)
  | tell
  | no
abbrev Gls := PySem.Str → Option GV

def mapO {α β : Type} (f : α → Option β) : List α → Option (List β)
  | [] => some []
  | x :: xs => match f x, mapO f xs with
    | some y, some ys => some (y :: ys)
    | _, _ => none
def findIx (x : PySem.Str) : List PySem.Str → Option Nat
  | [] => none
  | y :: ys => if y == x then some 0 else (findIx x ys).map (· + 1)
theorem findIx_get {x : PySem.Str} : ∀ {N : List PySem.Str} {i : Nat}, findIx x N = some i → N[i]? = some x
  | [], i, h => by simp [findIx] at h
  | y :: ys, i, h => by
    rw [findIx] at h
    split at h
    · rename_i e
      cases h
      rw [eq_of_beq e]; rfl
    · cases e2 : findIx x ys with
      | none => simp [e2] at h
      | some j =>
        simp [e2] at h
        subst h
        simpa using findIx_get e2
def constD : PySem.Const → Option PyData
  | .none => some .none
  | .bool b => some (.bool b)
  | .int i => some (.int i)
  | .str s => if (PyData.str s).canLay0 then some (.str s) else none
  | _ => none
def isDbg (x : PySem.Str) : Bool := x == ("__debug__" : PySem.Str) || x == ("__classdict__" : PySem.Str)
def isDice (x : PySem.Str) : Bool := x == ("dice" : PySem.Str)
def visB (sc : PySem.Scope) (x : PySem.Str) : Bool := match sc.names.lookup x with
  | some .local => true
  | some .cell => true
  | some .free => true
  | _ => false
def locB (sc : PySem.Scope) (x : PySem.Str) : Bool := match sc.names.lookup x with
  | some .local => true
  | some .cell => true
  | _ => false
def glB (sc : PySem.Scope) (x : PySem.Str) : Bool := match sc.names.lookup x with
  | some .globalImplicit => true
  | _ => false
def toCop : PySem.CmpOp → COp
  | .Eq => .eq | .NotEq => .ne | .Lt => .lt | .LtE => .le | .Gt => .gt | .GtE => .ge | .Is => .is | .IsNot => .isNot | .In => .isIn | .NotIn => .notIn
def toBop : PySem.Operator → Option BOp
  | .Add => some .add | .Sub => some .sub | .Mult => some .mul | .FloorDiv => some .fdiv | .Mod => some .mod | .Pow => some .pow | .LShift => some .shl
  | _ => none
def toTy (x : PySem.Str) : Option Ty :=
  if x == ("int" : PySem.Str) then some .int else if x == ("bool" : PySem.Str) then some .bool else if x == ("str" : PySem.Str) then some .str
  else if x == ("tuple" : PySem.Str) then some .tuple else if x == ("list" : PySem.Str) then some .list else none
def noStar : PySem.Expr → Bool
  | .Starred _ _ => false
  | _ => true
def plainIxB : PySem.Expr → Bool
  | .Slice _ _ _ _ => false
  | _ => true
/-- a built-in by its name -/
def biTab : List (PySem.Str × Nat × Bi) := [("len", 1, .len), ("tuple", 1, .tuple), ("list", 1, .list), ("sorted", 1, .sorted), ("sum", 1, .sum), ("all", 1, .all), ("any", 1, .any), ("abs", 1, .abs), ("int", 1, .int),
  ("min", 1, .min), ("max", 1, .max), ("min", 2, .min2), ("max", 2, .max2)]
def toBi (x : PySem.Str) (n : Nat) : Option Bi := (biTab.find? fun t => t.1 == x && t.2.1 == n).map (·.2.2)
theorem toBi_mem {x : PySem.Str} {n : Nat} {b : Bi} (h : toBi x n = some b) : ∃ m, (x, m, b) ∈ biTab := by
  unfold toBi at h
  cases e : biTab.find? (fun t => t.1 == x && t.2.1 == n) with
  | none => rw [e] at h; cases h
  | some t =>
    rw [e] at h
    obtain ⟨y, m, b'⟩ := t
    have h2 := List.find?_some e
    have h1 := List.mem_of_find?_eq_some e
    rw [Bool.and_eq_true] at h2
    have : y = x := eq_of_beq h2.1
    subst this
    cases h
    exact ⟨m, h1⟩
def isIte : PySem.Expr → Bool
  | .IfExp _ _ _ _ => true
  | _ => false
def isNm (x : PySem.Str) : PySem.Expr → Bool
  | .Name y _ => y == x
  | _ => false

/-- the teller of deeds -/
def toldN : PySem.Str := "_law_told"
def noPars : Arguments → Bool
  | ⟨[], [], none, [], [], none, []⟩ => true
  | _ => false
/-- a block in which nothing is told -/
def blkD (N : List PySem.Str) (sc scope : PySem.Scope) (own : List (PySem.Str × Nat)) : Bool := blkC N sc scope own && !glB (relS scope sc) toldN
theorem blkD_c {N : List PySem.Str} {sc scope : PySem.Scope} {own : List (PySem.Str × Nat)} (h : blkD N sc scope own = true) : blkC N sc scope own = true := (Bool.and_eq_true_iff.mp h).1
theorem blkD_t {N : List PySem.Str} {sc scope : PySem.Scope} {own : List (PySem.Str × Nat)} (h : blkD N sc scope own = true) : glB (relS scope sc) toldN = false := by simpa using (Bool.and_eq_true_iff.mp h).2
section
variable (gl : Gls) (N : List PySem.Str) (M : List Nat)
/-- a name of the def -/
def slotOf (sc : PySem.Scope) (x : PySem.Str) : Option Nat := if visB sc x && !isDbg x then findIx x N else none
def tgName (sc : PySem.Scope) : PySem.Expr → Option Nat
  | .Name x _ => if locB sc x && !isDice x then findIx x N else none
  | _ => none
def compTg (sc : PySem.Scope) : PySem.Expr → Option Tg
  | .Tuple ts _ _ => (mapO (tgName N sc) ts).map .tup
  | e => (tgName N sc e).map .name
/-- the comprehension's own names, with their slots -/
def ownOfTg : PySem.Expr → Option (List (PySem.Str × Nat))
  | .Name x _ => (findIx x N).map fun i => [(x, i)]
  | .Tuple ts _ _ => mapO (fun
    | .Name x _ => (findIx x N).map fun i => (x, i)
    | _ => none) ts
  | _ => none
mutual
def compE : Nat → PySem.Scope → Bool → PySem.Expr → Option CE
  | 0, _, _, _ => none
  | n + 1, sc, pk, e => match e with
    | .Constant c _ _ => (constD c).map .const
    | .Name x _ => match slotOf N sc x with
      | some i => if isDice x then none else some (if pk && M.contains i then .peek i else .var i)
      | none => if glB sc x && !isDbg x then (match gl x with
        | some (.const d) => some (.const d)
        | _ => none) else none
    | .Tuple es _ _ => (compEs n sc false es).map .tup
    | .List es _ => (compEs n sc false es).map .lst
    | .BinOp a op b _ => match toBop op, compE n sc true a, compE n sc true b with
      | some o, some x, some y => some (.bin o x y)
      | _, _, _ => none
    | .UnaryOp .USub a _ => (compE n sc false a).map .neg
    | .UnaryOp .Not a _ => if isIte a then none else (compE n sc false a).map .not
    | .BoolOp op es _ => compB n sc op es
    | .IfExp t a b _ => if isIte t then none else match compE n sc false t, compE n sc false a, compE n sc false b with
      | some t, some x, some y => some (.ite t x y)
      | _, _, _ => none
    | .Compare a [op] [b] _ => if behindInMarks op b then none else (match compE n sc true a, compE n sc true b with
      | some x, some y => some (.cmp (toCop op) x y)
      | _, _ => none)
    | .Compare a [op, op'] [b, c] _ => if lastMarks [op, op'] [b, c] then none else (match compE n sc true a, compE n sc true b, compE n sc true c with
      | some x, some y, some z => some (.chain (toCop op) (toCop op') x y z)
      | _, _, _ => none)
    | .Subscript a (.Slice lo hi none _) _ => match compE n sc true a, compO n sc lo, compO n sc hi with
      | some x, some l, some h => some (.slice x l h)
      | _, _, _ => none
    | .Subscript a (.Slice none none (some (.UnaryOp .USub (.Constant (.int 1) _ _) _)) _) _ => (compE n sc true a).map .rev
    | .Subscript (.Name x xp) (.Constant (.int k) kk kp) p => if isDice x then (match slotOf N sc x with
        | some _ => if k == 0 || k == 1 then some (.dget k.toNat) else none
        | none => none)
      else (match compE n sc true (.Name x xp), compE n sc false (.Constant (.int k) kk kp) with
        | some a, some b => some (.ix a b)
        | _, _ => none)
    | .Subscript a b _ => if plainIxB b then (match compE n sc true a, compE n sc false b with
      | some x, some y => some (.ix x y)
      | _, _ => none) else none
    | .Call (.Name f _) args [] _ => if glB sc f && !isDbg f then compCall n sc f args else none
    | .ListComp elt [⟨tg, it, ifs, 0⟩] scope _ => match ownOfTg N tg, compTg N scope tg, compI n sc true tg it, compT n (relS scope sc) ifs, compE n (relS scope sc) false elt with
      | some own, some t, some (k, src), some test, some el => if blkD N sc scope own && (own.map (·.2) == tgIx t) then some (.comp (own.map (·.2)) t k src test el) else none
      | _, _, _, _, _ => none
    | .ListComp elt [⟨tg, it, ifs, 0⟩, ⟨tg1, it1, [], 0⟩] scope _ => match ownOfTg N tg, ownOfTg N tg1, compTg N scope tg, compTg N scope tg1, compI n sc true tg it, compT n (relS scope sc) ifs, compE n (relS scope sc) false it1, compE n (relS scope sc) false elt with
      | some own, some own1, some t, some t1, some (k, src), some test, some s1, some el =>
        if blkD N sc scope (own ++ own1) && (own.map (·.2) == tgIx t) && (own1.map (·.2) == tgIx t1) && !isComp it1 then some (.comp2 ((own ++ own1).map (·.2)) (own1.map (·.2)) t k src test t1 s1 el) else none
      | _, _, _, _, _, _, _, _ => none
    | _ => none
def compEs : Nat → PySem.Scope → Bool → List PySem.Expr → Option (List CE)
  | 0, _, _, _ => none
  | n + 1, sc, pk, es => match es with
    | [] => some []
    | e :: es => if noStar e then (match compE n sc pk e, compEs n sc pk es with
      | some x, some xs => some (x :: xs)
      | _, _ => none) else none
def compB : Nat → PySem.Scope → PySem.BoolOp → List PySem.Expr → Option CE
  | 0, _, _, _ => none
  | n + 1, sc, op, es => match es with
    | [] => none
    | [e] => if isIte e then none else compE n sc false e
    | e :: es => if isIte e then none else match compE n sc false e, compB n sc op es with
      | some x, some y => some (match op with
        | .And => .and x y
        | .Or => .or x y)
      | _, _ => none
def compO : Nat → PySem.Scope → Option PySem.Expr → Option (Option CE)
  | 0, _, _ => none
  | n + 1, sc, o => match o with
    | none => some none
    | some e => (compE n sc false e).map some
def compT : Nat → PySem.Scope → List PySem.Expr → Option (Option CE)
  | 0, _, _ => none
  | n + 1, sc, es => match es with
    | [] => some none
    | [e] => if isIte e then none else (compE n sc false e).map some
    | _ => none
def compI : Nat → PySem.Scope → Bool → PySem.Expr → PySem.Expr → Option (ItK × List CE)
  | 0, _, _, _, _ => none
  | n + 1, sc, pk, tg, it => match it with
    | .Call (.Name f fp) args [] p => if glB sc f && (gl f).isNone && f == ("range" : PySem.Str) && args.length == 1 then (compEs n sc pk args).map fun xs => (.range, xs)
      else if glB sc f && (gl f).isNone && f == ("enumerate" : PySem.Str) && args.length == 1 && isTupE tg then (compEs n sc pk args).map fun xs => (.enum, xs)
      else if glB sc f && (gl f).isNone && f == ("zip" : PySem.Str) && args.length == 2 && isTupE tg then (compEs n sc pk args).map fun xs => (.zip, xs)
      else (compE n sc pk (.Call (.Name f fp) args [] p)).map fun x => (.seq, [x])
    | e => match e with
      | .Set _ _ _ => none
      | e => (compE n sc pk e).map fun x => (.seq, [x])
def compCall : Nat → PySem.Scope → PySem.Str → List PySem.Expr → Option CE
  | 0, _, _, _ => none
  | n + 1, sc, f, args => match gl f with
    | some (.fn id dc ps) => if dc then (match args with
        | .Name x _ :: rest => if isDice x then (match slotOf N sc x, compEs n sc false rest with
          | some _, some xs => some (.call true id xs)
          | _, _ => none) else none
        | _ => none)
      else (match args with
        | [] => none
        | _ => (compEs n sc false args).map fun xs => .call false id xs)
    | some .tell => (match args with
      | [.Lambda params (.Call (.Name g _) es [] _) scope _] => if f == toldN && LamX.lamSB sc scope && noPars params && glB scope g && !isDbg g && !glB scope toldN && !es.isEmpty then (match gl g, compEs n scope false es with
        | some (.fn id false _), some xs => some (.told id xs)
        | _, _ => none) else none
      | _ => none)
    | some .no => some (.dget 2)
    | some _ => none
    | none => if f == ("isinstance" : PySem.Str) then (match args with
        | [a, .Name t _] => match toTy t, compE n sc true a with
          | some ty, some x => if noStar a && glB sc t && (gl t).isNone then some (.isa x ty) else none
          | _, _ => none
        | _ => none)
      else if f == ("list" : PySem.Str) && (match args with | [.Call (.Name g _) [_] [] _] => g == ("range" : PySem.Str) | _ => false) then (match args with
        | [.Call (.Name g _) [a] [] _] => if noStar a && glB sc g && (gl g).isNone then (compE n sc true a).map fun x => .bi .listRange [x] else none
        | _ => none)
      else match toBi f args.length, compEs n sc true args with
        | some b, some xs => some (.bi b xs)
        | _, _ => none
end

/-! ### statements -/
end
end Dk

namespace Dk
open PySem PySem.Spec PyProof.Rows L2
variable [TabEnv]
/-- a def's promise, by the evaluator -/
def spF (T : Nat → Option FD) (xa : XA) (n : Nat) (dice : Bool) (id : Nat) : Sp := fun vs H Q E => ∃ F dc D ds ws, Same F H ∧ DiceOk dc F H D ∧ (match dice with
    | true => ∃ a, dc = some a ∧ vs = .ref a :: ws
    | false => vs = ws) ∧ Rvs K0 F ws ds ∧ PostE .leak K0 E xa dc F H (call T n dice id ds D) Q
/-- the facts of the module -/
structure Amb (gl : Gls) (T : Nat → Option FD) (xa : XA) (n : Nat) (P : Program) (w : World) (K : Fr) (mg : PySem.Str → Option Value) (base : Heap) : Prop where
  fn : ∀ x id dice ps, gl x = some (.fn id dice ps) → ∃ f fd, mg x = some (.ref f) ∧ PySem.W.keepIn K (.ref f) = true ∧ Binds K fd ps [] ∧ FnOk P w K mg base (L2N.CX P w) n f fd ps (spF T xa n dice id)
  const : ∀ x d, gl x = some (.const d) → ∃ v u, mg x = some u ∧ RelV v u ∧ ∀ F, Rv K0 F v d
  exc : ∀ x c, gl x = some (.exc c) → mg x = some (.ref (xa c)) ∧ PySem.W.keepIn K (.ref (xa c)) = true ∧ PySem.W.subIn K (.ref (xa c)) (.type "BaseException") = some true ∧ PySem.W.typeIn K (.ref (xa c)) = some (.type "type") ∧
    ∃ bm newId initId B, ExcBaseFacts B newId initId bm ∧ PySem.W.excIn K (xa c) bm newId = true
  tell : ∀ x, gl x = some .tell → ToldDef K mg xa
  tno : ∀ id, T (toldBase + id) = none
  free : ∀ x, x ∈ ([ "range", "enumerate", "zip", "len", "tuple", "list", "sorted", "sum", "all", "any", "abs", "int", "bool", "str", "min", "max", "isinstance"] : List PySem.Str) → gl x = none → mg x = none

structure CtxE (gl : Gls) (T : Nat → Option FD) (n : Nat) (G : Sig) (sc : PySem.Scope) (X : Cx) : Prop where
  N : X.N = G.N
  nd : G.N.Nodup
  calm : X.calm = true
  room : Room n X.A
  sc : X.env.scope = sc
  ps : Passes (L2N.CX X.prog X.w) X G.E
  amb : Amb gl T G.xa n X.prog X.w X.K X.mg X.base
  low : ∀ m, m < n → Amb gl T G.xa m X.prog X.w X.K X.mg X.base
  lam : glB X.env.scope toldN = true → ∃ c P, X.env.code = .ref c ∧ LamX.TabB X.base X.mg c P ∧ (P, X.env.qual ++ "<lambda>") ∈ TabEnv.tabs ∧ ∀ p ∈ TabEnv.tabs, p.1 = P → p.2 = X.env.qual ++ "<lambda>"

section
variable {gl : Gls} {T : Nat → Option FD} {n : Nat} {G : Sig} {sc : PySem.Scope} {X : Cx}
theorem CtxE.units (c : CtxE gl T n G sc X) : X.A.units + 65 < cLine := by have := c.room.un; omega
theorem vis_of (c : CtxE gl T n G sc X) {x : PySem.Str} (h : visB sc x = true) : Vis X.env.scope x := by
  rw [c.sc]
  unfold visB at h
  unfold Vis
  split at h <;> simp_all
theorem loc_of (c : CtxE gl T n G sc X) {x : PySem.Str} (h : locB sc x = true) : Loc X.env.scope x := by
  rw [c.sc]
  unfold locB at h
  unfold L2.Loc
  split at h <;> simp_all
theorem gl_of (c : CtxE gl T n G sc X) {x : PySem.Str} (h : glB sc x = true) : Gl X x := by
  unfold Gl PySem.Env.kindOf
  rw [c.sc]
  unfold glB at h
  split at h <;> simp_all
theorem dbg_of {x : PySem.Str} (h : (!isDbg x) = true) : (x == ("__debug__" : PySem.Str)) = false ∧ (x == ("__classdict__" : PySem.Str)) = false := by
  unfold isDbg at h
  simp only [Bool.not_or, Bool.and_eq_true, Bool.not_eq_true'] at h
  exact h
theorem slotOf_ok (c : CtxE gl T n G sc X) {x : PySem.Str} {i : Nat} (h : slotOf G.N sc x = some i) : X.N[i]? = some x ∧ Vis X.env.scope x ∧ (x == ("__debug__" : PySem.Str)) = false ∧ (x == ("__classdict__" : PySem.Str)) = false := by
  unfold slotOf at h
  split at h
  · rename_i q
    rw [Bool.and_eq_true] at q
    exact ⟨by rw [c.N]; exact findIx_get h, vis_of c q.1, dbg_of q.2⟩
  · cases h
theorem star_cons {e : PySem.Expr} {es : List PySem.Expr} {env : PySem.Env} (h : noStar e = true) : starEach (e :: es) env = (false, eval e env) :: starEach es env := by
  cases e <;> first | rfl | (simp [noStar] at h)
theorem star_none {env : PySem.Env} {pos : Pos} : ∀ {es : List PySem.Expr}, (∀ e ∈ es, noStar e = true) → (backTo pos (starEach es env)).any (·.1) = false
  | [], _ => rfl
  | e :: es, h => by
    rw [star_cons (h e (by simp))]
    have := star_none (env := env) (pos := pos) (es := es) fun e' he => h e' (by simp [he])
    simp only [backTo, List.map_cons, List.any_cons, Bool.false_or] at this ⊢
    exact this
theorem plainIx_of {b : PySem.Expr} (h : plainIxB b = true) : PlainIx b := by
  intro o i
  cases b <;> first | rfl | (simp [plainIxB] at h)
theorem cop_to (op : PySem.CmpOp) : cop (toCop op) = op := by cases op <;> rfl
theorem bop_to {op : PySem.Operator} {o : BOp} (h : toBop op = some o) : bop o = op := by
  cases op <;> simp [toBop] at h <;> subst h <;> rfl
theorem val_plain {e : PySem.Expr} (env : PySem.Env) (h : (match e with | .UnaryOp .Not _ _ => false | .BoolOp _ _ _ => false | .IfExp _ _ _ _ => false | .Compare _ _ _ _ => false | _ => true) = true) : ∀ whole, isTrue e env whole = (do let v ← whole; standAt e.pos; holding [v] (truthy v)) := by
  intro whole
  cases e <;> first | rfl | (simp at h; done) | (rename_i op _ _; cases op <;> first | rfl | (simp at h; done))
end
end Dk

namespace Dk
open PySem PySem.Spec PyProof.Rows L2
variable [TabEnv]
section
variable (gl : Gls) (N : List PySem.Str) (M : List Nat)
def isFreshE : PySem.Expr → Bool
  | .List _ _ => true
  | .ListComp _ _ _ _ => true
  | .BinOp _ .Add _ _ => true
  | .BinOp _ .Mult _ _ => true
  | _ => false
end
end Dk

set_option Elab.async false
set_option linter.all false
set_option maxRecDepth 100000
/-! Sound9: soundness of expressions. -/
namespace Dk
open PySem PySem.Spec PyProof.Rows L2
variable [TabEnv]

def mdOf (pk : Bool) : Md := if pk then .peek else .leak
theorem mdOf_ne (pk : Bool) : mdOf pk ≠ .fresh := by cases pk <;> simp [mdOf]
theorem pe_md {X : Cx} {G : Sig} {e : PySem.Expr} {o : OE} (h : PE X e (spE G .leak o)) (pk : Bool) : PE X e (spE G (mdOf pk) o) := by
  cases pk with
  | false => exact h
  | true => exact pe_peek h
theorem pe_eq {X : Cx} {G : Sig} {m : Md} {e : PySem.Expr} {o o' : OE} (h : PE X e (spE G m o)) (q : ∀ r D, o r D = o' r D) : PE X e (spE G m o') := by
  have : o = o' := funext fun r => funext fun D => q r D
  rw [← this]; exact h
theorem pt_eq {X : Cx} {G : Sig} {e : PySem.Expr} {o o' : OE} (h : PT X e (spT G (asB o))) (q : ∀ r D, o r D = o' r D) : PT X e (spT G (asB o')) := by
  have : o = o' := funext fun r => funext fun D => q r D
  rw [← this]; exact h
theorem pa_eq {X : Cx} {G : Sig} {m : Md} {e : List PySem.Expr} {o o' : OA} (h : PA X e (spA G m o)) (q : ∀ r D, o r D = o' r D) : PA X e (spA G m o') := by
  have : o = o' := funext fun r => funext fun D => q r D
  rw [← this]; exact h
theorem pi_eq {X : Cx} {G : Sig} {m : Md} {tg e : PySem.Expr} {o o' : OA} (h : PI X tg e (spI G m o)) (q : ∀ r D, o r D = o' r D) : PI X tg e (spI G m o') := by
  have : o = o' := funext fun r => funext fun D => q r D
  rw [← this]; exact h

/-! ### calls -/
section
variable {gl : Gls} {T : Nat → Option FD} {n : Nat} {G : Sig} {sc : PySem.Scope} {X : Cx} {e : PySem.Expr} {es : List PySem.Expr} {oes : OA} {x : PySem.Str} {p pos : Pos} {id : Nat} {ps : List PySem.Str}
theorem pe_callFS (c : CtxE gl T n G sc X) (hgl : gl x = some (.fn id false ps)) (hg : glB sc x = true) (hd : (!isDbg x) = true) (hs : ∀ e' ∈ e :: es, noStar e' = true) (ha : PA X (e :: es) (spA G .leak oes)) :
    PE X (.Call (.Name x p) (e :: es) [] pos) (spE G .leak fun r D => (oes r D).bind fun vs D => call T n false id vs D) := by
  obtain ⟨f, fd, hm, hk, hb, F⟩ := c.amb.fn x id false ps hgl
  refine pe_weak (pe_call F c.room (gl_of c hg) hm hk hb .nil c.ps ha (dbg_of hd).1 (star_cons (hs e (by simp))) (star_none fun e' he => hs e' (by simp [he]))) fun σ H Q h => ?_
  obtain ⟨F, dc, D, r, R, q⟩ := h
  refine ⟨F, dc, D, r, R, ?_⟩
  cases e1 : oes r D with
  | stuck => simp only [e1, Out.stuck_bind] at q; exact q
  | exc c D1 => simp only [e1, Out.exc_bind] at q; exact q
  | ok ds D1 =>
    simp only [e1, Out.ok_bind] at q
    intro vs F1 H1 s v1
    exact ⟨F1, dc, D1, ds, vs, s.fh, s.dice, by simp, paired_rvs v1, PostE.step s q⟩
theorem pe_callDS (c : CtxE gl T n G sc X) (hgl : gl x = some (.fn id true ps)) (hg : glB sc x = true) (hd : (!isDbg x) = true) {y : PySem.Str} {yp : Pos} {j : Nat} (hy : slotOf G.N sc y = some j) (hyd : isDice y = true) (hs : ∀ e' ∈ es, noStar e' = true) (ha : PA X es (spA G .leak oes)) :
    PE X (.Call (.Name x p) (.Name y yp :: es) [] pos) (spE G .leak fun r D => if D.isNone then .stuck else (oes r D).bind fun vs D => call T n true id vs D) := by
  obtain ⟨f, fd, hm, hk, hb, F⟩ := c.amb.fn x id true ps hgl
  obtain ⟨h1, h2, h3, h4⟩ := slotOf_ok c hy
  refine pe_weak (pe_call F c.room (gl_of c hg) hm hk hb .nil c.ps (pa_cons (pe_var h1 h2 h3 h4) ha rfl) (dbg_of hd).1 rfl (star_none hs)) fun σ H Q h => ?_
  obtain ⟨F, dc, D, r, R, q⟩ := h
  cases D with
  | none => exact q.elim
  | some cn =>
    have q : PostE .leak K0 G.E G.xa dc F H ((oes r (some cn)).bind fun vs D => call T n true id vs D) Q := q
    obtain ⟨a, d1, d2, d3⟩ := R.dice.1
    have hN : G.N[j]? = some ("dice" : PySem.Str) := by
      rw [← c.N, h1]
      congr 1
      exact eq_of_beq hyd
    refine ⟨.ref a, R.dsl j a hN d1, F, dc, some cn, r, R, ?_⟩
    cases e1 : oes r (some cn) with
    | stuck => simp only [e1, Out.stuck_bind] at q; exact q
    | exc c D1 => simp only [e1, Out.exc_bind] at q; exact q
    | ok ds D1 =>
      simp only [e1, Out.ok_bind] at q
      intro vs F1 H1 s v1
      exact ⟨F1, dc, D1, ds, vs, s.fh, s.dice, ⟨a, d1, by simp⟩, paired_rvs v1, PostE.step s q⟩
/-- dice[k] -/
theorem pe_dgetS (c : CtxE gl T n G sc X) {j : Nat} (hy : slotOf G.N sc x = some j) (hyd : isDice x = true) {k : Int} {kk : Nat} {xp kp : Pos} (hk : k = 0 ∨ k = 1) :
    PE X (.Subscript (.Name x xp) (.Constant (.int k) kk kp) pos) (spE G .leak fun _ D => match D with
    | some (c, n) => match k.toNat with
      | 0 => .ok (.int c) D
      | 1 => .ok (.int n) D
      | _ => .stuck
    | none => .stuck) := by
  obtain ⟨h1, h2, h3, h4⟩ := slotOf_ok c hy
  refine pe_weak (pe_ix ix_list (pe_var h1 h2 h3 h4) pe_int (fun _ _ => rfl)) fun σ H Q h => ?_
  obtain ⟨F, dc, D, r, R, q⟩ := h
  cases D with
  | none => exact q.elim
  | some cn =>
    obtain ⟨c0, n0⟩ := cn
    obtain ⟨a, d1, d2, d3⟩ := R.dice.1
    have hN : G.N[j]? = some ("dice" : PySem.Str) := by
      rw [← c.N, h1]
      congr 1
      exact eq_of_beq hyd
    have fin : ∀ z : Int, Kont .leak K0 dc F H (some (c0, n0)) (.int z) Q → Q (.int z) H := fun z kz => kz.flat R.fh R.dice (.int z) (by intro _ q; cases q)
    refine ⟨.ref a, R.dsl j a hN d1, ?_⟩
    rcases hk with rfl | rfl
    · exact ⟨a, _, 0, .int c0, rfl, rfl, Evl.sq_of d2, rfl, fin c0 q⟩
    · exact ⟨a, _, 1, .int n0, rfl, rfl, Evl.sq_of d2, rfl, fin n0 q⟩
/-- isinstance(a, T) -/
theorem boot_ty (t : Ty) : ∀ x : PySem.Str, toTy x = some t → bootBuiltins x = some (.type (tyName t)) := by
  intro x h
  unfold toTy at h
  split at h
  · rename_i e; have := eq_of_beq e; subst this; cases h; decide +kernel
  · split at h
    · rename_i e; have := eq_of_beq e; subst this; cases h; decide +kernel
    · split at h
      · rename_i e; have := eq_of_beq e; subst this; cases h; decide +kernel
      · split at h
        · rename_i e; have := eq_of_beq e; subst this; cases h; decide +kernel
        · split at h
          · rename_i e; have := eq_of_beq e; subst this; cases h; decide +kernel
          · cases h
theorem ty_mem {t : Ty} {x : PySem.Str} (h : toTy x = some t) : x ∈ ([ "range", "enumerate", "zip", "len", "tuple", "list", "sorted", "sum", "all", "any", "abs", "int", "bool", "str", "min", "max", "isinstance"] : List PySem.Str) := by
  unfold toTy at h
  split at h
  · rename_i e; have := eq_of_beq e; subst this; decide +kernel
  · split at h
    · rename_i e; have := eq_of_beq e; subst this; decide +kernel
    · split at h
      · rename_i e; have := eq_of_beq e; subst this; decide +kernel
      · split at h
        · rename_i e; have := eq_of_beq e; subst this; decide +kernel
        · split at h
          · rename_i e; have := eq_of_beq e; subst this; decide +kernel
          · cases h
theorem ty_plain {t : Ty} {x : PySem.Str} (h : toTy x = some t) : x ≠ "__name__" ∧ (x == ("__debug__" : PySem.Str)) = false := by
  unfold toTy at h
  split at h
  · rename_i e; have := eq_of_beq e; subst this; decide +kernel
  · split at h
    · rename_i e; have := eq_of_beq e; subst this; decide +kernel
    · split at h
      · rename_i e; have := eq_of_beq e; subst this; decide +kernel
      · split at h
        · rename_i e; have := eq_of_beq e; subst this; decide +kernel
        · split at h
          · rename_i e; have := eq_of_beq e; subst this; decide +kernel
          · cases h
theorem boot_isinstance' : bootBuiltins ("isinstance" : PySem.Str) = some (.builtin "isinstance") := by decide +kernel
theorem pe_isaS (c : CtxE gl T n G sc X) {t : Ty} {y : PySem.Str} {yp : Pos} {oe : OE} (hgl : gl "isinstance" = none) (hg : glB sc "isinstance" = true) (ht : toTy y = some t) (hgy : glB sc y = true) (hgly : gl y = none) (hs : noStar e = true) (he : PE X e (spE G .peek oe)) :
    PE X (.Call (.Name "isinstance" p) [e, .Name y yp] [] pos) (spE G .leak fun r D => (oe r D).bind fun x D => .ok (.bool (isaD t x)) D) := by
  obtain ⟨hy1, hy2⟩ := ty_plain ht
  have hy : PE X (.Name y yp) (tC (.ty (tyName t))) := pe_bltn (gl_of c hgy) (c.amb.free y (ty_mem ht) hgly) (boot_ty t y ht) rfl hy1 hy2
  refine pe_weak (pe_callB call_isi (gl_of c hg) (c.amb.free _ (by decide +kernel) hgl) boot_isinstance' (pa_cons he (pa_cons hy pa_nil) (star_cons hs)) (by decide) (by decide) (star_cons hs) rfl) fun σ H Q h => ?_
  refine spE_mono (sp_seq1 (f := fun x D => .ok (.bool (isaD t x)) D) h) fun v H1 h1 => ?_
  obtain ⟨F, dc, D, dx, e1, dk, vx, q⟩ := h1
  exact ⟨v, .ty (tyName t), tyOf dx, .type (tyName t), isaD t dx, rfl, .ty _, vp_ty e1 vx, kit_ok X.K t dx (vx.rv e1).2, (show Kont _ _ _ _ _ _ _ _ from q).flat e1 dk (.bl _) (by intro _ q; cases q)⟩
end
end Dk

namespace Dk
open PySem PySem.Spec PyProof.Rows L2
variable [TabEnv]
abbrev blNames : List PySem.Str := [ "range", "enumerate", "zip", "len", "tuple", "list", "sorted", "sum", "all", "any", "abs", "int", "bool", "str", "min", "max", "isinstance"]
section
variable {gl : Gls} {T : Nat → Option FD} {n : Nat} {G : Sig} {sc : PySem.Scope} {X : Cx} {e : PySem.Expr} {es : List PySem.Expr} {oes : OA} {f : PySem.Str} {p pos : Pos} {b : Bi} {r : List V → Hp → VK → Prop} {id : String}
theorem pe_biL (c : CtxE gl T n G sc X) (hgl : gl f = none) (hg : glB sc f = true) (hf : f ∈ blNames ∧ f ≠ "__name__" ∧ (f == ("__debug__" : PySem.Str)) = false) (hv : bootBuiltins f = some (.builtin id)) (hc : CallR X (.builtin id) r) (sv : ServesL r (biD b)) (hs : ∀ e' ∈ e :: es, noStar e' = true) (ha : PA X (e :: es) (spA G .peek oes)) :
    PE X (.Call (.Name f p) (e :: es) [] pos) (spE G .fresh fun r D => (oes r D).bind fun vs D => .lift (biD b vs) D) :=
  pe_weak (pe_callB hc (gl_of c hg) (c.amb.free f hf.1 hgl) hv ha hf.2.1 hf.2.2 (star_cons (hs e (by simp))) (star_none fun e' he => hs e' (by simp [he]))) fun σ H Q h => sp_bi sv h
theorem pe_biK (c : CtxE gl T n G sc X) (hgl : gl f = none) (hg : glB sc f = true) (hf : f ∈ blNames ∧ f ≠ "__name__" ∧ (f == ("__debug__" : PySem.Str)) = false) (hv : bootBuiltins f = some (.builtin id)) (hc : CallR X (.builtin id) r) (sv : ServesK r (biD b)) (hs : ∀ e' ∈ e :: es, noStar e' = true) (ha : PA X (e :: es) (spA G .peek oes)) :
    PE X (.Call (.Name f p) (e :: es) [] pos) (spE G .leak fun r D => (oes r D).bind fun vs D => .lift (biD b vs) D) :=
  pe_weak (pe_callB hc (gl_of c hg) (c.amb.free f hf.1 hgl) hv ha hf.2.1 hf.2.2 (star_cons (hs e (by simp))) (star_none fun e' he => hs e' (by simp [he]))) fun σ H Q h => sp_biK sv h
theorem pe_biT (c : CtxE gl T n G sc X) (hgl : gl f = none) (hg : glB sc f = true) (hf : f ∈ blNames ∧ f ≠ "__name__" ∧ (f == ("__debug__" : PySem.Str)) = false) (hv : bootBuiltins f = some (.type id)) (hc : CallR X (.type id) r) (sv : ServesL r (biD b)) (hs : ∀ e' ∈ e :: es, noStar e' = true) (ha : PA X (e :: es) (spA G .peek oes)) :
    PE X (.Call (.Name f p) (e :: es) [] pos) (spE G .fresh fun r D => (oes r D).bind fun vs D => .lift (biD b vs) D) :=
  pe_weak (pe_callTy hc (gl_of c hg) (c.amb.free f hf.1 hgl) hv ha hf.2.1 hf.2.2 (star_cons (hs e (by simp))) (star_none fun e' he => hs e' (by simp [he]))) fun σ H Q h => sp_bi sv h
def biFresh : Bi → Bool
  | .min => false | .max => false | .minD => false | .maxD => false | .listRange => false
  | _ => true
theorem nm_of {x y : PySem.Str} {m k : Nat} (h : (x == y && m == k) = true) : x = y := by
  rw [Bool.and_eq_true] at h
  exact eq_of_beq h.1
set_option maxHeartbeats 1000000 in
theorem pe_biS (c : CtxE gl T n G sc X) (hb : toBi f (e :: es).length = some b) (hgl : gl f = none) (hg : glB sc f = true) (hs : ∀ e' ∈ e :: es, noStar e' = true) (ha : PA X (e :: es) (spA G .peek oes)) :
    PE X (.Call (.Name f p) (e :: es) [] pos) (spE G .leak fun r D => (oes r D).bind fun vs D => .lift (biD b vs) D) ∧
    (biFresh b = true → PE X (.Call (.Name f p) (e :: es) [] pos) (spE G .fresh fun r D => (oes r D).bind fun vs D => .lift (biD b vs) D)) := by
  have both : ∀ {b : Bi}, PE X (.Call (.Name f p) (e :: es) [] pos) (spE G .fresh fun r D => (oes r D).bind fun vs D => .lift (biD b vs) D) → PE X (.Call (.Name f p) (e :: es) [] pos) (spE G .leak fun r D => (oes r D).bind fun vs D => .lift (biD b vs) D) ∧
      (biFresh b = true → PE X (.Call (.Name f p) (e :: es) [] pos) (spE G .fresh fun r D => (oes r D).bind fun vs D => .lift (biD b vs) D)) := fun h => ⟨pe_leak h, fun _ => h⟩
  have one : ∀ {b : Bi}, biFresh b = false → PE X (.Call (.Name f p) (e :: es) [] pos) (spE G .leak fun r D => (oes r D).bind fun vs D => .lift (biD b vs) D) → PE X (.Call (.Name f p) (e :: es) [] pos) (spE G .leak fun r D => (oes r D).bind fun vs D => .lift (biD b vs) D) ∧
      (biFresh b = true → PE X (.Call (.Name f p) (e :: es) [] pos) (spE G .fresh fun r D => (oes r D).bind fun vs D => .lift (biD b vs) D)) := fun hb h => ⟨h, fun q => by rw [hb] at q; cases q⟩
  have hu := c.units
  obtain ⟨m, hm⟩ := toBi_mem hb
  clear hb
  cases hm with
  | head => exact both (pe_biL c hgl hg (by decide +kernel) PySem.boot_len (call_len_seq.or call_len_str) serves_len hs ha)
  | tail _ hm =>
    cases hm with
    | head => exact both (pe_biT c hgl hg (by decide +kernel) (by decide +kernel) call_tuple_of serves_tuple hs ha)
    | tail _ hm =>
      cases hm with
      | head => exact both (pe_biT c hgl hg (by decide +kernel) (by decide +kernel) call_list_of serves_list hs ha)
      | tail _ hm =>
        cases hm with
        | head => exact both (pe_biL c hgl hg (by decide +kernel) (by decide +kernel) (cr_sortM hu) serves_sorted hs ha)
        | tail _ hm =>
          cases hm with
          | head => exact both (pe_biL c hgl hg (by decide +kernel) (by decide +kernel) (cr_sum c.calm) serves_sum hs ha)
          | tail _ hm =>
            cases hm with
            | head => exact both (pe_biL c hgl hg (by decide +kernel) (by decide +kernel) (cr_all c.calm) serves_all hs ha)
            | tail _ hm =>
              cases hm with
              | head => exact both (pe_biL c hgl hg (by decide +kernel) (by decide +kernel) (cr_any c.calm) serves_any hs ha)
              | tail _ hm =>
                cases hm with
                | head => exact both (pe_biL c hgl hg (by decide +kernel) (by decide +kernel) call_abs serves_abs hs ha)
                | tail _ hm =>
                  cases hm with
                  | head => exact both (pe_biT c hgl hg (by decide +kernel) (by decide +kernel) call_int1 serves_int1 hs ha)
                  | tail _ hm =>
                    cases hm with
                    | head => exact one rfl (pe_biK c hgl hg (by decide +kernel) (by decide +kernel) (cr_minM c.calm hu) (serves_min hu) hs ha)
                    | tail _ hm =>
                      cases hm with
                      | head => exact one rfl (pe_biK c hgl hg (by decide +kernel) (by decide +kernel) ((cr_maxM c.calm hu).or (cr_maxT c.calm hu)) serves_max hs ha)
                      | tail _ hm =>
                        cases hm with
                        | head => exact both (pe_biL c hgl hg (by decide +kernel) (by decide +kernel) (call_min2 c.calm) serves_min2 hs ha)
                        | tail _ hm =>
                          cases hm with
                          | head => exact both (pe_biL c hgl hg (by decide +kernel) (by decide +kernel) (call_max2 c.calm) serves_max2 hs ha)
                          | tail _ hm =>
                            cases hm
/-- list(range(e)) -/
theorem pe_listRangeS (c : CtxE gl T n G sc X) {oe : OE} {p2 pos2 : Pos} (hgl : gl "list" = none) (hg : glB sc "list" = true) (hgl2 : gl "range" = none) (hg2 : glB sc "range" = true) (hs : noStar e = true) (he : PE X e (spE G .peek oe)) :
    PE X (.Call (.Name "list" p) [.Call (.Name "range" p2) [e] [] pos2] [] pos) (spE G .fresh fun r D => (oe r D).bind fun x D => .lift (biD .listRange [x]) D) := by
  refine pe_weak (pe_listRg c.calm (gl_of c hg) (c.amb.free _ (by decide +kernel) hgl) (prg_1 (gl_of c hg2) (c.amb.free _ (by decide +kernel) hgl2) he (star_cons hs))) fun σ H Q h => ?_
  refine spE_mono (sp_seq1 (f := fun x D => .lift (biD .listRange [x]) D) h) fun v H1 h1 => ?_
  obtain ⟨F, dc, D, dx, e1, dk, vx, q⟩ := h1
  cases dx with
  | int k =>
    simp only [biD] at q
    split at q
    · rename_i hk
      simp only [Out.lift_some] at q
      have hb := of_decide_eq_true hk
      refine ⟨k, vx.int, ⟨by omega, by omega, by omega, by omega, by omega⟩, fun z hz => ?_⟩
      have rr : Rvs K0 F (rgV 0 k) (rangeD k) := by
        refine .of_get (by simp [rgV, rangeD]) fun i v d h1 h2 => ?_
        unfold rgV at h1
        unfold rangeD at h2
        rw [List.getElem?_map] at h1 h2
        cases h3 : (List.range (k - 0).toNat)[i]? with
        | none => rw [h3] at h1; cases h1
        | some j =>
          rw [h3] at h1
          have e2 : (List.range k.toNat)[i]? = some j := by
            have : (k - 0).toNat = k.toNat := by omega
            rw [← this]; exact h3
          rw [e2] at h2
          cases h1
          cases h2
          show Rv K0 F (V.int (0 + (j : Int))) _
          have : (0 : Int) + (j : Int) = (j : Int) := by omega
          rw [this]
          exact .int _
      exact Kont.lst q e1 dk hz rr
    · exact q.elim
  | _ => exact q.elim
end
end Dk

set_option Elab.async false
set_option linter.all false
set_option maxRecDepth 100000
/-! Sound10: soundness of expressions, all together. -/
namespace Dk
open PySem PySem.Spec PyProof.Rows L2
variable [TabEnv]

section
variable (gl : Gls) (T : Nat → Option FD) (n : Nat) (M : List Nat)
def SE (m : Nat) : Prop := ∀ (sc : PySem.Scope) (pk : Bool) (e : PySem.Expr) (c : CE) (X : Cx) (G : Sig), compE gl G.N M m sc pk e = some c → CtxE gl T n G sc X →
  PE X e (spE G (mdOf pk) (evalE (call T n) c)) ∧ (isIte e = false → PT X e (spT G (asB (evalE (call T n) c)))) ∧ (isFreshE e = true → PE X e (spE G .fresh (evalE (call T n) c)))
def SEs (m : Nat) : Prop := ∀ (sc : PySem.Scope) (pk : Bool) (es : List PySem.Expr) (cs : List CE) (X : Cx) (G : Sig), compEs gl G.N M m sc pk es = some cs → CtxE gl T n G sc X →
  PA X es (spA G (mdOf pk) (evalEs (call T n) cs)) ∧ (∀ e ∈ es, noStar e = true) ∧ cs.length = es.length
def SB (m : Nat) : Prop := ∀ (sc : PySem.Scope) (op : PySem.BoolOp) (es : List PySem.Expr) (c : CE) (X : Cx) (G : Sig) (pos : Pos), compB gl G.N M m sc op es = some c → CtxE gl T n G sc X →
  PE X (.BoolOp op es pos) (spE G .leak (evalE (call T n) c)) ∧ PW X (.BoolOp op es pos) (spT G (asB (evalE (call T n) c)))
def SO (m : Nat) : Prop := ∀ (sc : PySem.Scope) (o : Option PySem.Expr) (c : Option CE) (X : Cx) (G : Sig), compO gl G.N M m sc o = some c → CtxE gl T n G sc X → PO X o (spO G (evalO (call T n) c))
def ST (m : Nat) : Prop := ∀ (sc : PySem.Scope) (es : List PySem.Expr) (c : Option CE) (X : Cx) (G : Sig), compT gl G.N M m sc es = some c → CtxE gl T n G sc X → PTs X es (spT G (evalT (call T n) c))
def SI (m : Nat) : Prop := ∀ (sc : PySem.Scope) (pk : Bool) (tg it : PySem.Expr) (k : ItK) (src : List CE) (X : Cx) (G : Sig), compI gl G.N M m sc pk tg it = some (k, src) → CtxE gl T n G sc X →
  PI X tg it (spI G (mdOf pk) fun r D => (evalEs (call T n) src r D).bind fun vs D => Out.lift (itemsD k vs) D) ∧ ∀ x, foldedSetIterable it X.env x = pure x
def SC (m : Nat) : Prop := ∀ (sc : PySem.Scope) (f : PySem.Str) (args : List PySem.Expr) (c : CE) (X : Cx) (G : Sig) (p pos : Pos), compCall gl G.N M m sc f args = some c → CtxE gl T n G sc X → glB sc f = true → (!isDbg f) = true →
  PE X (.Call (.Name f p) args [] pos) (spE G .leak (evalE (call T n) c))
structure SAll (m : Nat) : Prop where
  e : SE gl T n M m
  es : SEs gl T n M m
  b : SB gl T n M m
  o : SO gl T n M m
  t : ST gl T n M m
  i : SI gl T n M m
  c : SC gl T n M m
end

section
variable {gl : Gls} {T : Nat → Option FD} {n : Nat} {M : List Nat} {m : Nat}
theorem pe_pk {X : Cx} {G : Sig} {e : PySem.Expr} {o : OE} {pk : Bool} (h : PE X e (spE G (mdOf pk) o)) : PE X e (spE G .peek o) := by
  cases pk with
  | false => exact pe_peek h
  | true => exact h
theorem pw_eq {X : Cx} {G : Sig} {e : PySem.Expr} {o o' : OE} (h : PW X e (spT G (asB o))) (q : ∀ r D, o r D = o' r D) : PW X e (spT G (asB o')) := by
  have : o = o' := funext fun r => funext fun D => q r D
  rw [← this]; exact h
theorem sEs_succ (A : SAll gl T n M m) : SEs gl T n M (m + 1) := by
  intro sc pk es cs X G h c
  unfold compEs at h
  cases es with
  | nil =>
    simp only [Option.some.injEq] at h
    subst h
    exact ⟨pa_eq pa_nilS fun r D => by rw [evalEs], by simp, rfl⟩
  | cons e es =>
    simp only at h
    split at h
    · rename_i hst
      cases h1 : compE gl G.N M m sc pk e with
      | none => simp [h1] at h
      | some x =>
        cases h2 : compEs gl G.N M m sc pk es with
        | none => simp [h1, h2] at h
        | some xs =>
          simp only [h1, h2, Option.some.injEq] at h
          subst h
          obtain ⟨p1, _, _⟩ := A.e sc pk e x X G h1 c
          obtain ⟨p2, st, ln⟩ := A.es sc pk es xs X G h2 c
          refine ⟨pa_eq (pa_consS (mdOf_ne pk) p1 p2 (star_cons hst)) fun r D => by rw [evalEs], ?_, by simp [ln]⟩
          intro e' he
          rcases List.mem_cons.mp he with rfl | he
          · exact hst
          · exact st e' he
    · cases h
theorem sB_succ (A : SAll gl T n M m) : SB gl T n M (m + 1) := by
  intro sc op es c X G pos h cx
  unfold compB at h
  match es, h with
  | [], h => simp at h
  | [e], h =>
    simp only at h
    split at h
    · cases h
    · rename_i hi
      obtain ⟨p1, p2, _⟩ := A.e sc false e c X G h cx
      have hi' : isIte e = false := by simpa using hi
      refine ⟨pe_one p1, ?_⟩
      cases op with
      | And => exact pw_and1 (p2 hi')
      | Or => exact pw_or1 (p2 hi')
  | e :: e2 :: es, h =>
    simp only at h
    split at h
    · cases h
    · rename_i hi
      have hi' : isIte e = false := by simpa using hi
      cases h1 : compE gl G.N M m sc false e with
      | none => simp [h1] at h
      | some x =>
        cases h2 : compB gl G.N M m sc op (e2 :: es) with
        | none => simp [h1, h2] at h
        | some y =>
          simp only [h1, h2, Option.some.injEq] at h
          subst h
          obtain ⟨p1, p2, _⟩ := A.e sc false e x X G h1 cx
          obtain ⟨q1, q2⟩ := A.b sc op (e2 :: es) y X G pos h2 cx
          cases op with
          | And =>
            refine ⟨pe_eq (pe_andS (pe_peek p1) q1) fun r D => by rw [evalE]; try rfl, ?_⟩
            exact pw_eq (pw_andS (p2 hi') q2) fun r D => by rw [evalE]; try rfl
          | Or =>
            refine ⟨pe_eq (pe_orS (pe_peek p1) q1) fun r D => by rw [evalE]; try rfl, ?_⟩
            exact pw_eq (pw_orS (p2 hi') q2) fun r D => by rw [evalE]; try rfl
theorem sO_succ (A : SAll gl T n M m) : SO gl T n M (m + 1) := by
  intro sc o c X G h cx
  unfold compO at h
  cases o with
  | none =>
    simp only [Option.some.injEq] at h
    subst h
    have e : oOpt none = evalO (call T n) none := by funext r D; rw [evalO]; rfl
    rw [← e]
    exact po_noneS
  | some e =>
    simp only [Option.map_eq_some_iff] at h
    obtain ⟨x, h1, rfl⟩ := h
    obtain ⟨p1, _, _⟩ := A.e sc false e x X G h1 cx
    have q : oOpt (some (evalE (call T n) x)) = evalO (call T n) (some x) := by funext r D; rw [evalO]; rfl
    rw [← q]
    exact po_someS (pe_peek p1)
theorem sT_succ (A : SAll gl T n M m) : ST gl T n M (m + 1) := by
  intro sc es c X G h cx
  unfold compT at h
  match es, h with
  | [], h =>
    simp only [Option.some.injEq] at h
    subst h
    refine ⟨fun pins s σ H Q I q => pts_nil.run pins s σ H Q I ?_⟩
    obtain ⟨F, dc, D, r, R, q⟩ := q
    rw [evalT] at q
    exact q F H (Stp.refl R.fh R.dice)
  | [e], h =>
    simp only at h
    split at h
    · cases h
    · rename_i hi
      simp only [Option.map_eq_some_iff] at h
      obtain ⟨x, h1, rfl⟩ := h
      obtain ⟨_, p2, _⟩ := A.e sc false e x X G h1 cx
      have q : asB (evalE (call T n) x) = evalT (call T n) (some x) := by funext r D; rw [evalT]; rfl
      rw [← q]
      exact pts_one (p2 (by simpa using hi))
  | _ :: _ :: _, h => simp at h
theorem fset_ok {e : PySem.Expr} (h : (match e with | .Set _ _ _ => false | _ => true) = true) (env : PySem.Env) : ∀ x, foldedSetIterable e env x = pure x := by
  intro x
  cases e <;> first | rfl | (simp at h)
theorem sI_succ (A : SAll gl T n M m) : SI gl T n M (m + 1) := by
  intro sc pk tg it k src X G h cx
  have seq : ∀ e, compE gl G.N M m sc pk e = none ∨ (∃ x, compE gl G.N M m sc pk e = some x ∧ PI X tg e (spI G (mdOf pk) fun r D => (evalEs (call T n) [x] r D).bind fun vs D => Out.lift (itemsD .seq vs) D)) := by
    intro e
    cases h1 : compE gl G.N M m sc pk e with
    | none => exact .inl rfl
    | some x =>
      obtain ⟨p1, _, _⟩ := A.e sc pk e x X G h1 cx
      refine .inr ⟨x, rfl, pi_eq (pi_seqS (mdOf_ne pk) p1) fun r D => ?_⟩
      rw [evalEs]
      cases evalE (call T n) x r D with
      | ok d D1 => simp only [Out.ok_bind]; rw [evalEs]; rfl
      | exc c D1 => rfl
      | stuck => rfl
  unfold compI at h
  split at h
  · rename_i f fp args p
    split at h
    · rename_i q
      simp only [Bool.and_eq_true] at q
      obtain ⟨⟨⟨q1, q2⟩, q3⟩, q4⟩ := q
      have ef := eq_of_beq q3
      subst ef
      simp only [Option.map_eq_some_iff, Prod.mk.injEq] at h
      obtain ⟨xs, h1, rfl, rfl⟩ := h
      obtain ⟨pa, st, _⟩ := A.es sc pk args xs X G h1 cx
      match args, pa, st, q4 with
      | [a], pa, st, _ => exact ⟨pi_rangeS (mdOf_ne pk) (gl_of cx q1) (cx.amb.free _ (by decide +kernel) (by simpa using q2)) pa (star_cons (st a (by simp))), fset_ok rfl _⟩
      | [], pa, st, q4 => simp at q4
      | _ :: _ :: _, pa, st, q4 => simp at q4
    · split at h
      · rename_i q
        simp only [Bool.and_eq_true] at q
        obtain ⟨⟨⟨⟨q1, q2⟩, q3⟩, q4⟩, q5⟩ := q
        have ef := eq_of_beq q3
        subst ef
        simp only [Option.map_eq_some_iff, Prod.mk.injEq] at h
        obtain ⟨xs, h1, rfl, rfl⟩ := h
        obtain ⟨pa, st, _⟩ := A.es sc pk args xs X G h1 cx
        cases tg <;> simp [isTupE] at q5
        match args, pa, st, q4 with
        | [a], pa, st, _ => exact ⟨pi_enumS (mdOf_ne pk) (gl_of cx q1) (cx.amb.free _ (by decide +kernel) (by simpa using q2)) pa (star_cons (st a (by simp))), fset_ok rfl _⟩
        | [], pa, st, q4 => simp at q4
        | _ :: _ :: _, pa, st, q4 => simp at q4
      · split at h
        · rename_i q
          simp only [Bool.and_eq_true] at q
          obtain ⟨⟨⟨⟨q1, q2⟩, q3⟩, q4⟩, q5⟩ := q
          have ef := eq_of_beq q3
          subst ef
          simp only [Option.map_eq_some_iff, Prod.mk.injEq] at h
          obtain ⟨xs, h1, rfl, rfl⟩ := h
          obtain ⟨pa, st, _⟩ := A.es sc pk args xs X G h1 cx
          cases tg <;> simp [isTupE] at q5
          match args, pa, st, q4 with
          | [a, b], pa, st, _ => exact ⟨pi_zipS (mdOf_ne pk) (gl_of cx q1) (cx.amb.free _ (by decide +kernel) (by simpa using q2)) pa (star_cons (st a (by simp))) (star_none fun e' he => st e' (by simp at he; simp [he])), fset_ok rfl _⟩
          | [], pa, st, q4 => simp at q4
          | [_], pa, st, q4 => simp at q4
          | _ :: _ :: _ :: _, pa, st, q4 => simp at q4
        · simp only [Option.map_eq_some_iff, Prod.mk.injEq] at h
          obtain ⟨x, h1, rfl, rfl⟩ := h
          rcases seq (.Call (.Name f fp) args [] p) with z | ⟨y, z1, z2⟩
          · rw [h1] at z; cases z
          · rw [h1] at z1; cases z1
            exact ⟨z2, fset_ok rfl _⟩
  · split at h
    · cases h
    · rename_i hset
      simp only [Option.map_eq_some_iff, Prod.mk.injEq] at h
      obtain ⟨x, h1, rfl, rfl⟩ := h
      rcases seq it with z | ⟨y, z1, z2⟩
      · rw [h1] at z; cases z
      · rw [h1] at z1; cases z1
        refine ⟨z2, fset_ok ?_ _⟩
        cases it <;> first | rfl | (exact absurd rfl (hset _ _ _))
end
end Dk

set_option Elab.async false
set_option linter.all false
set_option maxRecDepth 100000
/-! Sound11: soundness of expressions, the end. -/
namespace Dk
open PySem PySem.Spec PyProof.Rows L2
variable [TabEnv]

/-! ### targets -/
def gOf (K : Fr) : Tg → TG
  | .name i => gName i
  | .tup is => gTup K is.length (gsOf is)
theorem tgName_ok {N : List PySem.Str} {sc : PySem.Scope} {e : PySem.Expr} {i : Nat} (h : tgName N sc e = some i) : ∃ x p, e = .Name x p ∧ locB sc x = true ∧ N[i]? = some x ∧ N[i]? ≠ some ("dice" : PySem.Str) := by
  unfold tgName at h
  split at h
  · rename_i x p
    split at h
    · rename_i q
      rw [Bool.and_eq_true] at q
      refine ⟨x, p, rfl, q.1, findIx_get h, ?_⟩
      rw [findIx_get h]
      intro z
      cases z
      simp [isDice] at q
    · cases h
  · cases h
theorem mapO_cons {α β : Type} {f : α → Option β} {x : α} {xs : List α} {ys : List β} (h : mapO f (x :: xs) = some ys) : ∃ y zs, f x = some y ∧ mapO f xs = some zs ∧ ys = y :: zs := by
  unfold mapO at h
  cases h1 : f x with
  | none => simp [h1] at h
  | some y =>
    cases h2 : mapO f xs with
    | none => simp [h1, h2] at h
    | some zs => simp only [h1, h2, Option.some.injEq] at h; exact ⟨y, zs, rfl, rfl, h.symm⟩
section
variable {X : Cx} {N : List PySem.Str} {sc : PySem.Scope}
theorem pg_names (hN : X.N = N) (nd : N.Nodup) (hl : ∀ x, locB sc x = true → L2.Loc X.env.scope x ∧ (X.fn x = true ∨ X.env.scope.names.lookup x = some .local)) : ∀ {ts : List PySem.Expr} {is : List Nat}, mapO (tgName N sc) ts = some is →
    PGs X ts (gsOf is) ∧ NoDice N is ∧ (assignEach ts X.env).length = is.length ∧ (assignEach ts X.env).findIdx? (·.1) = none ∧ (∀ t ∈ ts, ∃ x p, t = .Name x p)
  | [], is, h => by
    simp only [mapO, Option.some.injEq] at h
    subst h
    exact ⟨pgs_nil, fun _ h => by simp at h, rfl, rfl, by simp⟩
  | t :: ts, is, h => by
    obtain ⟨i, js, h1, h2, rfl⟩ := mapO_cons h
    obtain ⟨x, p, rfl, l1, l2, l3⟩ := tgName_ok h1
    obtain ⟨r1, r2, r3, r4, r5⟩ := pg_names hN nd hl h2
    obtain ⟨q1, q2⟩ := hl x l1
    refine ⟨pgs_cons (pg_name (by rw [hN]; exact nd) (by rw [hN]; exact l2) q1 q2) r1 rfl, fun j hj => ?_, ?_, ?_, ?_⟩
    · rcases List.mem_cons.mp hj with rfl | hj
      · exact l3
      · exact r2 j hj
    · have : (assignEach (.Name x p :: ts) X.env) = (false, PySem.assign (.Name x p) X.env) :: assignEach ts X.env := rfl
      rw [this]; simp [r3]
    · have : (assignEach (.Name x p :: ts) X.env) = (false, PySem.assign (.Name x p) X.env) :: assignEach ts X.env := rfl
      rw [this, List.findIdx?_cons]
      simp [r4]
    · intro t ht
      rcases List.mem_cons.mp ht with rfl | ht
      · exact ⟨x, p, rfl⟩
      · exact r5 t ht
theorem pg_tg (hN : X.N = N) (nd : N.Nodup) (hc : X.calm = true) (hl : ∀ x, locB sc x = true → L2.Loc X.env.scope x ∧ (X.fn x = true ∨ X.env.scope.names.lookup x = some .local)) {tg : PySem.Expr} {t : Tg} (h : compTg N sc tg = some t) :
    PG X tg (gOf X.K t) ∧ NoDice N (tgIx t) := by
  unfold compTg at h
  split at h
  · rename_i ts k p
    simp only [Option.map_eq_some_iff] at h
    obtain ⟨is, h1, rfl⟩ := h
    obtain ⟨r1, r2, r3, r4, _⟩ := pg_names hN nd hl h1
    exact ⟨pg_tup hc r1 r3 r4, r2⟩
  · simp only [Option.map_eq_some_iff] at h
    obtain ⟨i, h1, rfl⟩ := h
    obtain ⟨x, p, rfl, l1, l2, l3⟩ := tgName_ok h1
    obtain ⟨q1, q2⟩ := hl x l1
    refine ⟨pg_name (by rw [hN]; exact nd) (by rw [hN]; exact l2) q1 q2, fun j hj => ?_⟩
    simp only [tgIx, List.mem_singleton] at hj
    subst hj
    exact l3
theorem gok_of {X : Cx} {t : Tg} (hn : NoDice N (tgIx t)) : GOk N t (gOf X.K t) := by
  cases t with
  | name i => exact gok_name hn
  | tup is => exact gok_tup hn
end
theorem lookup_rel (sc : PySem.Scope) (x : PySem.Str) : ∀ (l : List (PySem.Str × NameKind)) {k : NameKind}, l.lookup x = some k → k ≠ .free →
    (l.map fun (n, k) => if (k == .free && sc.kind == .function && sc.names.lookup n == some .cell) then (n, NameKind.cell) else (n, k)).lookup x = some k
  | [], k, h, _ => by cases h
  | (n, j) :: l, k, h, hk => by
    rw [List.lookup_cons] at h
    simp only [List.map_cons]
    split
    · rename_i q
      rw [List.lookup_cons]
      cases e : x == n with
      | true =>
        simp only [e] at h
        cases h
        simp only [Bool.and_eq_true] at q
        exact absurd (eq_of_beq q.1.1) hk
      | false => simp only [e] at h ⊢; exact lookup_rel sc x l h hk
    · rw [List.lookup_cons]
      cases e : x == n with
      | true => simp only [e] at h ⊢; exact h
      | false => simp only [e] at h ⊢; exact lookup_rel sc x l h hk
theorem relS_loc {scope sc : PySem.Scope} {x : PySem.Str} (h : locB scope x = true) : L2.Loc (relS scope sc) x ∧ ((scope.names.lookup x == some .cell) = true ∨ (relS scope sc).names.lookup x = some .local) := by
  unfold locB at h
  split at h
  · rename_i e
    have := lookup_rel sc x _ e (by simp)
    exact ⟨.inl this, .inr this⟩
  · rename_i e
    have := lookup_rel sc x _ e (by simp)
    exact ⟨.inr this, .inl (by rw [e]; rfl)⟩
  · cases h

section
variable {gl : Gls} {T : Nat → Option FD} {n : Nat} {M : List Nat} {m : Nat} {G : Sig} {sc : PySem.Scope} {X : Cx}
/-- a comprehension's block -/
theorem CtxE.blk (c : CtxE gl T n G sc X) (scope : PySem.Scope) (hnt : glB (relS scope sc) toldN = false) (s : Shared) (H : Hp) (C : Addr) (cl : List (PySem.Str × Addr)) (fp : List Addr) :
    CtxE gl T n ⟨G.N, fun _ _ _ => False, G.xa⟩ (relS scope sc) (X.blk s H scope (compEnvC scope cl C X.env) fp) := by
  refine ⟨c.N, c.nd, c.calm, c.room, ?_, fun _ _ _ _ _ _ _ z => (by obtain ⟨_, _, _, _, _, _, _, _, _, _, _, _, z⟩ := z; exact z.elim), c.amb, c.low, fun z => ?_⟩
  · show relS scope X.env.scope = _
    rw [c.sc]
  · have z : glB (relS scope X.env.scope) toldN = true := z
    rw [c.sc, hnt] at z
    cases z
/-! ### what is told -/
theorem excNm_lay : ∀ c < 15, (PyData.str (excNm c)).canLay0 = true := by decide +kernel
theorem excName_lt {c : Nat} {x : String} (h : excName c = some x) : c < 15 ∧ excNm c = Str.ofString x := by
  constructor
  · unfold excName at h
    have := (List.getElem?_eq_some_iff.mp h).1
    simpa using this
  · unfold excNm
    rw [h]
    rfl
/-- the heap in which the lambda is made -/
theorem stp_grow {P : Addr} {q : PySem.Str} {dc : Option Addr} {F H H1 : Hp} {D : DS} (hm : (P, q) ∈ TabEnv.tabs) (fh : Same F H) (dk : DiceOk dc F H D) (g : Grow P H H1) (t1 : TabsOk H1) : Stp dc F H F H1 D := by
  obtain ⟨d0, tf⟩ := dk
  obtain ⟨ps, hP, _⟩ := tf.t _ hm
  have hP : H P = some (.tbl ps) := hP
  have fh1 : Same F H1 := fun a o e => g.k a o (fun z => by
    have := fh a o e
    rw [z, hP] at this
    cases this
    exact tf.n a ps e) (fh a o e)
  refine ⟨Same.refl F, fh1, fun a o e n => (by rw [e] at n; cases n), fun a o e _ nt => g.k a o (fun z => ?_) e, fun a ps' e => ?_, ?_, ⟨t1, tf.n⟩⟩
  · rw [z, hP] at e
    cases e
    exact nt ps rfl
  · by_cases z : a = P
    · rw [z]; exact g.t
    · exact ⟨ps', g.k a _ z e⟩
  · cases D with
    | none => exact d0
    | some p =>
      obtain ⟨a, e1, e2, e3⟩ := d0
      exact ⟨a, e1, g.k a _ (fun z => by rw [z, hP] at e2; cases e2) e2, e3⟩
/-- a new tuple that is told -/
theorem stp_told {dc : Option Addr} {F H H2 : Hp} {D : DS} {tp : Addr} {us : List V} (fh : Same F H) (dk : DiceOk dc F H D) (s : Same H H2) (n : H tp = none) (h2 : H2 tp = some (.tup us)) : Stp dc F H (upd F tp (.tup us)) H2 D := by
  have fn : F tp = none := fh.free n
  obtain ⟨d0, tf⟩ := dk
  refine ⟨fun a o e => by rw [upd_ne (ne_of_none e fn)]; exact e, fun a o e => ?_, fun a o e ne => ?_, fun a o e _ _ => s a o e, fun a ps e => ⟨ps, s a _ e⟩, ?_, ⟨LamX.Tabs.ext tf.t s, tf.n.upd (by intro _ z; cases z)⟩⟩
  · by_cases q : a = tp
    · subst q; rw [upd_same] at e; cases e; exact h2
    · rw [upd_ne q] at e; exact s a o (fh a o e)
  · by_cases q : a = tp
    · subst q; exact n
    · rw [upd_ne q, ne] at e; cases e
  · cases D with
    | none => exact d0
    | some p =>
      obtain ⟨a, e1, e2, e3⟩ := d0
      exact ⟨a, e1, s a _ e2, by rw [upd_ne (ne_of_none e2 n)]; exact e3⟩
theorem noPars_eq {params : Arguments} (h : noPars params = true) : params = ⟨[], [], none, [], [], none, []⟩ := by
  unfold noPars at h
  split at h
  · rfl
  · cases h
theorem pe_toldS (A0 : SAll gl T 0 M m) (cx : CtxE gl T n G sc X) {params : Arguments} {es : List PySem.Expr} {scope : PySem.Scope} {g : PySem.Str} {gp cp lp p pos : Pos} {id : Nat} {ps : List PySem.Str} {xs : List CE} (hgl : gl toldN = some .tell) (hg : glB sc toldN = true) (hL : LamX.lamSB sc scope = true) (hp : noPars params = true)
    (hgg : glB scope g = true) (hd : (!isDbg g) = true) (hnt : glB scope toldN = false) (hne : es ≠ []) (hfn : gl g = some (.fn id false ps)) (hxs : compEs gl G.N M m scope false es = some xs) :
    PE X (.Call (.Name toldN p) [.Lambda params (.Call (.Name g gp) es [] cp) scope lp] [] pos) (spE G .leak (evalE (call T n) (.told id xs))) := by
  have stuck : (∀ vs D, call T n false (toldBase + id) vs D = .stuck) → PE X (.Call (.Name toldN p) [.Lambda params (.Call (.Name g gp) es [] cp) scope lp] [] pos) (spE G .leak (evalE (call T n) (.told id xs))) := fun hs => ⟨fun pins s σ H Q I h => by
    obtain ⟨F, dc, D, r, R, q⟩ := h
    rw [evalE] at q
    cases e : evalEs deadF xs r D with
    | ok vs D1 => simp only [e, Out.calm_ok, Out.ok_bind, hs] at q; exact q.elim
    | exc c D1 => simp only [e, Out.calm_exc, Out.stuck_bind] at q; exact q.elim
    | stuck => simp only [e, Out.calm_stuck, Out.stuck_bind] at q; exact q.elim⟩
  cases n with
  | zero => exact stuck fun vs D => rfl
  | succ n =>
    cases n with
    | zero => exact stuck fun vs D => by rw [callS, cx.amb.tno id]; exact toldC_zero _ _ _ _ _
    | succ k =>
      have hp := noPars_eq hp
      subst hp
      obtain ⟨c, P, h1, h2, h3, h4⟩ := cx.lam (by rw [cx.sc]; exact hg)
      have TD := cx.amb.tell _ hgl
      have LS : LamX.LamS X.env.scope scope := LamX.lamS_by (by rw [cx.sc]; exact hL)
      have body : ∀ (A : Around) (outer : List PySem.Env) (s : Shared) (H : Hp) (E : XK) (f c' : Addr), Room k (A.deeper (LamX.lamEnv X scope s.heap.objs.size f c')) →
          PE (lamN X A outer s H E scope f c') (.Call (.Name g gp) es [] cp) (spE ⟨G.N, E, G.xa⟩ .leak fun r D => (evalEs (call T 0) xs r D).bind fun vs D => call T k false id vs D) := by
        intro A outer s H E f c' hr
        have ps0 : Passes (L2N.CX (lamN X A outer s H E scope f c').prog (lamN X A outer s H E scope f c').w) (lamN X A outer s H E scope f c') E := L2N.passes_call lamN_takes fun _ _ _ _ h => h
        have ck : CtxE gl T k ⟨G.N, E, G.xa⟩ scope (lamN X A outer s H E scope f c') := ⟨cx.N, cx.nd, rfl, hr, rfl, ps0, cx.low k (by omega), fun m hm => cx.low m (by omega), fun z => by
          have z : glB scope toldN = true := z
          rw [hnt] at z; cases z⟩
        have c0 : CtxE gl T 0 ⟨G.N, E, G.xa⟩ scope (lamN X A outer s H E scope f c') := ⟨cx.N, cx.nd, rfl, hr.mono (Nat.zero_le _), rfl, ps0, cx.low 0 (by omega), fun m hm => absurd hm (by omega), fun z => by
          have z : glB scope toldN = true := z
          rw [hnt] at z; cases z⟩
        obtain ⟨pa, st, _⟩ := A0.es scope false es xs (lamN X A outer s H E scope f c') ⟨G.N, E, G.xa⟩ hxs c0
        cases es with
        | nil => exact absurd rfl hne
        | cons a as => exact pe_callFS ck hfn hgg hd st pa
      have pt := pe_tell (k := k) (params := ⟨[], [], none, [], [], none, []⟩) (p := p) (lpos := lp) (pos := pos) TD (gl_of cx hg) h2 h1 h3 h4 cx.room LS rfl (fun _ _ _ _ _ => rfl) body
      refine pe_weak pt fun σ H Q h => ?_
      obtain ⟨F, dc, D, r, R, q⟩ := h
      refine ⟨R.dice.2.t, fun H1 gr t1 => ?_⟩
      have st := stp_grow h3 R.fh R.dice gr t1
      refine ⟨F, dc, D, r, R.step st, ?_⟩
      rw [evalE] at q
      show PostE .leak K0 (toldX G.xa Q) G.xa dc F H1 ((evalEs deadF xs r D).bind fun vs D => call T k false id vs D) Q
      cases e : evalEs deadF xs r D with
      | exc c D1 => simp only [e, Out.calm_exc, Out.stuck_bind] at q; exact q.elim
      | stuck => simp only [e, Out.calm_stuck, Out.stuck_bind] at q; exact q.elim
      | ok vs D1 =>
        simp only [e, Out.calm_ok, Out.ok_bind] at q ⊢
        rw [told_call T k id vs D1 (cx.amb.tno id)] at q
        cases e2 : call T k false id vs D1 with
        | stuck => rw [e2] at q; exact q.elim
        | ok d D2 => rw [e2] at q; exact Kont.step st q
        | exc c D2 =>
          rw [e2] at q
          unfold tellO at q
          cases e3 : excName c with
          | none => simp only [e3] at q; exact q.elim
          | some x =>
            simp only [e3] at q
            obtain ⟨c15, en⟩ := excName_lt e3
            intro F' H' s'
            refine ⟨c, c15, rfl, rfl, fun H2 tp sm nn ht => ?_⟩
            have tot := (st.trans s').trans (stp_told s'.fh s'.dice sm nn ht)
            refine q (.ref tp) _ H2 tot ?_
            have hs1 : (PyData.str (Str.ofString "refused")).canLay0 = true := by decide +kernel
            have hs2 : (PyData.str (Str.ofString x)).canLay0 = true := by rw [← en]; exact excNm_lay c c15
            rw [en]
            exact .tup (Evl.st_of upd_same) (.cons ⟨.str _, hs1⟩ (.cons ⟨.str _, hs2⟩ .nil))
theorem sC_succ (A : SAll gl T n M m) (A0 : SAll gl T 0 M m) : SC gl T n M (m + 1) := by
  intro sc f args c X G p pos h cx hg hd
  unfold compCall at h
  split at h
  · rename_i id dc ps hgl
    split at h
    · rename_i hdc
      subst hdc
      split at h
      · rename_i x xp rest
        split at h
        · rename_i hx
          cases h1 : slotOf G.N sc x with
          | none => simp [h1] at h
          | some j =>
            cases h2 : compEs gl G.N M m sc false rest with
            | none => simp [h1, h2] at h
            | some xs =>
              simp only [h1, h2, Option.some.injEq] at h
              subst h
              obtain ⟨pa, st, _⟩ := A.es sc false rest xs X G h2 cx
              refine pe_eq (pe_callDS cx hgl hg hd h1 hx st pa) fun r D => ?_
              rw [evalE]; simp
        · cases h
      · cases h
    · rename_i hdc
      have hdc : dc = false := by simpa using hdc
      subst hdc
      split at h
      · cases h
      · rename_i hne
        simp only [Option.map_eq_some_iff] at h
        obtain ⟨xs, h1, rfl⟩ := h
        obtain ⟨pa, st, _⟩ := A.es sc false args xs X G h1 cx
        cases args with
        | nil => exact absurd rfl hne
        | cons a as =>
          refine pe_eq (pe_callFS cx hgl hg hd st pa) fun r D => ?_
          rw [evalE]; simp
  · rename_i hgl
    split at h
    · rename_i params g gp es cp scope lp
      split at h
      · rename_i q
        simp only [Bool.and_eq_true] at q
        obtain ⟨⟨⟨⟨⟨⟨q1, q2⟩, q3⟩, q4⟩, q5⟩, q6⟩, q7⟩ := q
        have := eq_of_beq q1
        subst this
        split at h
        · rename_i id ps xs h1 h2
          cases h
          exact pe_toldS A0 cx hgl hg q2 q3 q4 q5 (by simpa using q6) (by intro z; subst z; simp at q7) h1 h2
        · cases h
      · cases h
    · cases h
  · cases h
    refine ⟨fun pins s σ H Q I h => ?_⟩
    obtain ⟨F, dc, D, r, R, q⟩ := h
    have z : evalE (call T n) (.dget 2) r D = .stuck := by
      cases D with
      | none => simp [evalE]
      | some cn => simp [evalE]
    rw [z] at q
    exact q.elim
  · cases h
  · rename_i hgl
    split at h
    · rename_i hf
      have := eq_of_beq hf
      subst this
      split at h
      · rename_i a t tp
        cases h1 : toTy t with
        | none => simp [h1] at h
        | some ty =>
          cases h2 : compE gl G.N M m sc true a with
          | none => simp [h1, h2] at h
          | some x =>
            simp only [h1, h2] at h
            split at h
            · rename_i q
              simp only [Bool.and_eq_true] at q
              cases h
              obtain ⟨p1, _, _⟩ := A.e sc true a x X G h2 cx
              refine pe_eq (pe_isaS cx hgl hg h1 q.1.2 (by simpa using q.2) q.1.1 p1) fun r D => ?_
              rw [evalE]
            · cases h
      · cases h
    · have bi : ∀ args : List PySem.Expr, (match toBi f args.length, compEs gl G.N M m sc true args with
          | some b, some xs => some (CE.bi b xs)
          | _, _ => none) = some c → PE X (.Call (.Name f p) args [] pos) (spE G .leak (evalE (call T n) c)) := by
        intro args h
        cases h1 : toBi f args.length with
        | none => simp [h1] at h
        | some b =>
          cases h2 : compEs gl G.N M m sc true args with
          | none => simp [h1, h2] at h
          | some xs =>
            simp only [h1, h2, Option.some.injEq] at h
            subst h
            obtain ⟨pa, st, _⟩ := A.es sc true args xs X G h2 cx
            cases args with
            | nil =>
              exfalso
              unfold toBi at h1
              simp [biTab] at h1
            | cons a as =>
              refine pe_eq (pe_biS cx h1 hgl hg st pa).1 fun r D => ?_
              rw [evalE]
      split at h
      · rename_i g gp a ap
        split at h
        · rename_i hq
          rw [Bool.and_eq_true] at hq
          have := eq_of_beq hq.1
          subst this
          split at h
          · rename_i q
            simp only [Bool.and_eq_true] at q
            have := eq_of_beq hq.2
            subst this
            simp only [Option.map_eq_some_iff] at h
            obtain ⟨x, h1, rfl⟩ := h
            obtain ⟨p1, _, _⟩ := A.e sc true a x X G h1 cx
            refine pe_leak (pe_eq (pe_listRangeS cx hgl hg (by simpa using q.2) q.1.2 q.1.1 p1) fun r D => ?_)
            rw [evalE, evalEs]
            cases evalE (call T n) x r D with
            | ok d D1 => simp only [Out.ok_bind]; rw [evalEs]; rfl
            | exc c D1 => rfl
            | stuck => rfl
          · cases h
        · exact bi _ h
      · simp only [Bool.and_false, Bool.false_eq_true, if_false] at h
        exact bi _ h
end
end Dk

set_option Elab.async false
set_option linter.all false
set_option maxRecDepth 100000
/-! Sound12: soundness of expressions, the last. -/
namespace Dk
open PySem PySem.Spec PyProof.Rows L2
variable [TabEnv]

section
variable {gl : Gls} {T : Nat → Option FD} {n : Nat} {M : List Nat} {m : Nat} {G : Sig} {sc : PySem.Scope} {X : Cx}
abbrev calmS (G : Sig) : Sig := ⟨G.N, fun _ _ _ => False, G.xa⟩
abbrev Gl3 (T : Nat → Option FD) (n : Nat) (X : Cx) (G : Sig) (pk : Bool) (e : PySem.Expr) (c : CE) : Prop :=
  PE X e (spE G (mdOf pk) (evalE (call T n) c)) ∧ (isIte e = false → PT X e (spT G (asB (evalE (call T n) c)))) ∧ (isFreshE e = true → PE X e (spE G .fresh (evalE (call T n) c)))
def plainT (e : PySem.Expr) : Bool := match e with | .UnaryOp .Not _ _ => false | .BoolOp _ _ _ => false | .IfExp _ _ _ _ => false | .Compare _ _ _ _ => false | _ => true
theorem mk_leak {pk : Bool} {e : PySem.Expr} {c : CE} {o : OE} (h : PE X e (spE G .leak o)) (q : ∀ r D, o r D = evalE (call T n) c r D) (hp : plainT e = true) (hf : isFreshE e = false) : Gl3 T n X G pk e c := by
  have h := pe_eq h q
  exact ⟨pe_md h pk, fun _ => pt_valS (pe_peek h) (val_plain X.env hp), fun z => by rw [hf] at z; cases z⟩
theorem mk_fresh {pk : Bool} {e : PySem.Expr} {c : CE} {o : OE} (h : PE X e (spE G .fresh o)) (q : ∀ r D, o r D = evalE (call T n) c r D) (hp : plainT e = true) : Gl3 T n X G pk e c := by
  have h := pe_eq h q
  exact ⟨pe_md (pe_leak h) pk, fun _ => pt_valS (pe_peek (pe_leak h)) (val_plain X.env hp), fun z => h⟩
theorem const_ok {c : PySem.Const} {d : PyData} {k : Nat} {pos : Pos} (h : constD c = some d) : PE X (.Constant c k pos) (spE G .leak fun _ D => .ok d D) := by
  unfold constD at h
  split at h
  · cases h; exact pe_constS pe_non fun F => .non
  · cases h; exact pe_constS pe_bl fun F => .bl _
  · cases h; exact pe_constS pe_int fun F => .int _
  · split at h
    · rename_i q
      cases h
      exact pe_constS pe_str fun F => ⟨.str _, q⟩
    · cases h
  · cases h
theorem gconst_ok (cx : CtxE gl T n G sc X) {x : PySem.Str} {d : PyData} {pos : Pos} (h : gl x = some (.const d)) (hg : glB sc x = true) (hd : (!isDbg x) = true) : PE X (.Name x pos) (spE G .leak fun _ D => .ok d D) := by
  obtain ⟨v, u, h1, h2, h3⟩ := cx.amb.const x d h
  exact pe_constS (pe_glob (gl_of cx hg) h1 h2 (dbg_of hd).1) h3
theorem ownOf_name {N : List PySem.Str} {tg : PySem.Expr} {own : List (PySem.Str × Nat)} (h : True) : True := trivial
theorem sE_lc (A : SAll gl T n M m) (cx : CtxE gl T n G sc X) {pk : Bool} {elt tg it : PySem.Expr} {ifs : List PySem.Expr} {scope : PySem.Scope} {pos : Pos} {own : List (PySem.Str × Nat)} {t : Tg} {k : ItK} {src : List CE} {test : Option CE} {el : CE}
    (h2 : compTg G.N scope tg = some t) (h3 : compI gl G.N M m sc true tg it = some (k, src)) (h4 : compT gl G.N M m (relS scope sc) ifs = some test) (h5 : compE gl G.N M m (relS scope sc) false elt = some el)
    (hb : blkD G.N sc scope own = true) (ho : own.map (·.2) = tgIx t) : PE X (.ListComp elt [⟨tg, it, ifs, 0⟩] scope pos) (spE G .fresh (evalE (call T n) (.comp (own.map (·.2)) t k src test el))) := by
  obtain ⟨pi, fs⟩ := A.i sc true tg it k src X G h3 cx
  have pg := fun (s : Shared) (H : Hp) (C : Addr) (cl : List (PySem.Str × Addr)) (fp : List Addr) => pg_tg (X := X.blk s H scope (compEnvC scope cl C X.env) fp) (N := G.N) (sc := scope) cx.N cx.nd cx.calm (fun x hx => relS_loc (sc := X.env.scope) hx) h2
  have nd : NoDice G.N (tgIx t) := (pg X.s_0 X.H_0 0 [] []).2
  have bk : BlkOk X.N X.env.scope scope own := by rw [cx.N, cx.sc]; exact blkOk_by (blkD_c hb)
  refine pe_weak (pe_lc (own := own) (g := gOf X.K t) cx.calm (by rw [cx.N]; exact cx.nd) pi bk (fun s H C cl fp => (pg s H C cl fp).1) (fun s H C cl fp => A.t (relS scope sc) ifs test _ (calmS G) h4 (cx.blk scope (blkD_t hb) s H C cl fp)) (fun s H C cl fp => (A.e (relS scope sc) false elt el _ (calmS G) h5 (cx.blk scope (blkD_t hb) s H C cl fp)).1) fs) fun σ H Q h => ?_
  refine sp_comp (G := G) (G0 := calmS G) (m := .peek) (t := t) rfl (fun c d H z => z) (by rw [ho]; exact nd) (by rw [ho]; exact fun _ h => h) (gok_of nd) ?_
  have e : evalE (call T n) (.comp (own.map (·.2)) t k src test el) = fun r D => ((evalEs (call T n) src r D).bind fun vs D => Out.lift (itemsD k vs) D).bind fun its D => (compL (turnF t (own.map (·.2)) r (evalT (call T n) test) (evalE (call T n) el)) its D).calm.bind fun ys D => fits ys D := by
    funext r D
    rw [evalE]
    cases evalEs (call T n) src r D <;> rfl
  rw [e] at h
  exact h
theorem pi_of_pe {m : Md} (hm : m ≠ .fresh) {tg e : PySem.Expr} {x : CE} (p1 : PE X e (spE G m (evalE (call T n) x))) : PI X tg e (spI G m fun r D => (evalE (call T n) x r D).bind fun v D => Out.lift (itemsD .seq [v]) D) := pi_seqS hm p1
theorem sE_lc2 (A : SAll gl T n M m) (cx : CtxE gl T n G sc X) {pk : Bool} {elt tg it tg1 it1 : PySem.Expr} {ifs : List PySem.Expr} {scope : PySem.Scope} {pos : Pos} {own own1 : List (PySem.Str × Nat)} {t t1 : Tg} {k : ItK} {src : List CE} {test : Option CE} {s1 el : CE}
    (h2 : compTg G.N scope tg = some t) (h2' : compTg G.N scope tg1 = some t1) (h3 : compI gl G.N M m sc true tg it = some (k, src)) (h4 : compT gl G.N M m (relS scope sc) ifs = some test) (h6 : compE gl G.N M m (relS scope sc) false it1 = some s1) (h5 : compE gl G.N M m (relS scope sc) false elt = some el)
    (hb : blkD G.N sc scope (own ++ own1) = true) (ho : own.map (·.2) = tgIx t) (ho1 : own1.map (·.2) = tgIx t1) (hi1 : ∀ env x, foldedSetIterable it1 env x = pure x) : PE X (.ListComp elt [⟨tg, it, ifs, 0⟩, ⟨tg1, it1, [], 0⟩] scope pos) (spE G .fresh (evalE (call T n) (.comp2 ((own ++ own1).map (·.2)) (own1.map (·.2)) t k src test t1 s1 el))) := by
  obtain ⟨pi, fs⟩ := A.i sc true tg it k src X G h3 cx
  have pg := fun (s : Shared) (H : Hp) (C : Addr) (cl : List (PySem.Str × Addr)) (fp : List Addr) => pg_tg (X := X.blk s H scope (compEnvC scope cl C X.env) fp) (N := G.N) (sc := scope) cx.N cx.nd cx.calm (fun x hx => relS_loc (sc := X.env.scope) hx) h2
  have pg1 := fun (s : Shared) (H : Hp) (C : Addr) (cl : List (PySem.Str × Addr)) (fp : List Addr) => pg_tg (X := X.blk s H scope (compEnvC scope cl C X.env) fp) (N := G.N) (sc := scope) cx.N cx.nd cx.calm (fun x hx => relS_loc (sc := X.env.scope) hx) h2'
  have nd : NoDice G.N (tgIx t) := (pg X.s_0 X.H_0 0 [] []).2
  have nd1 : NoDice G.N (tgIx t1) := (pg1 X.s_0 X.H_0 0 [] []).2
  have bk : BlkOk X.N X.env.scope scope (own ++ own1) := by rw [cx.N, cx.sc]; exact blkOk_by (blkD_c hb)
  refine pe_weak (pe_lc2 (own := own ++ own1) (vs1 := own1.map (·.2)) (g := gOf X.K t) (g1 := gOf X.K t1) cx.calm (by rw [cx.N]; exact cx.nd) pi bk (fun i hi => by simp only [List.map_append, List.mem_append]; exact .inr hi) (fun s H C cl fp => (pg s H C cl fp).1) (fun s H C cl fp => A.t (relS scope sc) ifs test _ (calmS G) h4 (cx.blk scope (blkD_t hb) s H C cl fp))
    (fun s H C cl fp => pi_of_pe (m := .leak) (by simp) ((A.e (relS scope sc) false it1 s1 _ (calmS G) h6 (cx.blk scope (blkD_t hb) s H C cl fp)).1)) (fun s H C cl fp => (pg1 s H C cl fp).1) (fun s H C cl fp => pts_nil) (fun s H C cl fp => (A.e (relS scope sc) false elt el _ (calmS G) h5 (cx.blk scope (blkD_t hb) s H C cl fp)).1) fs hi1) fun σ H Q h => ?_
  refine sp_comp2 (G := G) (G0 := calmS G) (m := .peek) (t := t) (t1 := t1) rfl (by simp only [List.map_append]; rw [ho, ho1]; exact fun i hi => (List.mem_append.mp hi).elim (nd i) (nd1 i)) (by simp only [List.map_append]; rw [ho]; exact fun i h => List.mem_append.mpr (.inl h)) (gok_of nd) (by rw [ho1]; exact nd1) (by rw [ho1]; exact fun _ h => h) (gok_of nd1) ?_
  have e : evalE (call T n) (.comp2 ((own ++ own1).map (·.2)) (own1.map (·.2)) t k src test t1 s1 el) = fun r D => ((evalEs (call T n) src r D).bind fun vs D => Out.lift (itemsD k vs) D).bind fun its D => (compL2 (turnF2 t t1 ((own ++ own1).map (·.2)) (own1.map (·.2)) r (evalT (call T n) test) (fun r D => (evalE (call T n) s1 r D).bind fun v D => Out.lift (itemsD .seq [v]) D) (evalE (call T n) el)) its D).calm.bind fun ys D => fits ys D := by
    funext r D
    rw [evalE]
    cases evalEs (call T n) src r D with
    | ok vs D1 =>
      simp only [Out.ok_bind]
      cases itemsD k vs with
      | none => rfl
      | some its =>
        simp only [Out.lift_some, Out.ok_bind]
        congr 2
        congr 1
        funext x D
        unfold turnF2 turnF
        congr 1
        funext r1 D
        congr 1
        funext b D
        cases b with
        | false => rfl
        | true =>
          simp only
          cases evalE (call T n) s1 r1 D with
          | ok v1 D2 => rfl
          | exc c D2 => rfl
          | stuck => rfl
    | exc c D1 => rfl
    | stuck => rfl
  rw [e] at h
  exact h
theorem fsi_of {m : Nat} {sc : PySem.Scope} {e : PySem.Expr} {x : CE} (h : compE gl G.N M m sc false e = some x) (env : PySem.Env) : ∀ y, foldedSetIterable e env y = pure y := by
  cases m with
  | zero => simp [compE] at h
  | succ m =>
    refine fset_ok ?_ env
    cases e <;> first | rfl | (simp [compE] at h)
theorem sE_succ (A : SAll gl T n M m) : SE gl T n M (m + 1) := by
  intro sc pk e c X G h cx
  unfold compE at h
  have hu := cx.units
  split at h
  -- constant
  · simp only [Option.map_eq_some_iff] at h
    obtain ⟨d, h1, rfl⟩ := h
    exact mk_leak (const_ok h1) (fun r D => by rw [evalE]) rfl rfl
  -- name
  · rename_i x p
    split at h
    · rename_i i h1
      split at h
      · cases h
      · obtain ⟨q1, q2, q3, q4⟩ := slotOf_ok cx h1
        split at h
        · rename_i hp
          rw [Bool.and_eq_true] at hp
          cases h
          have hpk : pk = true := hp.1
          subst hpk
          have z : PE X (.Name x p) (spE G .peek (evalE (call T n) (.peek i))) := pe_eq (pe_peekS q1 q2 q3 q4) fun r D => by rw [evalE]
          exact ⟨z, fun _ => pt_valS z (val_plain X.env rfl), fun q => by cases q⟩
        · cases h
          exact mk_leak (pe_varS q1 q2 q3 q4) (fun r D => by rw [evalE]) rfl rfl
    · split at h
      · rename_i q
        rw [Bool.and_eq_true] at q
        split at h
        · rename_i d hg
          cases h
          exact mk_leak (gconst_ok cx hg q.1 q.2) (fun r D => by rw [evalE]) rfl rfl
        · cases h
      · cases h
  -- tuple
  · simp only [Option.map_eq_some_iff] at h
    obtain ⟨xs, h1, rfl⟩ := h
    obtain ⟨pa, st, _⟩ := A.es _ _ _ _ X G h1 cx
    exact mk_leak (pe_tupS pa) (fun r D => by rw [evalE]) rfl rfl
  -- list
  · simp only [Option.map_eq_some_iff] at h
    obtain ⟨xs, h1, rfl⟩ := h
    obtain ⟨pa, st, _⟩ := A.es _ _ _ _ X G h1 cx
    exact mk_fresh (pe_lstS pa) (fun r D => by rw [evalE]) rfl
  -- binop
  · split at h
    · rename_i o x y h1 h2 h3
      cases h
      obtain ⟨p1, _, _⟩ := A.e _ _ _ _ X G h2 cx
      obtain ⟨p2, _, _⟩ := A.e _ _ _ _ X G h3 cx
      have z := pe_binS (pos := by assumption) o p1 p2
      rw [bop_to h1] at z
      exact mk_fresh z (fun r D => by rw [evalE]) rfl
    · cases h
  -- usub
  · simp only [Option.map_eq_some_iff] at h
    obtain ⟨x, h1, rfl⟩ := h
    obtain ⟨p1, _, _⟩ := A.e _ _ _ _ X G h1 cx
    exact mk_leak (pe_negS (pe_peek p1)) (fun r D => by rw [evalE]; try rfl) rfl rfl
  -- not
  · split at h
    · cases h
    · rename_i hi
      simp only [Option.map_eq_some_iff] at h
      obtain ⟨x, h1, rfl⟩ := h
      obtain ⟨p1, p2, _⟩ := A.e _ _ _ _ X G h1 cx
      refine ⟨pe_md (pe_eq (pe_notS (pe_peek p1)) fun r D => by rw [evalE]; try rfl) pk, fun _ => pt_eq (pt_notS (p2 (by simpa using hi))) fun r D => by rw [evalE]; try rfl, fun q => by cases q⟩
  -- boolop
  · obtain ⟨p1, p2⟩ := A.b _ _ _ _ X G (by assumption) h cx
    exact ⟨pe_md p1 pk, fun _ => p2.pt, fun q => by cases q⟩
  -- ifexp
  · split at h
    · cases h
    · rename_i hi
      split at h
      · rename_i t x y h1 h2 h3
        cases h
        obtain ⟨_, p1, _⟩ := A.e _ _ _ _ X G h1 cx
        obtain ⟨p2, _, _⟩ := A.e _ _ _ _ X G h2 cx
        obtain ⟨p3, _, _⟩ := A.e _ _ _ _ X G h3 cx
        exact ⟨pe_md (pe_eq (pe_iteS (p1 (by simpa using hi)) p2 p3) fun r D => by rw [evalE]; try rfl) pk, fun q => (nomatch q), fun q => (nomatch q)⟩
      · cases h
  -- compare
  · split at h
    · cases h
    · rename_i hm
      split at h
      · rename_i x y h1 h2
        cases h
        obtain ⟨p1, _, _⟩ := A.e _ _ _ _ X G h1 cx
        obtain ⟨p2, _, _⟩ := A.e _ _ _ _ X G h2 cx
        have z1 : PE X _ (spE G .leak (evalE (call T n) (.cmp (toCop _) x y))) := pe_eq (pe_cmpS (pos := by assumption) hu (toCop _) p1 p2 (by rw [cop_to]; simpa using hm)) fun r D => by rw [evalE]; rfl
        have z2 : PT X _ (spT G (asB (evalE (call T n) (.cmp (toCop _) x y)))) := pt_eq (pt_cmpS (pos := by assumption) hu (toCop _) p1 p2 (by rw [cop_to]; simpa using hm)) fun r D => by rw [evalE]; rfl
        rw [cop_to] at z1 z2
        exact ⟨pe_md z1 pk, fun _ => z2, fun q => (nomatch q)⟩
      · cases h
  -- chain
  · rename_i a0 op op2 b0 c0 p0
    split at h
    · cases h
    · rename_i hm
      split at h
      · rename_i x y z h1 h2 h3
        cases h
        obtain ⟨p1, _, _⟩ := A.e _ _ _ _ X G h1 cx
        obtain ⟨p2, _, _⟩ := A.e _ _ _ _ X G h2 cx
        obtain ⟨p3, _, _⟩ := A.e _ _ _ _ X G h3 cx
        have z1 : PE X _ (spE G .leak (evalE (call T n) (.chain (toCop op) (toCop op2) x y z))) := pe_eq (pe_chainS (pos := by assumption) hu (toCop op) (toCop op2) p1 p2 p3 (by rw [cop_to, cop_to]; simpa using hm)) fun r D => by rw [evalE]; rfl
        have z2 : PT X _ (spT G (asB (evalE (call T n) (.chain (toCop op) (toCop op2) x y z)))) := pt_eq (pt_chainS (pos := by assumption) hu (toCop op) (toCop op2) p1 p2 p3 (by rw [cop_to, cop_to]; simpa using hm)) fun r D => by rw [evalE]; rfl
        rw [cop_to, cop_to] at z1 z2
        exact ⟨pe_md z1 pk, fun _ => z2, fun q => (nomatch q)⟩
      · cases h
  -- slice
  · split at h
    · rename_i x l hh h1 h2 h3
      cases h
      obtain ⟨p1, _, _⟩ := A.e _ _ _ _ X G h1 cx
      exact mk_fresh (pe_sliceS p1 (A.o _ _ _ X G h2 cx) (A.o _ _ _ X G h3 cx)) (fun r D => by rw [evalE]) rfl
    · cases h
  -- rev
  · simp only [Option.map_eq_some_iff] at h
    obtain ⟨x, h1, rfl⟩ := h
    obtain ⟨p1, _, _⟩ := A.e _ _ _ _ X G h1 cx
    exact mk_fresh (pe_revS p1) (fun r D => by rw [evalE]) rfl
  -- name[const]
  · split at h
    · rename_i hx
      split at h
      · rename_i j hj
        split at h
        · rename_i hk
          cases h
          rw [Bool.or_eq_true] at hk
          refine mk_leak (pe_dgetS cx hj hx (hk.imp eq_of_beq eq_of_beq)) (fun r D => ?_) rfl rfl
          rw [evalE.eq_def]
          try rfl
        · cases h
      · cases h
    · split at h
      · rename_i a b h1 h2
        cases h
        obtain ⟨p1, _, _⟩ := A.e _ _ _ _ X G h1 cx
        obtain ⟨p2, _, _⟩ := A.e _ _ _ _ X G h2 cx
        exact mk_leak (pe_ixS p1 (pe_peek p2) (fun _ _ => rfl)) (fun r D => by rw [evalE]) rfl rfl
      · cases h
  -- a[b]
  · split at h
    · rename_i hp
      split at h
      · rename_i a b h1 h2
        cases h
        obtain ⟨p1, _, _⟩ := A.e _ _ _ _ X G h1 cx
        obtain ⟨p2, _, _⟩ := A.e _ _ _ _ X G h2 cx
        exact mk_leak (pe_ixS p1 (pe_peek p2) (plainIx_of hp)) (fun r D => by rw [evalE]) rfl rfl
      · cases h
    · cases h
  -- call
  · split at h
    · rename_i q
      rw [Bool.and_eq_true] at q
      exact mk_leak (A.c _ _ _ _ X G _ _ h cx q.1 q.2) (fun r D => rfl) rfl rfl
    · cases h
  -- comprehension
  · split at h
    · rename_i own t k src test el h1 h2 h3 h4 h5
      split at h
      · rename_i q
        rw [Bool.and_eq_true] at q
        cases h
        exact mk_fresh (sE_lc A cx (pk := pk) h2 h3 h4 h5 q.1 (eq_of_beq q.2)) (fun r D => rfl) rfl
      · cases h
    · cases h
  -- of two clauses
  · split at h
    · rename_i own own1 t t1 k src test s1 el h0 h1 h2 h2' h3 h4 h6 h5
      split at h
      · rename_i q
        simp only [Bool.and_eq_true] at q
        cases h
        exact mk_fresh (sE_lc2 A cx (pk := pk) h2 h2' h3 h4 h6 h5 q.1.1.1 (eq_of_beq q.1.1.2) (eq_of_beq q.1.2) (fun env => fsi_of h6 env)) (fun r D => rfl) rfl
      · cases h
    · cases h
  · cases h
theorem sAllN : ∀ (m n : Nat), SAll gl T n M m
  | 0, n => ⟨fun _ _ _ _ _ _ h _ => by simp [compE] at h, fun _ _ _ _ _ _ h _ => by simp [compEs] at h, fun _ _ _ _ _ _ _ h _ => by simp [compB] at h, fun _ _ _ _ _ h _ => by simp [compO] at h, fun _ _ _ _ _ h _ => by simp [compT] at h, fun _ _ _ _ _ _ _ _ h _ => by simp [compI] at h, fun _ _ _ _ _ _ _ _ h _ _ _ => by simp [compCall] at h⟩
  | m + 1, n => have A := sAllN m n; ⟨sE_succ A, sEs_succ A, sB_succ A, sO_succ A, sT_succ A, sI_succ A, sC_succ A (sAllN m 0)⟩
theorem sAll (m : Nat) : SAll gl T n M m := sAllN m n
end
end Dk

set_option Elab.async false
set_option linter.all false
set_option maxRecDepth 100000
/-! Sound13: statements, from the program's syntax to core terms; soundness. -/
namespace Dk
open PySem PySem.Spec PyProof.Rows L2
variable [TabEnv]

def addNew (a b : List Nat) : List Nat := b.foldl (fun acc i => if acc.contains i then acc else acc ++ [i]) a
section
variable (gl : Gls) (N : List PySem.Str) (M : List Nat)
/-- which lists of the frame's own leak in an expression -/
def leakE : Nat → Bool → PySem.Expr → List Nat
  | 0, _, _ => []
  | n + 1, pk, e =>
    let go (p : Bool) (es : List PySem.Expr) : List Nat := es.foldl (fun acc x => addNew acc (leakE n p x)) []
    match e with
    | .Name x _ => match findIx x N with
      | some i => if !pk && M.contains i then [i] else []
      | none => []
    | .Tuple es _ _ => go false es
    | .List es _ => go false es
    | .BinOp a _ b _ => go true [a, b]
    | .UnaryOp _ a _ => go false [a]
    | .BoolOp _ es _ => go false es
    | .IfExp t a b _ => go false [t, a, b]
    | .Compare a _ bs _ => go true (a :: bs)
    | .Subscript a (.Slice _ _ _ _) _ => go true [a]
    | .Subscript a i _ => addNew (go true [a]) (go false [i])
    | .Call (.Name f _) args _ _ => go (gl f).isNone args
    | _ => []
def frzAll : List Nat → CS → CS
  | [], s => s
  | i :: is, s => .frz i (frzAll is s)
/-- a name = [..] that is swapped -/
def swB (sc : PySem.Scope) (x : PySem.Str) (p : Pos) : PySem.Expr → Bool
  | .ListComp _ _ scope pos => (sc.names.lookup x == some .local) && (p.line == pos.line) && !(scope.names.any fun (n, k) => n == x && (k == .local || k == .cell))
  | _ => false
def isLC : PySem.Expr → Bool
  | .ListComp _ _ _ _ => true
  | _ => false
def locN (sc : PySem.Scope) (ts : List PySem.Expr) : Nat := (ts.filterMap fun
    | .Name id pos => if sc.names.lookup id == some .local && pos.line == (ts.head?.map (·.pos.line)).getD 0 then some id else none
    | _ => none).length
def wid : Nat := 100
/-- a, b = x, y with plain local names on one line -/
def swOk : List PySem.Expr → List PySem.Expr → Bool
  | [.Name x _, .Name y _], [a, b] => (x != y) && noStar a && noStar b && !([a, b].all (foldedForSure 8)) && !([a, b].all (constantsAlone 8))
  | _, _ => false
mutual
def compS : Nat → PySem.Scope → PySem.Stmt → Option CS
  | 0, _, _ => none
  | n + 1, sc, st => match st with
    | .Assign [.Name x p] v _ => if isComp v && !isLC v then none else match tgName N sc (.Name x p), compE gl N M wid sc false v with
      | some i, some e => some (frzAll (leakE gl N M wid false v) (if M.contains i && isFreshE v then .asgO i e else .asg (.name i) e))
      | _, _ => none
    | .Assign [.Tuple ts k p] v _ => match v with
      | .Tuple es _ _ => if locN sc ts == ts.length && !swOk ts es then none else match mapO (tgName N sc) ts, compEs gl N M wid sc false es with
        | some is, some xs => if is.length ≤ 1000 then some (frzAll (leakE gl N M wid false v) (.par is xs)) else none
        | _, _ => none
      | v => match mapO (tgName N sc) ts, compE gl N M wid sc false v with
        | some is, some e => some (frzAll (leakE gl N M wid false v) (.asg (.tup is) e))
        | _, _ => none
    | .Assign [.Subscript (.Name x _) (.Constant (.int k) _ _) _] v _ => if isDice x && (k == 0 || k == 1) then (match slotOf N sc x, compE gl N M wid sc false v with
      | some _, some e => some (.dset k.toNat e)
      | _, _ => none) else none
    | .Expr (.Call (.Attribute (.Name x _) "append" ap) [a] [] cp) _ => if !(ap.endLine == cp.line) then none else match slotOf N sc x with
      | some i => match a with
        | .Call (.Attribute (.Name y _) "pop" ap2) [b] [] cp2 => if !(ap2.endLine == cp2.line) || !noStar b then none else (match slotOf N sc y, compE gl N M wid sc false b with
          | some j, some e => some (.appPop i j e)
          | _, _ => none)
        | a => if noStar a then (match compE gl N M wid sc false a with
          | some e => some (frzAll (leakE gl N M wid false a) (.app i e))
          | none => none) else none
      | none => none
    | .Expr e _ => if isComp e then none else (compE gl N M wid sc false e).map .expr
    | .Return none _ => some (.ret (.const .none))
    | .Return (some e) _ => (compE gl N M wid sc false e).map fun c => frzAll (leakE gl N M wid false e) (.ret c)
    | .Raise (some (.Call (.Name x _) [.Constant (.str _) _ _] [] _)) none _ => if glB sc x && !isDbg x then (match gl x with
      | some (.exc c) => some (.raise c)
      | _ => some (.expr (.dget 2))) else none
    | .If t a b _ => if isIte t then none else match compE gl N M wid sc false t, compSs n sc a, compSs n sc b with
      | some c, some x, some y => some (.cond c x y)
      | _, _, _ => none
    | .For tg it body [] _ => match compTg N sc tg, compI gl N M wid sc false tg it, compSs n sc body with
      | some t, some (k, src), some b => some (.for_ t k src b)
      | _, _, _ => none
    | _ => none
def compSs : Nat → PySem.Scope → List PySem.Stmt → Option (List CS)
  | 0, _, _ => none
  | n + 1, sc, ss => match ss with
    | [] => some []
    | s :: ss => match compS n sc s, compSs n sc ss with
      | some x, some xs => some (x :: xs)
      | _, _ => none
end
end

structure CtxS (gl : Gls) (T : Nat → Option FD) (n : Nat) (G : Sig) (sc : PySem.Scope) (X : Cx) : Prop where
  e : CtxE gl T n G sc X
  kind : sc.kind = .function
  fn : ∀ x, X.fn x = true
  tk : L2N.Takes X (fun cls d _ H => G.E cls d H)
  own : PassesOwn (model X.prog X.w) X.A X.env X.xe

section
variable {gl : Gls} {T : Nat → Option FD} {n : Nat} {M : List Nat} {G : Sig} {sc : PySem.Scope} {X : Cx}
theorem ps_eq {st : PySem.Stmt} {o o' : OS} (h : PS X st (spS G o)) (q : ∀ r D, o r D = o' r D) : PS X st (spS G o') := by
  have : o = o' := funext fun r => funext fun D => q r D
  rw [← this]; exact h
theorem pss_eq {st : List PySem.Stmt} {o o' : OS} (h : PSs X st (spS G o)) (q : ∀ r D, o r D = o' r D) : PSs X st (spS G o') := by
  have : o = o' := funext fun r => funext fun D => q r D
  rw [← this]; exact h
theorem frzAll_ok {st : PySem.Stmt} {c : CS} (h : PS X st (spS G (execS (call T n) c))) : ∀ ls : List Nat, PS X st (spS G (execS (call T n) (frzAll ls c)))
  | [] => h
  | i :: is => ps_eq (ps_frzS (i := i) (frzAll_ok h is)) fun r D => by
    show _ = execS (call T n) (.frz i (frzAll is c)) r D
    rw [execS]
    try (cases ownOf r i <;> rfl)
theorem CtxS.loc (c : CtxS gl T n G sc X) : ∀ x, locB sc x = true → L2.Loc X.env.scope x ∧ (X.fn x = true ∨ X.env.scope.names.lookup x = some .local) := fun x h => ⟨loc_of c.e h, .inl (c.fn x)⟩
theorem sw_lc (c : CtxS gl T n G sc X) (x : PySem.Str) (p : Pos) (l : Nat) : ∀ v : PySem.Expr, (isComp v && !isLC v) = false → swapsWith v (some (.Name x p)) l X.env = pure (swB sc x p v) := by
  intro v h
  cases v <;> first | rfl | (simp [isComp, isLC] at h; done) | skip
  rename_i elt gs scope pos
  have hb : X.env.blockKind = .function := by unfold PySem.Env.blockKind; rw [c.e.sc, c.kind]; rfl
  have hk : X.env.kindOf x = sc.names.lookup x := by unfold PySem.Env.kindOf; rw [c.e.sc]
  unfold swapsWith swB
  simp only [hb, hk]
  rfl
section
variable {m : Nat}
theorem sS_lc (A : SAll gl T n M m) (cx : CtxE gl T n G sc X) {ix : Nat} {y : PySem.Str} {py spos : Pos} (hy : X.N[ix]? = some y) (hyl : X.env.scope.names.lookup y = some .local) {pk : Bool} {elt tg it : PySem.Expr} {ifs : List PySem.Expr} {scope : PySem.Scope} {pos : Pos} {own : List (PySem.Str × Nat)} {t : Tg} {k : ItK} {src : List CE} {test : Option CE} {el : CE}
    (h2 : compTg G.N scope tg = some t) (h3 : compI gl G.N M m sc true tg it = some (k, src)) (h4 : compT gl G.N M m (relS scope sc) ifs = some test) (h5 : compE gl G.N M m (relS scope sc) false elt = some el)
    (hb : blkD G.N sc scope own = true) (ho : own.map (·.2) = tgIx t) (hsw : swapsWith (.ListComp elt [⟨tg, it, ifs, 0⟩] scope pos) (some (.Name y py)) spos.line X.env = pure true) : PS X (.Assign [.Name y py] (.ListComp elt [⟨tg, it, ifs, 0⟩] scope pos) spos) (tAsg (spE G .fresh (evalE (call T n) (.comp (own.map (·.2)) t k src test el))) (gName ix)) := by
  obtain ⟨pi, fs⟩ := A.i sc true tg it k src X G h3 cx
  have pg := fun (s : Shared) (H : Hp) (C : Addr) (cl : List (PySem.Str × Addr)) (fp : List Addr) => pg_tg (X := X.blk s H scope (compEnvC scope cl C X.env) fp) (N := G.N) (sc := scope) cx.N cx.nd cx.calm (fun x hx => relS_loc (sc := X.env.scope) hx) h2
  have nd : NoDice G.N (tgIx t) := (pg X.s_0 X.H_0 0 [] []).2
  have bk : BlkOk X.N X.env.scope scope own := by rw [cx.N, cx.sc]; exact blkOk_by (blkD_c hb)
  refine ps_weak (ps_setLc (own := own) (g := gOf X.K t) cx.calm (by rw [cx.N]; exact cx.nd) hy hyl hsw pi bk (fun s H C cl fp => (pg s H C cl fp).1) (fun s H C cl fp => A.t (relS scope sc) ifs test _ (calmS G) h4 (cx.blk scope (blkD_t hb) s H C cl fp)) (fun s H C cl fp => (A.e (relS scope sc) false elt el _ (calmS G) h5 (cx.blk scope (blkD_t hb) s H C cl fp)).1) fs) fun E σ H h => ?_
  have h : spE G .fresh (evalE (call T n) (.comp (own.map (·.2)) t k src test el)) σ H (fun x H1 => gName ix x σ H1 E.nx) := h
  refine sp_comp (G := G) (G0 := calmS G) (m := .peek) (t := t) rfl (fun c d H z => z) (by rw [ho]; exact nd) (by rw [ho]; exact fun _ h => h) (gok_of nd) ?_
  have e : evalE (call T n) (.comp (own.map (·.2)) t k src test el) = fun r D => ((evalEs (call T n) src r D).bind fun vs D => Out.lift (itemsD k vs) D).bind fun its D => (compL (turnF t (own.map (·.2)) r (evalT (call T n) test) (evalE (call T n) el)) its D).calm.bind fun ys D => fits ys D := by
    funext r D
    rw [evalE]
    cases evalEs (call T n) src r D <;> rfl
  rw [e] at h
  exact h
theorem sS_lc2 (A : SAll gl T n M m) (cx : CtxE gl T n G sc X) {ix : Nat} {y : PySem.Str} {py spos : Pos} (hy : X.N[ix]? = some y) (hyl : X.env.scope.names.lookup y = some .local) {pk : Bool} {elt tg it tg1 it1 : PySem.Expr} {ifs : List PySem.Expr} {scope : PySem.Scope} {pos : Pos} {own own1 : List (PySem.Str × Nat)} {t t1 : Tg} {k : ItK} {src : List CE} {test : Option CE} {s1 el : CE}
    (h2 : compTg G.N scope tg = some t) (h2' : compTg G.N scope tg1 = some t1) (h3 : compI gl G.N M m sc true tg it = some (k, src)) (h4 : compT gl G.N M m (relS scope sc) ifs = some test) (h6 : compE gl G.N M m (relS scope sc) false it1 = some s1) (h5 : compE gl G.N M m (relS scope sc) false elt = some el)
    (hb : blkD G.N sc scope (own ++ own1) = true) (ho : own.map (·.2) = tgIx t) (ho1 : own1.map (·.2) = tgIx t1) (hi1 : ∀ env x, foldedSetIterable it1 env x = pure x) (hsw : swapsWith (.ListComp elt [⟨tg, it, ifs, 0⟩, ⟨tg1, it1, [], 0⟩] scope pos) (some (.Name y py)) spos.line X.env = pure true) : PS X (.Assign [.Name y py] (.ListComp elt [⟨tg, it, ifs, 0⟩, ⟨tg1, it1, [], 0⟩] scope pos) spos) (tAsg (spE G .fresh (evalE (call T n) (.comp2 ((own ++ own1).map (·.2)) (own1.map (·.2)) t k src test t1 s1 el))) (gName ix)) := by
  obtain ⟨pi, fs⟩ := A.i sc true tg it k src X G h3 cx
  have pg := fun (s : Shared) (H : Hp) (C : Addr) (cl : List (PySem.Str × Addr)) (fp : List Addr) => pg_tg (X := X.blk s H scope (compEnvC scope cl C X.env) fp) (N := G.N) (sc := scope) cx.N cx.nd cx.calm (fun x hx => relS_loc (sc := X.env.scope) hx) h2
  have pg1 := fun (s : Shared) (H : Hp) (C : Addr) (cl : List (PySem.Str × Addr)) (fp : List Addr) => pg_tg (X := X.blk s H scope (compEnvC scope cl C X.env) fp) (N := G.N) (sc := scope) cx.N cx.nd cx.calm (fun x hx => relS_loc (sc := X.env.scope) hx) h2'
  have nd : NoDice G.N (tgIx t) := (pg X.s_0 X.H_0 0 [] []).2
  have nd1 : NoDice G.N (tgIx t1) := (pg1 X.s_0 X.H_0 0 [] []).2
  have bk : BlkOk X.N X.env.scope scope (own ++ own1) := by rw [cx.N, cx.sc]; exact blkOk_by (blkD_c hb)
  refine ps_weak (ps_setLc2 (own := own ++ own1) (vs1 := own1.map (·.2)) (g := gOf X.K t) (g1 := gOf X.K t1) cx.calm (by rw [cx.N]; exact cx.nd) hy hyl hsw pi bk (fun i hi => by simp only [List.map_append, List.mem_append]; exact .inr hi) (fun s H C cl fp => (pg s H C cl fp).1) (fun s H C cl fp => A.t (relS scope sc) ifs test _ (calmS G) h4 (cx.blk scope (blkD_t hb) s H C cl fp))
    (fun s H C cl fp => pi_of_pe (m := .leak) (by simp) ((A.e (relS scope sc) false it1 s1 _ (calmS G) h6 (cx.blk scope (blkD_t hb) s H C cl fp)).1)) (fun s H C cl fp => (pg1 s H C cl fp).1) (fun s H C cl fp => pts_nil) (fun s H C cl fp => (A.e (relS scope sc) false elt el _ (calmS G) h5 (cx.blk scope (blkD_t hb) s H C cl fp)).1) fs hi1) fun E σ H h => ?_
  have h : spE G .fresh (evalE (call T n) (.comp2 ((own ++ own1).map (·.2)) (own1.map (·.2)) t k src test t1 s1 el)) σ H (fun x H1 => gName ix x σ H1 E.nx) := h
  refine sp_comp2 (G := G) (G0 := calmS G) (m := .peek) (t := t) (t1 := t1) rfl (by simp only [List.map_append]; rw [ho, ho1]; exact fun i hi => (List.mem_append.mp hi).elim (nd i) (nd1 i)) (by simp only [List.map_append]; rw [ho]; exact fun i h => List.mem_append.mpr (.inl h)) (gok_of nd) (by rw [ho1]; exact nd1) (by rw [ho1]; exact fun _ h => h) (gok_of nd1) ?_
  have e : evalE (call T n) (.comp2 ((own ++ own1).map (·.2)) (own1.map (·.2)) t k src test t1 s1 el) = fun r D => ((evalEs (call T n) src r D).bind fun vs D => Out.lift (itemsD k vs) D).bind fun its D => (compL2 (turnF2 t t1 ((own ++ own1).map (·.2)) (own1.map (·.2)) r (evalT (call T n) test) (fun r D => (evalE (call T n) s1 r D).bind fun v D => Out.lift (itemsD .seq [v]) D) (evalE (call T n) el)) its D).calm.bind fun ys D => fits ys D := by
    funext r D
    rw [evalE]
    cases evalEs (call T n) src r D with
    | ok vs D1 =>
      simp only [Out.ok_bind]
      cases itemsD k vs with
      | none => rfl
      | some its =>
        simp only [Out.lift_some, Out.ok_bind]
        congr 2
        congr 1
        funext x D
        unfold turnF2 turnF
        congr 1
        funext r1 D
        congr 1
        funext b D
        cases b with
        | false => rfl
        | true =>
          simp only
          cases evalE (call T n) s1 r1 D with
          | ok v1 D2 => rfl
          | exc c D2 => rfl
          | stuck => rfl
    | exc c D1 => rfl
    | stuck => rfl
  rw [e] at h
  exact h
end
theorem lc_set {m : Nat} {elt : PySem.Expr} {gs : List Comprehension} {scope : PySem.Scope} {pos : Pos} {e : CE} (A : SAll gl T n M m) (cx : CtxE gl T n G sc X) (h : compE gl G.N M (m + 1) sc false (.ListComp elt gs scope pos) = some e) {ix : Nat} {y : PySem.Str} {py spos : Pos} (hy : X.N[ix]? = some y) (hyl : X.env.scope.names.lookup y = some .local)
    (hsw : swapsWith (.ListComp elt gs scope pos) (some (.Name y py)) spos.line X.env = pure true) : PS X (.Assign [.Name y py] (.ListComp elt gs scope pos) spos) (tAsg (spE G .fresh (evalE (call T n) e)) (gName ix)) := by
  unfold compE at h
  split at h <;> rename_i he <;> try (cases he; done)
  · cases he
    split at h
    · rename_i own t k src test el h1 h2 h3 h4 h5
      split at h
      · rename_i q
        rw [Bool.and_eq_true] at q
        cases h
        exact sS_lc A cx hy hyl (pk := true) h2 h3 h4 h5 q.1 (eq_of_beq q.2) hsw
      · cases h
    · cases h
  · cases he
    split at h
    · rename_i own own1 t t1 k src test s1 el h0 h1 h2 h2' h3 h4 h6 h5
      split at h
      · rename_i q
        simp only [Bool.and_eq_true] at q
        cases h
        exact sS_lc2 A cx hy hyl (pk := true) h2 h2' h3 h4 h6 h5 q.1.1.1 (eq_of_beq q.1.1.2) (eq_of_beq q.1.2) (fun env => fsi_of h6 env) hsw
      · cases h
    · cases h
  · cases h
/-- name = value -/
theorem ps_setAny (c : CtxS gl T n G sc X) {v : PySem.Expr} {e : CE} {x : PySem.Str} {p spos : Pos} {i : Nat} (hv : (isComp v && !isLC v) = false) (hi : tgName G.N sc (.Name x p) = some i) (h : compE gl G.N M (wid) sc false v = some e) :
    PS X (.Assign [.Name x p] v spos) (tAsg (spE G .leak (evalE (call T n) e)) (gName i)) ∧ (isFreshE v = true → PS X (.Assign [.Name x p] v spos) (tAsg (spE G .fresh (evalE (call T n) e)) (gName i))) := by
  obtain ⟨x', p', he, l1, l2, l3⟩ := tgName_ok hi
  cases he
  obtain ⟨p1, _, p3⟩ := (sAll (gl := gl) (T := T) (n := n) (M := M) wid).e sc false v e X G h c.e
  have hN : X.N[i]? = some x := by rw [c.e.N]; exact l2
  have hg : PG X (.Name x p) (gName i) := pg_name (by rw [c.e.N]; exact c.e.nd) hN (c.loc x l1).1 (c.loc x l1).2
  have sw := sw_lc c x p spos.line v hv
  cases hs : swB sc x p v with
  | false =>
    rw [hs] at sw
    have sw' : swapsWithSole [.Name x p] v spos.line X.env = pure false := sw
    exact ⟨ps_asg p1 hg sw' (ss_name _ _ _ _) rfl, fun hf => ps_asg (p3 hf) hg sw' (ss_name _ _ _ _) rfl⟩
  | true =>
    rw [hs] at sw
    cases v <;> try (simp [swB] at hs; done)
    rename_i elt gs scope pos
    have hyl : X.env.scope.names.lookup x = some .local := by
      simp only [swB, Bool.and_eq_true] at hs
      rw [c.e.sc]
      simpa using hs.1.1
    have z := lc_set (m := 99) (sAll 99) c.e h hN hyl sw
    exact ⟨ps_weak z fun E σ H h => sp_fresh_leak h, fun _ => z⟩
end
end Dk

set_option Elab.async false
set_option linter.all false
set_option maxRecDepth 100000
/-! Sound14: soundness of statements. -/
namespace Dk
open PySem PySem.Spec PyProof.Rows L2
variable [TabEnv]

section
variable {gl : Gls} {T : Nat → Option FD} {n : Nat} {M : List Nat} {G : Sig} {sc : PySem.Scope} {X : Cx}
theorem goks_of {N : List PySem.Str} {X : Cx} {t : Tg} (hn : NoDice N (tgIx t)) : GOkS N t (gOf X.K t) := by
  cases t with
  | name i => exact goks_name hn
  | tup is => exact goks_tup hn
def SS (gl : Gls) (T : Nat → Option FD) (n : Nat) (M : List Nat) (m : Nat) : Prop := ∀ (sc : PySem.Scope) (st : PySem.Stmt) (c : CS) (X : Cx) (G : Sig), compS gl G.N M m sc st = some c → CtxS gl T n G sc X → PS X st (spS G (execS (call T n) c))
def SSs (gl : Gls) (T : Nat → Option FD) (n : Nat) (M : List Nat) (m : Nat) : Prop := ∀ (sc : PySem.Scope) (st : List PySem.Stmt) (c : List CS) (X : Cx) (G : Sig), compSs gl G.N M m sc st = some c → CtxS gl T n G sc X → PSs X st (spS G (execB (call T n) c))
theorem locN_eq (c : CtxS gl T n G sc X) (ts : List PySem.Expr) : (parNames X.env ts).length = locN sc ts := by
  have hk : ∀ x, X.env.kindOf x = sc.names.lookup x := by intro x; unfold PySem.Env.kindOf; rw [c.e.sc]
  unfold parNames locN
  simp only [hk]
  try rfl
theorem locN_two {x y : PySem.Str} {px py : Pos} (h : locN sc [.Name x px, .Name y py] = [PySem.Expr.Name x px, .Name y py].length) : sc.names.lookup x = some .local ∧ sc.names.lookup y = some .local ∧ px.line = py.line := by
  unfold locN at h
  simp only [List.head?_cons, Option.map_some, Option.getD_some, List.length_cons, List.length_nil, PySem.Expr.pos] at h
  by_cases h1 : sc.names.lookup x = some .local <;> by_cases h2 : sc.names.lookup y = some .local <;> by_cases h3 : py.line = px.line <;> simp [List.filterMap_cons, h1, h2, h3] at h
  exact ⟨h1, h2, h3.symm⟩
theorem two_noStar {a b : PySem.Expr} (h1 : noStar a = true) (h2 : noStar b = true) : ([a, b].any fun | .Starred .. => true | _ => false) = false := by
  cases a <;> first | (exact (Bool.false_ne_true h1).elim) | (cases b <;> first | (exact (Bool.false_ne_true h2).elim) | rfl)
theorem tVar_of (c : CtxS gl T n G sc X) {x : PySem.Str} {i : Nat} {p : Pos} (h : slotOf G.N sc x = some i) : PE X (.Name x p) (tVar i) := by
  obtain ⟨h1, h2, h3, h4⟩ := slotOf_ok c.e h
  exact pe_var h1 h2 h3 h4
theorem sS_succ {m : Nat} (ih : SSs gl T n M m) : SS gl T n M (m + 1) := by
  intro sc st c X G h cx
  have A := sAll (gl := gl) (T := T) (n := n) (M := M) wid
  unfold compS at h
  split at h
  -- name = v
  · rename_i x0 p0 v0 pos0
    split at h
    · cases h
    · rename_i hv
      split at h
      · rename_i i e h1 h2
        cases h
        obtain ⟨_, _, _, _, _, l3⟩ := tgName_ok h1
        have nd : NoDice G.N [i] := fun j hj => by simp only [List.mem_singleton] at hj; subst hj; exact l3
        obtain ⟨z1, z2⟩ := ps_setAny (spos := pos0) cx (by simpa using hv) h1 h2
        refine frzAll_ok ?_ _
        split
        · rename_i q
          rw [Bool.and_eq_true] at q
          refine ps_weak (z2 q.2) fun E σ H h => tAsg_O nd (spS_of (fun r D => ?_) h)
          rw [execS]; try rfl
        · refine ps_weak z1 fun E σ H h => tAsg_S (gok_name nd) trivial (spS_of (fun r D => ?_) h) (goks_name nd)
          rw [execS]
      · cases h
  -- a, b = v
  · rename_i ts0 k0 p0 v0 pos0
    split at h
    · rename_i es k2 p2
      split at h
      · cases h
      · rename_i hl
        split at h
        · rename_i is xs h1 h2
          split at h
          · rename_i hlen
            cases h
            obtain ⟨r1, r2, r3, r4, _⟩ := pg_names (X := X) cx.e.N cx.e.nd cx.loc h1
            obtain ⟨pa, st, _⟩ := A.es _ _ _ _ X G h2 cx.e
            by_cases hl0 : locN sc ts0 = ts0.length
            · have sw : swOk ts0 es = true := by
                simp only [hl0, beq_self_eq_true, Bool.true_and, Bool.not_eq_true', Bool.not_eq_false] at hl
                exact hl
              unfold swOk at sw
              split at sw
              · rename_i x px y py a b
                simp only [Bool.and_eq_true, bne_iff_ne, ne_eq, Bool.not_eq_true'] at sw
                obtain ⟨i, js, h3, h4, rfl⟩ := mapO_cons h1
                obtain ⟨j, js', h5, h6, rfl⟩ := mapO_cons h4
                simp only [mapO, Option.some.injEq] at h6
                subst h6
                obtain ⟨x', p', ex, l1, l2, l3⟩ := tgName_ok h3
                obtain ⟨y', q', ey, m1, m2, m3⟩ := tgName_ok h5
                cases ex
                cases ey
                obtain ⟨lx, ly, ll⟩ := locN_two hl0
                have hk : ∀ x, X.env.kindOf x = sc.names.lookup x := by intro x; unfold PySem.Env.kindOf; rw [cx.e.sc]
                refine frzAll_ok (ps_eq (ps_parW (i := i) (j := j) cx.e.calm (by rw [cx.e.N]; exact cx.e.nd) (by rw [cx.e.N]; exact l2) (by rw [cx.e.N]; exact m2) (fun e => ?_) (by rw [cx.e.sc]; exact lx) (by rw [cx.e.sc]; exact ly) (ss_two ?_ (by rw [hk]; exact lx) (by rw [hk]; exact ly) ll sw.1.1.1.1 ?_ sw.1.2 sw.2) r2 pa) fun r D => ?_) _
                · subst e
                  exact sw.1.1.1.1 (Option.some.inj (l2.symm.trans m2))
                · unfold PySem.Env.blockKind
                  rw [cx.e.sc, cx.kind]; rfl
                · exact two_noStar sw.1.1.1.2 sw.1.1.2
                · rw [execS]
              · cases sw
            · refine frzAll_ok (ps_eq (ps_parS (is := is) (ss_par ?_) rfl r2 ?_ (pg_tup cx.e.calm r1 r3 r4) pa) fun r D => ?_) _
              · rw [locN_eq cx]; exact hl0
              · exact Nat.le_trans hlen (by decide)
              · rw [execS]
          · cases h
        · cases h
    · rename_i hne
      split at h
      · rename_i is e h1 h2
        cases h
        obtain ⟨r1, r2, r3, r4, _⟩ := pg_names (X := X) cx.e.N cx.e.nd cx.loc h1
        obtain ⟨p1, _, _⟩ := A.e _ _ _ _ X G h2 cx.e
        refine frzAll_ok (ps_weak (ps_asg p1 (pg_tup cx.e.calm r1 r3 r4) (sw_tup _ _ _ _ _ _) (ss_tup ?_ _ _ _ _) rfl) fun E σ H h => tAsg_S (t := .tup is) (gok_tup r2) trivial (spS_of (fun r D => ?_) h) (goks_tup r2)) _
        · cases v0 <;> first | rfl | (exact absurd rfl (hne _ _ _))
        · rw [execS]
      · cases h
  -- dice[k] = v
  · split at h
    · rename_i q
      rw [Bool.and_eq_true, Bool.or_eq_true] at q
      split at h
      · rename_i j e h1 h2
        cases h
        obtain ⟨p1, _, _⟩ := A.e _ _ _ _ X G h2 cx.e
        obtain ⟨g1, _⟩ := slotOf_ok cx.e h1
        refine ps_eq (ps_dsetS (j := j) ?_ (tVar_of cx h1) (pe_peek p1) (q.2.imp eq_of_beq eq_of_beq)) fun r D => ?_
        · rw [← cx.e.N, g1]
          congr 1
          exact eq_of_beq q.1
        · rw [execS]; try rfl
      · cases h
    · cases h
  -- append
  · split at h
    · cases h
    · rename_i hl
      split at h
      · rename_i i h1
        split at h
        · split at h
          · cases h
          · rename_i hl2
            simp only [Bool.or_eq_true, not_or, Bool.not_eq_true', Bool.not_eq_false] at hl2
            split at h
            · rename_i j e h2 h3
              cases h
              obtain ⟨p1, _, _⟩ := A.e _ _ _ _ X G h3 cx.e
              refine ps_eq (ps_appPopS (tVar_of cx h1) (tVar_of cx h2) (pe_peek p1) (star_cons hl2.2) (by simpa using hl) hl2.1) fun r D => ?_
              rw [execS]; try rfl
            · cases h
        · split at h
          · rename_i hst
            split at h
            · rename_i e h2
              cases h
              obtain ⟨p1, _, _⟩ := A.e _ _ _ _ X G h2 cx.e
              refine frzAll_ok (ps_eq (ps_appS (tVar_of cx h1) p1 (star_cons hst) (by simpa using hl)) fun r D => ?_) _
              rw [execS]
            · cases h
          · cases h
      · cases h
  -- expr
  · split at h
    · cases h
    · rename_i hc
      simp only [Option.map_eq_some_iff] at h
      obtain ⟨e, h1, rfl⟩ := h
      obtain ⟨p1, _, _⟩ := A.e _ _ _ _ X G h1 cx.e
      exact ps_eq (ps_exprS (pe_peek p1) (sw_any (by simpa using hc) _ _ _)) fun r D => by rw [execS]
  -- return
  · cases h
    exact ps_eq ps_retNS fun r D => by rw [execS, evalE]; rfl
  · simp only [Option.map_eq_some_iff] at h
    obtain ⟨e, h1, rfl⟩ := h
    obtain ⟨p1, _, _⟩ := A.e _ _ _ _ X G h1 cx.e
    exact frzAll_ok (ps_eq (ps_retS p1) fun r D => by rw [execS]) _
  -- raise
  · split at h
    · rename_i q
      rw [Bool.and_eq_true] at q
      split at h
      · rename_i c hg
        cases h
        obtain ⟨g1, g2, g3, g4, bm, newId, initId, B, g5, g6⟩ := cx.e.amb.exc _ _ hg
        exact ps_eq (ps_raiseS cx.e.calm cx.tk g5 g6 g1 g2 (raises_own g3 g4) (gl_of cx.e q.1) (dbg_of q.2).1) fun r D => by rw [execS]
      · cases h
        refine ⟨fun pins s σ H E I z => ?_⟩
        obtain ⟨F0, H0, F, dc, D, r, R, p⟩ := z
        rw [execS, evalE.eq_def] at p
        cases D <;> exact p.elim
    · cases h
  -- if
  · split at h
    · cases h
    · rename_i hi
      split at h
      · rename_i t x y h1 h2 h3
        cases h
        obtain ⟨_, p1, _⟩ := A.e _ _ _ _ X G h1 cx.e
        refine ps_eq (ps_condS (p1 (by simpa using hi)) (ih _ _ _ X G h2 cx) (ih _ _ _ X G h3 cx)) fun r D => ?_
        rw [execS]; try rfl
      · cases h
  -- for
  · split at h
    · rename_i t k src b h1 h2 h3
      cases h
      obtain ⟨g1, g2⟩ := pg_tg (X := X) cx.e.N cx.e.nd cx.e.calm cx.loc h1
      obtain ⟨p1, p2⟩ := A.i _ _ _ _ _ _ X G h2 cx.e
      refine ps_eq (ps_forS (t := t) cx.own cx.e.calm p1 g1 (goks_of g2) (ih _ _ _ X G h3 cx) p2) fun r D => ?_
      rw [execS]
      cases evalEs (call T n) src r D <;> rfl
    · cases h
  · cases h
theorem sSs_succ {m : Nat} (ih : SS gl T n M m) (ih2 : SSs gl T n M m) : SSs gl T n M (m + 1) := by
  intro sc st c X G h cx
  unfold compSs at h
  split at h
  · cases h
    exact pss_eq pss_nilS fun r D => by rw [execB]
  · split at h
    · rename_i x xs h1 h2
      cases h
      exact pss_eq (pss_consS (ih _ _ _ X G h1 cx) (ih2 _ _ _ X G h2 cx)) fun r D => by rw [execB]
    · cases h
theorem sSall : ∀ m, SS gl T n M m ∧ SSs gl T n M m
  | 0 => ⟨fun _ _ _ _ _ h _ => by simp [compS] at h, fun _ _ _ _ _ h _ => by simp [compSs] at h⟩
  | m + 1 => have z := sSall m; ⟨sS_succ z.2, sSs_succ z.1 z.2⟩
end
end Dk

set_option Elab.async false
set_option linter.all false
set_option maxRecDepth 100000
/-! Sound15: defs. -/
namespace Dk
open PySem PySem.Spec PyProof.Rows L2
variable [TabEnv]

/-- the state at a body's entry -/
theorem rel_start {F H : Hp} {ws : List V} {ds : List PyData} (rr : Rvs K0 F ws ds) (k : Nat) : ∀ (i : Nat) (s : Sl), (startE k ds)[i]? = some s → SlOk K0 F H dc s (ws.map some ++ List.replicate (k - ws.length) none)[i]? := by
  intro i s h
  unfold startE at h
  have hl := rr.len
  by_cases hi : i < ds.length
  · rw [List.getElem?_append_left (by simpa using hi), List.getElem?_map] at h
    cases e : ds[i]? with
    | none => rw [e] at h; cases h
    | some d =>
      rw [e] at h
      cases h
      obtain ⟨v, g1, g2⟩ := rr.get e
      refine ⟨v, ?_, g2⟩
      rw [List.getElem?_append_left (by simpa [hl] using hi), List.getElem?_map, g1]
      rfl
  · rw [List.getElem?_append_right (by simpa using hi), List.getElem?_replicate] at h
    split at h
    · cases h; trivial
    · cases h
theorem startE_own {k : Nat} {ds : List PyData} {i : Nat} {xs : List PyData} : (startE k ds)[i]? ≠ some (.own xs) := by
  intro h
  unfold startE at h
  have := List.mem_of_getElem? h
  simp at this
theorem startE_len {k : Nat} {ds : List PyData} (h : ds.length ≤ k) : (startE k ds).length = k := by
  unfold startE; simp; omega

/-- the name of the lambdas of a def -/
def lamQ (qual : PySem.Str) : PySem.Str := (envOfC qual { names := [], kind := .function, isGenerator := false, isCoroutine := false } 0 0 .none).qual ++ "<lambda>"
/-- the code object of a def that makes lambdas, and its table -/
def LamC (mg : PySem.Str → Option Value) (base : Heap) (fd : FuncData) (qual : PySem.Str) : Prop := ∃ c P, fd.code = .ref c ∧ LamX.TabB base mg c P ∧ (P, lamQ qual) ∈ TabEnv.tabs ∧ ∀ p ∈ TabEnv.tabs, p.1 = P → p.2 = lamQ qual
/-- what stands of a def in the text -/
structure DefOk (gl : Gls) (T : Nat → Option FD) (P : Program) (w : World) (K : Fr) (mg : PySem.Str → Option Value) (base : Heap) (x : PySem.Str) (id : Nat) (dice : Bool) (ps : List PySem.Str) : Prop where
  ex : ∃ (f : Addr) (fd : FuncData) (qual : PySem.Str) (params : Arguments) (body : List PySem.Stmt) (scope : PySem.Scope) (dvs : List V) (kws : List (PySem.Str × V)) (N : List PySem.Str) (M : List Nat) (m : Nat) (b : List CS),
    mg x = some (.ref f) ∧ PySem.W.keepIn K (.ref f) = true ∧ Binds K fd ps [] ∧ FunD K x qual params body scope dvs kws f fd ∧ FnScope N ps scope ∧ compSs gl N M m scope body = some b ∧ T id = some ⟨N.length, ps.length, dice, b⟩ ∧
    (match dice with
      | true => ps.head? = some ("dice" : PySem.Str)
      | false => ("dice" : PySem.Str) ∉ N) ∧
    (glB scope toldN = true → LamC mg base fd qual)

section
variable {gl : Gls} {T : Nat → Option FD} {xa : XA} {n : Nat} {P : Program} {w : World} {K : Fr} {mg : PySem.Str → Option Value} {base : Heap} {x : PySem.Str} {id : Nat} {dice : Bool} {ps : List PySem.Str}
/-- a body's end, as a call's -/
def endO : Res → Out PyData
  | .next _ D => .ok .none D
  | .ret d D => .ok d D
  | .exc c D => .exc c D
  | .stuck => .stuck
theorem post_run {s p : Nat} {b : List CS} {ds : List PyData} {D : DS} {E : XK} {dc : Option Addr} {F H : Hp} {Q : VK} {cf : CallF} (h : PostE .leak K0 E xa dc F H (runFD cf ⟨s, p, dice, b⟩ dice ds D) Q) :
    ds.length + (if dice then 1 else 0) = p ∧ PostE .leak K0 E xa dc F H (endO (execB cf b (if dice then .non :: startE (s - 1) ds else startE s ds) D)) Q := by
  unfold runFD at h
  by_cases q : dice = dice ∧ ds.length + (if dice then 1 else 0) = p
  · rw [if_pos q] at h
    refine ⟨q.2, ?_⟩
    unfold endO
    exact h
  · rw [if_neg q] at h
    exact h.elim
theorem spF_len {fd : FD} {N : List PySem.Str} {b : List CS} (ht : T id = some ⟨N.length, ps.length, dice, b⟩) {vs : List V} {H : Hp} {Q : VK} {E : XK} (h : spF T xa (n + 1) dice id vs H Q E) : vs.length = ps.length := by
  obtain ⟨F, dc, D, ds, ws, e, dk, hw, rr, post⟩ := h
  rw [callS, ht] at post
  obtain ⟨q, _⟩ := post_run post
  have hl := rr.len
  cases dice with
  | true =>
    obtain ⟨a, _, rfl⟩ := hw
    simp at q ⊢
    omega
  | false =>
    simp only at hw
    subst hw
    simp at q
    omega
theorem fnOk_succ (A : ∀ m, m ≤ n → Amb gl T xa m P w K mg base) (D : DefOk gl T P w K mg base x id dice ps) : ∃ f fd, mg x = some (.ref f) ∧ PySem.W.keepIn K (.ref f) = true ∧ Binds K fd ps [] ∧ FnOk P w K mg base (L2N.CX P w) (n + 1) f fd ps (spF T xa (n + 1) dice id) := by
  obtain ⟨f, fd, qual, params, body, scope, dvs, kws, N, M, m, b, h1, h2, h3, Fd, S, hc, ht, hd, hlam⟩ := D.ex
  obtain ⟨oc, od, dV, kV, doc, pm, an, cdv, ct, osl, rfl, lk, hcd, _, _⟩ := Fd.ex
  refine ⟨f, _, h1, h2, h3, fn_of (N := N) lk hcd S (fun vs H Q E h => spF_len (fd := ⟨0, 0, dice, []⟩) ht h) fun A' outer s H vs Q E hr h => ?_⟩
  have hlen := spF_len (fd := ⟨0, 0, dice, []⟩) ht h
  obtain ⟨F, dc, D0, ds, ws, e, dk, hw, rr, post⟩ := h
  have pl : ps.length ≤ N.length := by
    have := congrArg List.length S.pre
    rw [List.length_take] at this
    omega
  have tk : L2N.Takes (cxOf (L2N.CX P w) P w K mg base N qual scope f cdv A' outer s H E) (fun cls d _ H => E cls d H) := L2N.takes_of rfl rfl rfl rfl
  have cx : CtxS gl T n ⟨N, E, xa⟩ scope (cxOf (L2N.CX P w) P w K mg base N qual scope f cdv A' outer s H E) :=
    ⟨⟨rfl, S.nd, rfl, hr, rfl, L2N.passes_call tk fun _ _ _ _ h => h, A n (Nat.le_refl _), fun m hm => A m (Nat.le_of_lt hm), fun z => by
      obtain ⟨c, P, g1, g2, g3, g4⟩ := hlam z
      exact ⟨c, P, g1, g2, g3, g4⟩⟩, S.kind, fun _ => rfl, tk, passes_of rfl⟩
  refine ⟨spS ⟨N, E, xa⟩ (execB (call T n) b), (sSall m).2 scope body b _ ⟨N, E, xa⟩ hc cx, ?_⟩
  rw [callS, ht] at post
  obtain ⟨q, post⟩ := post_run post
  · have hl := rr.len
    have fin : ∀ r, Rel K0 N F H dc D0 r (start N vs) → (∀ (j : Nat) (xs : List PyData), r[j]? ≠ some (.own xs)) → PostE .leak K0 E xa dc F H (endO (execB (call T n) b r D0)) Q → spS ⟨N, E, xa⟩ (execB (call T n) b) { nx := fun _ H' => Q .non H', rt := Q } (start N vs) H := by
      intro r R no po
      refine ⟨F, H, F, dc, D0, r, ⟨R, Stp.refl e dk, fun j xs a q1 q2 => absurd q1 (no j xs)⟩, ?_⟩
      cases ex : execB (call T n) b r D0 with
      | next r' D' =>
        rw [ex] at po
        exact fun σ' F' H' R' ff => po .non F' H' R'.stp .non
      | ret d D' =>
        rw [ex] at po
        exact fun v F' H' s rv => po v F' H' s rv
      | exc c D' => rw [ex] at po; exact po
      | stuck => rw [ex] at po; exact po
    cases dice with
    | true =>
      obtain ⟨a, rfl, rfl⟩ := hw
      simp only [if_true] at post
      have hN : ∃ N', N = ("dice" : PySem.Str) :: N' := by
        have := S.pre
        cases ps with
        | nil => simp at hd
        | cons p ps' =>
          simp at hd
          subst hd
          cases N with
          | nil => simp at pl
          | cons y N' =>
            simp at this
            exact ⟨N', by rw [this.1]⟩
      obtain ⟨N', rfl⟩ := hN
      refine fin _ ⟨e, dk, ?_, fun i s hs => ?_, fun i j xs ys v q1 _ _ _ => ?_, fun j a' q1 q2 => ?_⟩ ?_ post
      · simp only [L2.start, List.length_append, List.length_map, List.length_cons, List.length_replicate, startE]
        simp at hlen pl ⊢
        omega
      · cases i with
        | zero => simp at hs; subst hs; trivial
        | succ i =>
          have hs : (startE ((("dice" : PySem.Str) :: N').length - 1) ds)[i]? = some s := by simpa using hs
          have z := rel_start (dc := some a) (H := H) rr ((("dice" : PySem.Str) :: N').length - 1) i s hs
          have e2 : (start (("dice" : PySem.Str) :: N') (.ref a :: ws))[i + 1]? = (ws.map some ++ List.replicate ((("dice" : PySem.Str) :: N').length - 1 - ws.length) none)[i]? := by
            simp only [L2.start, List.map_cons, List.cons_append, List.getElem?_cons_succ]
            congr 3
            simp
          rw [e2]; exact z
      · cases i with
        | zero => simp at q1
        | succ i => exact absurd (by simpa using q1) (startE_own (k := (("dice" : PySem.Str) :: N').length - 1) (ds := ds) (i := i) (xs := xs))
      · cases q2
        have : j = 0 := by
          cases j with
          | zero => rfl
          | succ j =>
            exfalso
            have hm : ("dice" : PySem.Str) ∈ N' := List.mem_of_getElem? (by simpa using q1)
            exact (List.nodup_cons.mp S.nd).1 hm
        subst this
        rfl
      · intro j xs q1
        cases j with
        | zero => simp at q1
        | succ i => exact absurd (by simpa using q1) (startE_own (k := (("dice" : PySem.Str) :: N').length - 1) (ds := ds) (i := i) (xs := xs))
    | false =>
      simp only at hw
      subst hw
      simp only [Bool.false_eq_true, if_false] at post
      refine fin _ ⟨e, dk, ?_, fun i s hs => ?_, fun i j xs ys v q1 _ _ _ => absurd q1 startE_own, fun j a' q1 q2 => ?_⟩ (fun j xs => startE_own) post
      · simp only [L2.start, List.length_append, List.length_map, List.length_replicate]
        rw [startE_len (by rw [← hl, hlen]; exact pl)]
        omega
      · exact rel_start rr N.length i s hs
      · exact absurd (List.mem_of_getElem? q1) hd
/-- all that stands of the module -/
structure ModOk (gl : Gls) (T : Nat → Option FD) (xa : XA) (P : Program) (w : World) (K : Fr) (mg : PySem.Str → Option Value) (base : Heap) : Prop where
  fn : ∀ x id dice ps, gl x = some (.fn id dice ps) → DefOk gl T P w K mg base x id dice ps
  const : ∀ x d, gl x = some (.const d) → ∃ v u, mg x = some u ∧ RelV v u ∧ ∀ F, Rv K0 F v d
  exc : ∀ x c, gl x = some (.exc c) → mg x = some (.ref (xa c)) ∧ PySem.W.keepIn K (.ref (xa c)) = true ∧ PySem.W.subIn K (.ref (xa c)) (.type "BaseException") = some true ∧ PySem.W.typeIn K (.ref (xa c)) = some (.type "type") ∧
    ∃ bm newId initId B, ExcBaseFacts B newId initId bm ∧ PySem.W.excIn K (xa c) bm newId = true
  tell : ∀ x, gl x = some .tell → ToldDef K mg xa
  tno : ∀ id, T (toldBase + id) = none
  free : ∀ x, x ∈ blNames → gl x = none → mg x = none
theorem amb_all (Mo : ModOk gl T xa P w K mg base) : ∀ n, ∀ m, m ≤ n → Amb gl T xa m P w K mg base
  | 0, m, hm => by
    obtain rfl : m = 0 := Nat.le_zero.mp hm
    refine ⟨fun x id dice ps h => ?_, Mo.const, Mo.exc, Mo.tell, Mo.tno, Mo.free⟩
    obtain ⟨f, fd, qual, params, body, scope, dvs, kws, N, M, m, b, h1, h2, h3, _⟩ := (Mo.fn x id dice ps h).ex
    have no : ∀ {vs H Q E}, spF T xa 0 dice id vs H Q E → False := fun h => by
      obtain ⟨F, dc, D, ds, ws, e, dk, hw, rr, post⟩ := h
      exact post
    exact ⟨f, fd, h1, h2, h3, ⟨fun _ _ _ _ h => (no h).elim, fun _ _ _ _ _ _ _ _ _ _ _ _ _ h => (no h).elim⟩⟩
  | n + 1, m, hm => by
    have low := amb_all Mo n
    by_cases q : m ≤ n
    · exact low m q
    · obtain rfl : m = n + 1 := by omega
      exact ⟨fun x id dice ps h => fnOk_succ low (Mo.fn x id dice ps h), Mo.const, Mo.exc, Mo.tell, Mo.tno, Mo.free⟩
end
end Dk

set_option Elab.async false
set_option linter.all false
set_option maxRecDepth 100000
/-! Sound16: the two defs that cut the script to cells; the law's loop. -/
namespace Dk
open PySem PySem.Spec PyProof.Rows L2
variable [TabEnv]

/-! ### the number of slots stays -/
theorem of_next {α : Type} {x : Out α} {f : α → DS → Res} {r : Env} {D : DS} (h : Res.of x f = .next r D) : ∃ a D1, x = .ok a D1 ∧ f a D1 = .next r D := by
  cases x with
  | ok a D1 => exact ⟨a, D1, rfl, h⟩
  | exc c D1 => cases h
  | stuck => cases h
theorem lift_ok {α : Type} {x : Option α} {D D1 : DS} {a : α} (h : Out.lift x D = .ok a D1) : x = some a ∧ D = D1 := by
  cases x with
  | none => cases h
  | some b => cases h; exact ⟨rfl, rfl⟩
theorem andThen_next {x : Res} {f : Env → DS → Res} {r : Env} {D : DS} (h : x.andThen f = .next r D) : ∃ r1 D1, x = .next r1 D1 ∧ f r1 D1 = .next r D := by
  cases x with
  | next r1 D1 => exact ⟨r1, D1, rfl, h⟩
  | ret d D1 => cases h
  | exc c D1 => cases h
  | stuck => cases h
theorem setAll_elen : ∀ (is : List Nat) (vs : List PyData) (r r' : Env), setAll is vs r = some r' → r'.length = r.length
  | [], [], r, r', h => by simp [setAll] at h; rw [h]
  | i :: is, v :: vs, r, r', h => by simp only [setAll] at h; rw [setAll_elen is vs _ r' h, List.length_set]
  | [], _ :: _, r, r', h => by simp [setAll] at h
  | _ :: _, [], r, r', h => by simp [setAll] at h
theorem setO_elen : ∀ (is : List (Nat × Bool)) (vs : List PyData) (r r' : Env), setO is vs r = some r' → r'.length = r.length
  | [], [], r, r', h => by simp [setO] at h; rw [h]
  | (i, false) :: is, v :: vs, r, r', h => by simp only [setO] at h; rw [setO_elen is vs _ r' h, List.length_set]
  | (i, true) :: is, v :: vs, r, r', h => by
    cases v <;> simp only [setO] at h <;> try (cases h; done)
    rw [setO_elen is vs _ r' h, List.length_set]
  | [], _ :: _, r, r', h => by simp [setO] at h
  | (_, true) :: _, [], r, r', h => by simp [setO] at h
  | (_, false) :: _, [], r, r', h => by simp [setO] at h
theorem assign_elen {tg : Tg} {v : PyData} {r r' : Env} (h : Dk.assign tg v r = some r') : r'.length = r.length := by
  cases tg with
  | name i => simp [Dk.assign] at h; rw [← h, List.length_set]
  | tup is =>
    cases v <;> simp only [Dk.assign] at h <;> try (cases h; done)
    exact setAll_elen _ _ _ _ h
theorem forL_elen {f : PyData → Env → DS → Res} (hf : ∀ x r D r' D', f x r D = .next r' D' → r'.length = r.length) : ∀ (xs : List PyData) (r : Env) (D : DS) (r' : Env) (D' : DS), forL f xs r D = .next r' D' → r'.length = r.length
  | [], r, D, r', D', h => by simp only [forL, Res.next.injEq] at h; rw [h.1]
  | x :: xs, r, D, r', D', h => by
    rw [forL] at h
    obtain ⟨r1, D1, h1, h2⟩ := andThen_next h
    rw [forL_elen hf xs r1 D1 r' D' h2, hf x r D r1 D1 h1]
theorem whileL_elen {t : Env → DS → Out PyData} {f : Env → DS → Res} (hf : ∀ r D r' D', f r D = .next r' D' → r'.length = r.length) : ∀ (n : Nat) (r : Env) (D : DS) (r' : Env) (D' : DS), whileL t f n r D = .next r' D' → r'.length = r.length
  | 0, r, D, r', D', h => by simp [whileL] at h
  | n + 1, r, D, r', D', h => by
    rw [whileL] at h
    obtain ⟨a, D1, h1, h2⟩ := of_next h
    split at h2
    · obtain ⟨r1, D2, h3, h4⟩ := andThen_next h2
      rw [whileL_elen hf n r1 D2 r' D' h4, hf r D1 r1 D2 h3]
    · simp only [Res.next.injEq] at h2; rw [h2.1]
    · cases h2
mutual
theorem execS_len {cf : CallF} : ∀ (s : CS) (r : Env) (D : DS) (r' : Env) (D' : DS), execS cf s r D = .next r' D' → r'.length = r.length
  | .asg tg e, r, D, r', D', h => by
    rw [execS] at h
    obtain ⟨v, D1, h1, h2⟩ := of_next h
    obtain ⟨r1, D2, h3, h4⟩ := of_next h2
    cases h4
    exact assign_elen (lift_ok h3).1
  | .asgO i e, r, D, r', D', h => by
    rw [execS] at h
    obtain ⟨v, D1, h1, h2⟩ := of_next h
    cases v <;> simp only at h2 <;> try (cases h2; done)
    cases h2
    rw [List.length_set]
  | .par is es, r, D, r', D', h => by
    rw [execS] at h
    obtain ⟨v, D1, h1, h2⟩ := of_next h
    obtain ⟨r1, D2, h3, h4⟩ := of_next h2
    cases h4
    exact setAll_elen _ _ _ _ (lift_ok h3).1
  | .parO is es, r, D, r', D', h => by
    rw [execS] at h
    obtain ⟨v, D1, h1, h2⟩ := of_next h
    obtain ⟨r1, D2, h3, h4⟩ := of_next h2
    cases h4
    exact setO_elen _ _ _ _ (lift_ok h3).1
  | .app i e, r, D, r', D', h => by
    rw [execS] at h
    obtain ⟨v, D1, h1, h2⟩ := of_next h
    obtain ⟨r1, D2, h3, h4⟩ := of_next h2
    split at h4 <;> cases h4
    rw [List.length_set]
  | .appPop i j e, r, D, r', D', h => by
    rw [execS] at h
    obtain ⟨v, D1, h1, h2⟩ := of_next h
    obtain ⟨r1, D2, h3, h4⟩ := of_next h2
    obtain ⟨k, D3, h5, h6⟩ := of_next h4
    split at h6
    · split at h6
      · split at h6
        · split at h6 <;> cases h6
          rw [List.length_set, List.length_set]
        · cases h6
      · cases h6
    · cases h6
  | .popTo i j, r, D, r', D', h => by
    rw [execS] at h
    split at h
    · split at h
      · split at h <;> cases h
        rw [List.length_set, List.length_set]
      · cases h
    · cases h
  | .setAt i ix e, r, D, r', D', h => by
    rw [execS] at h
    obtain ⟨v, D1, h1, h2⟩ := of_next h
    obtain ⟨r1, D2, h3, h4⟩ := of_next h2
    obtain ⟨k, D3, h5, h6⟩ := of_next h4
    split at h6
    · split at h6 <;> cases h6
      rw [List.length_set]
    · cases h6
  | .frz i s, r, D, r', D', h => by
    rw [execS] at h
    split at h
    · rw [execS_len s _ D r' D' h, List.length_set]
    · exact execS_len s r D r' D' h
  | .dset i e, r, D, r', D', h => by
    rw [execS] at h
    obtain ⟨v, D1, h1, h2⟩ := of_next h
    split at h2 <;> cases h2 <;> rfl
  | .expr e, r, D, r', D', h => by
    rw [execS] at h
    obtain ⟨v, D1, h1, h2⟩ := of_next h
    cases h2; rfl
  | .ret e, r, D, r', D', h => by
    rw [execS] at h
    obtain ⟨v, D1, h1, h2⟩ := of_next h
    cases h2
  | .raise c, r, D, r', D', h => by rw [execS] at h; cases h
  | .cond t a b, r, D, r', D', h => by
    rw [execS] at h
    obtain ⟨v, D1, h1, h2⟩ := of_next h
    split at h2
    · exact execB_len a r D1 r' D' h2
    · exact execB_len b r D1 r' D' h2
    · cases h2
  | .for_ tg k src body, r, D, r', D', h => by
    rw [execS] at h
    obtain ⟨v, D1, h1, h2⟩ := of_next h
    obtain ⟨its, D2, h3, h4⟩ := of_next h2
    refine forL_elen (fun x r D r' D' h => ?_) its r D2 r' D' h4
    obtain ⟨r1, D3, h5, h6⟩ := of_next h
    rw [execB_len body r1 D3 r' D' h6, assign_elen (lift_ok h5).1]
  | .while_ t body, r, D, r', D', h => by
    rw [execS] at h
    exact whileL_elen (fun r D r' D' h => execB_len body r D r' D' h) _ r D r' D' h
theorem execB_len {cf : CallF} : ∀ (b : List CS) (r : Env) (D : DS) (r' : Env) (D' : DS), execB cf b r D = .next r' D' → r'.length = r.length
  | [], r, D, r', D', h => by rw [execB] at h; cases h; rfl
  | s :: ss, r, D, r', D', h => by
    rw [execB] at h
    obtain ⟨r1, D1, h1, h2⟩ := andThen_next h
    rw [execB_len ss r1 D1 r' D' h2, execS_len s r D r1 D1 h1]
end
theorem passN {X : Cx} : Passes (L2N.CX X.prog X.w) X fun _ _ _ => False := fun _ _ _ _ _ _ _ z => by
  obtain ⟨_, _, _, _, _, _, _, _, _, _, _, _, z⟩ := z
  exact z.elim
/-- one cell of the script -/
def spCell (K : Fr) : Sp := fun vs H Q _ => ∃ (a : Addr) (ns : List Int) (k : Int), vs = [.ref a, .int k] ∧ SqL K H a (ns.map V.int) ∧ 0 ≤ k ∧ k ≤ 1000 ∧ ns.length ≤ 1000 ∧ ∀ z H', Same H H' → Q (.int z) H'

/-- an operation of whole numbers, anywhere -/
def isOp4 : BOp → Bool
  | .mul => true | .mod => true | .fdiv => true | .add => true
  | _ => false
theorem op_ints {X : Cx} (b : BOp) (hb4 : isOp4 b = true := by rfl) : ∃ r, OpR X (binaryOp (bop b)) r ∧ ∀ (i j z : Int) (H : Hp) (Q : VK), binD b (.int i) (.int j) = some (.int z) → (∀ H', Same H H' → Q (.int z) H') → r (.int i) (.int j) H Q := by
  cases b with
  | add =>
    refine ⟨_, op_add, fun i j z H Q hb k => ?_⟩
    cases hb
    exact ⟨i, j, rfl, rfl, k H (Same.refl H)⟩
  | mul =>
    refine ⟨_, op_mul.or op_mulW, fun i j z H Q hb k => ?_⟩
    simp only [binD] at hb
    split at hb
    · rename_i hl
      cases hb
      simp only [Bool.or_eq_true, Bool.and_eq_true] at hl
      rcases hl with (hl | hl) | ⟨h1, h2⟩
      · exact .inl ⟨i, j, rfl, rfl, .inl (small64_lt hl), k H (Same.refl H)⟩
      · exact .inl ⟨i, j, rfl, rfl, .inr (small64_lt hl), k H (Same.refl H)⟩
      · exact .inr ⟨i, j, rfl, rfl, wide_mul (small1k_log h1) (small1k_log h2) (by decide) (by decide) (by decide), k H (Same.refl H)⟩
    · cases hb
  | mod =>
    refine ⟨_, op_mod, fun i j z H Q hb k => ?_⟩
    simp only [binD] at hb
    split at hb
    · rename_i hl
      cases hb
      exact ⟨i, j, rfl, rfl, hl, k H (Same.refl H)⟩
    · cases hb
  | fdiv =>
    refine ⟨_, op_fdivW, fun i j z H Q hb k => ?_⟩
    simp only [binD] at hb
    split at hb
    · rename_i hl
      cases hb
      exact ⟨i, j, rfl, rfl, wide_div hl.1 (small1k_log hl.2) (by decide) (by decide), k H (Same.refl H)⟩
    · cases hb
  | sub => cases hb4
  | pow => cases hb4
  | shl => cases hb4
theorem ints_dp {K : Fr} {H : Hp} : ∀ ns : List Int, DpAll K H (ns.map V.int) (ns.map PyData.int)
  | [] => .nil
  | n :: ns => .cons (.int n) (ints_dp ns)
theorem ints_lay : ∀ ns : List Int, PyData.canLayAll0 (ns.map PyData.int) = true
  | [] => rfl
  | n :: ns => by
    have := ints_lay ns
    simp only [List.map_cons, PyData.canLayAll0, this, Bool.and_true]
    rfl
section
variable {P : Program} {w : World} {K : Fr} {mg : PySem.Str → Option Value} {base : Heap} {f : Addr} {fd : FuncData} {qual : PySem.Str} {params : Arguments} {scope : PySem.Scope} {dvs : List V} {kws : List (PySem.Str × V)} {x : PySem.Str}
  {p1 p2 p3 p4 p5 p6 p7 p8 p9 p10 p11 p12 p13 p14 p15 p16 p17 p18 p19 p20 p21 p22 p23 p24 p25 p26 : Pos}
def cellBody (p1 p2 p3 p4 p5 p6 p7 p8 p9 p10 p11 p12 p13 p14 p15 p16 p17 p18 p19 p20 p21 p22 p23 p24 : Pos) : List PySem.Stmt := [
  .If (.Compare (.Name "script" p1) [.Eq] [.List [] p2] p3) [.Return (some (.BinOp (.Name "k" p4) .Mult (.Constant (.int 7919) 0 p5) p6)) p7] [] p8,
  .Return (some (.BinOp (.Subscript (.Name "script" p9) (.BinOp (.Name "k" p10) .Mod (.Call (.Name "len" p11) [.Name "script" p12] [] p13) p14) p15) .Add
    (.BinOp (.BinOp (.Name "k" p16) .FloorDiv (.Call (.Name "len" p17) [.Name "script" p18] [] p19) p20) .Mult (.Constant (.int 104729) 0 p21) p22) p23)) p24]
theorem ok_cell (Fd : FunD K x qual params (cellBody p1 p2 p3 p4 p5 p6 p7 p8 p9 p10 p11 p12 p13 p14 p15 p16 p17 p18 p19 p20 p21 p22 p23 p24) scope dvs kws f fd) (S : FnScope ["script", "k"] ["script", "k"] scope) (hl : scope.names.lookup ("len" : PySem.Str) = some .globalImplicit) (hm : mg "len" = none) :
    FnOk P w K mg base (L2N.CX P w) 1 f fd ["script", "k"] (spCell K) := by
  refine Fd.ok S (fun vs H Q E h => ?_) fun cdv A outer s H vs Q E hr h => ?_
  · obtain ⟨a, ns, k, rfl, _⟩ := h; rfl
  let X := cxOf (L2N.CX P w) P w K mg base ["script", "k"] qual scope f cdv A outer s H E
  have hu : X.A.units + 64 < cLine := by have := hr.un; show (A.deeper _).units + 64 < _; omega
  obtain ⟨rM, oM, sM⟩ := op_ints (X := X) .mul
  obtain ⟨rD, oD, sD⟩ := op_ints (X := X) .mod
  obtain ⟨rF, oF, sF⟩ := op_ints (X := X) .fdiv
  obtain ⟨rA, oA, sA⟩ := op_ints (X := X) .add
  have v0 : ∀ p, PE X (.Name "script" p) (tVar 0) := fun p => pe_var (i := 0) rfl (by
    rcases S.par "script" (by simp) with q | q
    · exact .inl q
    · exact .inr (.inl q)) (by decide +kernel) (by decide +kernel)
  have v1 : ∀ p, PE X (.Name "k" p) (tVar 1) := fun p => pe_var (i := 1) rfl (by
    rcases S.par "k" (by simp) with q | q
    · exact .inl q
    · exact .inr (.inl q)) (by decide +kernel) (by decide +kernel)
  have ln : ∀ p q r, PE X (.Call (.Name "len" p) [.Name "script" q] [] r) (tCB _ (tCons (tVar 0) tNil)) := fun p q r => pe_callB call_len hl hm PySem.boot_len (pa_cons (v0 q) pa_nil)
  refine ⟨_, pss_cons (ps_if (pt_cmpR (op_eqM hu) (v0 _) (pe_lst pa_nil) rfl) (pss_one (ps_ret (pe_op oM (v1 _) pe_int))) pss_nil)
    (pss_one (ps_ret (pe_op oA (pe_ix ix_list (v0 _) (pe_op oD (v1 _) (ln _ _ _)) (fun _ _ => rfl)) (pe_op oM (pe_op oF (v1 _) (ln _ _ _)) pe_int)))), ?_⟩
  obtain ⟨a, ns, k, rfl, hs, k0, k1, hn, fin⟩ := h
  refine ⟨.ref a, rfl, by decide, fun p hp => ?_⟩
  have e1 : Same H (upd H p (.lst [])) := fun b o h => by rw [upd_ne (ne_of_none h hp)]; exact h
  have hs1 := Evl.ex_l (K := K) e1 hs
  refine ⟨.list (ns.map PyData.int), .list [], .lst hs1 (ints_dp ns), .lst (Evl.sq_of upd_same) .nil, ?_, rfl, ?_, ?_⟩
  · have := ints_lay ns
    simpa [PyData.canLay0] using this
  · exact Nat.le_trans (Nat.min_le_right _ _) (by decide)
  · cases ns with
    | nil =>
      refine ⟨true, rfl, iteT ?_⟩
      exact ⟨.int k, rfl, sM k 7919 (k * 7919) _ _ (by simp [binD, small64]) fun H' e => fin _ _ (e1.trans e)⟩
    | cons n ns =>
      refine ⟨false, rfl, iteF ?_⟩
      have hl0 : ((n :: ns).map V.int).length = (n :: ns).length := by simp
      have pos : (0 : Int) < ((n :: ns).map V.int).length := by simp
      have sm : small1k (((n :: ns).map V.int).length : Int) = true := by
        unfold small1k
        rw [hl0]
        have : ((n :: ns).length : Int).natAbs < 2 ^ 1000 := by
          have h1 : ((n :: ns).length : Int).natAbs = (n :: ns).length := rfl
          rw [h1]
          exact Nat.lt_of_le_of_lt hn (by decide +kernel)
        exact decide_eq_true this
      refine ⟨.ref a, rfl, .int k, rfl, .ref a, rfl, _, _, rfl, .inl ⟨_, hs1, rfl⟩, ?_⟩
      refine sD k _ (k % ((n :: ns).map V.int).length) _ _ (by simp only [binD, if_pos pos]) fun H2 e2 => ?_
      have hs2 := Evl.ex_l (K := K) e2 hs1
      have m0 : 0 ≤ k % (((n :: ns).map V.int).length : Int) := Int.emod_nonneg _ (by omega)
      have m1 : k % (((n :: ns).map V.int).length : Int) < ((n :: ns).map V.int).length := Int.emod_lt_of_pos _ pos
      have hx : ∃ z : Int, atI ((n :: ns).map V.int) (k % (((n :: ns).map V.int).length : Int)) = some (.int z) := by
        have h1 : (k % (((n :: ns).map V.int).length : Int)).toNat < (n :: ns).length := by
          rw [← hl0]; omega
        refine ⟨(n :: ns)[(k % (((n :: ns).map V.int).length : Int)).toNat], ?_⟩
        unfold atI ixN
        rw [if_pos m0, if_pos m1]
        simp only [Option.bind_some]
        rw [List.getElem?_map, List.getElem?_eq_getElem h1]
        rfl
      obtain ⟨z, hz⟩ := hx
      refine ⟨a, _, _, .int z, rfl, rfl, hs2, hz, ?_⟩
      refine ⟨.int k, rfl, .ref a, rfl, _, _, rfl, .inl ⟨_, hs2, rfl⟩, ?_⟩
      refine sF k _ (k / ((n :: ns).map V.int).length) _ _ (by simp only [binD, if_pos (And.intro pos sm)]) fun H3 e3 => ?_
      refine sM _ 104729 (k / ((n :: ns).map V.int).length * 104729) _ _ (by simp [binD, small64]) fun H4 e4 => ?_
      exact sA _ _ (z + k / ((n :: ns).map V.int).length * 104729) _ _ (by simp [binD]) fun H5 e5 => fin _ _ ((((e1.trans e2).trans e3).trans e4).trans e5)
end

/-- the cells, each in a list of its own -/
def spRounds (K : Fr) : Sp := fun vs H Q _ => ∃ (a : Addr) (ns : List Int) (hi : Int), vs = [.ref a, .int hi] ∧ SqL K H a (ns.map V.int) ∧ ns.length ≤ 1000 ∧
  ∀ (L : Addr) (ds : List Addr) (H' : Hp), H' L = some (.lst (ds.map V.ref)) → ds.Nodup → L ∉ ds → (∀ d ∈ ds, ∃ c : Int, H' d = some (.lst [.int c, .int 0])) → Same H H' → Q (.ref L) H'
structure RoundsSc (scope cscope : PySem.Scope) : Prop where
  fs : FnScope ["script", "high", "k"] ["script", "high"] scope
  blk : blkC ["script", "high", "k"] scope cscope [("k", 2)] = true
  gl : ∀ x ∈ (["range", "max", "min", "len"] : List PySem.Str), scope.names.lookup x = some .globalImplicit
  c0 : Vis (relS cscope scope) "script"
  c2 : (relS cscope scope).names.lookup ("k" : PySem.Str) = some .local
  cg : (relS cscope scope).names.lookup ("_law_cell" : PySem.Str) = some .globalImplicit
section
variable {P : Program} {w : World} {K : Fr} {mg : PySem.Str → Option Value} {base : Heap} {f fC : Addr} {fd fdC : FuncData} {qual : PySem.Str} {params : Arguments} {scope cscope : PySem.Scope} {dvs : List V} {kws : List (PySem.Str × V)} {x : PySem.Str}
  {p1 p2 p3 p4 p5 p6 p7 p8 p9 p10 p11 p12 p13 p14 p15 p16 p17 p18 p19 p20 p21 p22 p23 p24 p25 p26 : Pos}
def roundsBody (cscope : PySem.Scope) (p1 p2 p3 p4 p5 p6 p7 p8 p9 p10 p11 p12 p13 p14 p15 p16 p17 p18 p19 p20 : Pos) : List PySem.Stmt := [
  .Return (some (.ListComp (.List [.Call (.Name "_law_cell" p1) [.Name "script" p2, .Name "k" p3] [] p4, .Constant (.int 0) 0 p5] p6)
    [⟨.Name "k" p7, .Call (.Name "range" p8) [.Call (.Name "max" p9) [.Constant (.int 1) 0 p10, .Call (.Name "min" p11) [.Name "high" p12, .Call (.Name "len" p13) [.Name "script" p14] [] p15] [] p16] [] p17] [] p18, [], 0⟩] cscope p19)) p20]
theorem ok_rounds (Fd : FunD K x qual params (roundsBody cscope p1 p2 p3 p4 p5 p6 p7 p8 p9 p10 p11 p12 p13 p14 p15 p16 p17 p18 p19 p20) scope dvs kws f fd) (S : RoundsSc scope cscope)
    (hm : ∀ x ∈ (["range", "max", "min", "len"] : List PySem.Str), mg x = none) (gC : mg "_law_cell" = some (.ref fC)) (kC : PySem.W.keepIn K (.ref fC) = true) (bC : Binds K fdC ["script", "k"] []) (FC : FnOk P w K mg base (L2N.CX P w) 1 fC fdC ["script", "k"] (spCell K)) :
    FnOk P w K mg base (L2N.CX P w) 2 f fd ["script", "high"] (spRounds K) := by
  refine Fd.ok S.fs (fun vs H Q E h => ?_) fun cdv A outer s H vs Q E hr h => ?_
  · obtain ⟨a, ns, k, rfl, _⟩ := h; rfl
  let X := cxOf (L2N.CX P w) P w K mg base ["script", "high", "k"] qual scope f cdv A outer s H E
  have v0 : ∀ p, PE X (.Name "script" p) (tVar 0) := fun p => pe_var (i := 0) rfl (by
    rcases S.fs.par "script" (by simp) with q | q
    · exact .inl q
    · exact .inr (.inl q)) (by decide +kernel) (by decide +kernel)
  have v1 : ∀ p, PE X (.Name "high" p) (tVar 1) := fun p => pe_var (i := 1) rfl (by
    rcases S.fs.par "high" (by simp) with q | q
    · exact .inl q
    · exact .inr (.inl q)) (by decide +kernel) (by decide +kernel)
  have ln : ∀ p q r, PE X (.Call (.Name "len" p) [.Name "script" q] [] r) (tCB _ (tCons (tVar 0) tNil)) := fun p q r => pe_callB call_len (S.gl "len" (by decide +kernel)) (hm "len" (by decide +kernel)) PySem.boot_len (pa_cons (v0 q) pa_nil)
  have mn : PE X (.Call (.Name "min" p11) [.Name "high" p12, .Call (.Name "len" p13) [.Name "script" p14] [] p15] [] p16) _ := pe_callB (call_min2 rfl) (S.gl "min" (by decide +kernel)) (hm "min" (by decide +kernel)) (by decide +kernel) (pa_cons (v1 _) (pa_cons (ln _ _ _) pa_nil))
  have mx : PE X (.Call (.Name "max" p9) [.Constant (.int 1) 0 p10, .Call (.Name "min" p11) [.Name "high" p12, .Call (.Name "len" p13) [.Name "script" p14] [] p15] [] p16] [] p17) _ := pe_callB (call_max2 rfl) (S.gl "max" (by decide +kernel)) (hm "max" (by decide +kernel)) (by decide +kernel) (pa_cons pe_int (pa_cons mn pa_nil))
  have rg : PI X (.Name "k" p7) (.Call (.Name "range" p8) [.Call (.Name "max" p9) [.Constant (.int 1) 0 p10, .Call (.Name "min" p11) [.Name "high" p12, .Call (.Name "len" p13) [.Name "script" p14] [] p15] [] p16] [] p17] [] p18) _ := pi_range1 (S.gl "range" (by decide +kernel)) (hm "range" (by decide +kernel)) (pa_cons mx pa_nil)
  have el : ∀ (s : Shared) (H : Hp) (C : Addr) (cl : List (PySem.Str × Addr)) (fp : List Addr), PE (X.blk s H cscope (compEnvC cscope cl C X.env) fp) (.List [.Call (.Name "_law_cell" p1) [.Name "script" p2, .Name "k" p3] [] p4, .Constant (.int 0) 0 p5] p6) _ := fun s H C cl fp =>
    pe_lst (pa_cons (pe_call (X := X.blk s H cscope (compEnvC cscope cl C X.env) fp) (E := fun _ _ _ => False) FC hr S.cg gC kC bC .nil passN (pa_cons (pe_var (i := 0) rfl S.c0 (by decide +kernel) (by decide +kernel)) (pa_cons (pe_var (i := 2) rfl (.inl S.c2) (by decide +kernel) (by decide +kernel)) pa_nil)) (by decide +kernel)) (pa_cons pe_int pa_nil))
  refine ⟨_, pss_one (ps_ret (pe_lc (X := X) (own := [("k", 2)]) (g := gName 2) rfl S.fs.nd rg (blkOk_by S.blk) (fun s H C cl fp => pg_name (X := X.blk s H cscope (compEnvC cscope cl C X.env) fp) S.fs.nd rfl (.inl S.c2) (.inr S.c2)) (fun s H C cl fp => pts_nil) el (fun _ => rfl))), ?_⟩
  obtain ⟨a, ns, hi, rfl, hs, hn, fin⟩ := h
  show tRet _ _ _ _
  refine ⟨.int hi, rfl, .ref a, rfl, _, _, rfl, .inl ⟨_, hs, rfl⟩, hi, _, rfl, 1, _, rfl, _, rfl, ?_⟩
  have hlen : ((ns.map V.int).length : Int) = ns.length := by simp
  generalize hj : (if (if (((ns.map V.int).length : Nat) : Int) < hi then (((ns.map V.int).length : Nat) : Int) else hi) > 1 then (if (((ns.map V.int).length : Nat) : Int) < hi then (((ns.map V.int).length : Nat) : Int) else hi) else 1) = j
  have j0 : 1 ≤ j := by subst hj; split <;> omega
  have j1 : j ≤ 1001 := by subst hj; split <;> split <;> omega
  refine ⟨by omega, by omega, fun D hD => ?_⟩
  refine lc_range (lo := 0) (n := j.toNat) (fun i H' => ∃ ds : List Addr, H' D = some (.lst (ds.map V.ref)) ∧ ds.length = i ∧ ds.Nodup ∧ D ∉ ds ∧ (∀ d ∈ ds, ∃ c : Int, H' d = some (.lst [.int c, .int 0])) ∧ Same H H') ?_ ?_ ?_
  · exact ⟨[], upd_same, rfl, List.nodup_nil, by simp, by simp, fun b o h => by rw [upd_ne (ne_of_none h hD)]; exact h⟩
  · rintro i H2 hi2 ⟨ds, h1, h2, h3, h4, h5, h6⟩
    refine ⟨rfl, ?_⟩
    simp only [tYes, if_true]
    refine ⟨.ref a, rfl, .int (0 + (i : Int)), rfl, a, ns, 0 + (i : Int), rfl, Evl.ex_l h6 hs, by omega, by omega, hn, fun z H3 e3 => ?_⟩
    refine ⟨show 2 ≤ sizeLine by decide, fun p hp => ?_⟩
    have hDp : D ≠ p := fun q => by subst q; rw [e3 _ _ h1] at hp; cases hp
    refine ⟨ds.map V.ref, by rw [upd_ne hDp]; exact e3 _ _ h1, ?_, ds ++ [p], ?_, by simp [h2], ?_, ?_, ?_, ?_⟩
    · rw [List.length_map, h2]; exact Nat.lt_of_lt_of_le hi2 (Nat.le_trans (by omega : j.toNat ≤ 1001) (by decide))
    · rw [upd_same]; simp
    · refine List.nodup_append.mpr ⟨h3, by simp, fun x hx y hy => ?_⟩
      simp only [List.mem_singleton] at hy
      subst hy
      intro q
      subst q
      obtain ⟨c, hc⟩ := h5 x hx
      rw [e3 _ _ hc] at hp
      cases hp
    · simp only [List.mem_append, List.mem_singleton, not_or]
      exact ⟨h4, hDp⟩
    · intro d hd
      simp only [List.mem_append, List.mem_singleton] at hd
      rcases hd with hd | rfl
      · obtain ⟨c, hc⟩ := h5 d hd
        refine ⟨c, ?_⟩
        have q1 : d ≠ D := fun q => h4 (by rw [← q]; exact hd)
        have q2 : d ≠ p := fun q => by subst q; rw [e3 _ _ hc] at hp; cases hp
        rw [upd_ne q1, upd_ne q2]
        exact e3 _ _ hc
      · exact ⟨z, by rw [upd_ne (Ne.symm hDp), upd_same]⟩
    · intro b o h
      have hb := e3 _ _ (h6 b o h)
      rw [upd_ne (ne_of_none h hD), upd_ne (ne_of_none hb hp)]
      exact hb
  · rintro H2 ⟨ds, h1, h2, h3, h4, h5, h6⟩
    exact fin D ds H2 h1 h3 h4 h5 h6
/-- the law: all its turns end -/
def spLaw (K : Fr) : Sp := fun vs H Q _ => ∃ (a : Addr) (ns : List Int), vs = [.ref a] ∧ SqL K H a (ns.map V.int) ∧ ns.length ≤ 1000 ∧ TabsOk H ∧ ∀ H', Q (.bl true) H'
def lawBody (body : List PySem.Stmt) (hi : Int) (p1 p2 p3 p4 p5 p6 p7 p8 : Pos) : List PySem.Stmt := [
  .For (.Name "dice" p1) (.Call (.Name "_law_rounds" p2) [.Name "script" p3, .Constant (.int hi) 0 p4] [] p5) body [] p6,
  .Return (some (.Constant (.bool true) 0 p7)) p8]
theorem ownF {M : Model} {A : Around} {env : PySem.Env} : PassesOwn M A env (fun _ _ => False) := by
  intro e s h
  exact h.elim
theorem ok_law {gl : Gls} {T : Nat → Option FD} {xa : XA} {n : Nat} {N : List PySem.Str} {M : List Nat} {m : Nat} {b : List CS} {body : List PySem.Stmt} {hi : Int} (hn : 2 ≤ n) (A : ∀ m, m ≤ n → Amb gl T xa m P w K mg base) (hlam : glB scope toldN = true → LamC mg base fd qual)
    (Fd : FunD K x qual params (lawBody body hi p1 p2 p3 p4 p5 p6 p7 p8) scope dvs kws f fd) (S : FnScope N ["script"] scope) (h1 : N[1]? = some ("dice" : PySem.Str)) (hd : scope.names.lookup ("dice" : PySem.Str) = some .local ∨ scope.names.lookup ("dice" : PySem.Str) = some .cell)
    (hg : scope.names.lookup ("_law_rounds" : PySem.Str) = some .globalImplicit) (gC : mg "_law_rounds" = some (.ref fC)) (kC : PySem.W.keepIn K (.ref fC) = true) (bC : Binds K fdC ["script", "high"] []) (FC : FnOk P w K mg base (L2N.CX P w) 2 fC fdC ["script", "high"] (spRounds K))
    (hc : compSs gl N M m scope body = some b) (law : ∀ c : Int, ∃ r D, execB (call T n) b (List.replicate N.length .non) (some (c, 0)) = .next r D) :
    FnOk P w K mg base CX0 (n + 1) f fd ["script"] (spLaw K) := by
  obtain ⟨oc, od, dV, kV, doc, pm, an, cdv, ct, osl, rfl, lk, hcd, _, _⟩ := Fd.ex
  refine fn_of lk hcd S (fun vs H Q E h => ?_) fun A' outer s H vs Q E hr h => ?_
  · obtain ⟨a, ns, rfl, _⟩ := h; rfl
  have cx : CtxS gl T n ⟨N, fun _ _ _ => False, xa⟩ scope (cxOf CX0 P w K mg base N qual scope f cdv A' outer s H E).nox :=
    ⟨⟨rfl, S.nd, rfl, hr, rfl, passN, A n (Nat.le_refl _), fun m hm => A m (Nat.le_of_lt hm), fun z => by
      obtain ⟨c, P, g1, g2, g3, g4⟩ := hlam z
      exact ⟨c, P, g1, g2, g3, g4⟩⟩, S.kind, fun _ => rfl, takesN, ownF⟩
  have h0 : N[0]? = some ("script" : PySem.Str) := by
    have := S.pre
    cases N with
    | nil => simp at h1
    | cons y N' => simp at this; rw [this]; rfl
  have v0 : ∀ p, PE (cxOf CX0 P w K mg base N qual scope f cdv A' outer s H E).nox (.Name "script" p) (tVar 0) := fun p => pe_var (i := 0) h0 (by
    rcases S.par "script" (by simp) with q | q
    · exact .inl q
    · exact .inr (.inl q)) (by decide +kernel) (by decide +kernel)
  have rd : PE (cxOf CX0 P w K mg base N qual scope f cdv A' outer s H E).nox (.Call (.Name "_law_rounds" p2) [.Name "script" p3, .Constant (.int hi) 0 p4] [] p5) _ :=
    pe_call (E := fun _ _ _ => False) (FC.mono hn) hr hg gC kC bC .nil passN (pa_cons (v0 _) (pa_cons pe_int pa_nil)) (by decide +kernel)
  refine ⟨_, PSs.nox (pss_cons (ps_for (g := gName 1) (tb := spS ⟨N, fun _ _ _ => False, xa⟩ (execB (call T n) b)) ownF rfl (pi_list rd) (pg_name S.nd h1 hd (.inl rfl)) ((sSall m).2 scope body b _ ⟨N, fun _ _ _ => False, xa⟩ hc cx) (fun _ => rfl)) (pss_one (ps_ret pe_bl))), ?_⟩
  obtain ⟨a, ns, rfl, hs, hnl, htab, fin⟩ := h
  have hN2 : 2 ≤ N.length := (List.getElem?_eq_some_iff.mp h1).1
  refine ⟨.ref a, rfl, a, ns, hi, rfl, hs, hnl, fun L ds H1 g1 g2 g3 g4 g5 => ⟨L, rfl, ⟨_, Evl.sq_of g1⟩, ?_⟩⟩
  refine for_it (walk_list (K := K) (a := L) (xs := ds.map V.ref)) (fun i σ' H' => σ'.length = N.length ∧ H' L = some (.lst (ds.map V.ref)) ∧ TabsOk H' ∧ ∀ j d, i ≤ j → ds[j]? = some d → ∃ c : Int, H' d = some (.lst [.int c, .int 0])) ?_ ?_ ?_ ?_
  · refine ⟨?_, g1, LamX.Tabs.ext htab g5, fun j d _ e => g4 d (List.mem_of_getElem? e)⟩
    simp only [L2.start, List.length_append, List.length_map, List.length_replicate, List.length_cons, List.length_nil]
    omega
  · rintro i σ' H' _ ⟨_, q, _⟩
    exact Evl.sq_of q
  · rintro i x σ' H2 H3 hi2 ⟨q1, q2, qt, q3⟩ ⟨eH, ex⟩
    have eH : H2 = H3 := eH.symm
    subst eH
    rw [List.getElem?_map] at ex
    cases ed : ds[i]? with
    | none => rw [ed] at ex; cases ex
    | some d =>
      rw [ed] at ex
      cases ex
      obtain ⟨c, hcell⟩ := q3 i d (Nat.le_refl _) ed
      obtain ⟨r', D', hex⟩ := law c
      have hdL : d ≠ L := fun q => g3 (by rw [← q]; exact List.mem_of_getElem? ed)
      have e0 : Same (fun _ => none : Hp) H2 := fun a o h => by cases h
      have dk : DiceOk (some d) (fun _ => none) H2 (some (c, 0)) := ⟨⟨d, rfl, hcell, rfl⟩, qt, fun _ _ z => by cases z⟩
      have non : ∀ (j : Nat) (t : Sl), (List.replicate N.length Sl.non)[j]? = some t → t = .non := fun j t e => by
        rw [List.getElem?_replicate] at e
        split at e <;> cases e
        rfl
      refine ⟨fun _ => none, H2, fun _ => none, some d, some (c, 0), List.replicate N.length .non, ⟨⟨e0, dk, by simp [q1], fun j t e => ?_, fun j k xs ys v e => ?_, fun j a' e1 e2 => ?_⟩, Stp.refl e0 dk, fun j xs a e => ?_⟩, ?_⟩
      · rw [non j t e]; trivial
      · have := non j _ e; cases this
      · cases e2
        have : j = 1 := by
          have hj := (List.getElem?_eq_some_iff.mp e1)
          have h1' := (List.getElem?_eq_some_iff.mp h1)
          exact (List.getElem_inj S.nd).mp (hj.2.trans h1'.2.symm)
        subst this
        rw [List.getElem?_set_self (by rw [q1]; omega)]
      · have := non j _ e; cases this
      · rw [hex]
        intro σ2 F2 H4 R2 _
        refine ⟨by rw [R2.rel.len]; have := execB_len _ _ _ _ _ hex; simpa using this, R2.stp.keep L _ q2 (fun q => hdL (Option.some.inj q).symm) (fun _ z => by cases z), R2.stp.dice.2.t, fun j d' hj e => ?_⟩
        obtain ⟨c', hc'⟩ := q3 j d' (by omega) e
        refine ⟨c', R2.stp.keep d' _ hc' (fun q => ?_) (fun _ z => by cases z)⟩
        have hdd : d' = d := Option.some.inj q
        subst hdd
        have e1 := List.getElem?_eq_some_iff.mp e
        have e2 := List.getElem?_eq_some_iff.mp ed
        have := (List.getElem_inj g2).mp (e1.2.trans e2.2.symm)
        omega
  · rintro σ' H' _
    exact fin H'
end
end Dk

set_option Elab.async false
set_option linter.all false
set_option maxRecDepth 100000
set_option maxHeartbeats 0
/-! HookL: what the head leaves: defs, refusals, code objects with their tables. -/
namespace Dk
open PySem PySem.Spec PyProof.Rows L2
def isTabO : Obj → Bool
  | ⟨.none, _, .fields _, _⟩ => true
  | _ => false
def gNo (g : Addr → Option Obj) : Addr → Option Obj := fun a => match g a with
  | some o => if isTabO o then none else some o
  | none => none
/-- what the module's names reach, but for the tables -/
def KL (g : Addr → Option Obj) (n : Nat) : Fr := He.frG (gNo g) (He.asD g n)
theorem gNo_some {g : Addr → Option Obj} {a : Addr} {o : Obj} (h : gNo g a = some o) : g a = some o ∧ isTabO o = false := by
  unfold gNo at h
  cases e : g a with
  | none => rw [e] at h; cases h
  | some u =>
    rw [e] at h
    simp only at h
    cases q : isTabO u with
    | true => rw [q] at h; cases h
    | false => rw [q] at h; cases h; exact ⟨rfl, q⟩
theorem KL_in {n : Nat} {h : Heap} : (KL h.get? n).In h := fun _ _ e => (gNo_some (He.frG_at _ e)).1
theorem KL_no {n : Nat} {g : Addr → Option Obj} {a : Addr} {o : Obj} (h : g a = some o) (t : isTabO o = true) : (KL g n).lookup a = none := by
  cases e : (KL g n).lookup a with
  | none => rfl
  | some u =>
    obtain ⟨e1, e2⟩ := gNo_some (He.frG_at _ e)
    rw [h] at e1; cases e1
    rw [t] at e2; cases e2
/-! ### code objects -/
def cOf (K : Fr) (x : PySem.Str) : Addr := match K.lookup (He.ga K x) with
  | some ⟨_, _, .func fd, _⟩ => (match fd.code with
    | .ref c => c
    | _ => 0)
  | _ => 0
def pOf (K : Fr) (x : PySem.Str) : Addr := match K.lookup (cOf K x) with
  | some ⟨_, _, .fields vs, _⟩ => (match vs.getD 11 .none with
    | .ref P => P
    | _ => 0)
  | _ => 0
def isStrV : Value → Bool
  | .str _ _ => true
  | _ => false
def isIntV : Value → Bool
  | .int _ _ => true
  | _ => false
def isBoolV : Value → Bool
  | .bool _ => true
  | _ => false
def fnCodeB (K : Fr) (x : PySem.Str) : Bool := match K.lookup (He.ga K x) with
  | some ⟨_, _, .func fd, _⟩ => decide (fd.code = .ref (cOf K x))
  | _ => false
def codeB (K : Fr) (x : PySem.Str) : Bool := match K.lookup (cOf K x) with
  | some ⟨.type cn, _, .fields vs, _⟩ => decide (cn = "code") && (decide (vs[11]? = some (.ref (pOf K x))) && (decide (vs.getD 11 .none = .ref (pOf K x)) && (isStrV (vs.getD 18 .none) && (isIntV (vs.getD 7 .none) && (isBoolV (vs.getD 9 .none) && (isIntV (vs.getD 10 .none) && decide (cOf K x ≠ pOf K x)))))))
  | _ => false
def emptyB (g : Addr → Option Obj) (P : Addr) : Bool := match g P with
  | some ⟨.none, none, .fields ps, sl⟩ => ps.isEmpty && sl.isEmpty
  | _ => false
def lmB (g : Addr → Option Obj) (K : Fr) (x : PySem.Str) : Bool := fnCodeB K x && (codeB K x && emptyB g (pOf K x))
structure LmOk (h : Heap) (K : Fr) (x : PySem.Str) : Prop where
  fn : ∀ {oc : Value} {od : Option Addr} {fd : FuncData} {sl : Array (Option Value)}, K.lookup (He.ga K x) = some ⟨oc, od, .func fd, sl⟩ → fd.code = .ref (cOf K x)
  hd : PySem.W.CodeHd h (cOf K x) (pOf K x)
  tb : h.get? (pOf K x) = some { cls := .none, data := .fields #[] }
  no : K.lookup (pOf K x) = none
theorem emptyB_ok {g : Addr → Option Obj} {P : Addr} (h : emptyB g P = true) : g P = some { cls := .none, data := .fields #[] } := by
  unfold emptyB at h
  split at h
  · rename_i ps sl e
    rw [Bool.and_eq_true] at h
    have h1 : ps = #[] := Array.isEmpty_iff.mp h.1
    have h2 : sl = #[] := Array.isEmpty_iff.mp h.2
    subst h1 h2
    exact e
  · cases h
theorem codeB_ok {h : Heap} {K : Fr} {x : PySem.Str} (X : K.In h) (c : codeB K x = true) : PySem.W.CodeHd h (cOf K x) (pOf K x) := by
  unfold codeB at c
  split at c
  · rename_i cn od vs sl e
    simp only [Bool.and_eq_true, decide_eq_true_eq] at c
    obtain ⟨c1, c2, c3, c4, c5, c6, c7, c8⟩ := c
    have s4 : ∃ a b, vs.getD 18 .none = .str a b := by
      cases q : vs.getD 18 .none with
      | str a b => exact ⟨a, b, rfl⟩
      | _ => rw [q] at c4; cases c4
    have s5 : ∃ a b, vs.getD 7 .none = .int a b := by
      cases q : vs.getD 7 .none with
      | int a b => exact ⟨a, b, rfl⟩
      | _ => rw [q] at c5; cases c5
    have s6 : ∃ a, vs.getD 9 .none = .bool a := by
      cases q : vs.getD 9 .none with
      | bool a => exact ⟨a, rfl⟩
      | _ => rw [q] at c6; cases c6
    have s7 : ∃ a b, vs.getD 10 .none = .int a b := by
      cases q : vs.getD 10 .none with
      | int a b => exact ⟨a, b, rfl⟩
      | _ => rw [q] at c7; cases c7
    obtain ⟨a4, b4, s4⟩ := s4
    obtain ⟨a5, b5, s5⟩ := s5
    obtain ⟨a6, s6⟩ := s6
    obtain ⟨a7, b7, s7⟩ := s7
    exact ⟨_, vs, a4, b4, a5, b5, a6, a7, b7, X _ _ e, by rw [c1], rfl, c2, c3, s4, s5, s6, s7, c8⟩
  · cases c
theorem lmB_ok {h : Heap} {n : Nat} {x : PySem.Str} (c : lmB h.get? (KL h.get? n) x = true) : LmOk h (KL h.get? n) x := by
  unfold lmB at c
  simp only [Bool.and_eq_true] at c
  obtain ⟨c1, c2, c3⟩ := c
  have tb := emptyB_ok c3
  refine ⟨fun {oc od fd sl} e => ?_, codeB_ok KL_in c2, tb, KL_no tb rfl⟩
  unfold fnCodeB at c1
  rw [e] at c1
  exact of_decide_eq_true c1
theorem LmOk.keeps {h h' : Heap} {K : Fr} {x : PySem.Str} (l : LmOk h K x) (k : ∀ b o, h.get? b = some o → h'.get? b = some o) : LmOk h' K x := ⟨l.fn, l.hd.keeps k, k _ _ l.tb, l.no⟩
/-! ### refusals -/
def excAt (K : Fr) (c : Nat) : Addr := if c < 15 then He.ga K (excNm c) else He.ga K "DustError"
def excCB (K : Fr) (D : Addr) : Bool := He.eqO (PySem.W.findIn K (.ref D) "__getattribute__") (some (some (.builtin "BaseException.__getattribute__"))) && (He.eqO (PySem.W.findIn K (.ref D) "__getattr__") (some none) && (decide (PySem.W.subIn K (.ref D) (.type "BaseException") = some true) && (PySem.W.hasDictIn K D &&
  (He.eqO (PySem.W.findIn K (.ref D) "__class__") (some (some (.builtin "object.__class__"))) && (He.eqO (PySem.W.specialIn K (.builtin "object.__class__") "__get__") (some (some (.builtin "getset_descriptor.__get__"))) && (decide (PySem.W.takesIn K (.builtin "object.__class__") = some true) && decide (PySem.W.mroIn K D (.type "object") = some true)))))))
theorem excCB_ok {K : Fr} {D : Addr} (h : excCB K D = true) : ExcC K D := by
  unfold excCB at h
  simp only [Bool.and_eq_true, decide_eq_true_eq] at h
  obtain ⟨h1, h2, h3, h4, h5, h6, h7, h8⟩ := h
  exact ⟨He.eqO_ok h1, He.eqO_ok h2, h3, h4, He.eqO_ok h5, He.eqO_ok h6, h7, h8⟩
def exc1B (K : Fr) (c : Nat) : Bool := (He.Fa.glo (excNm c)).ok K && ((He.Fa.exc (excNm c)).ok K && (excCB K (excAt K c) && (decide (PySem.W.exmOne K (.ref (excAt K c)) (.ref (excAt K 15)) = some true) && (decide (PySem.W.kitOne K (.ref (excAt K c)) (.type "ValueError") = some true) &&
  (List.range 15).all fun d => decide (PySem.W.kitOne K (.ref (excAt K c)) (.ref (excAt K d)) = some (decide (c = d)))))))
def excB (K : Fr) : Bool := (He.Fa.glo "DustError").ok K && (List.range 15).all (exc1B K)
theorem excAt_lt {K : Fr} {c : Nat} (h : c < 15) : excAt K c = He.ga K (excNm c) := by unfold excAt; rw [if_pos h]
theorem excB_one {K : Fr} (h : excB K = true) {c : Nat} (hc : c < 15) : exc1B K c = true := by
  unfold excB at h
  rw [Bool.and_eq_true, List.all_eq_true] at h
  exact h.2 c (by simpa using hc)
section
variable {K : Fr} {h : Heap} {mg : PySem.Str → Option Value}
theorem excOk_of (X : K.In h) (G : h.Ns mainGlobals mg) (e : excB K = true) : ExcOk K mg (excAt K) := by
  have one := fun {c : Nat} (hc : c < 15) => excB_one e hc
  simp only [exc1B, Bool.and_eq_true, decide_eq_true_eq, List.all_eq_true] at one
  refine ⟨fun c hc => ?_, fun c hc => excCB_ok (one hc).2.2.1, fun c d hc hd => (one hc).2.2.2.2.2 d (by simpa using hd), fun c hc => (one hc).2.2.2.2.1⟩
  rw [excAt_lt hc]
  exact He.glo_ok X G (one hc).1
theorem exm_of (e : excB K = true) : ∀ c < 15, PySem.W.exmOne K (.ref (excAt K c)) (.ref (excAt K 15)) = some true := fun c hc => by
  have one := excB_one e hc
  simp only [exc1B, Bool.and_eq_true, decide_eq_true_eq] at one
  exact one.2.2.2.1
theorem dust_of (X : K.In h) (G : h.Ns mainGlobals mg) (e : excB K = true) : mg "DustError" = some (.ref (excAt K 15)) := by
  unfold excB at e
  rw [Bool.and_eq_true] at e
  exact He.glo_ok X G e.1
theorem excFact_of (e : excB K = true) {c : Nat} (hc : c < 15) : PySem.W.excIn K (excAt K c) He.veBase "ValueError.__new__" = true ∧ PySem.W.keepIn K (.ref (excAt K c)) = true ∧ PySem.W.subIn K (.ref (excAt K c)) (.type "BaseException") = some true ∧ PySem.W.typeIn K (.ref (excAt K c)) = some (.type "type") := by
  have one := excB_one e hc
  simp only [exc1B, Bool.and_eq_true] at one
  rw [excAt_lt hc]
  exact He.exc_ok one.2.1
end
/-! ### the Hook -/
abbrev AlL : Type := He.AlD × Bool
def obsLG (n : Nat) (fa : List He.Fa) (fn : List He.DefD) (lm : List PySem.Str) (g : Addr → Option Obj) : AlL :=
  (He.obsD fa fn (KL g n), excB (KL g n) && (lm.all (lmB g (KL g n)) && decide (lm.map (pOf (KL g n))).Nodup))
structure SaysL (fa : List He.Fa) (fn : List He.DefD) (lm : List PySem.Str) (h : Heap) (K : Fr) : Prop where
  inn : K.In h
  d : He.SaysD fa fn K
  e : excB K = true
  l : ∀ x ∈ lm, LmOk h K x
  nd : (lm.map (pOf K)).Nodup
def hookL (n : Nat) (fa : List He.Fa) (fn : List He.DefD) (lm : List PySem.Str) : PySem.W.Hook where
  α := AlL
  obs := fun s => obsLG n fa fn lm s.heap.get?
  val := fun _ => (He.valD fn, true)
  says := fun _ h => ∃ K : Fr, SaysL fa fn lm h K
  of := fun _ s e => by
    have e1 : He.obsD fa fn (KL s.heap.get? n) = He.valD fn := congrArg (fun z : AlL => z.1) e
    have e2 : (excB (KL s.heap.get? n) && (lm.all (lmB s.heap.get? (KL s.heap.get? n)) && decide (lm.map (pOf (KL s.heap.get? n))).Nodup)) = true := congrArg (fun z : AlL => z.2) e
    simp only [Bool.and_eq_true, List.all_eq_true, decide_eq_true_eq] at e2
    exact ⟨KL s.heap.get? n, KL_in, e1, e2.1, fun x hx => lmB_ok (e2.2.1 x hx), e2.2.2⟩
  keeps := fun _ _ _ ⟨K, c⟩ k => ⟨K, PySem.W.Frag.In.keeps c.inn k, c.d, c.e, fun x hx => (c.l x hx).keeps k, c.nd⟩
theorem obsLG_eq {n : Nat} {fa : List He.Fa} {fn : List He.DefD} {lm : List PySem.Str} {g : Addr → Option Obj} {s : Shared} (h : ∀ a, g a = s.heap.get? a) : obsLG n fa fn lm g = (hookL n fa fn lm).obs s := by
  have e : g = s.heap.get? := funext h
  rw [e] <;> rfl
end Dk

set_option Elab.async false
set_option linter.all false
set_option maxRecDepth 100000
set_option maxHeartbeats 0
/-! HookM: lambdas' tables for the defs that make them. -/
namespace Dk
open PySem PySem.Spec PyProof.Rows L2
def tabsL (K : Fr) (lm : List PySem.Str) : List (Addr × PySem.Str) := lm.map fun x => (pOf K x, lamQ x)
def csL (K : Fr) (lm : List PySem.Str) : List (Addr × Addr) := lm.map fun x => (cOf K x, pOf K x)
theorem nodup_inj {α β : Type} {f : α → β} : ∀ {l : List α}, (l.map f).Nodup → ∀ {x y : α}, x ∈ l → y ∈ l → f x = f y → x = y
  | [], _, _, _, hx, _, _ => by cases hx
  | a :: l, h, x, y, hx, hy, e => by
    rw [List.map_cons, List.nodup_cons] at h
    by_cases h1 : x = a
    · by_cases h2 : y = a
      · rw [h1, h2]
      · have hy : y ∈ l := (List.mem_cons.mp hy).resolve_left h2
        exact absurd (List.mem_map.mpr ⟨y, hy, by rw [← e, h1]⟩) h.1
    · have hx : x ∈ l := (List.mem_cons.mp hx).resolve_left h1
      by_cases h2 : y = a
      · exact absurd (List.mem_map.mpr ⟨x, hx, by rw [e, h2]⟩) h.1
      · exact nodup_inj h.2 hx ((List.mem_cons.mp hy).resolve_left h2) e
theorem lamC_of [TabEnv] {K : Fr} {h base : Heap} {mg : PySem.Str → Option Value} {lm : List PySem.Str} {x : PySem.Str} {fd : FuncData} {params : Arguments} {body : List PySem.Stmt} {scope : PySem.Scope} {dvs : List V} {kws : List (PySem.Str × V)} (hT : TabEnv.tabs = tabsL K lm) (nd : (lm.map (pOf K)).Nodup) (hx : x ∈ lm) (l : LmOk h K x)
    (TB : ∀ p ∈ csL K lm, LamX.TabB base mg p.1 p.2) (F : FunD K x x params body scope dvs kws (He.ga K x) fd) : LamC mg base fd x := by
  obtain ⟨oc, od, dV, kV, doc, pm, an, cdv, ct, osl, rfl, lk, _, _, _⟩ := F.ex
  refine ⟨cOf K x, pOf K x, l.fn lk, TB _ (List.mem_map.mpr ⟨x, hx, rfl⟩), ?_, fun p hp e => ?_⟩
  · rw [hT]
    exact List.mem_map.mpr ⟨x, hx, rfl⟩
  · rw [hT] at hp
    obtain ⟨y, hy, rfl⟩ := List.mem_map.mp hp
    rw [nodup_inj nd hy hx e]
theorem tabsOk_start {K : Fr} {lm : List PySem.Str} {H : Hp} (h : ∀ p ∈ csL K lm, H p.2 = some (.tbl #[])) : LamX.Tabs (tabsL K lm) H := fun p hp => by
  obtain ⟨x, hx, rfl⟩ := List.mem_map.mp hp
  exact LamX.TabS.nil (h (cOf K x, pOf K x) (List.mem_map.mpr ⟨x, hx, rfl⟩))
end Dk

set_option linter.all false
set_option maxRecDepth 100000
namespace Dk
open PySem (PyData Str)
instance : Coe String Str := ⟨Str.ofString⟩
def fd_is_whole : FD := ⟨3, 3, false, [(.ret (.and (.isa (.var 0) .int) (.and (.not (.isa (.var 0) .bool)) (.chain .le .le (.var 1) (.var 0) (.var 2)))))]⟩
def fd_is_word : FD := ⟨2, 1, false, [(.ret (.and (.isa (.var 0) .str) (.and (.chain .le .le (.const (.int 1)) (.bi .len [(.var 0)]) (.const (.int 8))) (.bi .all [(.comp [1] (.name 1) .seq [(.var 0)] none (.cmp .isIn (.var 1) (.const (.str "abcdefghijklmnopqrstuvwxyz"))))]))))]⟩
def fd_rise : FD := ⟨3, 1, false, [(.ret (.bi .all [(.comp [1, 2] (.tup [1, 2]) .zip [(.var 0), (.slice (.var 0) (some (.const (.int 1))) none)] none (.cmp .lt (.var 1) (.var 2)))]))]⟩
def fd_are_keys : FD := ⟨3, 2, false, [(.cond (.or (.not (.isa (.var 1) .tuple)) (.not (.bi .all [(.comp [2] (.name 2) .seq [(.var 1)] none (.and (.isa (.var 2) .str) (.cmp .isIn (.var 2) (.var 0))))]))) [(.ret (.const (.bool false)))] []),
    (.ret (.call false 3 [(.var 1)]))]⟩
def fd_is_board : FD := ⟨4, 1, false, [(.cond (.or (.not (.isa (.var 0) .tuple)) (.cmp .ne (.bi .len [(.var 0)]) (.const (.int 2)))) [(.ret (.const (.bool false)))] []),
    (.asg (.tup [1, 2]) (.var 0)),
    (.cond (.or (.not (.isa (.var 1) .tuple)) (.or (.not (.chain .le .le (.const (.int 2)) (.bi .len [(.var 1)]) (.const (.int 6)))) (.not (.bi .all [(.comp [3] (.name 3) .seq [(.var 1)] none (.call false 2 [(.var 3)]))])))) [(.ret (.const (.bool false)))] []),
    (.cond (.or (.not (.call false 3 [(.var 1)])) (.or (.not (.isa (.var 2) .tuple)) (.not (.chain .le .le (.const (.int 1)) (.bi .len [(.var 2)]) (.const (.int 10)))))) [(.ret (.const (.bool false)))] []),
    (.ret (.and (.bi .all [(.comp [3] (.name 3) .seq [(.var 2)] none (.and (.call false 4 [(.var 1), (.var 3)]) (.chain .le .le (.const (.int 1)) (.bi .len [(.var 3)]) (.const (.int 2)))))]) (.call false 3 [(.var 2)])))]⟩
def fd_need_board : FD := ⟨2, 2, false, [(.cond (.not (.call false 5 [(.var 0)])) [(.raise 0)] []),
    (.cond (.not (.call false 1 [(.var 1), (.const (.int 1)), (.const (.int 5))])) [(.raise 1)] [])]⟩
def fd_are_reaches : FD := ⟨3, 2, false, [(.cond (.or (.not (.isa (.var 1) .tuple)) (.not (.bi .all [(.comp [2] (.name 2) .seq [(.var 1)] none (.and (.call false 4 [(.ix (.var 0) (.const (.int 0))), (.var 2)]) (.cmp .isIn (.var 2) (.ix (.var 0) (.const (.int 1))))))]))) [(.ret (.const (.bool false)))] []),
    (.ret (.call false 3 [(.var 1)]))]⟩
def fd_is_good_play : FD := ⟨4, 3, false, [(.ret (.and (.isa (.var 2) .tuple) (.and (.cmp .eq (.bi .len [(.var 2)]) (.var 1)) (.bi .all [(.comp [3] (.name 3) .seq [(.var 2)] none (.call false 7 [(.var 0), (.var 3)]))]))))]⟩
def fd_is_play : FD := ⟨3, 3, false, [(.expr (.call false 6 [(.var 0), (.var 1)])),
    (.ret (.call false 8 [(.var 0), (.var 1), (.var 2)]))]⟩
def fd_need_play : FD := ⟨3, 3, false, [(.expr (.call false 6 [(.var 0), (.var 1)])),
    (.cond (.not (.call false 8 [(.var 0), (.var 1), (.var 2)])) [(.raise 2)] [])]⟩
def fd_is_good_dust : FD := ⟨4, 3, false, [(.ret (.and (.isa (.var 2) .tuple) (.and (.cmp .eq (.bi .len [(.var 2)]) (.bi .len [(.ix (.var 0) (.const (.int 0)))])) (.bi .all [(.comp [3] (.name 3) .seq [(.var 2)] none (.call false 1 [(.var 3), (.const (.int 0)), (.var 1)]))]))))]⟩
def fd_is_dust : FD := ⟨3, 3, false, [(.expr (.call false 6 [(.var 0), (.var 1)])),
    (.ret (.call false 11 [(.var 0), (.var 1), (.var 2)]))]⟩
def fd_need_dust : FD := ⟨3, 3, false, [(.expr (.call false 6 [(.var 0), (.var 1)])),
    (.cond (.not (.call false 11 [(.var 0), (.var 1), (.var 2)])) [(.raise 3)] [])]⟩
def fd_need_day : FD := ⟨2, 2, false, [(.cond (.not (.call false 1 [(.var 1), (.const (.int 0)), (.bin .sub (.var 0) (.const (.int 1)))])) [(.raise 4)] [])]⟩
def fd_left_by : FD := ⟨8, 2, false, [(.asgO 2 (.lst [])),
    (.for_ (.name 3) .seq [(.ix (.var 0) (.const (.int 0)))] [(.asg (.name 4) (.comp [5, 6] (.tup [5, 6]) .enum [(.var 1)] (some (.bi .any [(.comp [7] (.name 7) .seq [(.var 6)] none (.cmp .isIn (.var 3) (.var 7)))])) (.var 5))), (.app 2 (.ite (.cmp .ne (.var 4) (.lst [])) (.bin .sub (.bin .sub (.bi .len [(.var 1)]) (.const (.int 1))) (.ix (.var 4) (.neg (.const (.int 1))))) (.bi .len [(.var 1)])))]),
    (.ret (.bi .tuple [(.peek 2)]))]⟩
def fd_dust_of : FD := ⟨3, 3, false, [(.expr (.call false 10 [(.var 0), (.var 1), (.var 2)])),
    (.ret (.call false 15 [(.var 0), (.var 2)]))]⟩
def fd_keys_of : FD := ⟨6, 4, false, [(.ret (.comp [4, 5] (.tup [4, 5]) .zip [(.ix (.var 0) (.const (.int 0))), (.var 2)] (some (.cmp .eq (.var 5) (.bin .sub (.bin .sub (.var 1) (.const (.int 1))) (.var 3)))) (.var 4)))]⟩
def fd_lets : FD := ⟨8, 4, false, [(.asg (.name 4) (.comp [5, 6] (.tup [5, 6]) .zip [(.ix (.var 0) (.const (.int 0))), (.var 2)] (some (.cmp .le (.var 6) (.bin .sub (.bin .sub (.var 1) (.const (.int 1))) (.var 3)))) (.var 5))),
    (.ret (.comp [7] (.name 7) .seq [(.ix (.var 0) (.const (.int 1)))] (some (.bi .all [(.comp [5] (.name 5) .seq [(.var 7)] none (.cmp .isIn (.var 5) (.var 4)))])) (.var 7)))]⟩
def fd_let_on : FD := ⟨4, 4, false, [(.expr (.call false 13 [(.var 0), (.var 1), (.var 2)])),
    (.expr (.call false 14 [(.var 1), (.var 3)])),
    (.ret (.call false 18 [(.var 0), (.var 1), (.var 2), (.var 3)]))]⟩
def fd_touched : FD := ⟨3, 1, false, [(.ret (.comp2 [1, 2] [2] (.name 1) .seq [(.var 0)] none (.name 2) (.var 1) (.var 2)))]⟩
def fd_all_barred : FD := ⟨7, 3, false, [(.asg (.name 3) (.lst [])),
    (.for_ (.name 4) .range [(.var 1)] [(.asg (.name 5) (.call false 20 [(.call false 18 [(.var 0), (.var 1), (.var 2), (.var 4)])])), (.asg (.name 3) (.bin .add (.var 3) (.comp [6] (.name 6) .seq [(.call false 17 [(.var 0), (.var 1), (.var 2), (.var 4)])] (some (.cmp .notIn (.var 6) (.var 5))) (.var 6))))]),
    (.ret (.var 3))]⟩
def fd_is_there : FD := ⟨3, 3, false, [(.ret (.cmp .eq (.call false 21 [(.var 0), (.var 1), (.var 2)]) (.lst [])))]⟩
def fd_can_be : FD := ⟨3, 3, false, [(.expr (.call false 13 [(.var 0), (.var 1), (.var 2)])),
    (.ret (.call false 22 [(.var 0), (.var 1), (.var 2)]))]⟩
def fd_need_there : FD := ⟨3, 3, false, [(.expr (.call false 13 [(.var 0), (.var 1), (.var 2)])),
    (.cond (.not (.call false 22 [(.var 0), (.var 1), (.var 2)])) [(.raise 12)] [])]⟩
def fd_twos_among : FD := ⟨4, 2, false, [(.ret (.comp [2] (.name 2) .seq [(.ix (.var 0) (.const (.int 1)))] (some (.and (.cmp .eq (.bi .len [(.var 2)]) (.const (.int 2))) (.bi .all [(.comp [3] (.name 3) .seq [(.var 2)] none (.cmp .isIn (.var 3) (.var 1)))]))) (.var 2)))]⟩
def fd_most_pairs : FD := ⟨8, 2, false, [(.cond (.cmp .eq (.var 1) (.lst [])) [(.ret (.lst []))] []),
    (.asg (.name 2) (.ix (.var 1) (.const (.int 0)))),
    (.asg (.name 3) (.call false 26 [(.var 0), (.slice (.var 1) (some (.const (.int 1))) none)])),
    (.asg (.name 4) (.comp [5] (.name 5) .seq [(.slice (.var 1) (some (.const (.int 1))) none)] (some (.not (.bi .any [(.comp [6] (.name 6) .seq [(.var 5)] none (.cmp .isIn (.var 6) (.var 2)))]))) (.var 5))),
    (.asg (.name 7) (.bin .add (.lst [(.var 2)]) (.call false 26 [(.var 0), (.var 4)]))),
    (.ret (.ite (.cmp .ge (.bi .len [(.var 7)]) (.bi .len [(.var 3)])) (.var 7) (.var 3)))]⟩
def fd_day_cover : FD := ⟨9, 4, false, [(.asg (.name 4) (.call false 17 [(.var 0), (.var 1), (.var 2), (.var 3)])),
    (.asg (.name 5) (.call false 26 [(.var 4), (.call false 25 [(.var 0), (.var 4)])])),
    (.asg (.name 6) (.call false 18 [(.var 0), (.var 1), (.var 2), (.var 3)])),
    (.for_ (.name 7) .seq [(.var 4)] [(.cond (.not (.bi .any [(.comp [8] (.name 8) .seq [(.var 5)] none (.cmp .isIn (.var 7) (.var 8)))])) [(.asg (.name 5) (.bin .add (.var 5) (.lst [(.ix (.comp [8] (.name 8) .seq [(.var 6)] (some (.cmp .isIn (.var 7) (.var 8))) (.var 8)) (.const (.int 0)))])))] [])]),
    (.ret (.bi .tuple [(.bi .sorted [(.var 5)])]))]⟩
def fd_few_play : FD := ⟨4, 3, false, [(.ret (.bi .tuple [(.comp [3] (.name 3) .range [(.var 1)] none (.call false 27 [(.var 0), (.var 1), (.var 2), (.var 3)]))]))]⟩
def fd_fewest : FD := ⟨4, 3, false, [(.expr (.call false 24 [(.var 0), (.var 1), (.var 2)])),
    (.ret (.bi .sum [(.comp [3] (.name 3) .seq [(.call false 28 [(.var 0), (.var 1), (.var 2)])] none (.bi .len [(.var 3)]))]))]⟩
def fd_parts_of : FD := ⟨4, 1, false, [(.asg (.name 1) (.lst [(.tup [])])),
    (.for_ (.name 2) .seq [(.var 0)] [(.asg (.name 1) (.bin .add (.var 1) (.comp [3] (.name 3) .seq [(.var 1)] none (.bin .add (.var 3) (.tup [(.var 2)])))))]),
    (.ret (.var 1))]⟩
def fd_covers : FD := ⟨6, 2, false, [(.asgO 2 (.lst [])),
    (.for_ (.name 3) .seq [(.call false 30 [(.var 1)])] [(.cond (.bi .all [(.comp [5] (.name 5) .seq [(.var 0)] none (.bi .any [(.comp [4] (.name 4) .seq [(.var 3)] none (.cmp .isIn (.var 5) (.var 4)))]))]) [(.app 2 (.var 3))] [])]),
    (.ret (.bi .sorted [(.peek 2)]))]⟩
def fd_covers_on : FD := ⟨4, 4, false, [(.ret (.call false 31 [(.call false 17 [(.var 0), (.var 1), (.var 2), (.var 3)]), (.call false 18 [(.var 0), (.var 1), (.var 2), (.var 3)])]))]⟩
def fd_count_covers : FD := ⟨7, 2, false, [(.asg (.name 2) (.const (.int 0))),
    (.for_ (.name 3) .seq [(.call false 30 [(.var 0)])] [(.asg (.name 4) (.bi .len [(.comp [5] (.name 5) .seq [(.var 1)] (some (.not (.bi .any [(.comp [6] (.name 6) .seq [(.var 5)] none (.cmp .isIn (.var 6) (.var 3)))]))) (.var 5))])), (.asg (.name 2) (.bin .add (.var 2) (.bin .mul (.ite (.cmp .eq (.bin .mod (.bi .len [(.var 3)]) (.const (.int 2))) (.const (.int 1))) (.neg (.const (.int 1))) (.const (.int 1))) (.bin .shl (.const (.int 1)) (.var 4)))))]),
    (.ret (.var 2))]⟩
def fd_count_on : FD := ⟨4, 4, false, [(.ret (.call false 33 [(.call false 17 [(.var 0), (.var 1), (.var 2), (.var 3)]), (.call false 18 [(.var 0), (.var 1), (.var 2), (.var 3)])]))]⟩
def fd_product : FD := ⟨3, 1, false, [(.asg (.name 1) (.const (.int 1))),
    (.for_ (.name 2) .seq [(.var 0)] [(.asg (.name 1) (.bin .mul (.var 1) (.var 2)))]),
    (.ret (.var 1))]⟩
def fd_count : FD := ⟨4, 3, false, [(.ret (.call false 35 [(.comp [3] (.name 3) .range [(.var 1)] none (.call false 34 [(.var 0), (.var 1), (.var 2), (.var 3)]))]))]⟩
def fd_plays : FD := ⟨8, 3, false, [(.expr (.call false 13 [(.var 0), (.var 1), (.var 2)])),
    (.cond (.cmp .gt (.call false 36 [(.var 0), (.var 1), (.var 2)]) (.const (.int 300))) [(.raise 13)] []),
    (.cond (.cmp .eq (.call false 36 [(.var 0), (.var 1), (.var 2)]) (.const (.int 0))) [(.ret (.lst []))] []),
    (.asg (.name 3) (.lst [(.tup [])])),
    (.for_ (.name 4) .range [(.var 1)] [(.asg (.name 5) (.lst [])), (.for_ (.name 6) .seq [(.var 3)] [(.asg (.name 5) (.bin .add (.var 5) (.comp [7] (.name 7) .seq [(.call false 32 [(.var 0), (.var 1), (.var 2), (.var 4)])] none (.bin .add (.var 6) (.tup [(.var 7)])))))]), (.asg (.name 3) (.var 5))]),
    (.ret (.var 3))]⟩
def fd_is_look : FD := ⟨3, 3, false, [(.cond (.or (.not (.isa (.var 2) .tuple)) (.or (.cmp .ne (.bi .len [(.var 2)]) (.const (.int 2))) (.not (.call false 1 [(.ix (.var 2) (.const (.int 0))), (.const (.int 0)), (.bin .sub (.var 1) (.const (.int 1)))])))) [(.ret (.const (.bool false)))] []),
    (.ret (.call false 11 [(.var 0), (.bin .add (.ix (.var 2) (.const (.int 0))) (.const (.int 1))), (.ix (.var 2) (.const (.int 1)))]))]⟩
def fd_need_looks : FD := ⟨5, 3, false, [(.expr (.call false 6 [(.var 0), (.var 1)])),
    (.cond (.or (.not (.isa (.var 2) .list)) (.or (.cmp .gt (.bi .len [(.var 2)]) (.const (.int 4))) (.not (.bi .all [(.comp [3] (.name 3) .seq [(.var 2)] none (.call false 38 [(.var 0), (.var 1), (.var 3)]))])))) [(.raise 7)] []),
    (.cond (.not (.bi .all [(.comp [3, 4] (.tup [3, 4]) .zip [(.var 2), (.slice (.var 2) (some (.const (.int 1))) none)] none (.cmp .lt (.ix (.var 3) (.const (.int 0))) (.ix (.var 4) (.const (.int 0)))))])) [(.raise 7)] [])]⟩
def fd_last_touches : FD := ⟨4, 2, false, [(.ret (.comp [2, 3] (.tup [2, 3]) .seq [(.var 0)] none (.tup [(.var 2), (.bin .sub (.var 2) (.ix (.var 3) (.var 1)))])))]⟩
def fd_wanted : FD := ⟨8, 3, false, [(.asgO 3 (.lst [])),
    (.for_ (.tup [4, 5]) .enum [(.ix (.var 0) (.const (.int 0)))] [(.cond (.bi .any [(.comp [6, 7] (.tup [6, 7]) .seq [(.call false 40 [(.var 1), (.var 4)])] none (.cmp .eq (.var 7) (.var 2)))]) [(.app 3 (.var 5))] [])]),
    (.frz 3 (.ret (.var 3)))]⟩
def fd_lets_by : FD := ⟨9, 3, false, [(.asgO 3 (.lst [])),
    (.for_ (.tup [4, 5]) .enum [(.ix (.var 0) (.const (.int 0)))] [(.cond (.bi .all [(.comp [6, 7] (.tup [6, 7]) .seq [(.call false 40 [(.var 1), (.var 4)])] none (.or (.cmp .lt (.var 6) (.var 2)) (.cmp .ge (.var 7) (.var 2))))]) [(.app 3 (.var 5))] [])]),
    (.ret (.comp [8] (.name 8) .seq [(.ix (.var 0) (.const (.int 1)))] (some (.bi .all [(.comp [5] (.name 5) .seq [(.var 8)] none (.cmp .isIn (.var 5) (.peek 3)))])) (.var 8)))]⟩
def fd_count_looks : FD := ⟨4, 3, false, [(.ret (.call false 35 [(.comp [3] (.name 3) .range [(.var 1)] none (.call false 33 [(.call false 41 [(.var 0), (.var 2), (.var 3)]), (.call false 42 [(.var 0), (.var 2), (.var 3)])]))]))]⟩
def fd_can_look : FD := ⟨3, 3, false, [(.expr (.call false 39 [(.var 0), (.var 1), (.var 2)])),
    (.ret (.cmp .gt (.call false 43 [(.var 0), (.var 1), (.var 2)]) (.const (.int 0))))]⟩
def fd_looks_of : FD := ⟨7, 4, false, [(.expr (.call false 10 [(.var 0), (.var 1), (.var 2)])),
    (.cond (.or (.not (.isa (.var 3) .tuple)) (.not (.bi .all [(.comp [4] (.name 4) .seq [(.var 3)] none (.call false 1 [(.var 4), (.const (.int 0)), (.bin .sub (.var 1) (.const (.int 1)))]))]))) [(.raise 4)] []),
    (.cond (.not (.bi .all [(.comp [5, 6] (.tup [5, 6]) .zip [(.var 3), (.slice (.var 3) (some (.const (.int 1))) none)] none (.cmp .lt (.var 5) (.var 6)))])) [(.raise 4)] []),
    (.ret (.comp [4] (.name 4) .seq [(.var 3)] none (.tup [(.var 4), (.call false 15 [(.var 0), (.slice (.var 2) none (some (.bin .add (.var 4) (.const (.int 1)))))])])))]⟩
def fd_all_dusts : FD := ⟨7, 2, false, [(.asg (.name 2) (.lst [(.tup [])])),
    (.for_ (.name 3) .seq [(.ix (.var 0) (.const (.int 0)))] [(.asg (.name 4) (.lst [])), (.for_ (.name 5) .seq [(.var 2)] [(.asg (.name 4) (.bin .add (.var 4) (.comp [6] (.name 6) .range [(.bin .add (.var 1) (.const (.int 1)))] none (.bin .add (.var 5) (.tup [(.var 6)])))))]), (.asg (.name 2) (.var 4))]),
    (.ret (.var 2))]⟩
def fd_need_two : FD := ⟨3, 3, false, [(.cond (.or (.not (.call false 5 [(.var 0)])) (.or (.not (.call false 5 [(.var 1)])) (.cmp .ne (.ix (.var 0) (.const (.int 0))) (.ix (.var 1) (.const (.int 0)))))) [(.raise 0)] []),
    (.expr (.call false 6 [(.var 0), (.var 2)])),
    (.cond (.cmp .gt (.bi .len [(.ix (.var 0) (.const (.int 0)))]) (.const (.int 4))) [(.raise 13)] [])]⟩
def fd_first_parting : FD := ⟨4, 3, false, [(.for_ (.name 3) .seq [(.call false 46 [(.var 0), (.var 2)])] [(.cond (.cmp .ne (.call false 22 [(.var 0), (.var 2), (.var 3)]) (.call false 22 [(.var 1), (.var 2), (.var 3)])) [(.ret (.var 3))] [])]),
    (.ret (.const .none))]⟩
def fd_parting : FD := ⟨3, 3, false, [(.expr (.call false 47 [(.var 0), (.var 1), (.var 2)])),
    (.ret (.call false 48 [(.var 0), (.var 1), (.var 2)]))]⟩
def fd_alike : FD := ⟨3, 3, false, [(.expr (.call false 47 [(.var 0), (.var 1), (.var 2)])),
    (.ret (.cmp .is (.call false 48 [(.var 0), (.var 1), (.var 2)]) (.const .none)))]⟩
def fd_need_reach : FD := ⟨2, 2, false, [(.cond (.not (.call false 7 [(.var 0), (.tup [(.var 1)])])) [(.raise 5)] [])]⟩
def fd_need_asked : FD := ⟨5, 5, false, [(.expr (.call false 13 [(.var 0), (.var 1), (.var 2)])),
    (.expr (.call false 14 [(.var 1), (.var 3)])),
    (.expr (.call false 51 [(.var 0), (.var 4)])),
    (.expr (.call false 24 [(.var 0), (.var 1), (.var 2)]))]⟩
def fd_sure_on : FD := ⟨7, 5, false, [(.asg (.name 5) (.comp [6] (.name 6) .seq [(.call false 18 [(.var 0), (.var 1), (.var 2), (.var 3)])] (some (.cmp .ne (.var 6) (.var 4))) (.var 6))),
    (.ret (.cmp .eq (.call false 33 [(.call false 17 [(.var 0), (.var 1), (.var 2), (.var 3)]), (.var 5)]) (.const (.int 0))))]⟩
def fd_surely : FD := ⟨5, 5, false, [(.expr (.call false 52 [(.var 0), (.var 1), (.var 2), (.var 3), (.var 4)])),
    (.ret (.call false 53 [(.var 0), (.var 1), (.var 2), (.var 3), (.var 4)]))]⟩
def fd_board_text : FD := ⟨1, 1, false, [(.cond (.not (.call false 5 [(.var 0)])) [(.raise 0)] []),
    (.ret (.dget 2))]⟩
def fd_law_drawn : FD := ⟨3, 2, false, [(.asg (.name 2) (.bin .mod (.bin .add (.bin .mul (.var 0) (.const (.int 6364136223846793005))) (.bin .mul (.bin .add (.var 1) (.const (.int 1))) (.const (.int 1442695040888963407)))) (.const (.int 340282366920938463463374607431768211507)))),
    (.asg (.name 2) (.bin .mod (.bin .mul (.var 2) (.var 2)) (.const (.int 340282366920938463463374607431768211297)))),
    (.asg (.name 2) (.bin .mul (.bin .mul (.bin .add (.bin .mod (.var 2) (.const (.int 18446744073709551557))) (.const (.int 1))) (.bin .add (.bin .fdiv (.var 2) (.const (.int 18446744073709551557))) (.const (.int 1)))) (.var 2))),
    (.ret (.bin .mod (.var 2) (.const (.int 340282366920938463463374607431768211507))))]⟩
def fd_law_roll : FD := ⟨3, 2, true, [(.cond (.cmp .ge (.dget 0) (.bin .pow (.const (.int 10)) (.const (.int 18)))) [(.asg (.name 2) (.bin .mod (.dget 0) (.var 1))), (.dset 0 (.bin .fdiv (.dget 0) (.var 1))), (.ret (.var 2))] []),
    (.dset 1 (.bin .add (.dget 1) (.const (.int 1)))),
    (.ret (.bin .mod (.bin .fdiv (.call false 62 [(.dget 0), (.dget 1)]) (.const (.int 8))) (.var 1)))]⟩
def fd_law_any_board : FD := ⟨11, 3, true, [(.asg (.name 3) (.slice (.tup [(.const (.str "do")), (.const (.str "fa")), (.const (.str "la")), (.const (.str "mi")), (.const (.str "re")), (.const (.str "so"))]) none (some (.bin .add (.const (.int 2)) (.call true 63 [(.bin .sub (.var 1) (.const (.int 1)))]))))),
    (.asgO 4 (.comp [5] (.name 5) .seq [(.var 3)] none (.tup [(.var 5)]))),
    (.for_ (.tup [6, 7]) .enum [(.var 3)] [(.asgO 4 (.bin .add (.peek 4) (.comp [8] (.name 8) .seq [(.slice (.var 3) (some (.bin .add (.var 6) (.const (.int 1)))) none)] none (.tup [(.var 7), (.var 8)]))))]),
    (.asgO 9 (.lst [])),
    (.for_ (.name 10) .range [(.bin .add (.const (.int 1)) (.call true 63 [(.var 2)]))] [(.cond (.cmp .ne (.peek 4) (.lst [])) [(.appPop 9 4 (.call true 63 [(.bi .len [(.peek 4)])]))] [])]),
    (.ret (.tup [(.var 3), (.bi .tuple [(.bi .sorted [(.peek 9)])])]))]⟩
def fd_law_missing : FD := ⟨7, 1, false, [(.asg (.name 1) (.comp [2] (.name 2) .seq [(.ix (.var 0) (.const (.int 0)))] none (.tup [(.var 2)]))),
    (.for_ (.tup [3, 4]) .enum [(.ix (.var 0) (.const (.int 0)))] [(.asg (.name 1) (.bin .add (.var 1) (.comp [5] (.name 5) .seq [(.slice (.ix (.var 0) (.const (.int 0))) (some (.bin .add (.var 3) (.const (.int 1)))) none)] none (.tup [(.var 4), (.var 5)]))))]),
    (.ret (.slice (.comp [6] (.name 6) .seq [(.var 1)] (some (.cmp .notIn (.var 6) (.ix (.var 0) (.const (.int 1))))) (.var 6)) none (some (.const (.int 1)))))]⟩
def fd_law_any_day : FD := ⟨3, 2, true, [(.ret (.bi .tuple [(.comp [2] (.name 2) .seq [(.ix (.var 1) (.const (.int 1)))] (some (.cmp .eq (.call true 63 [(.const (.int 3))]) (.const (.int 0)))) (.var 2))]))]⟩
def fd_law_any_play : FD := ⟨4, 3, true, [(.ret (.bi .tuple [(.comp [3] (.name 3) .range [(.var 2)] none (.call true 69 [(.var 1)]))]))]⟩
def fd_law_left : FD := ⟨8, 2, false, [(.asgO 2 (.lst [])),
    (.for_ (.name 3) .seq [(.ix (.var 0) (.const (.int 0)))] [(.asg (.name 4) (.bi .len [(.var 1)])), (.for_ (.tup [5, 6]) .enum [(.var 1)] [(.cond (.cmp .ne (.comp [7] (.name 7) .seq [(.var 6)] (some (.cmp .isIn (.var 3) (.var 7))) (.var 7)) (.lst [])) [(.asg (.name 4) (.bin .sub (.bin .sub (.bi .len [(.var 1)]) (.const (.int 1))) (.var 5)))] [])]), (.app 2 (.var 4))]),
    (.ret (.bi .tuple [(.peek 2)]))]⟩
def fd_barred : FD := ⟨3, 3, false, [(.expr (.call false 13 [(.var 0), (.var 1), (.var 2)])),
    (.ret (.bi .minD [(.call false 21 [(.var 0), (.var 1), (.var 2)])]))]⟩
def fd_all_let : FD := ⟨4, 3, false, [(.expr (.call false 13 [(.var 0), (.var 1), (.var 2)])),
    (.cond (.not (.call false 22 [(.var 0), (.var 1), (.var 2)])) [(.ret (.const .none))] []),
    (.ret (.bi .tuple [(.comp [3] (.name 3) .range [(.var 1)] none (.bi .tuple [(.call false 18 [(.var 0), (.var 1), (.var 2), (.var 3)])]))]))]⟩
def fd_how_many : FD := ⟨3, 3, false, [(.expr (.call false 13 [(.var 0), (.var 1), (.var 2)])),
    (.ret (.call false 36 [(.var 0), (.var 1), (.var 2)]))]⟩
def fd_how_many_on : FD := ⟨4, 4, false, [(.expr (.call false 13 [(.var 0), (.var 1), (.var 2)])),
    (.expr (.call false 14 [(.var 1), (.var 3)])),
    (.ret (.call false 34 [(.var 0), (.var 1), (.var 2), (.var 3)]))]⟩
def fd_sure_reaches : FD := ⟨5, 4, false, [(.expr (.call false 13 [(.var 0), (.var 1), (.var 2)])),
    (.expr (.call false 14 [(.var 1), (.var 3)])),
    (.expr (.call false 24 [(.var 0), (.var 1), (.var 2)])),
    (.ret (.comp [4] (.name 4) .seq [(.ix (.var 0) (.const (.int 1)))] (some (.call false 53 [(.var 0), (.var 1), (.var 2), (.var 3), (.var 4)])) (.var 4)))]⟩
def fd_law_any_dust : FD := ⟨5, 3, true, [(.asg (.name 3) (.call false 71 [(.var 1), (.call true 70 [(.var 1), (.var 2)])])),
    (.cond (.cmp .eq (.call true 63 [(.const (.int 3))]) (.const (.int 0))) [(.asg (.name 4) (.call true 63 [(.bi .len [(.var 3)])])), (.asg (.name 3) (.bin .add (.bin .add (.slice (.var 3) none (some (.var 4))) (.tup [(.call true 63 [(.bin .add (.var 2) (.const (.int 1)))])])) (.slice (.var 3) (some (.bin .add (.var 4) (.const (.int 1)))) none)))] []),
    (.ret (.var 3))]⟩
def fd_law_parts : FD := ⟨4, 1, false, [(.asg (.name 1) (.lst [(.tup [])])),
    (.for_ (.name 2) .seq [(.var 0)] [(.asg (.name 1) (.bin .add (.var 1) (.comp [3] (.name 3) .seq [(.var 1)] none (.bin .add (.var 3) (.tup [(.var 2)])))))]),
    (.ret (.bi .sorted [(.var 1)]))]⟩
def fd_law_is_right : FD := ⟨8, 4, false, [(.asg (.name 4) (.lst [])),
    (.for_ (.name 5) .seq [(.var 3)] [(.asg (.name 4) (.bin .add (.var 4) (.bi .list [(.var 5)])))]),
    (.for_ (.tup [6, 7]) .zip [(.ix (.var 0) (.const (.int 0))), (.var 1)] [(.cond (.or (.and (.cmp .isIn (.var 6) (.var 4)) (.cmp .gt (.var 7) (.var 2))) (.and (.cmp .eq (.var 7) (.var 2)) (.cmp .notIn (.var 6) (.var 4)))) [(.ret (.const (.bool false)))] [])]),
    (.ret (.const (.bool true)))]⟩
def fd_law_plays : FD := ⟨9, 3, false, [(.asg (.name 3) (.lst [(.tup [])])),
    (.for_ (.name 4) .range [(.var 1)] [(.par [5, 6] [(.lst []), (.bin .sub (.bin .sub (.var 1) (.const (.int 1))) (.var 4))]), (.for_ (.name 7) .seq [(.call false 82 [(.ix (.var 0) (.const (.int 1)))])] [(.cond (.call false 83 [(.var 0), (.var 2), (.var 6), (.var 7)]) [(.asg (.name 5) (.bin .add (.var 5) (.comp [8] (.name 8) .seq [(.var 3)] none (.bin .add (.var 8) (.tup [(.var 7)])))))] [])]), (.asg (.name 3) (.var 5))]),
    (.ret (.bi .sorted [(.var 3)]))]⟩
def fd_fewest_by_day : FD := ⟨4, 3, false, [(.expr (.call false 24 [(.var 0), (.var 1), (.var 2)])),
    (.ret (.bi .tuple [(.comp [3] (.name 3) .seq [(.call false 28 [(.var 0), (.var 1), (.var 2)])] none (.bi .len [(.var 3)]))]))]⟩
def fd_fewest_play : FD := ⟨3, 3, false, [(.expr (.call false 24 [(.var 0), (.var 1), (.var 2)])),
    (.ret (.call false 28 [(.var 0), (.var 1), (.var 2)]))]⟩
def fd_hangings : FD := ⟨9, 2, false, [(.parO [(2, true), (3, false)] [(.lst []), (.bi .list [(.var 0)])]),
    (.while_ (.cmp .ne (.var 3) (.lst [])) [(.parO [(4, true), (5, true)] [(.lst [(.ix (.var 3) (.const (.int 0)))]), (.lst [(.ix (.var 3) (.const (.int 0)))])]), (.while_ (.cmp .ne (.peek 5) (.lst [])) [(.popTo 6 5), (.for_ (.name 7) .seq [(.var 1)] [(.for_ (.name 8) .seq [(.ite (.cmp .isIn (.var 6) (.var 7)) (.var 7) (.tup []))] [(.cond (.and (.cmp .isIn (.var 8) (.var 3)) (.cmp .notIn (.var 8) (.peek 4))) [(.app 4 (.var 8)), (.app 5 (.var 8))] [])])])]), (.frz 4 (.app 2 (.var 4))), (.asg (.name 3) (.comp [8] (.name 8) .seq [(.var 3)] (some (.cmp .notIn (.var 8) (.peek 4))) (.var 8)))]),
    (.frz 2 (.ret (.var 2)))]⟩
def fd_day_shown : FD := ⟨7, 3, false, [(.asg (.name 3) (.comp [4] (.name 4) .seq [(.var 1)] (some (.cmp .notIn (.var 4) (.var 2))) (.var 4))),
    (.asg (.name 5) (.comp [6] (.name 6) .seq [(.call false 88 [(.var 3), (.call false 25 [(.var 0), (.var 3)])])] (some (.cmp .eq (.bin .mod (.bi .len [(.var 6)]) (.const (.int 2))) (.const (.int 1)))) (.var 6))),
    (.ret (.bin .fdiv (.bin .add (.bin .sub (.bi .len [(.var 1)]) (.bi .len [(.var 2)])) (.bi .len [(.var 5)])) (.const (.int 2))))]⟩
def fd_shown_by : FD := ⟨6, 4, false, [(.expr (.call false 13 [(.var 0), (.var 1), (.var 2)])),
    (.cond (.or (.not (.isa (.var 3) .tuple)) (.cmp .ne (.bi .len [(.var 3)]) (.var 1))) [(.raise 6)] []),
    (.cond (.not (.bi .all [(.comp [4, 5] (.tup [4, 5]) .enum [(.var 3)] none (.call false 4 [(.call false 17 [(.var 0), (.var 1), (.var 2), (.var 4)]), (.var 5)]))])) [(.raise 6)] []),
    (.expr (.call false 24 [(.var 0), (.var 1), (.var 2)])),
    (.ret (.bi .sum [(.comp [4, 5] (.tup [4, 5]) .enum [(.var 3)] none (.call false 89 [(.var 0), (.call false 17 [(.var 0), (.var 1), (.var 2), (.var 4)]), (.var 5)]))]))]⟩
def fd_lots_for : FD := ⟨8, 3, false, [(.expr (.call false 24 [(.var 0), (.var 1), (.var 2)])),
    (.asgO 3 (.lst [])),
    (.for_ (.name 4) .range [(.var 1)] [(.asg (.name 5) (.call false 17 [(.var 0), (.var 1), (.var 2), (.var 4)])), (.asg (.name 6) (.comp [7] (.name 7) .seq [(.call false 30 [(.var 5)])] none (.tup [(.neg (.call false 89 [(.var 0), (.var 5), (.var 7)])), (.var 7)]))), (.app 3 (.ix (.bi .min [(.var 6)]) (.const (.int 1))))]),
    (.ret (.bi .tuple [(.peek 3)]))]⟩
def fd_law_shown : FD := ⟨10, 4, false, [(.asg (.name 4) (.const (.int 0))),
    (.for_ (.name 5) .range [(.var 1)] [(.asg (.name 6) (.comp [7, 8] (.tup [7, 8]) .zip [(.ix (.var 0) (.const (.int 0))), (.var 2)] (some (.cmp .eq (.var 8) (.bin .sub (.bin .sub (.var 1) (.const (.int 1))) (.var 5)))) (.var 7))), (.asg (.name 9) (.comp [7] (.name 7) .seq [(.var 6)] (some (.cmp .notIn (.var 7) (.ix (.var 3) (.var 5)))) (.var 7))), (.asg (.name 4) (.bin .add (.var 4) (.bin .fdiv (.bin .add (.bi .len [(.var 9)]) (.dget 2)) (.const (.int 2)))))]),
    (.ret (.var 4))]⟩
def fd_law_lots_right : FD := ⟨15, 5, true, [(.for_ (.name 5) .range [(.const (.int 6))] [(.asgO 6 (.lst [])), (.for_ (.name 7) .range [(.var 2)] [(.asg (.name 8) (.comp [9, 10] (.tup [9, 10]) .zip [(.ix (.var 1) (.const (.int 0))), (.var 3)] (some (.cmp .eq (.var 10) (.bin .sub (.bin .sub (.var 2) (.const (.int 1))) (.var 7)))) (.var 9))), (.app 6 (.bi .tuple [(.comp [9] (.name 9) .seq [(.var 8)] (some (.cmp .eq (.call true 63 [(.const (.int 3))]) (.const (.int 0)))) (.var 9))]))]), (.asg (.name 11) (.call false 90 [(.var 1), (.var 2), (.var 3), (.bi .tuple [(.peek 6)])])), (.cond (.or (.cmp .ne (.var 11) (.call false 93 [(.var 1), (.var 2), (.var 3), (.var 6)])) (.cmp .gt (.var 11) (.var 4))) [(.ret (.const (.bool false)))] [])]),
    (.asg (.name 12) (.lst [(.const .none), (.const (.int 5)), (.lst []), (.bin .mul (.tup [(.tup [])]) (.bin .add (.var 2) (.const (.int 1)))), (.bin .mul (.tup [(.const .none)]) (.var 2)), (.bin .mul (.lst [(.tup [])]) (.var 2))])),
    (.asg (.name 12) (.bin .add (.var 12) (.lst [(.bin .mul (.tup [(.tup [(.const (.str "zed"))])]) (.var 2)), (.bin .mul (.tup [(.tup [(.const (.str "do")), (.const (.str "do"))])]) (.var 2))]))),
    (.asg (.name 13) (.comp [9, 10] (.tup [9, 10]) .zip [(.ix (.var 1) (.const (.int 0))), (.var 3)] (some (.cmp .ne (.var 10) (.bin .sub (.var 2) (.const (.int 1))))) (.var 9))),
    (.asg (.name 12) (.bin .add (.var 12) (.comp [9] (.name 9) .seq [(.var 13)] none (.bin .add (.tup [(.tup [(.var 9)])]) (.bin .mul (.tup [(.tup [])]) (.bin .sub (.var 2) (.const (.int 1)))))))),
    (.for_ (.name 14) .seq [(.var 12)] [(.cond (.cmp .ne (.told 90 [(.var 1), (.var 2), (.var 3), (.var 14)]) (.tup [(.const (.str "refused")), (.const (.str "BadLots"))])) [(.ret (.const (.bool false)))] [])]),
    (.ret (.const (.bool true)))]⟩
def fd_within : FD := ⟨7, 4, false, [(.asgO 4 (.lst [])),
    (.for_ (.name 5) .range [(.var 1)] [(.app 4 (.bi .len [(.comp [6] (.name 6) .seq [(.call false 32 [(.var 0), (.var 1), (.var 2), (.var 5)])] (some (.cmp .le (.bi .len [(.var 6)]) (.var 3))) (.var 6))]))]),
    (.frz 4 (.ret (.call false 35 [(.var 4)])))]⟩
def fd_how_many_within : FD := ⟨4, 4, false, [(.expr (.call false 13 [(.var 0), (.var 1), (.var 2)])),
    (.cond (.not (.call false 1 [(.var 3), (.const (.int 0)), (.const (.int 10))])) [(.raise 1)] []),
    (.ret (.call false 96 [(.var 0), (.var 1), (.var 2), (.var 3)]))]⟩
def fd_least_most : FD := ⟨7, 3, false, [(.expr (.call false 13 [(.var 0), (.var 1), (.var 2)])),
    (.cond (.cmp .eq (.call false 36 [(.var 0), (.var 1), (.var 2)]) (.const (.int 0))) [(.ret (.const .none))] []),
    (.asg (.name 3) (.comp [4] (.name 4) .range [(.var 1)] none (.call false 32 [(.var 0), (.var 1), (.var 2), (.var 4)]))),
    (.ret (.bi .max [(.comp [6] (.name 6) .seq [(.var 3)] none (.bi .min [(.comp [5] (.name 5) .seq [(.var 6)] none (.bi .len [(.var 5)]))]))]))]⟩
def fd_may_on : FD := ⟨5, 5, false, [(.ret (.cmp .isIn (.var 4) (.call false 18 [(.var 0), (.var 1), (.var 2), (.var 3)])))]⟩
def fd_may_have : FD := ⟨5, 5, false, [(.expr (.call false 52 [(.var 0), (.var 1), (.var 2), (.var 3), (.var 4)])),
    (.ret (.call false 100 [(.var 0), (.var 1), (.var 2), (.var 3), (.var 4)]))]⟩
def fd_days_of : FD := ⟨5, 4, false, [(.expr (.call false 13 [(.var 0), (.var 1), (.var 2)])),
    (.expr (.call false 51 [(.var 0), (.var 3)])),
    (.expr (.call false 24 [(.var 0), (.var 1), (.var 2)])),
    (.ret (.comp [4] (.name 4) .range [(.var 1)] (some (.call false 100 [(.var 0), (.var 1), (.var 2), (.var 4), (.var 3)])) (.var 4)))]⟩
def fd_reach_text : FD := ⟨2, 2, false, [(.expr (.call false 6 [(.var 0), (.const (.int 1))])),
    (.expr (.call false 51 [(.var 0), (.var 1)])),
    (.ret (.dget 2))]⟩
def fd_far_between : FD := ⟨4, 2, false, [(.ret (.bi .sum [(.comp [2, 3] (.tup [2, 3]) .zip [(.var 0), (.var 1)] none (.bi .abs [(.bin .sub (.var 2) (.var 3))]))]))]⟩
def fd_need_few : FD := ⟨3, 3, false, [(.expr (.call false 13 [(.var 0), (.var 1), (.var 2)])),
    (.cond (.cmp .gt (.bi .len [(.ix (.var 0) (.const (.int 0)))]) (.const (.int 4))) [(.raise 13)] [])]⟩
def fd_best_of : FD := ⟨5, 3, false, [(.asg (.name 3) (.comp [4] (.name 4) .seq [(.call false 46 [(.var 0), (.var 1)])] (some (.call false 22 [(.var 0), (.var 1), (.var 4)])) (.var 4))),
    (.ret (.bi .min [(.comp [4] (.name 4) .seq [(.var 3)] none (.tup [(.call false 105 [(.var 2), (.var 4)]), (.var 4)]))]))]⟩
def fd_nearest : FD := ⟨3, 3, false, [(.expr (.call false 106 [(.var 0), (.var 1), (.var 2)])),
    (.ret (.ix (.call false 107 [(.var 0), (.var 1), (.var 2)]) (.const (.int 1))))]⟩
def fd_how_far : FD := ⟨3, 3, false, [(.expr (.call false 106 [(.var 0), (.var 1), (.var 2)])),
    (.ret (.ix (.call false 107 [(.var 0), (.var 1), (.var 2)]) (.const (.int 0))))]⟩
def fd_how_many_looks : FD := ⟨3, 3, false, [(.expr (.call false 39 [(.var 0), (.var 1), (.var 2)])),
    (.ret (.call false 43 [(.var 0), (.var 1), (.var 2)]))]⟩
def fd_first_clash : FD := ⟨5, 3, false, [(.expr (.call false 39 [(.var 0), (.var 1), (.var 2)])),
    (.asg (.name 3) (.comp [4] (.name 4) .range [(.bi .len [(.var 2)])] (some (.cmp .eq (.call false 43 [(.var 0), (.var 1), (.slice (.var 2) none (some (.bin .add (.var 4) (.const (.int 1)))))]) (.const (.int 0)))) (.var 4))),
    (.ret (.ite (.cmp .ne (.var 3) (.lst [])) (.ix (.var 3) (.const (.int 0))) (.const .none)))]⟩
def fd_fewest_looks : FD := ⟨6, 3, false, [(.expr (.call false 39 [(.var 0), (.var 1), (.var 2)])),
    (.cond (.cmp .eq (.call false 43 [(.var 0), (.var 1), (.var 2)]) (.const (.int 0))) [(.ret (.const .none))] []),
    (.asg (.name 3) (.const (.int 0))),
    (.for_ (.name 4) .range [(.var 1)] [(.asg (.name 5) (.call false 41 [(.var 0), (.var 2), (.var 4)])), (.asg (.name 3) (.bin .sub (.bin .add (.var 3) (.bi .len [(.var 5)])) (.bi .len [(.call false 26 [(.var 5), (.call false 25 [(.var 0), (.var 5)])])])))]),
    (.ret (.var 3))]⟩
def fd_law_all_plays : FD := ⟨7, 2, false, [(.asg (.name 2) (.lst [(.tup [])])),
    (.for_ (.name 3) .range [(.var 1)] [(.asg (.name 4) (.lst [])), (.for_ (.name 5) .seq [(.var 2)] [(.asg (.name 4) (.bin .add (.var 4) (.comp [6] (.name 6) .seq [(.call false 82 [(.ix (.var 0) (.const (.int 1)))])] none (.bin .add (.var 5) (.tup [(.var 6)])))))]), (.asg (.name 2) (.var 4))]),
    (.ret (.var 2))]⟩
def fd_law_fitting : FD := ⟨7, 3, false, [(.asg (.name 3) (.var 1)),
    (.for_ (.tup [4, 5]) .seq [(.var 2)] [(.asg (.name 3) (.comp [6] (.name 6) .seq [(.var 3)] (some (.cmp .eq (.call false 71 [(.var 0), (.slice (.var 6) none (some (.bin .add (.var 4) (.const (.int 1)))))]) (.var 5))) (.var 6)))]),
    (.ret (.var 3))]⟩
def fd_law_looks_refused : FD := ⟨6, 2, false, [(.asg (.name 2) (.bin .mul (.tup [(.const (.int 0))]) (.bi .len [(.ix (.var 0) (.const (.int 0)))]))),
    (.asg (.name 3) (.lst [(.const .none), (.const (.int 5)), (.tup []), (.tup [(.tup [(.const (.int 0)), (.var 2)])]), (.lst [(.const .none)]), (.lst [(.tup [(.var 1), (.var 2)])]), (.lst [(.tup [(.const (.int 0)), (.const .none)])])])),
    (.asg (.name 3) (.bin .add (.var 3) (.lst [(.lst [(.tup [(.const (.int 0)), (.bin .mul (.tup [(.const (.int 2))]) (.bi .len [(.var 2)]))])]), (.lst [(.tup [(.const (.int 0)), (.var 2)]), (.tup [(.const (.int 0)), (.var 2)])]), (.bin .mul (.lst [(.tup [(.const (.int 0)), (.var 2)])]) (.const (.int 5))), (.lst [(.lst [(.const (.int 0)), (.var 2)])])]))),
    (.for_ (.name 4) .seq [(.var 3)] [(.asgO 5 (.lst [(.told 44 [(.var 0), (.var 1), (.var 4)])])), (.app 5 (.told 112 [(.var 0), (.var 1), (.var 4)])), (.app 5 (.told 113 [(.var 0), (.var 1), (.var 4)])), (.app 5 (.told 114 [(.var 0), (.var 1), (.var 4)])), (.cond (.cmp .ne (.peek 5) (.bin .mul (.lst [(.tup [(.const (.str "refused")), (.const (.str "BadLooks"))])]) (.const (.int 4)))) [(.ret (.const (.bool false)))] [])]),
    (.for_ (.name 4) .seq [(.lst [(.const .none), (.const (.int 5)), (.lst []), (.lst [(.const (.int 0))]), (.tup [(.var 1)]), (.tup [(.const (.int 0)), (.const (.int 0))]), (.tup [(.neg (.const (.int 1)))]), (.tup [(.const (.bool true))])])] [(.cond (.cmp .ne (.told 45 [(.var 0), (.var 1), (.bin .mul (.tup [(.tup [])]) (.var 1)), (.var 4)]) (.tup [(.const (.str "refused")), (.const (.str "BadDay"))])) [(.ret (.const (.bool false)))] [])]),
    (.ret (.const (.bool true)))]⟩
def fd_need_text : FD := ⟨1, 1, false, [(.cond (.not (.isa (.var 0) .str)) [(.raise 14)] [])]⟩
def fd_figure_in : FD := ⟨1, 1, false, [(.cond (.or (.cmp .ne (.bi .len [(.var 0)]) (.const (.int 1))) (.cmp .notIn (.var 0) (.const (.str "0123456789")))) [(.raise 14)] []),
    (.ret (.bi .int [(.var 0)]))]⟩
def fd_law_spoilt : FD := ⟨6, 3, true, [(.par [3, 4] [(.call true 63 [(.bin .add (.bi .len [(.var 1)]) (.const (.int 1)))]), (.call true 63 [(.const (.int 3))])]),
    (.asg (.name 5) (.ite (.cmp .lt (.var 4) (.const (.int 2))) (.ix (.var 2) (.call true 63 [(.bi .len [(.var 2)])])) (.const (.str "")))),
    (.ret (.bin .add (.bin .add (.slice (.var 1) none (some (.var 3))) (.var 5)) (.slice (.var 1) (some (.bin .add (.var 3) (.bi .int [(.cmp .gt (.var 4) (.const (.int 0)))]))) none)))]⟩
def fd_law_asked : FD := ⟨5, 4, false, [(.asgO 4 (.lst [(.call false 19 [(.var 0), (.var 1), (.var 2), (.const (.int 0))])])),
    (.asgO 4 (.bin .add (.peek 4) (.lst [(.lst [(.call false 78 [(.var 0), (.var 1), (.var 2)]), (.call false 76 [(.var 0), (.var 1), (.var 2)]), (.call false 77 [(.var 0), (.var 1), (.var 2)])])]))),
    (.app 4 (.lst [(.call false 44 [(.var 0), (.var 1), (.var 3)]), (.call false 112 [(.var 0), (.var 1), (.var 3)]), (.call false 114 [(.var 0), (.var 1), (.var 3)])])),
    (.app 4 (.call false 45 [(.var 0), (.var 1), (.bin .mul (.tup [(.tup [])]) (.var 1)), (.tup [(.const (.int 0))])])),
    (.cond (.call false 23 [(.var 0), (.var 1), (.var 2)]) [(.asgO 4 (.bin .add (.peek 4) (.lst [(.call false 80 [(.var 0), (.var 1), (.var 2), (.const (.int 0))]), (.call false 102 [(.var 0), (.var 1), (.var 2), (.ix (.ix (.var 0) (.const (.int 1))) (.const (.int 0)))])]))), (.app 4 (.lst [(.call false 29 [(.var 0), (.var 1), (.var 2)]), (.call false 86 [(.var 0), (.var 1), (.var 2)])])), (.cond (.cmp .lt (.call false 78 [(.var 0), (.var 1), (.var 2)]) (.const (.int 301))) [(.app 4 (.call false 37 [(.var 0), (.var 1), (.var 2)]))] [])] []),
    (.frz 4 (.ret (.var 4)))]⟩
def fd_lowest : FD := ⟨4, 2, false, [(.par [2, 3] [(.var 0), (.var 1)]),
    (.while_ (.cmp .ne (.var 3) (.const (.int 0))) [(.par [2, 3] [(.var 3), (.bin .mod (.var 2) (.var 3))])]),
    (.ret (.tup [(.bin .fdiv (.var 0) (.var 2)), (.bin .fdiv (.var 1) (.var 2))]))]⟩
def fd_times : FD := ⟨2, 2, false, [(.ret (.call false 138 [(.bin .mul (.ix (.var 0) (.const (.int 0))) (.ix (.var 1) (.const (.int 0)))), (.bin .mul (.ix (.var 0) (.const (.int 1))) (.ix (.var 1) (.const (.int 1))))]))]⟩
def fd_plus : FD := ⟨2, 2, false, [(.ret (.call false 138 [(.bin .add (.bin .mul (.ix (.var 0) (.const (.int 0))) (.ix (.var 1) (.const (.int 1)))) (.bin .mul (.ix (.var 1) (.const (.int 0))) (.ix (.var 0) (.const (.int 1))))), (.bin .mul (.ix (.var 0) (.const (.int 1))) (.ix (.var 1) (.const (.int 1))))]))]⟩
def fd_is_share : FD := ⟨1, 1, false, [(.cond (.or (.not (.isa (.var 0) .tuple)) (.or (.cmp .ne (.bi .len [(.var 0)]) (.const (.int 2))) (.not (.call false 1 [(.ix (.var 0) (.const (.int 1))), (.const (.int 1)), (.const (.int 1000))])))) [(.ret (.const (.bool false)))] []),
    (.ret (.and (.call false 1 [(.ix (.var 0) (.const (.int 0))), (.const (.int 0)), (.ix (.var 0) (.const (.int 1)))]) (.cmp .eq (.call false 138 [(.ix (.var 0) (.const (.int 0))), (.ix (.var 0) (.const (.int 1)))]) (.var 0))))]⟩
def fd_need_shares : FD := ⟨4, 3, false, [(.expr (.call false 6 [(.var 0), (.var 1)])),
    (.cond (.or (.not (.isa (.var 2) .tuple)) (.or (.cmp .ne (.bi .len [(.var 2)]) (.bi .len [(.ix (.var 0) (.const (.int 1)))])) (.not (.bi .all [(.comp [3] (.name 3) .seq [(.var 2)] none (.call false 141 [(.var 3)]))])))) [(.raise 11)] [])]⟩
def fd_none_of : FD := ⟨6, 2, false, [(.asg (.name 2) (.tup [(.const (.int 1)), (.const (.int 1))])),
    (.for_ (.name 3) .seq [(.var 1)] [(.asg (.tup [4, 5]) (.ix (.var 0) (.var 3))), (.asg (.name 2) (.call false 139 [(.var 2), (.tup [(.bin .sub (.var 5) (.var 4)), (.var 5)])]))]),
    (.ret (.var 2))]⟩
def fd_day_chance : FD := ⟨13, 5, false, [(.par [5, 6] [(.call false 18 [(.var 0), (.var 1), (.var 3), (.var 4)]), (.call false 17 [(.var 0), (.var 1), (.var 3), (.var 4)])]),
    (.asg (.name 7) (.call false 143 [(.var 2), (.comp [8] (.name 8) .seq [(.ix (.var 0) (.const (.int 1)))] (some (.cmp .notIn (.var 8) (.var 5))) (.var 8))])),
    (.asg (.name 9) (.tup [(.const (.int 0)), (.const (.int 1))])),
    (.for_ (.name 10) .seq [(.call false 30 [(.var 6)])] [(.asg (.name 11) (.call false 143 [(.var 2), (.comp [8] (.name 8) .seq [(.var 5)] (some (.bi .any [(.comp [12] (.name 12) .seq [(.var 8)] none (.cmp .isIn (.var 12) (.var 10)))])) (.var 8))])), (.asg (.name 9) (.call false 140 [(.var 9), (.ite (.cmp .eq (.bin .mod (.bi .len [(.var 10)]) (.const (.int 2))) (.const (.int 0))) (.var 11) (.tup [(.neg (.ix (.var 11) (.const (.int 0)))), (.ix (.var 11) (.const (.int 1)))]))]))]),
    (.ret (.call false 139 [(.var 7), (.var 9)]))]⟩
def fd_chance : FD := ⟨6, 4, false, [(.asg (.name 4) (.tup [(.const (.int 1)), (.const (.int 1))])),
    (.for_ (.name 5) .range [(.var 1)] [(.asg (.name 4) (.call false 139 [(.var 4), (.call false 144 [(.var 0), (.var 1), (.var 2), (.var 3), (.var 5)])]))]),
    (.ret (.var 4))]⟩
def fd_likely_dust : FD := ⟨8, 3, false, [(.expr (.call false 142 [(.var 0), (.var 1), (.var 2)])),
    (.cond (.cmp .gt (.bi .len [(.ix (.var 0) (.const (.int 0)))]) (.const (.int 4))) [(.raise 13)] []),
    (.par [3, 4, 5] [(.dget 2), (.tup [(.neg (.const (.int 1))), (.const (.int 1))]), (.const .none)]),
    (.for_ (.name 6) .seq [(.call false 46 [(.var 0), (.var 1)])] [(.asg (.name 7) (.call false 145 [(.var 0), (.var 1), (.var 3), (.var 6)])), (.cond (.cmp .lt (.bin .mul (.ix (.var 4) (.const (.int 0))) (.ix (.var 7) (.const (.int 1)))) (.bin .mul (.ix (.var 7) (.const (.int 0))) (.ix (.var 4) (.const (.int 1))))) [(.par [4, 5] [(.var 7), (.var 6)])] [])]),
    (.ret (.var 5))]⟩
def fd_is_hand : FD := ⟨2, 2, false, [(.ret (.and (.call false 7 [(.var 0), (.var 1)]) (.chain .le .le (.const (.int 1)) (.bi .len [(.var 1)]) (.const (.int 4)))))]⟩
def fd_need_players : FD := ⟨5, 4, false, [(.expr (.call false 13 [(.var 0), (.var 1), (.var 2)])),
    (.cond (.or (.not (.isa (.var 3) .tuple)) (.not (.chain .le .le (.const (.int 1)) (.bi .len [(.var 3)]) (.const (.int 4))))) [(.raise 10)] []),
    (.cond (.not (.bi .all [(.comp [4] (.name 4) .seq [(.var 3)] none (.call false 148 [(.var 0), (.var 4)]))])) [(.raise 10)] [])]⟩
def fd_days_for : FD := ⟨16, 5, false, [(.par [5, 6] [(.call false 18 [(.var 0), (.var 1), (.var 2), (.var 4)]), (.call false 17 [(.var 0), (.var 1), (.var 2), (.var 4)])]),
    (.asg (.name 7) (.lst [(.tup [])])),
    (.for_ (.name 8) .seq [(.var 3)] [(.asg (.name 9) (.lst [])), (.for_ (.name 10) .seq [(.var 7)] [(.asg (.name 9) (.bin .add (.var 9) (.comp [11] (.name 11) .seq [(.bin .add (.lst [(.const .none)]) (.comp [12] (.name 12) .seq [(.var 8)] (some (.cmp .isIn (.var 12) (.var 5))) (.var 12)))] none (.bin .add (.var 10) (.tup [(.var 11)])))))]), (.asg (.name 7) (.var 9))]),
    (.asgO 13 (.lst [])),
    (.for_ (.name 10) .seq [(.var 7)] [(.asg (.name 14) (.comp2 [11, 15] [15] (.name 11) .seq [(.var 10)] (some (.cmp .isNot (.var 11) (.const .none))) (.name 15) (.var 11) (.var 15))), (.cond (.bi .all [(.comp [15] (.name 15) .seq [(.var 6)] none (.cmp .isIn (.var 15) (.var 14)))]) [(.app 13 (.var 10))] [])]),
    (.frz 13 (.ret (.var 13)))]⟩
def fd_first_week : FD := ⟨7, 4, false, [(.expr (.call false 149 [(.var 0), (.var 1), (.var 2), (.var 3)])),
    (.asgO 4 (.lst [])),
    (.for_ (.name 5) .range [(.var 1)] [(.asg (.name 6) (.call false 150 [(.var 0), (.var 1), (.var 2), (.var 3), (.var 5)])), (.cond (.cmp .eq (.var 6) (.lst [])) [(.ret (.const .none))] []), (.app 4 (.ix (.var 6) (.const (.int 0))))]),
    (.ret (.bi .tuple [(.peek 4)]))]⟩
def fd_need_part : FD := ⟨3, 3, false, [(.expr (.call false 6 [(.var 0), (.var 1)])),
    (.cond (.not (.dget 2)) [(.raise 9)] [])]⟩
def fd_all_dusts_for : FD := ⟨9, 3, false, [(.asg (.name 3) (.lst [(.tup [])])),
    (.for_ (.name 4) .seq [(.var 2)] [(.asg (.name 5) (.ite (.cmp .is (.var 4) (.const .none)) (.bi .listRange [(.bin .add (.var 1) (.const (.int 1)))]) (.lst [(.var 4)]))), (.asg (.name 6) (.lst [])), (.for_ (.name 7) .seq [(.var 3)] [(.asg (.name 6) (.bin .add (.var 6) (.comp [8] (.name 8) .seq [(.var 5)] none (.bin .add (.var 7) (.tup [(.var 8)])))))]), (.asg (.name 3) (.var 6))]),
    (.ret (.comp [7] (.name 7) .seq [(.var 3)] (some (.call false 22 [(.var 0), (.var 1), (.var 7)])) (.var 7)))]⟩
def fd_dusts_for : FD := ⟨3, 3, false, [(.expr (.call false 153 [(.var 0), (.var 1), (.var 2)])),
    (.ret (.call false 154 [(.var 0), (.var 1), (.var 2)]))]⟩
def fd_count_fit : FD := ⟨4, 3, false, [(.ret (.bi .sum [(.comp [3] (.name 3) .seq [(.call false 154 [(.var 0), (.var 1), (.var 2)])] none (.call false 36 [(.var 0), (.var 1), (.var 3)]))]))]⟩
def fd_how_many_fit : FD := ⟨3, 3, false, [(.expr (.call false 153 [(.var 0), (.var 1), (.var 2)])),
    (.ret (.call false 162 [(.var 0), (.var 1), (.var 2)]))]⟩
def fd_worst_behind : FD := ⟨7, 4, false, [(.asg (.name 4) (.comp [5] (.name 5) .range [(.bin .add (.var 1) (.const (.int 1)))] none (.bin .add (.bin .add (.slice (.var 2) none (some (.var 3))) (.tup [(.var 5)])) (.slice (.var 2) (some (.bin .add (.var 3) (.const (.int 1)))) none)))),
    (.ret (.bi .max [(.comp [6] (.name 6) .seq [(.var 4)] none (.call false 162 [(.var 0), (.var 1), (.var 6)]))]))]⟩
def fd_best_key : FD := ⟨6, 3, false, [(.expr (.call false 153 [(.var 0), (.var 1), (.var 2)])),
    (.cond (.cmp .eq (.call false 154 [(.var 0), (.var 1), (.var 2)]) (.lst [])) [(.raise 12)] []),
    (.asg (.name 3) (.comp [4, 5] (.tup [4, 5]) .enum [(.ix (.var 0) (.const (.int 0)))] (some (.cmp .is (.ix (.var 2) (.var 4)) (.const .none))) (.tup [(.call false 164 [(.var 0), (.var 1), (.var 2), (.var 4)]), (.var 5)]))),
    (.ret (.ite (.cmp .ne (.var 3) (.lst [])) (.ix (.bi .min [(.var 3)]) (.const (.int 1))) (.const .none)))]⟩
def fd_law_all_dusts : FD := ⟨8, 3, false, [(.asg (.name 3) (.lst [(.tup [])])),
    (.for_ (.name 4) .seq [(.var 2)] [(.asg (.name 5) (.lst [])), (.for_ (.name 6) .seq [(.var 3)] [(.asg (.name 5) (.bin .add (.var 5) (.comp [7] (.name 7) .range [(.bin .add (.var 1) (.const (.int 1)))] (some (.or (.cmp .is (.var 4) (.const .none)) (.cmp .eq (.var 7) (.var 4)))) (.bin .add (.var 6) (.tup [(.var 7)])))))]), (.asg (.name 3) (.var 5))]),
    (.ret (.var 3))]⟩
def fd_law_part_refused : FD := ⟨6, 3, false, [(.asg (.name 3) (.bi .len [(.ix (.var 0) (.const (.int 0)))])),
    (.for_ (.name 4) .seq [(.lst [(.const .none), (.const (.int 5)), (.tup []), (.bi .list [(.var 2)]), (.bin .add (.var 2) (.tup [(.const (.int 0))])), (.bin .mul (.tup [(.bin .add (.var 1) (.const (.int 1)))]) (.var 3)), (.bin .mul (.tup [(.neg (.const (.int 1)))]) (.var 3)), (.bin .mul (.tup [(.const (.bool true))]) (.var 3))])] [(.asgO 5 (.lst [(.told 155 [(.var 0), (.var 1), (.var 4)])])), (.app 5 (.told 163 [(.var 0), (.var 1), (.var 4)])), (.app 5 (.told 156 [(.var 0), (.var 1), (.var 4), (.const .none)])), (.app 5 (.told 165 [(.var 0), (.var 1), (.var 4)])), (.cond (.cmp .ne (.peek 5) (.bin .mul (.lst [(.tup [(.const (.str "refused")), (.const (.str "BadPart"))])]) (.const (.int 4)))) [(.ret (.const (.bool false)))] [])]),
    (.cond (.and (.cmp .gt (.var 3) (.const (.int 3))) (.cmp .ne (.told 155 [(.var 0), (.var 1), (.bin .mul (.tup [(.const .none)]) (.var 3))]) (.tup [(.const (.str "refused")), (.const (.str "BadPart"))]))) [(.ret (.const (.bool false)))] []),
    (.for_ (.name 4) .seq [(.lst [(.const .none), (.const (.int 5)), (.const (.str "zed")), (.tup [(.const (.str "do"))])])] [(.cond (.cmp .ne (.told 156 [(.var 0), (.var 1), (.var 2), (.var 4)]) (.tup [(.const (.str "refused")), (.const (.str "BadKey"))])) [(.ret (.const (.bool false)))] [])]),
    (.ret (.const (.bool true)))]⟩
def fd_how_many_weeks : FD := ⟨5, 4, false, [(.expr (.call false 149 [(.var 0), (.var 1), (.var 2), (.var 3)])),
    (.ret (.call false 35 [(.comp [4] (.name 4) .range [(.var 1)] none (.bi .len [(.call false 150 [(.var 0), (.var 1), (.var 2), (.var 3), (.var 4)])]))]))]⟩
def fd_chosen : FD := ⟨6, 2, false, [(.cond (.cmp .eq (.var 1) (.const (.int 0))) [(.ret (.lst [(.tup [])]))] []),
    (.asg (.name 2) (.lst [])),
    (.for_ (.tup [3, 4]) .enum [(.var 0)] [(.asg (.name 2) (.bin .add (.var 2) (.comp [5] (.name 5) .seq [(.call false 171 [(.slice (.var 0) (some (.bin .add (.var 3) (.const (.int 1)))) none), (.bin .sub (.var 1) (.const (.int 1)))])] none (.bin .add (.tup [(.var 4)]) (.var 5)))))]),
    (.ret (.var 2))]⟩
def fd_have_week : FD := ⟨5, 4, false, [(.ret (.bi .all [(.comp [4] (.name 4) .range [(.var 1)] none (.cmp .ne (.call false 150 [(.var 0), (.var 1), (.var 2), (.var 3), (.var 4)]) (.lst [])))]))]⟩
def fd_least_players : FD := ⟨6, 4, false, [(.expr (.call false 149 [(.var 0), (.var 1), (.var 2), (.var 3)])),
    (.for_ (.name 4) .range [(.bin .add (.bi .len [(.var 3)]) (.const (.int 1)))] [(.cond (.bi .any [(.comp [5] (.name 5) .seq [(.call false 171 [(.var 3), (.var 4)])] none (.call false 172 [(.var 0), (.var 1), (.var 2), (.var 5)]))]) [(.ret (.var 4))] [])]),
    (.ret (.const .none))]⟩
def fd_law_rows : FD := ⟨5, 2, false, [(.cond (.cmp .eq (.var 1) (.bi .len [(.var 0)])) [(.ret (.lst [(.tup [])]))] []),
    (.asg (.name 2) (.lst [])),
    (.for_ (.name 3) .seq [(.bin .add (.lst [(.const .none)]) (.bi .list [(.ix (.var 0) (.var 1))]))] [(.asg (.name 2) (.bin .add (.var 2) (.comp [4] (.name 4) .seq [(.call false 174 [(.var 0), (.bin .add (.var 1) (.const (.int 1)))])] none (.bin .add (.tup [(.var 3)]) (.var 4)))))]),
    (.ret (.var 2))]⟩
def fd_law_any_players : FD := ⟨7, 3, true, [(.asgO 3 (.lst [])),
    (.for_ (.name 4) .range [(.bin .add (.const (.int 1)) (.call true 63 [(.var 2)]))] [(.asg (.name 5) (.slice (.comp [6] (.name 6) .seq [(.ix (.var 1) (.const (.int 1)))] (some (.cmp .eq (.call true 63 [(.const (.int 2))]) (.const (.int 0)))) (.var 6)) none (some (.const (.int 3))))), (.app 3 (.ite (.cmp .ne (.var 5) (.lst [])) (.bi .tuple [(.var 5)]) (.slice (.ix (.var 1) (.const (.int 1))) none (some (.const (.int 1))))))]),
    (.ret (.bi .tuple [(.peek 3)]))]⟩
def fd_law_players_refused : FD := ⟨7, 3, false, [(.asg (.name 3) (.ix (.ix (.var 0) (.const (.int 1))) (.const (.int 0)))),
    (.asg (.name 4) (.lst [(.const .none), (.const (.int 5)), (.tup []), (.tup [(.tup [])]), (.lst [(.tup [(.var 3)])]), (.tup [(.tup [(.var 3), (.var 3)])]), (.tup [(.tup [(.const (.str "do"))])]), (.tup [(.tup [(.tup [(.const (.str "zed"))])])])])),
    (.asg (.name 4) (.bin .add (.var 4) (.lst [(.bin .mul (.tup [(.tup [(.var 3)])]) (.const (.int 5))), (.tup [(.const .none)]), (.tup [(.lst [(.var 3)])])]))),
    (.for_ (.name 5) .seq [(.var 4)] [(.asgO 6 (.lst [(.told 170 [(.var 0), (.var 1), (.var 2), (.var 5)])])), (.app 6 (.told 151 [(.var 0), (.var 1), (.var 2), (.var 5)])), (.cond (.cmp .ne (.bin .add (.peek 6) (.lst [(.told 173 [(.var 0), (.var 1), (.var 2), (.var 5)])])) (.bin .mul (.lst [(.tup [(.const (.str "refused")), (.const (.str "BadPlayers"))])]) (.const (.int 3)))) [(.ret (.const (.bool false)))] [])]),
    (.asg (.name 6) (.told 151 [(.var 0), (.var 1), (.var 2), (.tup [(.slice (.ix (.var 0) (.const (.int 1))) none (some (.const (.int 5))))])])),
    (.ret (.cmp .eq (.cmp .eq (.peek 6) (.tup [(.const (.str "refused")), (.const (.str "BadPlayers"))])) (.cmp .gt (.bi .len [(.ix (.var 0) (.const (.int 1)))]) (.const (.int 4)))))]⟩
def fd_law_lots_of : FD := ⟨4, 1, false, [(.asg (.name 1) (.lst [(.tup [])])),
    (.for_ (.name 2) .seq [(.var 0)] [(.asg (.name 1) (.bin .add (.var 1) (.comp [3] (.name 3) .seq [(.var 1)] none (.bin .add (.var 3) (.tup [(.var 2)])))))]),
    (.ret (.slice (.var 1) (some (.const (.int 1))) none))]⟩
def fd_chance_of : FD := ⟨4, 4, false, [(.expr (.call false 142 [(.var 0), (.var 1), (.var 2)])),
    (.expr (.call false 13 [(.var 0), (.var 1), (.var 3)])),
    (.ret (.call false 145 [(.var 0), (.var 1), (.dget 2), (.var 3)]))]⟩
def fd_law_low : FD := ⟨4, 2, false, [(.par [2, 3] [(.var 0), (.var 1)]),
    (.while_ (.cmp .ne (.var 3) (.const (.int 0))) [(.par [2, 3] [(.var 3), (.bin .mod (.var 2) (.var 3))])]),
    (.ret (.tup [(.bin .fdiv (.var 0) (.var 2)), (.bin .fdiv (.var 1) (.var 2))]))]⟩
def fd_law_add : FD := ⟨2, 2, false, [(.ret (.call false 182 [(.bin .add (.bin .mul (.ix (.var 0) (.const (.int 0))) (.ix (.var 1) (.const (.int 1)))) (.bin .mul (.ix (.var 1) (.const (.int 0))) (.ix (.var 0) (.const (.int 1))))), (.bin .mul (.ix (.var 0) (.const (.int 1))) (.ix (.var 1) (.const (.int 1))))]))]⟩
def fd_law_by : FD := ⟨2, 2, false, [(.ret (.call false 182 [(.bin .mul (.ix (.var 0) (.const (.int 0))) (.ix (.var 1) (.const (.int 0)))), (.bin .mul (.ix (.var 0) (.const (.int 1))) (.ix (.var 1) (.const (.int 1))))]))]⟩
def fd_law_any_shares : FD := ⟨5, 2, true, [(.asgO 2 (.lst [])),
    (.for_ (.name 3) .seq [(.ix (.var 1) (.const (.int 1)))] [(.asg (.name 4) (.bin .add (.const (.int 1)) (.call true 63 [(.const (.int 6))]))), (.app 2 (.call false 182 [(.call true 63 [(.bin .add (.var 4) (.const (.int 1)))]), (.var 4)]))]),
    (.ret (.bi .tuple [(.peek 2)]))]⟩
def fd_law_day_share : FD := ⟨6, 3, false, [(.asg (.name 3) (.tup [(.const (.int 1)), (.const (.int 1))])),
    (.for_ (.tup [4, 5]) .zip [(.ix (.var 0) (.const (.int 1))), (.var 1)] [(.asg (.name 3) (.call false 184 [(.var 3), (.ite (.cmp .isIn (.var 4) (.var 2)) (.var 5) (.tup [(.bin .sub (.ix (.var 5) (.const (.int 1))) (.ix (.var 5) (.const (.int 0)))), (.ix (.var 5) (.const (.int 1)))]))]))]),
    (.ret (.var 3))]⟩
def fd_law_play_share : FD := ⟨5, 3, false, [(.asg (.name 3) (.tup [(.const (.int 1)), (.const (.int 1))])),
    (.for_ (.name 4) .seq [(.var 2)] [(.asg (.name 3) (.call false 184 [(.var 3), (.call false 186 [(.var 0), (.var 1), (.var 4)])]))]),
    (.ret (.var 3))]⟩
def fd_law_shares_refused : FD := ⟨8, 3, false, [(.asg (.name 3) (.bi .len [(.ix (.var 0) (.const (.int 1)))])),
    (.asg (.name 4) (.lst [(.const .none), (.const (.int 5)), (.tup []), (.bi .list [(.var 2)]), (.bin .add (.var 2) (.tup [(.tup [(.const (.int 1)), (.const (.int 2))])])), (.bin .mul (.tup [(.tup [(.const (.int 2)), (.const (.int 4))])]) (.var 3)), (.bin .mul (.tup [(.tup [(.const (.int 3)), (.const (.int 2))])]) (.var 3))])),
    (.asg (.name 4) (.bin .add (.var 4) (.lst [(.bin .mul (.tup [(.tup [(.neg (.const (.int 1))), (.const (.int 2))])]) (.var 3)), (.bin .mul (.tup [(.tup [(.const (.int 1)), (.const (.int 0))])]) (.var 3)), (.bin .mul (.tup [(.tup [(.const (.int 0)), (.const (.int 1001))])]) (.var 3)), (.bin .mul (.tup [(.tup [(.const (.bool true)), (.const (.int 1))])]) (.var 3))]))),
    (.asg (.name 4) (.bin .add (.var 4) (.lst [(.bin .mul (.tup [(.const .none)]) (.var 3))]))),
    (.for_ (.name 5) .seq [(.var 4)] [(.asgO 6 (.lst [(.told 180 [(.var 0), (.var 1), (.var 5), (.const .none)])])), (.app 6 (.told 147 [(.var 0), (.var 1), (.var 5)])), (.app 6 (.told 181 [(.var 0), (.var 1), (.var 5), (.const .none), (.const .none), (.const .none)])), (.cond (.cmp .ne (.peek 6) (.bin .mul (.lst [(.tup [(.const (.str "refused")), (.const (.str "BadShares"))])]) (.const (.int 3)))) [(.ret (.const (.bool false)))] [])]),
    (.asg (.name 7) (.tup [(.tup [(.const (.str "do")), (.const (.str "fa")), (.const (.str "la")), (.const (.str "mi")), (.const (.str "re"))]), (.tup [(.tup [(.const (.str "do"))])])])),
    (.ret (.cmp .eq (.told 147 [(.var 7), (.var 1), (.tup [(.tup [(.const (.int 1)), (.const (.int 2))])])]) (.tup [(.const (.str "refused")), (.const (.str "Full"))])))]⟩
def fd_totals_of : FD := ⟨12, 3, false, [(.asg (.name 3) (.lst [(.const (.int 1))])),
    (.for_ (.name 4) .range [(.var 1)] [(.asgO 5 (.bin .mul (.lst [(.const (.int 0))]) (.bin .add (.bi .len [(.ix (.var 0) (.const (.int 1)))]) (.const (.int 1))))), (.for_ (.name 6) .seq [(.call false 32 [(.var 0), (.var 1), (.var 2), (.var 4)])] [(.setAt 5 (.bi .len [(.var 6)]) (.bin .add (.ix (.peek 5) (.bi .len [(.var 6)])) (.const (.int 1))))]), (.asgO 7 (.bin .mul (.lst [(.const (.int 0))]) (.bin .add (.bi .len [(.var 3)]) (.bi .len [(.ix (.var 0) (.const (.int 1)))])))), (.for_ (.tup [8, 9]) .enum [(.var 3)] [(.for_ (.tup [10, 11]) .enum [(.var 5)] [(.setAt 7 (.bin .add (.var 8) (.var 10)) (.bin .add (.ix (.peek 7) (.bin .add (.var 8) (.var 10))) (.bin .mul (.var 9) (.var 11))))])]), (.frz 7 (.asg (.name 3) (.var 7)))]),
    (.ret (.var 3))]⟩
def fd_by_total : FD := ⟨3, 3, false, [(.expr (.call false 13 [(.var 0), (.var 1), (.var 2)])),
    (.ret (.call false 191 [(.var 0), (.var 1), (.var 2)]))]⟩
def fd_most_reaches : FD := ⟨6, 3, false, [(.expr (.call false 13 [(.var 0), (.var 1), (.var 2)])),
    (.asg (.name 3) (.comp [4, 5] (.tup [4, 5]) .enum [(.call false 191 [(.var 0), (.var 1), (.var 2)])] (some (.cmp .gt (.var 5) (.const (.int 0)))) (.var 4))),
    (.ret (.bi .maxD [(.var 3)]))]⟩
def fd_mean_reaches : FD := ⟨6, 3, false, [(.expr (.call false 13 [(.var 0), (.var 1), (.var 2)])),
    (.asg (.name 3) (.call false 191 [(.var 0), (.var 1), (.var 2)])),
    (.cond (.cmp .eq (.bi .sum [(.var 3)]) (.const (.int 0))) [(.raise 12)] []),
    (.ret (.call false 138 [(.bi .sum [(.comp [4, 5] (.tup [4, 5]) .enum [(.var 3)] none (.bin .mul (.var 4) (.var 5)))]), (.bi .sum [(.var 3)])]))]⟩
def tblM : Nat → Option FD
  | 1 => some fd_is_whole
  | 2 => some fd_is_word
  | 3 => some fd_rise
  | 4 => some fd_are_keys
  | 5 => some fd_is_board
  | 6 => some fd_need_board
  | 7 => some fd_are_reaches
  | 8 => some fd_is_good_play
  | 9 => some fd_is_play
  | 10 => some fd_need_play
  | 11 => some fd_is_good_dust
  | 12 => some fd_is_dust
  | 13 => some fd_need_dust
  | 14 => some fd_need_day
  | 15 => some fd_left_by
  | 16 => some fd_dust_of
  | 17 => some fd_keys_of
  | 18 => some fd_lets
  | 19 => some fd_let_on
  | 20 => some fd_touched
  | 21 => some fd_all_barred
  | 22 => some fd_is_there
  | 23 => some fd_can_be
  | 24 => some fd_need_there
  | 25 => some fd_twos_among
  | 26 => some fd_most_pairs
  | 27 => some fd_day_cover
  | 28 => some fd_few_play
  | 29 => some fd_fewest
  | 30 => some fd_parts_of
  | 31 => some fd_covers
  | 32 => some fd_covers_on
  | 33 => some fd_count_covers
  | 34 => some fd_count_on
  | 35 => some fd_product
  | 36 => some fd_count
  | 37 => some fd_plays
  | 38 => some fd_is_look
  | 39 => some fd_need_looks
  | 40 => some fd_last_touches
  | 41 => some fd_wanted
  | 42 => some fd_lets_by
  | 43 => some fd_count_looks
  | 44 => some fd_can_look
  | 45 => some fd_looks_of
  | 46 => some fd_all_dusts
  | 47 => some fd_need_two
  | 48 => some fd_first_parting
  | 49 => some fd_parting
  | 50 => some fd_alike
  | 51 => some fd_need_reach
  | 52 => some fd_need_asked
  | 53 => some fd_sure_on
  | 54 => some fd_surely
  | 60 => some fd_board_text
  | 62 => some fd_law_drawn
  | 63 => some fd_law_roll
  | 67 => some fd_law_any_board
  | 68 => some fd_law_missing
  | 69 => some fd_law_any_day
  | 70 => some fd_law_any_play
  | 71 => some fd_law_left
  | 76 => some fd_barred
  | 77 => some fd_all_let
  | 78 => some fd_how_many
  | 79 => some fd_how_many_on
  | 80 => some fd_sure_reaches
  | 81 => some fd_law_any_dust
  | 82 => some fd_law_parts
  | 83 => some fd_law_is_right
  | 84 => some fd_law_plays
  | 86 => some fd_fewest_by_day
  | 87 => some fd_fewest_play
  | 88 => some fd_hangings
  | 89 => some fd_day_shown
  | 90 => some fd_shown_by
  | 91 => some fd_lots_for
  | 93 => some fd_law_shown
  | 94 => some fd_law_lots_right
  | 96 => some fd_within
  | 97 => some fd_how_many_within
  | 98 => some fd_least_most
  | 100 => some fd_may_on
  | 101 => some fd_may_have
  | 102 => some fd_days_of
  | 103 => some fd_reach_text
  | 105 => some fd_far_between
  | 106 => some fd_need_few
  | 107 => some fd_best_of
  | 108 => some fd_nearest
  | 109 => some fd_how_far
  | 112 => some fd_how_many_looks
  | 113 => some fd_first_clash
  | 114 => some fd_fewest_looks
  | 115 => some fd_law_all_plays
  | 116 => some fd_law_fitting
  | 117 => some fd_law_looks_refused
  | 122 => some fd_need_text
  | 124 => some fd_figure_in
  | 128 => some fd_law_spoilt
  | 136 => some fd_law_asked
  | 138 => some fd_lowest
  | 139 => some fd_times
  | 140 => some fd_plus
  | 141 => some fd_is_share
  | 142 => some fd_need_shares
  | 143 => some fd_none_of
  | 144 => some fd_day_chance
  | 145 => some fd_chance
  | 147 => some fd_likely_dust
  | 148 => some fd_is_hand
  | 149 => some fd_need_players
  | 150 => some fd_days_for
  | 151 => some fd_first_week
  | 153 => some fd_need_part
  | 154 => some fd_all_dusts_for
  | 155 => some fd_dusts_for
  | 162 => some fd_count_fit
  | 163 => some fd_how_many_fit
  | 164 => some fd_worst_behind
  | 165 => some fd_best_key
  | 166 => some fd_law_all_dusts
  | 167 => some fd_law_part_refused
  | 170 => some fd_how_many_weeks
  | 171 => some fd_chosen
  | 172 => some fd_have_week
  | 173 => some fd_least_players
  | 174 => some fd_law_rows
  | 175 => some fd_law_any_players
  | 176 => some fd_law_players_refused
  | 178 => some fd_law_lots_of
  | 180 => some fd_chance_of
  | 182 => some fd_law_low
  | 183 => some fd_law_add
  | 184 => some fd_law_by
  | 185 => some fd_law_any_shares
  | 186 => some fd_law_day_share
  | 187 => some fd_law_play_share
  | 188 => some fd_law_shares_refused
  | 191 => some fd_totals_of
  | 192 => some fd_by_total
  | 193 => some fd_most_reaches
  | 194 => some fd_mean_reaches
  | _ => none
def tbl (i : Nat) : Option FD := if toldBase ≤ i then none else tblM i
theorem tbl_told (i : Nat) : tbl (toldBase + i) = none := by unfold tbl; rw [if_pos (Nat.le_add_right _ _)]
theorem tb_is_whole : tbl 1 = some fd_is_whole := rfl
theorem tb_is_word : tbl 2 = some fd_is_word := rfl
theorem tb_rise : tbl 3 = some fd_rise := rfl
theorem tb_are_keys : tbl 4 = some fd_are_keys := rfl
theorem tb_is_board : tbl 5 = some fd_is_board := rfl
theorem tb_need_board : tbl 6 = some fd_need_board := rfl
theorem tb_are_reaches : tbl 7 = some fd_are_reaches := rfl
theorem tb_is_good_play : tbl 8 = some fd_is_good_play := rfl
theorem tb_is_play : tbl 9 = some fd_is_play := rfl
theorem tb_need_play : tbl 10 = some fd_need_play := rfl
theorem tb_is_good_dust : tbl 11 = some fd_is_good_dust := rfl
theorem tb_is_dust : tbl 12 = some fd_is_dust := rfl
theorem tb_need_dust : tbl 13 = some fd_need_dust := rfl
theorem tb_need_day : tbl 14 = some fd_need_day := rfl
theorem tb_left_by : tbl 15 = some fd_left_by := rfl
theorem tb_dust_of : tbl 16 = some fd_dust_of := rfl
theorem tb_keys_of : tbl 17 = some fd_keys_of := rfl
theorem tb_lets : tbl 18 = some fd_lets := rfl
theorem tb_let_on : tbl 19 = some fd_let_on := rfl
theorem tb_touched : tbl 20 = some fd_touched := rfl
theorem tb_all_barred : tbl 21 = some fd_all_barred := rfl
theorem tb_is_there : tbl 22 = some fd_is_there := rfl
theorem tb_can_be : tbl 23 = some fd_can_be := rfl
theorem tb_need_there : tbl 24 = some fd_need_there := rfl
theorem tb_twos_among : tbl 25 = some fd_twos_among := rfl
theorem tb_most_pairs : tbl 26 = some fd_most_pairs := rfl
theorem tb_day_cover : tbl 27 = some fd_day_cover := rfl
theorem tb_few_play : tbl 28 = some fd_few_play := rfl
theorem tb_fewest : tbl 29 = some fd_fewest := rfl
theorem tb_parts_of : tbl 30 = some fd_parts_of := rfl
theorem tb_covers : tbl 31 = some fd_covers := rfl
theorem tb_covers_on : tbl 32 = some fd_covers_on := rfl
theorem tb_count_covers : tbl 33 = some fd_count_covers := rfl
theorem tb_count_on : tbl 34 = some fd_count_on := rfl
theorem tb_product : tbl 35 = some fd_product := rfl
theorem tb_count : tbl 36 = some fd_count := rfl
theorem tb_plays : tbl 37 = some fd_plays := rfl
theorem tb_is_look : tbl 38 = some fd_is_look := rfl
theorem tb_need_looks : tbl 39 = some fd_need_looks := rfl
theorem tb_last_touches : tbl 40 = some fd_last_touches := rfl
theorem tb_wanted : tbl 41 = some fd_wanted := rfl
theorem tb_lets_by : tbl 42 = some fd_lets_by := rfl
theorem tb_count_looks : tbl 43 = some fd_count_looks := rfl
theorem tb_can_look : tbl 44 = some fd_can_look := rfl
theorem tb_looks_of : tbl 45 = some fd_looks_of := rfl
theorem tb_all_dusts : tbl 46 = some fd_all_dusts := rfl
theorem tb_need_two : tbl 47 = some fd_need_two := rfl
theorem tb_first_parting : tbl 48 = some fd_first_parting := rfl
theorem tb_parting : tbl 49 = some fd_parting := rfl
theorem tb_alike : tbl 50 = some fd_alike := rfl
theorem tb_need_reach : tbl 51 = some fd_need_reach := rfl
theorem tb_need_asked : tbl 52 = some fd_need_asked := rfl
theorem tb_sure_on : tbl 53 = some fd_sure_on := rfl
theorem tb_surely : tbl 54 = some fd_surely := rfl
theorem tb_board_text : tbl 60 = some fd_board_text := rfl
theorem tb_law_drawn : tbl 62 = some fd_law_drawn := rfl
theorem tb_law_roll : tbl 63 = some fd_law_roll := rfl
theorem tb_law_any_board : tbl 67 = some fd_law_any_board := rfl
theorem tb_law_missing : tbl 68 = some fd_law_missing := rfl
theorem tb_law_any_day : tbl 69 = some fd_law_any_day := rfl
theorem tb_law_any_play : tbl 70 = some fd_law_any_play := rfl
theorem tb_law_left : tbl 71 = some fd_law_left := rfl
theorem tb_barred : tbl 76 = some fd_barred := rfl
theorem tb_all_let : tbl 77 = some fd_all_let := rfl
theorem tb_how_many : tbl 78 = some fd_how_many := rfl
theorem tb_how_many_on : tbl 79 = some fd_how_many_on := rfl
theorem tb_sure_reaches : tbl 80 = some fd_sure_reaches := rfl
theorem tb_law_any_dust : tbl 81 = some fd_law_any_dust := rfl
theorem tb_law_parts : tbl 82 = some fd_law_parts := rfl
theorem tb_law_is_right : tbl 83 = some fd_law_is_right := rfl
theorem tb_law_plays : tbl 84 = some fd_law_plays := rfl
theorem tb_fewest_by_day : tbl 86 = some fd_fewest_by_day := rfl
theorem tb_fewest_play : tbl 87 = some fd_fewest_play := rfl
theorem tb_hangings : tbl 88 = some fd_hangings := rfl
theorem tb_day_shown : tbl 89 = some fd_day_shown := rfl
theorem tb_shown_by : tbl 90 = some fd_shown_by := rfl
theorem tb_lots_for : tbl 91 = some fd_lots_for := rfl
theorem tb_law_shown : tbl 93 = some fd_law_shown := rfl
theorem tb_law_lots_right : tbl 94 = some fd_law_lots_right := rfl
theorem tb_within : tbl 96 = some fd_within := rfl
theorem tb_how_many_within : tbl 97 = some fd_how_many_within := rfl
theorem tb_least_most : tbl 98 = some fd_least_most := rfl
theorem tb_may_on : tbl 100 = some fd_may_on := rfl
theorem tb_may_have : tbl 101 = some fd_may_have := rfl
theorem tb_days_of : tbl 102 = some fd_days_of := rfl
theorem tb_reach_text : tbl 103 = some fd_reach_text := rfl
theorem tb_far_between : tbl 105 = some fd_far_between := rfl
theorem tb_need_few : tbl 106 = some fd_need_few := rfl
theorem tb_best_of : tbl 107 = some fd_best_of := rfl
theorem tb_nearest : tbl 108 = some fd_nearest := rfl
theorem tb_how_far : tbl 109 = some fd_how_far := rfl
theorem tb_how_many_looks : tbl 112 = some fd_how_many_looks := rfl
theorem tb_first_clash : tbl 113 = some fd_first_clash := rfl
theorem tb_fewest_looks : tbl 114 = some fd_fewest_looks := rfl
theorem tb_law_all_plays : tbl 115 = some fd_law_all_plays := rfl
theorem tb_law_fitting : tbl 116 = some fd_law_fitting := rfl
theorem tb_law_looks_refused : tbl 117 = some fd_law_looks_refused := rfl
theorem tb_need_text : tbl 122 = some fd_need_text := rfl
theorem tb_figure_in : tbl 124 = some fd_figure_in := rfl
theorem tb_law_spoilt : tbl 128 = some fd_law_spoilt := rfl
theorem tb_law_asked : tbl 136 = some fd_law_asked := rfl
theorem tb_lowest : tbl 138 = some fd_lowest := rfl
theorem tb_times : tbl 139 = some fd_times := rfl
theorem tb_plus : tbl 140 = some fd_plus := rfl
theorem tb_is_share : tbl 141 = some fd_is_share := rfl
theorem tb_need_shares : tbl 142 = some fd_need_shares := rfl
theorem tb_none_of : tbl 143 = some fd_none_of := rfl
theorem tb_day_chance : tbl 144 = some fd_day_chance := rfl
theorem tb_chance : tbl 145 = some fd_chance := rfl
theorem tb_likely_dust : tbl 147 = some fd_likely_dust := rfl
theorem tb_is_hand : tbl 148 = some fd_is_hand := rfl
theorem tb_need_players : tbl 149 = some fd_need_players := rfl
theorem tb_days_for : tbl 150 = some fd_days_for := rfl
theorem tb_first_week : tbl 151 = some fd_first_week := rfl
theorem tb_need_part : tbl 153 = some fd_need_part := rfl
theorem tb_all_dusts_for : tbl 154 = some fd_all_dusts_for := rfl
theorem tb_dusts_for : tbl 155 = some fd_dusts_for := rfl
theorem tb_count_fit : tbl 162 = some fd_count_fit := rfl
theorem tb_how_many_fit : tbl 163 = some fd_how_many_fit := rfl
theorem tb_worst_behind : tbl 164 = some fd_worst_behind := rfl
theorem tb_best_key : tbl 165 = some fd_best_key := rfl
theorem tb_law_all_dusts : tbl 166 = some fd_law_all_dusts := rfl
theorem tb_law_part_refused : tbl 167 = some fd_law_part_refused := rfl
theorem tb_how_many_weeks : tbl 170 = some fd_how_many_weeks := rfl
theorem tb_chosen : tbl 171 = some fd_chosen := rfl
theorem tb_have_week : tbl 172 = some fd_have_week := rfl
theorem tb_least_players : tbl 173 = some fd_least_players := rfl
theorem tb_law_rows : tbl 174 = some fd_law_rows := rfl
theorem tb_law_any_players : tbl 175 = some fd_law_any_players := rfl
theorem tb_law_players_refused : tbl 176 = some fd_law_players_refused := rfl
theorem tb_law_lots_of : tbl 178 = some fd_law_lots_of := rfl
theorem tb_chance_of : tbl 180 = some fd_chance_of := rfl
theorem tb_law_low : tbl 182 = some fd_law_low := rfl
theorem tb_law_add : tbl 183 = some fd_law_add := rfl
theorem tb_law_by : tbl 184 = some fd_law_by := rfl
theorem tb_law_any_shares : tbl 185 = some fd_law_any_shares := rfl
theorem tb_law_day_share : tbl 186 = some fd_law_day_share := rfl
theorem tb_law_play_share : tbl 187 = some fd_law_play_share := rfl
theorem tb_law_shares_refused : tbl 188 = some fd_law_shares_refused := rfl
theorem tb_totals_of : tbl 191 = some fd_totals_of := rfl
theorem tb_by_total : tbl 192 = some fd_by_total := rfl
theorem tb_most_reaches : tbl 193 = some fd_most_reaches := rfl
theorem tb_mean_reaches : tbl 194 = some fd_mean_reaches := rfl
abbrev f_is_whole : Nat := 1
abbrev f_is_word : Nat := 2
abbrev f_rise : Nat := 3
abbrev f_are_keys : Nat := 4
abbrev f_is_board : Nat := 5
abbrev f_need_board : Nat := 6
abbrev f_are_reaches : Nat := 7
abbrev f_is_good_play : Nat := 8
abbrev f_is_play : Nat := 9
abbrev f_need_play : Nat := 10
abbrev f_is_good_dust : Nat := 11
abbrev f_is_dust : Nat := 12
abbrev f_need_dust : Nat := 13
abbrev f_need_day : Nat := 14
abbrev f_left_by : Nat := 15
abbrev f_dust_of : Nat := 16
abbrev f_keys_of : Nat := 17
abbrev f_lets : Nat := 18
abbrev f_let_on : Nat := 19
abbrev f_touched : Nat := 20
abbrev f_all_barred : Nat := 21
abbrev f_is_there : Nat := 22
abbrev f_can_be : Nat := 23
abbrev f_need_there : Nat := 24
abbrev f_twos_among : Nat := 25
abbrev f_most_pairs : Nat := 26
abbrev f_day_cover : Nat := 27
abbrev f_few_play : Nat := 28
abbrev f_fewest : Nat := 29
abbrev f_parts_of : Nat := 30
abbrev f_covers : Nat := 31
abbrev f_covers_on : Nat := 32
abbrev f_count_covers : Nat := 33
abbrev f_count_on : Nat := 34
abbrev f_product : Nat := 35
abbrev f_count : Nat := 36
abbrev f_plays : Nat := 37
abbrev f_is_look : Nat := 38
abbrev f_need_looks : Nat := 39
abbrev f_last_touches : Nat := 40
abbrev f_wanted : Nat := 41
abbrev f_lets_by : Nat := 42
abbrev f_count_looks : Nat := 43
abbrev f_can_look : Nat := 44
abbrev f_looks_of : Nat := 45
abbrev f_all_dusts : Nat := 46
abbrev f_need_two : Nat := 47
abbrev f_first_parting : Nat := 48
abbrev f_parting : Nat := 49
abbrev f_alike : Nat := 50
abbrev f_need_reach : Nat := 51
abbrev f_need_asked : Nat := 52
abbrev f_sure_on : Nat := 53
abbrev f_surely : Nat := 54
abbrev f_board_text : Nat := 60
abbrev f_law_drawn : Nat := 62
abbrev f_law_roll : Nat := 63
abbrev f_law_any_board : Nat := 67
abbrev f_law_missing : Nat := 68
abbrev f_law_any_day : Nat := 69
abbrev f_law_any_play : Nat := 70
abbrev f_law_left : Nat := 71
abbrev f_barred : Nat := 76
abbrev f_all_let : Nat := 77
abbrev f_how_many : Nat := 78
abbrev f_how_many_on : Nat := 79
abbrev f_sure_reaches : Nat := 80
abbrev f_law_any_dust : Nat := 81
abbrev f_law_parts : Nat := 82
abbrev f_law_is_right : Nat := 83
abbrev f_law_plays : Nat := 84
abbrev f_fewest_by_day : Nat := 86
abbrev f_fewest_play : Nat := 87
abbrev f_hangings : Nat := 88
abbrev f_day_shown : Nat := 89
abbrev f_shown_by : Nat := 90
abbrev f_lots_for : Nat := 91
abbrev f_law_shown : Nat := 93
abbrev f_law_lots_right : Nat := 94
abbrev f_within : Nat := 96
abbrev f_how_many_within : Nat := 97
abbrev f_least_most : Nat := 98
abbrev f_may_on : Nat := 100
abbrev f_may_have : Nat := 101
abbrev f_days_of : Nat := 102
abbrev f_reach_text : Nat := 103
abbrev f_far_between : Nat := 105
abbrev f_need_few : Nat := 106
abbrev f_best_of : Nat := 107
abbrev f_nearest : Nat := 108
abbrev f_how_far : Nat := 109
abbrev f_how_many_looks : Nat := 112
abbrev f_first_clash : Nat := 113
abbrev f_fewest_looks : Nat := 114
abbrev f_law_all_plays : Nat := 115
abbrev f_law_fitting : Nat := 116
abbrev f_law_looks_refused : Nat := 117
abbrev f_need_text : Nat := 122
abbrev f_figure_in : Nat := 124
abbrev f_law_spoilt : Nat := 128
abbrev f_law_asked : Nat := 136
abbrev f_lowest : Nat := 138
abbrev f_times : Nat := 139
abbrev f_plus : Nat := 140
abbrev f_is_share : Nat := 141
abbrev f_need_shares : Nat := 142
abbrev f_none_of : Nat := 143
abbrev f_day_chance : Nat := 144
abbrev f_chance : Nat := 145
abbrev f_likely_dust : Nat := 147
abbrev f_is_hand : Nat := 148
abbrev f_need_players : Nat := 149
abbrev f_days_for : Nat := 150
abbrev f_first_week : Nat := 151
abbrev f_need_part : Nat := 153
abbrev f_all_dusts_for : Nat := 154
abbrev f_dusts_for : Nat := 155
abbrev f_count_fit : Nat := 162
abbrev f_how_many_fit : Nat := 163
abbrev f_worst_behind : Nat := 164
abbrev f_best_key : Nat := 165
abbrev f_law_all_dusts : Nat := 166
abbrev f_law_part_refused : Nat := 167
abbrev f_how_many_weeks : Nat := 170
abbrev f_chosen : Nat := 171
abbrev f_have_week : Nat := 172
abbrev f_least_players : Nat := 173
abbrev f_law_rows : Nat := 174
abbrev f_law_any_players : Nat := 175
abbrev f_law_players_refused : Nat := 176
abbrev f_law_lots_of : Nat := 178
abbrev f_chance_of : Nat := 180
abbrev f_law_low : Nat := 182
abbrev f_law_add : Nat := 183
abbrev f_law_by : Nat := 184
abbrev f_law_any_shares : Nat := 185
abbrev f_law_day_share : Nat := 186
abbrev f_law_play_share : Nat := 187
abbrev f_law_shares_refused : Nat := 188
abbrev f_totals_of : Nat := 191
abbrev f_by_total : Nat := 192
abbrev f_most_reaches : Nat := 193
abbrev f_mean_reaches : Nat := 194
end Dk

set_option linter.all false
set_option maxRecDepth 100000
namespace Dk
open PySem (PyData Str)
def b_law : List CS := [(.par [2, 3] [(.call true 67 [(.const (.int 5)), (.const (.int 5))]), (.bin .add (.const (.int 1)) (.call true 63 [(.const (.int 3))]))]),
    (.asg (.name 4) (.call true 81 [(.var 2), (.var 3)])),
    (.par [5, 6] [(.call false 84 [(.var 2), (.var 3), (.var 4)]), (.call true 63 [(.var 3)])]),
    (.cond (.cmp .eq (.var 5) (.lst [])) [(.asg (.name 7) (.ix (.ix (.var 2) (.const (.int 1))) (.const (.int 0)))), (.asgO 8 (.lst [(.told 101 [(.var 2), (.var 3), (.var 4), (.var 6), (.var 7)])])), (.app 8 (.told 54 [(.var 2), (.var 3), (.var 4), (.var 6), (.var 7)])), (.app 8 (.told 80 [(.var 2), (.var 3), (.var 4), (.var 6)])), (.app 8 (.told 102 [(.var 2), (.var 3), (.var 4), (.var 7)])), (.cond (.cmp .ne (.peek 8) (.bin .mul (.lst [(.tup [(.const (.str "refused")), (.const (.str "Nothing"))])]) (.const (.int 4)))) [(.ret (.const (.bool false)))] [])] [(.asg (.name 9) (.lst [])), (.for_ (.name 7) .seq [(.ix (.var 2) (.const (.int 1)))] [(.asg (.name 10) (.comp [11] (.name 11) .seq [(.var 5)] none (.cmp .isIn (.var 7) (.ix (.var 11) (.var 6))))), (.cond (.cmp .ne (.call false 101 [(.var 2), (.var 3), (.var 4), (.var 6), (.var 7)]) (.cmp .isIn (.const (.bool true)) (.var 10))) [(.ret (.const (.bool false)))] []), (.cond (.cmp .ne (.call false 54 [(.var 2), (.var 3), (.var 4), (.var 6), (.var 7)]) (.cmp .notIn (.const (.bool false)) (.var 10))) [(.ret (.const (.bool false)))] []), (.asg (.name 9) (.bin .add (.var 9) (.bin .mul (.lst [(.var 7)]) (.bi .int [(.cmp .notIn (.const (.bool false)) (.var 10))])))), (.asg (.name 12) (.comp [13] (.name 13) .range [(.var 3)] (some (.cmp .ne (.comp [11] (.name 11) .seq [(.var 5)] (some (.cmp .isIn (.var 7) (.ix (.var 11) (.var 13)))) (.var 11)) (.lst []))) (.var 13))), (.cond (.cmp .ne (.call false 102 [(.var 2), (.var 3), (.var 4), (.var 7)]) (.var 12)) [(.ret (.const (.bool false)))] [])]), (.cond (.cmp .ne (.call false 80 [(.var 2), (.var 3), (.var 4), (.var 6)]) (.var 9)) [(.ret (.const (.bool false)))] [])]),
    (.asg (.name 14) (.lst [(.const .none), (.const (.int 5)), (.const (.str "do")), (.tup []), (.tup [(.const (.str "do")), (.const (.str "do"))]), (.tup [(.const (.str "zed"))]), (.lst [(.const (.str "do"))]), (.tup [(.const .none)]), (.tup [(.const (.str "do")), (.const (.str "fa")), (.const (.str "la"))])])),
    (.for_ (.name 15) .seq [(.bin .add (.var 14) (.call false 68 [(.var 2)]))] [(.asgO 8 (.lst [(.told 101 [(.var 2), (.var 3), (.var 4), (.var 6), (.var 15)])])), (.app 8 (.told 54 [(.var 2), (.var 3), (.var 4), (.var 6), (.var 15)])), (.app 8 (.told 102 [(.var 2), (.var 3), (.var 4), (.var 15)])), (.app 8 (.told 103 [(.var 2), (.var 15)])), (.cond (.cmp .ne (.peek 8) (.bin .mul (.lst [(.tup [(.const (.str "refused")), (.const (.str "BadReach"))])]) (.const (.int 4)))) [(.ret (.const (.bool false)))] [])])]
abbrev lawSlots : Nat := 16
end Dk

set_option linter.all false
set_option maxRecDepth 100000
/-! Mir: general lemmas on the evaluator; keys and reaches by their numbers. -/
namespace Dk
open PySem (PyData Str)
instance : Coe String Str := ⟨Str.ofString⟩

/-! ### comprehensions whose turns change no dice -/
theorem compL_map {α : Type} {f : PyData → DS → Out (Option PyData)} {D : DS} (g : α → PyData) (F : α → Option PyData) :
    ∀ (xs : List α), (∀ x ∈ xs, f (g x) D = .ok (F x) D) → compL f (xs.map g) D = .ok (xs.filterMap F) D
  | [], _ => rfl
  | x :: xs, h => by
    rw [List.map_cons, compL, h x (by simp), Out.ok_bind, compL_map g F xs (fun y hy => h y (by simp [hy]))]
    cases e : F x <;> simp [e]
theorem compL2_map {α : Type} {f : PyData → DS → Out (List PyData)} {D : DS} (g : α → PyData) (F : α → List PyData) :
    ∀ (xs : List α), (∀ x ∈ xs, f (g x) D = .ok (F x) D) → compL2 f (xs.map g) D = .ok (xs.flatMap F) D
  | [], _ => rfl
  | x :: xs, h => by
    rw [List.map_cons, compL2, h x (by simp), Out.ok_bind, compL2_map g F xs (fun y hy => h y (by simp [hy]))]
    simp
/-- a map -/
theorem compL_mapS {α : Type} {f : PyData → DS → Out (Option PyData)} {D : DS} (g : α → PyData) (F : α → PyData) (xs : List α) (h : ∀ x ∈ xs, f (g x) D = .ok (some (F x)) D) : compL f (xs.map g) D = .ok (xs.map F) D := by
  rw [compL_map g (fun x => some (F x)) xs h]
  simp
/-- a filter -/
theorem compL_fil {α : Type} {f : PyData → DS → Out (Option PyData)} {D : DS} (g : α → PyData) (p : α → Bool) (F : α → PyData) (xs : List α) (h : ∀ x ∈ xs, f (g x) D = .ok (if p x then some (F x) else none) D) : compL f (xs.map g) D = .ok ((xs.filter p).map F) D := by
  rw [compL_map g (fun x => if p x then some (F x) else none) xs h]
  congr 1
  clear h
  induction xs with
  | nil => rfl
  | cons x xs ih =>
    by_cases hp : p x = true
    · simp [List.filterMap_cons, hp, ih]
    · simp [List.filterMap_cons, hp, ih]
theorem zip_map {α β : Type} (g : α → PyData) (g' : β → PyData) (xs : List α) (ys : List β) : (xs.map g).zipWith (fun x y => PyData.tuple [x, y]) (ys.map g') = (xs.zip ys).map fun p => .tuple [g p.1, g' p.2] := by
  rw [List.zipWith_map, List.zip, List.map_zipWith]
theorem zipW {α β : Type} (g : α → PyData) (g' : β → PyData) (xs : List α) (ys : List β) : xs.zipWith (fun a b => PyData.tuple [g a, g' b]) ys = (xs.zip ys).map fun p => .tuple [g p.1, g' p.2] := by
  rw [List.zip, List.map_zipWith]
theorem enum_map {α : Type} (g : α → PyData) (xs : List α) : (List.range xs.length).zipWith (fun (i : Nat) x => PyData.tuple [.int (i : Nat), x]) (xs.map g) = ((List.range xs.length).zip xs).map fun p => .tuple [.int (p.1 : Nat), g p.2] := by
  have := zip_map (fun i : Nat => PyData.int (i : Nat)) g (List.range xs.length) xs
  rw [← this, List.zipWith_map_left]
theorem bools_map {α : Type} (f : α → Bool) : ∀ xs : List α, boolsOf (xs.map fun x => PyData.bool (f x)) = some (xs.map f)
  | [] => rfl
  | x :: xs => by simp [boolsOf, bools_map f xs]
theorem ints_map {α : Type} (f : α → Int) : ∀ xs : List α, intsOf (xs.map fun x => PyData.int (f x)) = some (xs.map f)
  | [] => rfl
  | x :: xs => by simp [intsOf, ints_map f xs]
theorem all_bi {α : Type} (f : α → Bool) (xs : List α) : biD .all [.list (xs.map fun x => PyData.bool (f x))] = some (.bool (xs.all f)) := by
  simp [biD, bools_map, List.all_map, Function.comp_def]
theorem any_bi {α : Type} (f : α → Bool) (xs : List α) : biD .any [.list (xs.map fun x => PyData.bool (f x))] = some (.bool (xs.any f)) := by
  simp [biD, bools_map, List.any_map, Function.comp_def]
theorem all_bi_true {α : Type} (xs : List α) : biD .all [.list (xs.map fun _ => PyData.bool true)] = some (.bool true) := by
  rw [all_bi (fun _ => true) xs]
  congr 2
  simp
theorem any_eq {α : Type} [DecidableEq α] (g : α → PyData) (a : α) : ∀ (xs : List α), (∀ x ∈ xs, eqD (g x) (g a) = decide (x = a)) → (xs.map g).any (fun x => eqD x (g a)) = decide (a ∈ xs)
  | [], _ => rfl
  | x :: xs, h => by
    rw [List.map_cons, List.any_cons, any_eq g a xs (fun y hy => h y (by simp [hy])), h x (by simp)]
    by_cases e : x = a
    · simp [e]
    · have : ¬ a = x := fun q => e q.symm
      simp [e, this]
theorem fits_ok {ys : List PyData} {D : DS} (h : ys.length ≤ 16777216) : fits ys D = .ok (.list ys) D := by
  unfold fits szL
  rw [if_pos (by simpa using h)]

/-! ### six keys, their reaches -/
def words : List Str := ["do", "fa", "la", "mi", "re", "so"]
def eK (i : Nat) : PyData := .str (words.getD i "so")
/-- the 21 reaches of one or two keys, as they rise -/
def kxs : List (List Nat) := [[0], [0, 1], [0, 2], [0, 3], [0, 4], [0, 5], [1], [1, 2], [1, 3], [1, 4], [1, 5], [2], [2, 3], [2, 4], [2, 5], [3], [3, 4], [3, 5], [4], [4, 5], [5]]
def kx (r : Nat) : List Nat := kxs.getD r []
def eR (r : Nat) : PyData := .tuple ((kx r).map eK)
theorem eK_eq : ∀ i < 6, ∀ j < 6, eqD (eK i) (eK j) = decide (i = j) := by decide +kernel
theorem eK_lt : ∀ i < 6, ∀ j < 6, ltD (eK i) (eK j) = some (decide (i < j)) := by decide +kernel
theorem eR_eq : ∀ i < 21, ∀ j < 21, eqD (eR i) (eR j) = decide (i = j) := by decide +kernel
theorem eR_lt : ∀ i < 21, ∀ j < 21, ltD (eR i) (eR j) = some (decide (i < j)) := by decide +kernel
theorem kx_lt : ∀ r < 21, ∀ i ∈ kx r, i < 6 := by decide +kernel
theorem kx_len : ∀ r < 21, 1 ≤ (kx r).length ∧ (kx r).length ≤ 2 := by decide +kernel
theorem kx_rise : ∀ r < 21, (kx r).Pairwise (· < ·) := by decide +kernel
theorem eR_dep : ∀ r < 21, depD (eR r) = 1 := by decide +kernel
theorem eK_dep : ∀ r < 6, depD (eK r) = 0 := by decide +kernel
@[simp] theorem isa_tt (xs : List PyData) : isaD .tuple (.tuple xs) = true := rfl
@[simp] theorem isa_ii (i : Int) : isaD .int (.int i) = true := rfl
@[simp] theorem isa_bi (i : Int) : isaD .bool (.int i) = false := rfl
@[simp] theorem isa_ss (s : Str) : isaD .str (.str s) = true := rfl
@[simp] theorem isa_sk (i : Nat) : isaD .str (eK i) = true := rfl
@[simp] theorem isa_tr (i : Nat) : isaD .tuple (eR i) = true := rfl
@[simp] theorem len_t (xs : List PyData) : biD .len [.tuple xs] = some (.int (xs.length : Nat)) := rfl
@[simp] theorem len_l (xs : List PyData) : biD .len [.list xs] = some (.int (xs.length : Nat)) := rfl
@[simp] theorem tup_l (xs : List PyData) : biD .tuple [.list xs] = some (.tuple xs) := rfl
@[simp] theorem cmp_le (a b : Int) : cmpD .le (.int a) (.int b) = some (decide (a ≤ b)) := rfl
@[simp] theorem cmp_ge (a b : Int) : cmpD .ge (.int a) (.int b) = some (decide (b ≤ a)) := rfl
@[simp] theorem cmp_gt (a b : Int) : cmpD .gt (.int a) (.int b) = some (decide (b < a)) := rfl
@[simp] theorem cmp_eqi (a b : Int) : cmpD .eq (.int a) (.int b) = some (decide (a = b)) := rfl
@[simp] theorem cmp_nei (a b : Int) : cmpD .ne (.int a) (.int b) = some (!decide (a = b)) := rfl
@[simp] theorem add_i (a b : Int) : binD .add (.int a) (.int b) = some (.int (a + b)) := rfl
@[simp] theorem sub_i (a b : Int) : binD .sub (.int a) (.int b) = some (.int (a - b)) := rfl
/-- a comprehension's turn -/
def cTurn (cf : CallF) (own : List Nat) (tg : Tg) (test : Option CE) (elt : CE) (r : Env) : PyData → DS → Out (Option PyData) := fun x D =>
  (Out.lift (assign tg x (wipeE r own)) D).bind fun r1 D => (evalT cf test r1 D).bind fun b D => match b with
    | true => (evalE cf elt r1 D).bind fun y D => .ok (some y) D
    | false => .ok none D
theorem eval_comp (cf : CallF) (own : List Nat) (tg : Tg) (k : ItK) (src : List CE) (test : Option CE) (elt : CE) (r : Env) (D : DS) : evalE cf (.comp own tg k src test elt) r D =
    (evalEs cf src r D).bind fun vs D => (Out.lift (itemsD k vs) D).bind fun its D => (compL (cTurn cf own tg test elt r) its D).calm.bind fun ys D => fits ys D := by
  rw [evalE]
  rfl
end Dk

set_option linter.all false
set_option maxRecDepth 100000
/-! MathA: what the checks of boards, dusts, players tell, by numbers. -/
namespace Dk
open PySem (PyData Str)
def eB (n : Nat) (rs : List Nat) : PyData := .tuple [.tuple ((List.range n).map eK), .tuple (rs.map eR)]
def eD (dust : List Int) : PyData := .tuple (dust.map .int)
def eH (h : List Nat) : PyData := .tuple (h.map eR)
def eP (ps : List (List Nat)) : PyData := .tuple (ps.map eH)
structure VB (n : Nat) (rs : List Nat) : Prop where
  n2 : 2 ≤ n
  n6 : n ≤ 6
  ne : 1 ≤ rs.length
  le : rs.length ≤ 10
  up : rs.Pairwise (· < ·)
  lt : ∀ r ∈ rs, r < 21
  kl : ∀ r ∈ rs, ∀ i ∈ kx r, i < n

theorem m_is_whole (n : Nat) (t l h : Int) (D : DS) : call tbl (n + 1) false f_is_whole [.int t, .int l, .int h] D = .ok (.bool (decide (l ≤ t) && decide (t ≤ h))) D := by
  simp only [callS, tb_is_whole, runFD, fd_is_whole]
  simp [startE, execB, execS, evalE, evalEs, slotD, isaD, cmpD]
  by_cases h1 : l ≤ t
  · simp [h1]
  · simp [h1]
theorem m_is_word (n : Nat) (i : Nat) (hi : i < 6) (D : DS) : call tbl (n + 1) false f_is_word [eK i] D = .ok (.bool true) D := by
  match i, hi with
  | 0, _ => rfl
  | 1, _ => rfl
  | 2, _ => rfl
  | 3, _ => rfl
  | 4, _ => rfl
  | 5, _ => rfl
/-- rows that rise -/
theorem cut1 (xs : List PyData) : cut xs (some 1) none = xs.tail := by
  unfold cut sIx
  cases xs with
  | nil => rfl
  | cons x xs => simp
theorem pair_rise {α : Type} {R : α → α → Prop} {xs : List α} (h : xs.Pairwise R) : ∀ p ∈ xs.zip xs.tail, R p.1 p.2 := by
  induction xs with
  | nil => simp
  | cons x xs ih =>
    cases xs with
    | nil => simp
    | cons y ys =>
      intro p hp
      simp only [List.tail_cons, List.zip_cons_cons, List.mem_cons] at hp
      rw [List.pairwise_cons] at h
      rcases hp with rfl | hp
      · exact h.1 y (by simp)
      · exact ih h.2 p (by simpa using hp)
theorem m_rise {α : Type} (n : Nat) (g : α → PyData) (xs : List α) (D : DS) (hl : xs.length ≤ 100) (h : ∀ p ∈ xs.zip xs.tail, cmpD .lt (g p.1) (g p.2) = some true) :
    call tbl (n + 1) false f_rise [.tuple (xs.map g)] D = .ok (.bool true) D := by
  simp only [callS, tb_rise, runFD, fd_rise]
  simp [startE, execB, execS, evalE, evalEs, evalO, evalT, slotD, sliceD, itemsD, cut1]
  rw [← List.map_tail, zip_map, compL_mapS (fun p : α × α => PyData.tuple [g p.1, g p.2]) (fun _ => .bool true)]
  · simp only [Out.calm_ok, Out.ok_bind]
    rw [fits_ok (by simp; omega)]
    simp only [Out.ok_bind]
    have := all_bi (fun _ : α × α => true) (xs.zip xs.tail)
    rw [this]
    simp
  · intro p hp
    simp [wipeE, assign, setAll, h p hp]
theorem lt_eK {i j : Nat} (hi : i < 6) (hj : j < 6) (h : i < j) : cmpD .lt (eK i) (eK j) = some true := by
  have h1 := eK_lt i hi j hj
  have h2 := eK_dep i hi
  unfold eK at h1 h2 ⊢
  simp only [cmpD, h2]
  rw [if_pos (by omega), h1]
  simp [h]
theorem lt_eR {i j : Nat} (hi : i < 21) (hj : j < 21) (h : i < j) : cmpD .lt (eR i) (eR j) = some true := by
  have h1 := eR_lt i hi j hj
  have h2 := eR_dep i hi
  unfold eR at h1 h2 ⊢
  simp only [cmpD, h2]
  rw [if_pos (by omega), h1]
  simp [h]
theorem zip_mem {α : Type} {xs : List α} {p : α × α} (h : p ∈ xs.zip xs.tail) : p.1 ∈ xs ∧ p.2 ∈ xs := by
  obtain ⟨a, b⟩ := p
  have := List.of_mem_zip h
  exact ⟨this.1, List.mem_of_mem_tail this.2⟩
theorem m_riseK (n : Nat) (xs : List Nat) (D : DS) (hl : xs.length ≤ 100) (h : xs.Pairwise (· < ·)) (h6 : ∀ i ∈ xs, i < 6) : call tbl (n + 1) false f_rise [.tuple (xs.map eK)] D = .ok (.bool true) D :=
  m_rise n eK xs D hl fun p hp => lt_eK (h6 _ (zip_mem hp).1) (h6 _ (zip_mem hp).2) (pair_rise h p hp)
theorem m_riseR (n : Nat) (xs : List Nat) (D : DS) (hl : xs.length ≤ 100) (h : xs.Pairwise (· < ·)) (h6 : ∀ i ∈ xs, i < 21) : call tbl (n + 1) false f_rise [.tuple (xs.map eR)] D = .ok (.bool true) D :=
  m_rise n eR xs D hl fun p hp => lt_eR (h6 _ (zip_mem hp).1) (h6 _ (zip_mem hp).2) (pair_rise h p hp)
theorem in_eK {a : Nat} {xs : List Nat} (ha : a < 6) (h : ∀ i ∈ xs, i < 6) : (xs.map eK).any (fun x => eqD x (eK a)) = decide (a ∈ xs) := any_eq eK a xs fun x hx => eK_eq x (h x hx) a ha
theorem in_eR {a : Nat} {xs : List Nat} (ha : a < 21) (h : ∀ i ∈ xs, i < 21) : (xs.map eR).any (fun x => eqD x (eR a)) = decide (a ∈ xs) := any_eq eR a xs fun x hx => eR_eq x (h x hx) a ha
theorem cmp_inK {a : Nat} {xs : List Nat} (ha : a < 6) (h : ∀ i ∈ xs, i < 6) : cmpD .isIn (eK a) (.tuple (xs.map eK)) = some (decide (a ∈ xs)) ∧ cmpD .isIn (eK a) (.list (xs.map eK)) = some (decide (a ∈ xs)) := by
  have h1 := in_eK ha h
  have h2 := eK_dep a ha
  unfold eK at h1 h2 ⊢
  simp only [cmpD, rowOf, h2, Nat.zero_le, if_true]
  exact ⟨congrArg some h1, congrArg some h1⟩
theorem cmp_inR {a : Nat} {xs : List Nat} (ha : a < 21) (h : ∀ i ∈ xs, i < 21) : cmpD .isIn (eR a) (.tuple (xs.map eR)) = some (decide (a ∈ xs)) ∧ cmpD .isIn (eR a) (.list (xs.map eR)) = some (decide (a ∈ xs)) := by
  have h1 := in_eR ha h
  have h2 := eR_dep a ha
  unfold eR at h1 h2 ⊢
  simp only [cmpD, rowOf, h2]
  rw [if_pos (by omega)]
  exact ⟨congrArg some h1, congrArg some h1⟩
/-- one reach among the keys -/
theorem m_are_keys (n : Nat) (m : Nat) (r : Nat) (D : DS) (hm : m ≤ 6) (hr : r < 21) (hk : ∀ i ∈ kx r, i < m) : call tbl (n + 2) false f_are_keys [.tuple ((List.range m).map eK), eR r] D = .ok (.bool true) D := by
  rw [callS]
  simp only [tb_are_keys, runFD, fd_are_keys, eR]
  simp [startE, execB, execS, evalE, evalEs, evalO, evalT, slotD, itemsD]
  rw [compL_mapS eK (fun _ => .bool true)]
  · simp only [Out.calm_ok, Out.ok_bind]
    have kl := kx_len r hr
    rw [fits_ok (by simp; omega)]
    simp only [Out.ok_bind]
    rw [all_bi_true]
    simp
    rw [m_riseK n (kx r) D (by omega) (kx_rise r hr) (kx_lt r hr)]
    simp
  · intro i hi
    have h1 := (cmp_inK (a := i) (xs := List.range m) (by have := hk i hi; omega) (fun j hj => by simp at hj; omega)).1
    have h2 : isaD .str (eK i) = true := rfl
    simp [wipeE, assign, setAll, h1, hk i hi]
theorem range_up (n : Nat) : (List.range n).Pairwise (· < ·) := List.pairwise_lt_range
theorem m_is_board (n : Nat) (m : Nat) (rs : List Nat) (D : DS) (V : VB m rs) : call tbl (n + 3) false f_is_board [eB m rs] D = .ok (.bool true) D := by
  rw [callS]
  have n2 : (2 : Int) ≤ m := by have := V.n2; omega
  have n6 : (m : Int) ≤ 6 := by have := V.n6; omega
  have r1 : (1 : Int) ≤ rs.length := by have := V.ne; omega
  have r10 : (rs.length : Int) ≤ 10 := by have := V.le; omega
  have k1 : ∀ i ∈ List.range m, i < 6 := fun i hi => by simp at hi; omega
  simp only [tb_is_board, runFD, fd_is_board, eB]
  simp [startE, execB, execS, evalE, evalEs, evalO, evalT, slotD, itemsD, assign, setAll, n2, n6]
  rw [compL_mapS eK (fun _ => .bool true)]
  · simp only [Out.calm_ok, Out.ok_bind]
    rw [fits_ok (by simp; omega)]
    simp only [Out.ok_bind]
    rw [all_bi_true]
    simp
    rw [m_riseK (n + 1) (List.range m) D (by simp; omega) (range_up m) k1]
    simp [r1, r10]
    rw [compL_mapS eR (fun _ => .bool true)]
    · simp only [Out.calm_ok, Out.ok_bind]
      rw [fits_ok (by simp; omega)]
      simp only [Out.ok_bind]
      rw [all_bi_true]
      simp
      rw [m_riseR (n + 1) rs D (by omega) V.up V.lt]
      simp
    · intro r hr
      have kl := kx_len r (V.lt r hr)
      have a1 : (1 : Int) ≤ (kx r).length := by omega
      have a2 : ((kx r).length : Int) ≤ 2 := by omega
      have z := m_are_keys n m r D V.n6 (V.lt r hr) (V.kl r hr)
      have z2 : biD .len [eR r] = some (.int ((kx r).length : Nat)) := by unfold eR; rw [len_t]; simp
      simp [wipeE, z, z2, a1, a2]
  · intro i hi
    simp [wipeE, m_is_word (n + 1) i (k1 i hi) D]
/-- the dust -/
theorem m_need_board (n : Nat) (m : Nat) (rs : List Nat) (span : Int) (D : DS) (V : VB m rs) (h1 : 1 ≤ span) (h5 : span ≤ 5) : call tbl (n + 4) false f_need_board [eB m rs, .int span] D = .ok .none D := by
  rw [callS]
  simp only [tb_need_board, runFD, fd_need_board]
  simp [startE, execB, execS, evalE, evalEs, slotD, m_is_board n m rs D V, m_is_whole (n + 2) span 1 5 D, h1, h5]
theorem m_is_good_dust (n : Nat) (m : Nat) (rs : List Nat) (span : Int) (dust : List Int) (D : DS) (hm : m ≤ 6) (hl : dust.length = m) (hd : ∀ x ∈ dust, 0 ≤ x ∧ x ≤ span) : call tbl (n + 2) false f_is_good_dust [eB m rs, .int span, eD dust] D = .ok (.bool true) D := by
  rw [callS]
  simp only [tb_is_good_dust, runFD, fd_is_good_dust, eB, eD]
  simp [startE, execB, execS, evalE, evalEs, evalT, slotD, itemsD, ixD, ixNat, hl]
  rw [compL_mapS PyData.int (fun _ => .bool true)]
  · simp only [Out.calm_ok, Out.ok_bind]
    rw [fits_ok (by simp; omega)]
    simp only [Out.ok_bind]
    rw [all_bi_true]
    simp
  · intro x hx
    obtain ⟨a, b⟩ := hd x hx
    simp [wipeE, assign, m_is_whole n x 0 span D, a, b]
structure VD (m : Nat) (rs : List Nat) (span : Int) (dust : List Int) : Prop where
  b : VB m rs
  s1 : 1 ≤ span
  s5 : span ≤ 5
  l : dust.length = m
  d : ∀ x ∈ dust, 0 ≤ x ∧ x ≤ span
theorem m_need_dust (n : Nat) (m : Nat) (rs : List Nat) (span : Int) (dust : List Int) (D : DS) (V : VD m rs span dust) : call tbl (n + 5) false f_need_dust [eB m rs, .int span, eD dust] D = .ok .none D := by
  rw [callS]
  simp only [tb_need_dust, runFD, fd_need_dust]
  simp [startE, execB, execS, evalE, evalEs, slotD, m_need_board n m rs span D V.b V.s1 V.s5, m_is_good_dust (n + 2) m rs span dust D V.b.n6 V.l V.d]
end Dk

set_option linter.all false
set_option maxRecDepth 100000
/-! MathB: players; keys of a day; what is let. -/
namespace Dk
open PySem (PyData Str)
structure VH (rs h : List Nat) : Prop where
  ne : 1 ≤ h.length
  le : h.length ≤ 4
  up : h.Pairwise (· < ·)
  mem : ∀ r ∈ h, r ∈ rs
theorem m_are_reaches (n m : Nat) (rs h : List Nat) (D : DS) (V : VB m rs) (H : VH rs h) : call tbl (n + 3) false f_are_reaches [eB m rs, eH h] D = .ok (.bool true) D := by
  rw [callS]
  have l4 := H.le
  simp only [tb_are_reaches, runFD, fd_are_reaches, eB, eH]
  simp [startE, execB, execS, evalE, evalEs, evalT, slotD, itemsD]
  rw [compL_mapS eR (fun _ => .bool true)]
  · simp only [Out.calm_ok, Out.ok_bind]
    rw [fits_ok (by simp; omega)]
    simp only [Out.ok_bind]
    rw [all_bi_true]
    simp
    rw [m_riseR (n + 1) h D (by omega) H.up (fun r hr => V.lt r (H.mem r hr))]
    simp
  · intro r hr
    have hm := H.mem r hr
    have z := m_are_keys n m r D V.n6 (V.lt r hm) (V.kl r hm)
    have z2 := (cmp_inR (V.lt r hm) V.lt).1
    simp [wipeE, assign, ixD, ixNat, z, z2, hm]
theorem m_is_hand (n m : Nat) (rs h : List Nat) (D : DS) (V : VB m rs) (H : VH rs h) : call tbl (n + 4) false f_is_hand [eB m rs, eH h] D = .ok (.bool true) D := by
  rw [callS]
  have a1 : (1 : Int) ≤ h.length := by have := H.ne; omega
  have a2 : (h.length : Int) ≤ 4 := by have := H.le; omega
  have z : biD .len [eH h] = some (.int (h.length : Nat)) := by unfold eH; rw [len_t]; simp
  simp only [tb_is_hand, runFD, fd_is_hand]
  simp [startE, execB, execS, evalE, evalEs, slotD, m_are_reaches n m rs h D V H, z, a1, a2]
structure VPl (rs : List Nat) (ps : List (List Nat)) : Prop where
  ne : 1 ≤ ps.length
  le : ps.length ≤ 4
  h : ∀ h ∈ ps, VH rs h
theorem m_need_players (n m : Nat) (rs : List Nat) (span : Int) (dust : List Int) (ps : List (List Nat)) (D : DS) (V : VD m rs span dust) (H : VPl rs ps) : call tbl (n + 6) false f_need_players [eB m rs, .int span, eD dust, eP ps] D = .ok .none D := by
  rw [callS]
  have a1 : (1 : Int) ≤ ps.length := by have := H.ne; omega
  have a2 : (ps.length : Int) ≤ 4 := by have := H.le; omega
  simp only [tb_need_players, runFD, fd_need_players, eP]
  simp [startE, execB, execS, evalE, evalEs, evalT, slotD, itemsD, m_need_dust n m rs span dust D V, a1, a2]
  rw [compL_mapS eH (fun _ => .bool true)]
  · simp only [Out.calm_ok, Out.ok_bind]
    rw [fits_ok (by simp; omega)]
    simp only [Out.ok_bind]
    rw [all_bi_true]
    simp
  · intro h hh
    simp [wipeE, assign, m_is_hand (n + 1) m rs h D V.b (H.h h hh)]
/-! ### a day -/
def keysOf (m : Nat) (dust : List Int) (a : Int) : List Nat := (((List.range m).zip dust).filter fun p => decide (p.2 = a)).map (·.1)
def goodOf (m : Nat) (dust : List Int) (a : Int) : List Nat := (((List.range m).zip dust).filter fun p => decide (p.2 ≤ a)).map (·.1)
def inAll (g : List Nat) (r : Nat) : Bool := (kx r).all fun i => decide (i ∈ g)
def letsOf (m : Nat) (rs : List Nat) (dust : List Int) (a : Int) : List Nat := rs.filter (inAll (goodOf m dust a))
theorem m_keys_of (n m : Nat) (rs : List Nat) (span day : Int) (dust : List Int) (D : DS) (hm : m ≤ 6) : call tbl (n + 1) false f_keys_of [eB m rs, .int span, eD dust, .int day] D = .ok (.list ((keysOf m dust (span - 1 - day)).map eK)) D := by
  rw [callS]
  simp only [tb_keys_of, runFD, fd_keys_of, eB, eD]
  simp [startE, execB, execS, evalE, evalEs, slotD, itemsD, ixD, ixNat]
  rw [zipW eK PyData.int, compL_fil (fun p : Nat × Int => PyData.tuple [eK p.1, .int p.2]) (fun p => decide (p.2 = span - 1 - day)) (fun p => eK p.1)]
  · simp only [Out.calm_ok, Out.ok_bind]
    rw [fits_ok (by have := List.length_filter_le (fun p : Nat × Int => decide (p.2 = span - 1 - day)) ((List.range m).zip dust); simp at this ⊢; omega)]
    simp [keysOf, Function.comp_def]
  · intro p hp
    simp [wipeE, assign, setAll, evalT, evalE, slotD]
    by_cases h : p.2 = span - 1 - day <;> simp [h]
theorem keysOf_lt {m : Nat} {dust : List Int} {a : Int} {i : Nat} (h : i ∈ keysOf m dust a) : i < m := by
  simp only [keysOf, List.mem_map, List.mem_filter] at h
  obtain ⟨p, ⟨h1, _⟩, rfl⟩ := h
  have := (List.of_mem_zip h1).1
  simpa using this
theorem goodOf_lt {m : Nat} {dust : List Int} {a : Int} {i : Nat} (h : i ∈ goodOf m dust a) : i < m := by
  simp only [goodOf, List.mem_map, List.mem_filter] at h
  obtain ⟨p, ⟨h1, _⟩, rfl⟩ := h
  have := (List.of_mem_zip h1).1
  simpa using this
theorem m_lets (n m : Nat) (rs : List Nat) (span day : Int) (dust : List Int) (D : DS) (V : VB m rs) : call tbl (n + 1) false f_lets [eB m rs, .int span, eD dust, .int day] D = .ok (.list ((letsOf m rs dust (span - 1 - day)).map eR)) D := by
  rw [callS]
  have hm := V.n6
  have hle := V.le
  simp only [tb_lets, runFD, fd_lets, eB, eD]
  simp [startE, execB, execS, evalE, evalEs, slotD, itemsD, ixD, ixNat]
  rw [zipW eK PyData.int, compL_fil (fun p : Nat × Int => PyData.tuple [eK p.1, .int p.2]) (fun p => decide (p.2 ≤ span - 1 - day)) (fun p => eK p.1)]
  · simp only [Out.calm_ok, Out.ok_bind]
    rw [fits_ok (by have := List.length_filter_le (fun p : Nat × Int => decide (p.2 ≤ span - 1 - day)) ((List.range m).zip dust); simp at this ⊢; omega)]
    have eg : (List.map (fun p : Nat × Int => eK p.1) (List.filter (fun p => decide (p.2 ≤ span - 1 - day)) ((List.range m).zip dust))) = (goodOf m dust (span - 1 - day)).map eK := by simp [goodOf, Function.comp_def]
    rw [eg]
    simp [assign, slotD, ixD, ixNat]
    rw [compL_fil eR (inAll (goodOf m dust (span - 1 - day))) eR]
    · simp only [Out.calm_ok, Out.ok_bind]
      rw [fits_ok (by have := List.length_filter_le (inAll (goodOf m dust (span - 1 - day))) rs; simp at this ⊢; omega)]
      simp [letsOf]
    · intro r hr
      have kl := kx_len r (V.lt r hr)
      simp only [eR]
      simp [wipeE, evalT, evalE, evalEs, slotD, itemsD]
      rw [compL_mapS eK (fun i => .bool (decide (i ∈ goodOf m dust (span - 1 - day))))]
      · simp only [Out.calm_ok, Out.ok_bind]
        rw [fits_ok (by simp; omega)]
        simp only [Out.ok_bind]
        rw [all_bi]
        have ei : ((kx r).all fun i => decide (i ∈ goodOf m dust (span - 1 - day))) = inAll (goodOf m dust (span - 1 - day)) r := rfl
        rw [ei]
        cases inAll (goodOf m dust (span - 1 - day)) r <;> simp
      · intro i hi
        have z := (cmp_inK (xs := goodOf m dust (span - 1 - day)) (kx_lt r (V.lt r hr) i hi) (fun j hj => by have := goodOf_lt hj; omega)).2
        simp [assign, z]
  · intro p hp
    simp [wipeE, assign, setAll, evalT, evalE, slotD]
    by_cases h : p.2 ≤ span - 1 - day <;> simp [h]
end Dk

set_option linter.all false
set_option maxRecDepth 100000
/-! MathC: weeks of players. -/
namespace Dk
open PySem (PyData Str)
/-- one player's reach on a day, or none -/
def eO : Option Nat → PyData
  | none => .none
  | some r => eR r
def eRow (row : List (Option Nat)) : PyData := .tuple (row.map eO)
def touchedBy (row : List (Option Nat)) : List Nat := row.flatMap fun o => match o with
  | none => []
  | some r => kx r
def stepRows (some_ hand : List Nat) (found : List (List (Option Nat))) : List (List (Option Nat)) := found.flatMap fun row => (none :: (hand.filter fun r => decide (r ∈ some_)).map some).map fun x => row ++ [x]
def rowsOf (some_ : List Nat) (ps : List (List Nat)) : List (List (Option Nat)) := ps.foldl (fun found hand => stepRows some_ hand found) [[]]
def covers (keys : List Nat) (row : List (Option Nat)) : Bool := keys.all fun k => decide (k ∈ touchedBy row)
def daysFor (keys some_ : List Nat) (ps : List (List Nat)) : List (List (Option Nat)) := (rowsOf some_ ps).filter (covers keys)
theorem m_touchedish : True := trivial
theorem foldl_app {α β : Type} (f : α → List β) : ∀ (xs : List α) (acc : List β), xs.foldl (fun a x => a ++ f x) acc = acc ++ xs.flatMap f
  | [], acc => by simp
  | x :: xs, acc => by simp [foldl_app f xs]
/-- a loop by its turns -/
theorem forL_ix {f : PyData → Env → DS → Res} {α β : Type} (g : α → PyData) (step : α → β → β) {D : DS} : ∀ (xs : List α) (P : Nat → β → Env → Prop) (b : β) (r : Env), (∀ i (hi : i < xs.length) b r, P i b r → ∃ r', f (g xs[i]) r D = .next r' D ∧ P (i + 1) (step xs[i] b) r') → P 0 b r →
    ∃ r', forL f (xs.map g) r D = .next r' D ∧ P xs.length (xs.foldl (fun b x => step x b) b) r'
  | [], P, b, r, _, h0 => ⟨r, rfl, h0⟩
  | x :: xs, P, b, r, h, h0 => by
    obtain ⟨r1, e1, p1⟩ := h 0 (by simp) b r h0
    obtain ⟨r2, e2, p2⟩ := forL_ix g step xs (fun i => P (i + 1)) (step x b) r1 (fun i hi b r p => by
      have := h (i + 1) (by simp; omega) b r p
      simpa using this) p1
    refine ⟨r2, ?_, p2⟩
    rw [List.map_cons, forL, show f (g x) r D = .next r1 D from e1, Res.next_andThen, e2]
theorem stepRows_len (some_ hand : List Nat) (h4 : hand.length ≤ 4) (found : List (List (Option Nat))) : (stepRows some_ hand found).length ≤ 5 * found.length := by
  unfold stepRows
  induction found with
  | nil => simp
  | cons row found ih =>
    rw [List.flatMap_cons, List.length_append]
    have : (hand.filter fun r => decide (r ∈ some_)).length ≤ hand.length := List.length_filter_le _ _
    simp only [List.length_map, List.length_cons] at ih ⊢
    omega
theorem add_l (a b : List PyData) (h : a.length + b.length ≤ 16777216) : binD .add (.list a) (.list b) = some (.list (a ++ b)) := by
  simp only [binD]
  rw [if_pos (by unfold szL; simpa using h)]
theorem add_t (a b : List PyData) (h : a.length + b.length ≤ 16777216) : binD .add (.tuple a) (.tuple b) = some (.tuple (a ++ b)) := by
  simp only [binD]
  rw [if_pos (by unfold szL; simpa using h)]
def dfEnv (m : Nat) (rs : List Nat) (span day : Int) (dust : List Int) (ps : List (List Nat)) (some_ keys : List Nat) (rest : List Sl) : Env :=
  [.val (eB m rs), .val (.int span), .val (eD dust), .val (eP ps), .val (.int day), .val (.list (some_.map eR)), .val (.list (keys.map eK))] ++ rest
def dfS : CS := (.asg (.name 9) (.bin .add (.var 9) (.comp [11] (.name 11) .seq [(.bin .add (.lst [(.const .none)]) (.comp [12] (.name 12) .seq [(.var 8)] (some (.cmp .isIn (.var 12) (.var 5))) (.var 12)))] none (.bin .add (.var 10) (.tup [(.var 11)])))))
section
variable {m : Nat} {rs : List Nat} {span day : Int} {dust : List Int} {ps : List (List Nat)} {some_ keys : List Nat} {D : DS} {cf : CallF}
def usable (some_ hand : List Nat) : List (Option Nat) := none :: (hand.filter fun r => decide (r ∈ some_)).map some
theorem usable_len (some_ hand : List Nat) (h4 : hand.length ≤ 4) : (usable some_ hand).length ≤ 5 := by
  have : (hand.filter fun r => decide (r ∈ some_)).length ≤ hand.length := List.length_filter_le _ _
  simp only [usable, List.length_cons, List.length_map]
  omega
theorem dfS_ok (hs : ∀ r ∈ some_, r < 21) (found acc : List (List (Option Nat))) (hand : List Nat) (row : List (Option Nat)) (h4 : hand.length ≤ 4) (h21 : ∀ r ∈ hand, r < 21) (hr : row.length ≤ 100) (ha : acc.length ≤ 100000) :
    execS cf dfS (dfEnv m rs span day dust ps some_ keys [.val (.list (found.map eRow)), .val (eH hand), .val (.list (acc.map eRow)), .val (eRow row), .non, .non, .non, .non, .non]) D =
      .next (dfEnv m rs span day dust ps some_ keys [.val (.list (found.map eRow)), .val (eH hand), .val (.list ((acc ++ (usable some_ hand).map fun x => row ++ [x]).map eRow)), .val (eRow row), .non, .non, .non, .non, .non]) D := by
  unfold dfS dfEnv
  have ul := usable_len some_ hand h4
  simp [execS, evalE, evalEs, slotD, itemsD, eH, szL]
  rw [compL_fil eR (fun r => decide (r ∈ some_)) eR]
  · simp only [Out.calm_ok, Out.ok_bind]
    have l1 : (hand.filter fun r => decide (r ∈ some_)).length ≤ hand.length := List.length_filter_le _ _
    rw [fits_ok (by simp only [List.length_map]; omega)]
    simp only [Out.ok_bind]
    rw [add_l _ _ (by simp only [List.length_map, List.length_cons, List.length_nil]; omega)]
    simp only [Out.lift_some, Out.ok_bind]
    have eu : ([PyData.none] ++ (hand.filter fun r => decide (r ∈ some_)).map eR) = (usable some_ hand).map eO := by
      simp [usable, eO, Function.comp_def]
    rw [eu, compL_mapS eO (fun x => eRow (row ++ [x]))]
    · simp only [Out.calm_ok, Out.ok_bind]
      rw [fits_ok (by simp only [List.length_map]; omega)]
      simp only [Out.ok_bind]
      rw [add_l _ _ (by simp only [List.length_map]; omega)]
      simp [assign, Function.comp_def]
    · intro x hx
      simp [wipeE, assign, evalT, eRow]
      rw [add_t _ _ (by simp; omega)]
      simp
  · intro r hr2
    have z := (cmp_inR (xs := some_) (h21 r hr2) hs).2
    simp [wipeE, assign, evalT, evalE, slotD, z]
    by_cases q : r ∈ some_ <;> simp [q]
theorem stepRows_eq (some_ hand : List Nat) (found : List (List (Option Nat))) : found.foldl (fun acc row => acc ++ (usable some_ hand).map fun x => row ++ [x]) [] = stepRows some_ hand found := by
  rw [foldl_app]
  simp [stepRows, usable]
theorem stepRows_row {some_ hand : List Nat} {found : List (List (Option Nat))} {k : Nat} (h : ∀ row ∈ found, row.length ≤ k) : ∀ row ∈ stepRows some_ hand found, row.length ≤ k + 1 := by
  intro row hr
  simp only [stepRows, List.mem_flatMap, List.mem_map] at hr
  obtain ⟨r0, h0, x, _, rfl⟩ := hr
  have := h r0 h0
  simp
  omega
def dfI : CS := .for_ (.name 10) .seq [(.var 7)] [dfS]
theorem dfI_ok (hs : ∀ r ∈ some_, r < 21) (found : List (List (Option Nat))) (hand : List Nat) (j10 : Sl) (h4 : hand.length ≤ 4) (h21 : ∀ r ∈ hand, r < 21) (hr : ∀ row ∈ found, row.length ≤ 100) (hf : found.length ≤ 1000) :
    ∃ j, execS cf dfI (dfEnv m rs span day dust ps some_ keys [.val (.list (found.map eRow)), .val (eH hand), .val (.list []), j10, .non, .non, .non, .non, .non]) D =
      .next (dfEnv m rs span day dust ps some_ keys [.val (.list (found.map eRow)), .val (eH hand), .val (.list ((stepRows some_ hand found).map eRow)), j, .non, .non, .non, .non, .non]) D := by
  have z := forL_ix (f := fun x r D => Res.of (Out.lift (assign (.name 10) x r) D) fun r D => execB cf [dfS] r D) (D := D) eRow (fun row acc => acc ++ (usable some_ hand).map fun x => row ++ [x]) found
    (fun i acc r => ∃ j, r = dfEnv m rs span day dust ps some_ keys [.val (.list (found.map eRow)), .val (eH hand), .val (.list (acc.map eRow)), j, .non, .non, .non, .non, .non] ∧ acc.length ≤ 5 * i) []
    (dfEnv m rs span day dust ps some_ keys [.val (.list (found.map eRow)), .val (eH hand), .val (.list []), j10, .non, .non, .non, .non, .non]) ?_ ⟨j10, rfl, by simp⟩
  · obtain ⟨r', e, j, rfl, _⟩ := z
    refine ⟨j, ?_⟩
    rw [stepRows_eq] at e
    unfold dfI
    rw [execS]
    have e1 : evalEs cf [(.var 7)] (dfEnv m rs span day dust ps some_ keys [.val (.list (found.map eRow)), .val (eH hand), .val (.list []), j10, .non, .non, .non, .non, .non]) D = .ok [.list (found.map eRow)] D := by
      simp [evalEs, evalE, slotD, dfEnv]
    rw [e1]
    simp only [Res.of_ok, itemsD, Out.lift_some]
    exact e
  · rintro i hi acc r ⟨j, rfl, hl⟩
    have ul := usable_len some_ hand h4
    refine ⟨_, ?_, .val (eRow found[i]), rfl, by simp; omega⟩
    have e2 : assign (.name 10) (eRow found[i]) (dfEnv m rs span day dust ps some_ keys [.val (.list (found.map eRow)), .val (eH hand), .val (.list (acc.map eRow)), j, .non, .non, .non, .non, .non]) =
      some (dfEnv m rs span day dust ps some_ keys [.val (.list (found.map eRow)), .val (eH hand), .val (.list (acc.map eRow)), .val (eRow found[i]), .non, .non, .non, .non, .non]) := rfl
    rw [e2]
    simp only [Out.lift_some, Res.of_ok, execB]
    rw [dfS_ok hs found acc hand found[i] h4 h21 (hr _ (List.getElem_mem hi)) (by omega)]
    rfl
def dfO : CS := .for_ (.name 8) .seq [(.var 3)] [(.asg (.name 9) (.lst [])), dfI, (.asg (.name 7) (.var 9))]
theorem dfO_ok (hs : ∀ r ∈ some_, r < 21) (hps : ps.length ≤ 4) (hh : ∀ h ∈ ps, h.length ≤ 4 ∧ ∀ r ∈ h, r < 21) :
    ∃ j8 j9 j10, execS cf dfO (dfEnv m rs span day dust ps some_ keys [.val (.list [.tuple []]), .non, .non, .non, .non, .non, .non, .non, .non]) D =
      .next (dfEnv m rs span day dust ps some_ keys [.val (.list ((rowsOf some_ ps).map eRow)), j8, j9, j10, .non, .non, .non, .non, .non]) D := by
  have z := forL_ix (f := fun x r D => Res.of (Out.lift (assign (.name 8) x r) D) fun r D => execB cf [(.asg (.name 9) (.lst [])), dfI, (.asg (.name 7) (.var 9))] r D) (D := D) eH (fun hand found => stepRows some_ hand found) ps
    (fun i found r => ∃ j8 j9 j10, r = dfEnv m rs span day dust ps some_ keys [.val (.list (found.map eRow)), j8, j9, j10, .non, .non, .non, .non, .non] ∧ found.length ≤ 5 ^ i ∧ ∀ row ∈ found, row.length ≤ i) [[]]
    (dfEnv m rs span day dust ps some_ keys [.val (.list [.tuple []]), .non, .non, .non, .non, .non, .non, .non, .non]) ?_ ⟨.non, .non, .non, rfl, by simp, by simp⟩
  · obtain ⟨r', e, j8, j9, j10, rfl, _⟩ := z
    refine ⟨j8, j9, j10, ?_⟩
    unfold dfO
    rw [execS]
    have e1 : evalEs cf [(.var 3)] (dfEnv m rs span day dust ps some_ keys [.val (.list [.tuple []]), .non, .non, .non, .non, .non, .non, .non, .non]) D = .ok [eP ps] D := by
      simp [evalEs, evalE, slotD, dfEnv]
    rw [e1]
    simp only [Res.of_ok, eP, itemsD, Out.lift_some]
    exact e
  · rintro i hi found r ⟨j8, j9, j10, rfl, hl, hr⟩
    have hb : 5 ^ i ≤ 5 ^ 3 := Nat.pow_le_pow_right (by decide) (by omega)
    have hm := hh ps[i] (List.getElem_mem hi)
    have sl := stepRows_len some_ ps[i] hm.1 found
    obtain ⟨j, ei⟩ := dfI_ok (m := m) (rs := rs) (span := span) (day := day) (dust := dust) (ps := ps) (keys := keys) (cf := cf) (D := D) hs found ps[i] j10 hm.1 hm.2 (fun row h => by have := hr row h; omega) (by omega)
    refine ⟨_, ?_, .val (eH ps[i]), .val (.list ((stepRows some_ ps[i] found).map eRow)), j, rfl, by rw [Nat.pow_succ]; omega, stepRows_row hr⟩
    have e2 : assign (.name 8) (eH ps[i]) (dfEnv m rs span day dust ps some_ keys [.val (.list (found.map eRow)), j8, j9, j10, .non, .non, .non, .non, .non]) =
      some (dfEnv m rs span day dust ps some_ keys [.val (.list (found.map eRow)), .val (eH ps[i]), j9, j10, .non, .non, .non, .non, .non]) := rfl
    rw [e2]
    simp only [Out.lift_some, Res.of_ok]
    rw [execB]
    have e3 : execS cf (.asg (.name 9) (.lst [])) (dfEnv m rs span day dust ps some_ keys [.val (.list (found.map eRow)), .val (eH ps[i]), j9, j10, .non, .non, .non, .non, .non]) D = .next (dfEnv m rs span day dust ps some_ keys [.val (.list (found.map eRow)), .val (eH ps[i]), .val (.list []), j10, .non, .non, .non, .non, .non]) D := by
      simp [execS, evalE, evalEs, assign, dfEnv]
    rw [e3, Res.next_andThen, execB, ei, Res.next_andThen, execB]
    simp [execS, evalE, slotD, dfEnv, assign, execB]
def dfT : CS := (.asg (.name 14) (.comp2 [11, 15] [15] (.name 11) .seq [(.var 10)] (some (.cmp .isNot (.var 11) (.const .none))) (.name 15) (.var 11) (.var 15)))
def dfC : CS := (.cond (.bi .all [(.comp [15] (.name 15) .seq [(.var 6)] none (.cmp .isIn (.var 15) (.var 14)))]) [(.app 13 (.var 10))] [])
theorem touched_len (row : List (Option Nat)) (h : ∀ r, some r ∈ row → r < 21) : (touchedBy row).length ≤ 2 * row.length := by
  unfold touchedBy
  induction row with
  | nil => simp
  | cons o row ih =>
    rw [List.flatMap_cons, List.length_append]
    have ih := ih fun r hr => h r (by simp [hr])
    cases o with
    | none =>
      simp only [List.length_cons, List.length_nil]
      omega
    | some r =>
      have := (kx_len r (h r (by simp))).2
      simp only [List.length_cons]
      omega
theorem touched_lt {row : List (Option Nat)} (h : ∀ r, some r ∈ row → r < 21) : ∀ k ∈ touchedBy row, k < 6 := by
  intro k hk
  simp only [touchedBy, List.mem_flatMap] at hk
  obtain ⟨o, ho, hk⟩ := hk
  cases o with
  | none => simp at hk
  | some r => exact kx_lt r (h r ho) k hk
theorem dfT_ok (row : List (Option Nat)) (h21 : ∀ r, some r ∈ row → r < 21) (hr : row.length ≤ 100) (s7 s8 s9 s13 j14 : Sl) :
    execS cf dfT (dfEnv m rs span day dust ps some_ keys [s7, s8, s9, .val (eRow row), .non, .non, s13, j14, .non]) D =
      .next (dfEnv m rs span day dust ps some_ keys [s7, s8, s9, .val (eRow row), .non, .non, s13, .val (.list ((touchedBy row).map eK)), .non]) D := by
  unfold dfT dfEnv
  simp [execS, evalE, evalEs, slotD, itemsD, eRow]
  rw [compL2_map eO (fun o => (match o with | none => [] | some r => (kx r).map eK))]
  · simp only [Out.calm_ok, Out.ok_bind]
    have e : (row.flatMap fun o => (match o with | none => [] | some r => (kx r).map eK)) = (touchedBy row).map eK := by
      rw [touchedBy, List.map_flatMap]
      congr 1
      funext o
      cases o <;> rfl
    have tl := touched_len row h21
    rw [e, fits_ok (by simp only [List.length_map]; omega)]
    simp [assign]
  · intro o ho
    cases o with
    | none => simp [wipeE, assign, evalT, evalE, slotD, eO, cmpD]
    | some r =>
      have e1 : cmpD .isNot (eO (some r)) .none = some true := rfl
      simp [wipeE, assign, evalT, evalE, slotD, e1]
      simp only [eO, eR, Out.lift_some, Out.ok_bind]
      rw [compL_mapS eK eK]
      intro i hi
      simp [wipeE, assign]
theorem dfC_ok (row : List (Option Nat)) (good : List (List (Option Nat))) (h21 : ∀ r, some r ∈ row → r < 21) (hk : ∀ k ∈ keys, k < 6) (hkl : keys.length ≤ 6) (hg : good.length ≤ 10000) (s7 s8 s9 : Sl) :
    execS cf dfC (dfEnv m rs span day dust ps some_ keys [s7, s8, s9, .val (eRow row), .non, .non, .own (good.map eRow), .val (.list ((touchedBy row).map eK)), .non]) D =
      .next (dfEnv m rs span day dust ps some_ keys [s7, s8, s9, .val (eRow row), .non, .non, .own ((if covers keys row then good ++ [row] else good).map eRow), .val (.list ((touchedBy row).map eK)), .non]) D := by
  unfold dfC dfEnv
  simp [execS, evalE, evalEs, slotD, itemsD, evalT]
  rw [compL_mapS eK (fun k => .bool (decide (k ∈ touchedBy row)))]
  · simp only [Out.calm_ok, Out.ok_bind]
    rw [fits_ok (by simp only [List.length_map]; omega)]
    simp only [Out.ok_bind]
    rw [all_bi]
    have ei : (keys.all fun k => decide (k ∈ touchedBy row)) = covers keys row := rfl
    rw [ei]
    cases covers keys row with
    | false => simp [execB]
    | true =>
      have hz : good.length < szL := by unfold szL; omega
      simp [execB, execS, evalE, slotD, ownOf, hz]
  · intro k hk2
    have z := (cmp_inK (xs := touchedBy row) (hk k hk2) (touched_lt h21)).2
    simp [wipeE, assign, z]
def dfG : CS := .for_ (.name 10) .seq [(.var 7)] [dfT, dfC]
theorem dfG_ok (found : List (List (Option Nat))) (h21 : ∀ row ∈ found, ∀ r, some r ∈ row → r < 21) (hr : ∀ row ∈ found, row.length ≤ 100) (hf : found.length ≤ 1000) (hk : ∀ k ∈ keys, k < 6) (hkl : keys.length ≤ 6) (s8 s9 s10 : Sl) :
    ∃ j10 j14, execS cf dfG (dfEnv m rs span day dust ps some_ keys [.val (.list (found.map eRow)), s8, s9, s10, .non, .non, .own [], .non, .non]) D =
      .next (dfEnv m rs span day dust ps some_ keys [.val (.list (found.map eRow)), s8, s9, j10, .non, .non, .own ((found.filter (covers keys)).map eRow), j14, .non]) D := by
  have z := forL_ix (f := fun x r D => Res.of (Out.lift (assign (.name 10) x r) D) fun r D => execB cf [dfT, dfC] r D) (D := D) eRow (fun row good => if covers keys row then good ++ [row] else good) found
    (fun i good r => ∃ j10 j14, r = dfEnv m rs span day dust ps some_ keys [.val (.list (found.map eRow)), s8, s9, j10, .non, .non, .own (good.map eRow), j14, .non] ∧ good.length ≤ i) []
    (dfEnv m rs span day dust ps some_ keys [.val (.list (found.map eRow)), s8, s9, s10, .non, .non, .own [], .non, .non]) ?_ ⟨s10, .non, rfl, by simp⟩
  · obtain ⟨r', e, j10, j14, rfl, _⟩ := z
    refine ⟨j10, j14, ?_⟩
    have ef : ∀ (xs acc : List (List (Option Nat))), xs.foldl (fun good row => if covers keys row then good ++ [row] else good) acc = acc ++ xs.filter (covers keys) := by
      intro xs
      induction xs with
      | nil => intro acc; simp
      | cons x xs ih =>
        intro acc
        rw [List.foldl_cons, ih]
        cases h : covers keys x <;> simp [h]
    rw [ef, List.nil_append] at e
    unfold dfG
    rw [execS]
    have e1 : evalEs cf [(.var 7)] (dfEnv m rs span day dust ps some_ keys [.val (.list (found.map eRow)), s8, s9, s10, .non, .non, .own [], .non, .non]) D = .ok [.list (found.map eRow)] D := by
      simp [evalEs, evalE, slotD, dfEnv]
    rw [e1]
    simp only [Res.of_ok, itemsD, Out.lift_some]
    exact e
  · rintro i hi good r ⟨j10, j14, rfl, hl⟩
    have hm := List.getElem_mem hi
    refine ⟨_, ?_, .val (eRow found[i]), .val (.list ((touchedBy found[i]).map eK)), rfl, by cases covers keys found[i] <;> simp <;> omega⟩
    have e2 : assign (.name 10) (eRow found[i]) (dfEnv m rs span day dust ps some_ keys [.val (.list (found.map eRow)), s8, s9, j10, .non, .non, .own (good.map eRow), j14, .non]) =
      some (dfEnv m rs span day dust ps some_ keys [.val (.list (found.map eRow)), s8, s9, .val (eRow found[i]), .non, .non, .own (good.map eRow), j14, .non]) := rfl
    rw [e2]
    simp only [Out.lift_some, Res.of_ok]
    rw [execB, dfT_ok found[i] (h21 _ hm) (hr _ hm), Res.next_andThen, execB, dfC_ok found[i] good (h21 _ hm) hk hkl (by omega)]
    rfl
end
theorem rowsOf_len (some_ : List Nat) : ∀ (ps : List (List Nat)) (found : List (List (Option Nat))), (∀ h ∈ ps, h.length ≤ 4) → (ps.foldl (fun found hand => stepRows some_ hand found) found).length ≤ 5 ^ ps.length * found.length
  | [], found, _ => by simp
  | h :: ps, found, hh => by
    rw [List.foldl_cons]
    have ih := rowsOf_len some_ ps (stepRows some_ h found) fun x hx => hh x (by simp [hx])
    have sl := stepRows_len some_ h (hh h (by simp)) found
    rw [List.length_cons, Nat.pow_succ]
    calc _ ≤ 5 ^ ps.length * (stepRows some_ h found).length := ih
      _ ≤ 5 ^ ps.length * (5 * found.length) := Nat.mul_le_mul_left _ sl
      _ = 5 ^ ps.length * 5 * found.length := by rw [Nat.mul_assoc]
theorem rowsOf_row (some_ : List Nat) : ∀ (ps : List (List Nat)) (found : List (List (Option Nat))) (k : Nat), (∀ row ∈ found, row.length ≤ k) → ∀ row ∈ ps.foldl (fun found hand => stepRows some_ hand found) found, row.length ≤ k + ps.length
  | [], found, k, h => by simpa using h
  | p :: ps, found, k, h => by
    intro row hr
    rw [List.foldl_cons] at hr
    have := rowsOf_row some_ ps (stepRows some_ p found) (k + 1) (stepRows_row h) row hr
    simp only [List.length_cons]
    omega
theorem rowsOf_lt (some_ : List Nat) : ∀ (ps : List (List Nat)) (found : List (List (Option Nat))), (∀ h ∈ ps, ∀ r ∈ h, r < 21) → (∀ row ∈ found, ∀ r, some r ∈ row → r < 21) → ∀ row ∈ ps.foldl (fun found hand => stepRows some_ hand found) found, ∀ r, some r ∈ row → r < 21
  | [], found, _, h => by simpa using h
  | p :: ps, found, hh, h => by
    rw [List.foldl_cons]
    refine rowsOf_lt some_ ps (stepRows some_ p found) (fun x hx => hh x (by simp [hx])) fun row hr r hrr => ?_
    simp only [stepRows, List.mem_flatMap, List.mem_map] at hr
    obtain ⟨r0, h0, x, hx, rfl⟩ := hr
    simp only [List.mem_append, List.mem_singleton] at hrr
    rcases hrr with q | q
    · exact h r0 h0 r q
    · subst q
      simp only [List.mem_cons, reduceCtorEq, List.mem_map, List.mem_filter, Option.some.injEq, false_or] at hx
      obtain ⟨a, ⟨ha, _⟩, rfl⟩ := hx
      exact hh p (by simp) a ha
theorem keysOf_len (m : Nat) (dust : List Int) (a : Int) : (keysOf m dust a).length ≤ m := by
  have := List.length_filter_le (fun p : Nat × Int => decide (p.2 = a)) ((List.range m).zip dust)
  simp only [List.length_zip, List.length_range] at this
  simp only [keysOf, List.length_map]
  omega
theorem fd_days_eq : fd_days_for.body = [(.par [5, 6] [(.call false 18 [(.var 0), (.var 1), (.var 2), (.var 4)]), (.call false 17 [(.var 0), (.var 1), (.var 2), (.var 4)])]), (.asg (.name 7) (.lst [(.tup [])])), dfO, (.asgO 13 (.lst [])), dfG, (.frz 13 (.ret (.var 13)))] := rfl
theorem m_days_for (n m : Nat) (rs : List Nat) (span day : Int) (dust : List Int) (ps : List (List Nat)) (D : DS) (V : VB m rs) (hps : ps.length ≤ 4) (hh : ∀ h ∈ ps, VH rs h) :
    call tbl (n + 2) false f_days_for [eB m rs, .int span, eD dust, eP ps, .int day] D = .ok (.list ((daysFor (keysOf m dust (span - 1 - day)) (letsOf m rs dust (span - 1 - day)) ps).map eRow)) D := by
  rw [callS]
  simp only [tb_days_for, runFD]
  have hh2 : ∀ h ∈ ps, h.length ≤ 4 ∧ ∀ r ∈ h, r < 21 := fun h hx => ⟨(hh h hx).le, fun r hr => V.lt r ((hh h hx).mem r hr)⟩
  have hs : ∀ r ∈ letsOf m rs dust (span - 1 - day), r < 21 := fun r hr => V.lt r (List.mem_filter.mp hr).1
  have kl := keysOf_len m dust (span - 1 - day)
  have hk : ∀ k ∈ keysOf m dust (span - 1 - day), k < 6 := fun k hk => by have := keysOf_lt hk; have := V.n6; omega
  obtain ⟨j8, j9, j10, e1⟩ := dfO_ok (m := m) (rs := rs) (span := span) (day := day) (dust := dust) (ps := ps) (some_ := letsOf m rs dust (span - 1 - day)) (keys := keysOf m dust (span - 1 - day)) (cf := call tbl (n + 1)) (D := D) hs hps hh2
  have rl := rowsOf_len (letsOf m rs dust (span - 1 - day)) ps [[]] fun h hx => (hh2 h hx).1
  have rr := rowsOf_row (letsOf m rs dust (span - 1 - day)) ps [[]] 0 (by simp)
  have rt := rowsOf_lt (letsOf m rs dust (span - 1 - day)) ps [[]] (fun h hx => (hh2 h hx).2) (by simp)
  have hb : 5 ^ ps.length ≤ 5 ^ 4 := Nat.pow_le_pow_right (by decide) hps
  obtain ⟨g10, g14, e2⟩ := dfG_ok (m := m) (rs := rs) (span := span) (day := day) (dust := dust) (ps := ps) (some_ := letsOf m rs dust (span - 1 - day)) (keys := keysOf m dust (span - 1 - day)) (cf := call tbl (n + 1)) (D := D) (rowsOf (letsOf m rs dust (span - 1 - day)) ps) rt (fun row h => by have := rr row h; omega) (by simp only [List.length_cons, List.length_nil] at rl; unfold rowsOf; omega) hk (by have := V.n6; omega) j8 j9 j10
  have hfd : fd_days_for = ⟨16, 5, false, fd_days_for.body⟩ := rfl
  rw [if_pos (by rw [hfd]; simp), fd_days_eq]
  have e0 : execB (call tbl (n + 1)) [(.par [5, 6] [(.call false 18 [(.var 0), (.var 1), (.var 2), (.var 4)]), (.call false 17 [(.var 0), (.var 1), (.var 2), (.var 4)])]), (.asg (.name 7) (.lst [(.tup [])])), dfO, (.asgO 13 (.lst [])), dfG, (.frz 13 (.ret (.var 13)))] (startE 16 [eB m rs, .int span, eD dust, eP ps, .int day]) D =
      .ret (.list ((daysFor (keysOf m dust (span - 1 - day)) (letsOf m rs dust (span - 1 - day)) ps).map eRow)) D := by
    rw [execB]
    have a1 : execS (call tbl (n + 1)) (.par [5, 6] [(.call false 18 [(.var 0), (.var 1), (.var 2), (.var 4)]), (.call false 17 [(.var 0), (.var 1), (.var 2), (.var 4)])]) (startE 16 [eB m rs, .int span, eD dust, eP ps, .int day]) D =
        .next (dfEnv m rs span day dust ps (letsOf m rs dust (span - 1 - day)) (keysOf m dust (span - 1 - day)) [.non, .non, .non, .non, .non, .non, .non, .non, .non]) D := by
      simp [execS, evalE, evalEs, slotD, startE, setAll, dfEnv, m_lets n m rs span day dust D V, m_keys_of n m rs span day dust D V.n6]
    rw [a1, Res.next_andThen, execB]
    have a2 : execS (call tbl (n + 1)) (.asg (.name 7) (.lst [(.tup [])])) (dfEnv m rs span day dust ps (letsOf m rs dust (span - 1 - day)) (keysOf m dust (span - 1 - day)) [.non, .non, .non, .non, .non, .non, .non, .non, .non]) D =
        .next (dfEnv m rs span day dust ps (letsOf m rs dust (span - 1 - day)) (keysOf m dust (span - 1 - day)) [.val (.list [.tuple []]), .non, .non, .non, .non, .non, .non, .non, .non]) D := by
      simp [execS, evalE, evalEs, dfEnv, assign, szL]
    rw [a2, Res.next_andThen, execB, e1, Res.next_andThen, execB]
    have a3 : ∀ s7, execS (call tbl (n + 1)) (.asgO 13 (.lst [])) (dfEnv m rs span day dust ps (letsOf m rs dust (span - 1 - day)) (keysOf m dust (span - 1 - day)) [s7, j8, j9, j10, .non, .non, .non, .non, .non]) D =
        .next (dfEnv m rs span day dust ps (letsOf m rs dust (span - 1 - day)) (keysOf m dust (span - 1 - day)) [s7, j8, j9, j10, .non, .non, .own [], .non, .non]) D := by
      intro s7
      simp [execS, evalE, evalEs, dfEnv]
    rw [a3, Res.next_andThen, execB, e2, Res.next_andThen, execB]
    simp [execS, evalE, ownOf, slotD, dfEnv, daysFor]
  have hsl : fd_days_for.slots = 16 := rfl
  rw [hsl]
  simp only [Bool.false_eq_true, if_false]
  rw [e0]
end Dk

set_option linter.all false
set_option maxRecDepth 100000
/-! MathD: weeks, the lots of players, the least number of players. -/
namespace Dk
open PySem (PyData Str)
section
variable {m : Nat} {rs : List Nat} {span : Int} {dust : List Int}
def dayRows (m : Nat) (rs : List Nat) (span : Int) (dust : List Int) (ps : List (List Nat)) (day : Nat) : List (List (Option Nat)) := daysFor (keysOf m dust (span - 1 - (day : Int))) (letsOf m rs dust (span - 1 - (day : Int))) ps
def HW (m : Nat) (rs : List Nat) (span : Int) (dust : List Int) (ps : List (List Nat)) : Bool := (List.range span.toNat).all fun day => !(dayRows m rs span dust ps day).isEmpty
theorem range_ok {n : Int} (h1 : 0 ≤ n) (h2 : n ≤ 100) : itemsD .range [.int n] = some ((List.range n.toNat).map fun (i : Nat) => PyData.int (i : Nat)) := by
  have : rangeOk n = true := by unfold rangeOk; simp; omega
  simp [itemsD, this, rangeD]
theorem cmp_ne_nil (xs : List PyData) : cmpD .ne (.list xs) (.list []) = some (!xs.isEmpty) := by
  have : min (depD (.list xs)) (depD (.list [])) ≤ 60 := Nat.le_trans (Nat.min_le_right _ _) (by decide)
  simp only [cmpD]
  rw [if_pos this]
  cases xs <;> rfl
theorem cmp_eq_nil (xs : List PyData) : cmpD .eq (.list xs) (.list []) = some (xs.isEmpty) := by
  have : min (depD (.list xs)) (depD (.list [])) ≤ 60 := Nat.le_trans (Nat.min_le_right _ _) (by decide)
  simp only [cmpD]
  rw [if_pos this]
  cases xs <;> rfl
theorem m_have_week (n : Nat) (ps : List (List Nat)) (D : DS) (V : VD m rs span dust) (hps : ps.length ≤ 4) (hh : ∀ h ∈ ps, VH rs h) : call tbl (n + 3) false f_have_week [eB m rs, .int span, eD dust, eP ps] D = .ok (.bool (HW m rs span dust ps)) D := by
  rw [callS]
  have s1 := V.s1
  have s5 := V.s5
  simp only [tb_have_week, runFD, fd_have_week]
  simp [startE, execB, execS, evalE, evalEs, slotD]
  rw [range_ok (by omega) (by omega)]
  simp only [Out.lift_some, Out.ok_bind]
  rw [compL_mapS (fun (i : Nat) => PyData.int (i : Nat)) (fun day => .bool (!(dayRows m rs span dust ps day).isEmpty))]
  · simp only [Out.calm_ok, Out.ok_bind]
    rw [fits_ok (by simp; omega)]
    simp only [Out.ok_bind]
    rw [all_bi]
    rfl
  · intro day hd
    simp [wipeE, assign, evalT, szL, m_days_for n m rs span day dust ps D V.b hps hh, cmp_ne_nil, dayRows]
/-! ### products -/
def prodL (xs : List Nat) : Nat := xs.foldl (· * ·) 1
theorem prodL_pos (xs : List Nat) : ∀ a, 0 < a → (0 < xs.foldl (· * ·) a ↔ ∀ x ∈ xs, 0 < x) := by
  induction xs with
  | nil => intro a ha; simp [ha]
  | cons x xs ih =>
    intro a ha
    rw [List.foldl_cons]
    by_cases hx : 0 < x
    · rw [ih (a * x) (Nat.mul_pos ha hx)]
      simp [hx]
    · have : x = 0 := by omega
      subst this
      simp only [Nat.mul_zero]
      have z : ∀ ys : List Nat, ys.foldl (· * ·) 0 = 0 := by
        intro ys
        induction ys with
        | nil => rfl
        | cons y ys ih => rw [List.foldl_cons, Nat.zero_mul, ih]
      rw [z]
      simp
theorem mul_i (a b : Nat) (h : a < 2 ^ 1000) (h2 : b < 2 ^ 64) : binD .mul (.int (a : Nat)) (.int (b : Nat)) = some (.int ((a * b : Nat) : Int)) := by
  have : small64 (b : Int) = true := by unfold small64; simpa using h2
  simp only [binD, this, Bool.or_true, Bool.true_or, if_true]
  simp
def prEnv (xs : List Nat) (found : Nat) (j : Sl) : Env := [.val (.list (xs.map fun (i : Nat) => .int (i : Nat))), .val (.int (found : Nat)), j]
theorem m_product (n : Nat) (xs : List Nat) (D : DS) (hl : xs.length ≤ 5) (hx : ∀ x ∈ xs, x ≤ 1000) : call tbl (n + 1) false f_product [.list (xs.map fun (i : Nat) => .int (i : Nat))] D = .ok (.int (prodL xs : Nat)) D := by
  rw [callS]
  simp only [tb_product, runFD, fd_product]
  have z := forL_ix (f := fun x r D => Res.of (Out.lift (assign (.name 2) x r) D) fun r D => execB (call tbl n) [(.asg (.name 1) (.bin .mul (.var 1) (.var 2)))] r D) (D := D) (fun (i : Nat) => PyData.int (i : Nat)) (fun x a => a * x) xs
    (fun i a r => ∃ j, r = prEnv xs a j ∧ a ≤ 1000 ^ i) 1 (prEnv xs 1 .non) ?_ ⟨.non, rfl, by simp⟩
  · obtain ⟨r', e, j, rfl, _⟩ := z
    simp [startE, execB, execS, evalE, evalEs, slotD, itemsD, assign]
    simp only [prEnv, execB] at e
    simp [execS, evalE, slotD, assign] at e
    rw [e]
    simp [prodL]
  · rintro i hi a r ⟨j, rfl, hl2⟩
    have hxi := hx xs[i] (List.getElem_mem hi)
    have hp : 1000 ^ i ≤ 1000 ^ 5 := Nat.pow_le_pow_right (by decide) (by omega)
    refine ⟨prEnv xs (a * xs[i]) (.val (.int (xs[i] : Nat))), ?_, _, rfl, by rw [Nat.pow_succ]; exact Nat.mul_le_mul hl2 hxi⟩
    have h1 : a < 2 ^ 1000 := Nat.lt_of_le_of_lt (Nat.le_trans hl2 hp) (by decide +kernel)
    have h2 : xs[i] < 2 ^ 64 := Nat.lt_of_le_of_lt hxi (by decide)
    simp [prEnv, assign, execB, execS, evalE, slotD, mul_i a xs[i] h1 h2]
end
end Dk

set_option linter.all false
set_option maxRecDepth 100000
/-! MathE: the lots of players, the least number of players. -/
namespace Dk
open PySem (PyData Str)
/-! ### chosen -/
def chosenP {α : Type} : Nat → List α → List (List α)
  | 0, _ => [[]]
  | k + 1, xs => ((List.range xs.length).zip xs).flatMap fun p => (chosenP k (xs.drop (p.1 + 1))).map (p.2 :: ·)
theorem flatMap_len {α β : Type} (f : α → List β) (c : Nat) : ∀ xs : List α, (∀ x ∈ xs, (f x).length ≤ c) → (xs.flatMap f).length ≤ xs.length * c
  | [], _ => by simp
  | x :: xs, h => by
    rw [List.flatMap_cons, List.length_append, List.length_cons, Nat.succ_mul]
    have := flatMap_len f c xs fun y hy => h y (by simp [hy])
    have := h x (by simp)
    omega
theorem chosenP_len {α : Type} : ∀ (k : Nat) (xs : List α), xs.length ≤ 4 → (chosenP k xs).length ≤ 4 ^ k
  | 0, xs, _ => by simp [chosenP]
  | k + 1, xs, h => by
    rw [chosenP]
    have := flatMap_len (fun p : Nat × α => (chosenP k (xs.drop (p.1 + 1))).map (p.2 :: ·)) (4 ^ k) ((List.range xs.length).zip xs) fun p _ => by
      rw [List.length_map]
      exact chosenP_len k _ (by simp; omega)
    refine Nat.le_trans this ?_
    rw [Nat.pow_succ, Nat.mul_comm]
    exact Nat.mul_le_mul_left _ (by simp; omega)
theorem enum_drop {α : Type} (xs : List α) : ∀ p ∈ (List.range xs.length).zip xs, xs[p.1]? = some p.2 := by
  intro p hp
  obtain ⟨i, hi⟩ := List.mem_iff_getElem?.mp hp
  rw [List.getElem?_zip_eq_some] at hi
  obtain ⟨h1, h2⟩ := hi
  have : i = p.1 := by
    rw [List.getElem?_range] at h1
    · exact Option.some.inj h1
    · have := (List.getElem?_eq_some_iff.mp h2).1
      exact this
  rw [← this]; exact h2
theorem enum_mem {α : Type} {xs : List α} {i : Nat} {x : α} (h : xs[i]? = some x) : (i, x) ∈ (List.range xs.length).zip xs := by
  have hi := (List.getElem?_eq_some_iff.mp h).1
  refine List.mem_iff_getElem?.mpr ⟨i, ?_⟩
  rw [List.getElem?_zip_eq_some]
  exact ⟨by rw [List.getElem?_range hi], h⟩
/-- just the sublists of that length -/
theorem chosenP_mem {α : Type} : ∀ (k : Nat) (xs s : List α), s ∈ chosenP k xs ↔ s.Sublist xs ∧ s.length = k
  | 0, xs, s => by
    simp only [chosenP, List.mem_singleton]
    constructor
    · rintro rfl; simp
    · rintro ⟨_, h⟩; exact List.length_eq_zero_iff.mp h
  | k + 1, xs, s => by
    rw [chosenP, List.mem_flatMap]
    constructor
    · rintro ⟨p, hp, hs⟩
      rw [List.mem_map] at hs
      obtain ⟨t, ht, rfl⟩ := hs
      obtain ⟨h1, h2⟩ := (chosenP_mem k _ t).mp ht
      have e := enum_drop xs p hp
      obtain ⟨hi, e2⟩ := List.getElem?_eq_some_iff.mp e
      refine ⟨?_, by simp [h2]⟩
      have : xs.drop p.1 = p.2 :: xs.drop (p.1 + 1) := by rw [List.drop_eq_getElem_cons hi, e2]
      have h3 : (p.2 :: t).Sublist (xs.drop p.1) := by rw [this]; exact h1.cons_cons _
      exact h3.trans (List.drop_sublist _ _)
    · rintro ⟨h1, h2⟩
      cases s with
      | nil => simp at h2
      | cons a t =>
        have : ∃ i, xs[i]? = some a ∧ t.Sublist (xs.drop (i + 1)) := by
          clear h2
          induction xs with
          | nil => cases h1
          | cons x xs ih =>
            cases h1 with
            | cons _ h =>
              obtain ⟨i, e1, e2⟩ := ih h
              exact ⟨i + 1, by simpa using e1, by simpa using e2⟩
            | cons_cons _ h => exact ⟨0, rfl, by simpa using h⟩
        obtain ⟨i, e1, e2⟩ := this
        refine ⟨(i, a), enum_mem e1, ?_⟩
        rw [List.mem_map]
        exact ⟨t, (chosenP_mem k _ t).mpr ⟨e2, by simpa using h2⟩, rfl⟩
theorem cutK (xs : List PyData) (i : Nat) : cut xs (some ((i : Int) + 1)) none = xs.drop (i + 1) := by
  unfold cut sIx
  have h1 : ¬ ((i : Int) + 1 < 0) := by omega
  have h2 : ((i : Int) + 1).toNat = i + 1 := by omega
  simp only [if_neg h1, h2]
  by_cases h : i + 1 ≤ xs.length
  · rw [Nat.min_eq_left h, List.take_of_length_le (by simp)]
  · rw [Nat.min_eq_right (by omega), List.drop_of_length_le (by omega), List.drop_of_length_le (by omega)]
    simp
def chEnv (ps : List (List Nat)) (k : Int) (found : List (List (List Nat))) (j3 j4 : Sl) : Env := [.val (eP ps), .val (.int k), .val (.list (found.map eP)), j3, j4, .non]
def chS : CS := (.asg (.name 2) (.bin .add (.var 2) (.comp [5] (.name 5) .seq [(.call false 171 [(.slice (.var 0) (some (.bin .add (.var 3) (.const (.int 1)))) none), (.bin .sub (.var 1) (.const (.int 1)))])] none (.bin .add (.tup [(.var 4)]) (.var 5)))))
def chI : CS := .for_ (.tup [3, 4]) .enum [(.var 0)] [chS]
theorem fd_chosen_eq : fd_chosen.body = [(.cond (.cmp .eq (.var 1) (.const (.int 0))) [(.ret (.lst [(.tup [])]))] []), (.asg (.name 2) (.lst [])), chI, (.ret (.var 2))] := rfl
theorem chS_ok {cf : CallF} {D : DS} (ps : List (List Nat)) (k at_ : Nat) (one : List Nat) (found : List (List (List Nat))) (hl : ps.length ≤ 4) (hk : k ≤ 4) (hf : found.length ≤ 10000)
    (hc : cf false 171 [eP (ps.drop (at_ + 1)), .int (k : Nat)] D = .ok (.list ((chosenP k (ps.drop (at_ + 1))).map eP)) D) :
    execS cf chS (chEnv ps ((k : Int) + 1) found (.val (.int (at_ : Nat))) (.val (eH one))) D = .next (chEnv ps ((k : Int) + 1) (found ++ (chosenP k (ps.drop (at_ + 1))).map (one :: ·)) (.val (.int (at_ : Nat))) (.val (eH one))) D := by
  have cl := chosenP_len k (ps.drop (at_ + 1)) (by simp; omega)
  have cl2 : 4 ^ k ≤ 4 ^ 4 := Nat.pow_le_pow_right (by decide) hk
  have e1 : cut (ps.map eH) (some ((at_ : Int) + 1)) none = (ps.drop (at_ + 1)).map eH := by rw [cutK, List.map_drop]
  have e2 : (k : Int) + 1 - 1 = (k : Nat) := by omega
  have hc' : cf false 171 [.tuple ((ps.drop (at_ + 1)).map eH), .int (k : Nat)] D = .ok (.list ((chosenP k (ps.drop (at_ + 1))).map eP)) D := hc
  unfold chS chEnv
  simp only [eP] at hc ⊢
  simp only [execS, evalE, evalEs, evalO, slotD, List.getElem?_cons_zero, List.getElem?_cons_succ, Out.lift_some, Out.ok_bind, add_i, sub_i, sliceD, e1, e2, hc', Bool.false_and, Bool.false_eq_true, if_false, itemsD]
  have eq : ((chosenP k (ps.drop (at_ + 1))).map fun ps : List (List Nat) => PyData.tuple (ps.map eH)) = (chosenP k (ps.drop (at_ + 1))).map eP := rfl
  rw [compL_mapS eP (fun t => eP (one :: t))]
  · simp only [Out.calm_ok, Out.ok_bind]
    rw [fits_ok (by simp only [List.length_map]; omega)]
    simp only [Out.ok_bind]
    rw [add_l _ _ (by simp only [List.length_map]; omega)]
    simp [assign, eP, Function.comp_def]
  · intro t ht
    have tl := ((chosenP_mem k _ t).mp ht).2
    simp [wipeE, assign, evalT, evalE, evalEs, slotD, eP, szL]
    rw [add_t _ _ (by simp; omega)]
    simp
theorem chI_ok {cf : CallF} {D : DS} (ps : List (List Nat)) (k : Nat) (hl : ps.length ≤ 4) (hk : k ≤ 4)
    (hc : ∀ qs : List (List Nat), qs.length ≤ 4 → cf false 171 [eP qs, .int (k : Nat)] D = .ok (.list ((chosenP k qs).map eP)) D) :
    ∃ j3 j4, execS cf chI (chEnv ps ((k : Int) + 1) [] .non .non) D = .next (chEnv ps ((k : Int) + 1) (chosenP (k + 1) ps) j3 j4) D := by
  have z := forL_ix (f := fun x r D => Res.of (Out.lift (assign (.tup [3, 4]) x r) D) fun r D => execB cf [chS] r D) (D := D)
      (fun p : Nat × List Nat => PyData.tuple [.int (p.1 : Nat), eH p.2]) (fun p acc => acc ++ (chosenP k (ps.drop (p.1 + 1))).map (p.2 :: ·)) ((List.range ps.length).zip ps)
      (fun i found r => ∃ j3 j4, r = chEnv ps ((k : Int) + 1) found j3 j4 ∧ found.length ≤ i * 256) [] (chEnv ps ((k : Int) + 1) [] .non .non) ?_ ⟨.non, .non, rfl, by simp⟩
  · obtain ⟨r', e, j3, j4, rfl, _⟩ := z
    refine ⟨j3, j4, ?_⟩
    rw [foldl_app, List.nil_append] at e
    unfold chI
    rw [execS]
    have e0 : evalEs cf [(.var 0)] (chEnv ps ((k : Int) + 1) [] .non .non) D = .ok [eP ps] D := by simp [evalEs, evalE, slotD, chEnv]
    have e1 : itemsD .enum [eP ps] = some (((List.range ps.length).zip ps).map fun p => PyData.tuple [.int (p.1 : Nat), eH p.2]) := by
      simp only [eP, itemsD, List.length_map]
      rw [enum_map]
    rw [e0]
    simp only [Res.of_ok, e1, Out.lift_some]
    exact e
  · rintro i hi found r ⟨j3, j4, rfl, hl2⟩
    have hi4 : i < 4 := by simp at hi; omega
    generalize hp : ((List.range ps.length).zip ps)[i] = p
    have cl := chosenP_len k (ps.drop (p.1 + 1)) (by simp; omega)
    have cl2 : 4 ^ k ≤ 4 ^ 4 := Nat.pow_le_pow_right (by decide) hk
    refine ⟨_, ?_, .val (.int (p.1 : Nat)), .val (eH p.2), rfl, by simp; omega⟩
    have e2 : assign (.tup [3, 4]) (.tuple [.int (p.1 : Nat), eH p.2]) (chEnv ps ((k : Int) + 1) found j3 j4) = some (chEnv ps ((k : Int) + 1) found (.val (.int (p.1 : Nat))) (.val (eH p.2))) := rfl
    rw [e2]
    simp only [Out.lift_some, Res.of_ok]
    rw [execB, chS_ok ps k p.1 p.2 found hl hk (by omega) (hc _ (by simp; omega))]
    rfl
theorem m_chosen : ∀ (k n : Nat) (ps : List (List Nat)) (D : DS), ps.length ≤ 4 → k ≤ 4 → call tbl (n + k + 1) false f_chosen [eP ps, .int (k : Nat)] D = .ok (.list ((chosenP k ps).map eP)) D
  | 0, n, ps, D, hl, hk => by
    rw [callS]
    simp only [tb_chosen, runFD, fd_chosen]
    simp [startE, execB, execS, evalE, evalEs, slotD, szL, chosenP, eP]
  | k + 1, n, ps, D, hl, hk => by
    rw [show n + (k + 1) + 1 = (n + k + 1) + 1 by omega, callS]
    simp only [tb_chosen, runFD]
    obtain ⟨j3, j4, e⟩ := chI_ok (cf := call tbl (n + k + 1)) (D := D) ps k hl (by omega) fun qs hq => m_chosen k n qs D hq (by omega)
    have hp : fd_chosen.dice = false := rfl
    have hp2 : fd_chosen.pars = 2 := rfl
    have hs : fd_chosen.slots = 6 := rfl
    rw [if_pos (by simp [hp, hp2]), fd_chosen_eq, hs]
    have hk1 : ¬ ((k : Int) + 1 = 0) := by omega
    have a0 : execS (call tbl (n + k + 1)) (.cond (.cmp .eq (.var 1) (.const (.int 0))) [(.ret (.lst [(.tup [])]))] []) (startE 6 [eP ps, .int ((k + 1 : Nat) : Int)]) D = .next (startE 6 [eP ps, .int ((k + 1 : Nat) : Int)]) D := by
      simp [startE, execS, evalE, slotD, hk1, execB]
    have a1 : execS (call tbl (n + k + 1)) (.asg (.name 2) (.lst [])) (startE 6 [eP ps, .int ((k + 1 : Nat) : Int)]) D = .next (chEnv ps ((k : Int) + 1) [] .non .non) D := by
      simp [startE, execS, evalE, evalEs, assign, chEnv]
    simp only [Bool.false_eq_true, if_false]
    rw [execB, a0, Res.next_andThen, execB, a1, Res.next_andThen, execB, e, Res.next_andThen, execB]
    simp [execS, evalE, slotD, chEnv]
end Dk

set_option linter.all false
set_option maxRecDepth 100000
/-! MathF: how many weeks; the least number of players; the lots. -/
namespace Dk
open PySem (PyData Str)
section
variable {m : Nat} {rs : List Nat} {span : Int} {dust : List Int}
theorem dayRows_len (ps : List (List Nat)) (day : Nat) (hps : ps.length ≤ 4) (hh : ∀ h ∈ ps, VH rs h) : (dayRows m rs span dust ps day).length ≤ 625 := by
  have rl := rowsOf_len (letsOf m rs dust (span - 1 - (day : Int))) ps [[]] fun h hx => (hh h hx).le
  have hb : 5 ^ ps.length ≤ 5 ^ 4 := Nat.pow_le_pow_right (by decide) hps
  have fl := List.length_filter_le (covers (keysOf m dust (span - 1 - (day : Int)))) (rowsOf (letsOf m rs dust (span - 1 - (day : Int))) ps)
  unfold dayRows daysFor
  unfold rowsOf at fl ⊢
  simp only [List.length_cons, List.length_nil] at rl
  omega
def weeks (m : Nat) (rs : List Nat) (span : Int) (dust : List Int) (ps : List (List Nat)) : Nat := prodL ((List.range span.toNat).map fun day => (dayRows m rs span dust ps day).length)
theorem weeks_pos (ps : List (List Nat)) : decide (0 < weeks m rs span dust ps) = HW m rs span dust ps := by
  unfold weeks prodL HW
  rw [Bool.eq_iff_iff, decide_eq_true_iff, prodL_pos _ 1 (by decide), List.all_eq_true]
  simp only [List.mem_map, forall_exists_index, and_imp, forall_apply_eq_imp_iff₂]
  constructor
  · intro h day hd
    have := h day hd
    cases e : dayRows m rs span dust ps day with
    | nil => rw [e] at this; simp at this
    | cons => rfl
  · intro h day hd
    have := h day hd
    cases e : dayRows m rs span dust ps day with
    | nil => rw [e] at this; simp at this
    | cons => simp
theorem m_how_many_weeks (n : Nat) (ps : List (List Nat)) (D : DS) (V : VD m rs span dust) (H : VPl rs ps) : call tbl (n + 7) false f_how_many_weeks [eB m rs, .int span, eD dust, eP ps] D = .ok (.int (weeks m rs span dust ps : Nat)) D := by
  rw [callS]
  have s1 := V.s1
  have s5 := V.s5
  simp only [tb_how_many_weeks, runFD, fd_how_many_weeks]
  simp [startE, execB, execS, evalE, evalEs, slotD, m_need_players n m rs span dust ps D V H]
  rw [range_ok (by omega) (by omega)]
  simp only [Out.lift_some, Out.ok_bind]
  rw [compL_mapS (fun (i : Nat) => PyData.int (i : Nat)) (fun day => .int ((dayRows m rs span dust ps day).length : Nat))]
  · simp only [Out.calm_ok, Out.ok_bind]
    rw [fits_ok (by simp; omega)]
    simp only [Out.ok_bind]
    have z := m_product (n + 5) ((List.range span.toNat).map fun day => (dayRows m rs span dust ps day).length) D (by simp; omega) (by
      intro x hx
      simp only [List.mem_map] at hx
      obtain ⟨day, _, rfl⟩ := hx
      have := dayRows_len (m := m) (rs := rs) (span := span) (dust := dust) ps day H.le H.h
      omega)
    rw [List.map_map] at z
    have e : ((List.range span.toNat).map fun day => PyData.int ((dayRows m rs span dust ps day).length : Nat)) = (List.range span.toNat).map ((fun (i : Nat) => PyData.int (i : Nat)) ∘ fun day => (dayRows m rs span dust ps day).length) := rfl
    rw [e, z]
    simp [weeks]
  · intro day hd
    simp [wipeE, assign, evalT, m_days_for (n + 4) m rs span day dust ps D V.b H.le H.h, dayRows]
/-- a loop that may end early -/
theorem forL_find {f : PyData → Env → DS → Res} {α : Type} (g : α → PyData) (p : α → Bool) (v : α → PyData) (P : Env → Prop) {D : DS} : ∀ (xs : List α) (r : Env), (∀ x ∈ xs, ∀ r, P r → if p x then f (g x) r D = .ret (v x) D else ∃ r', f (g x) r D = .next r' D ∧ P r') → P r →
    (match xs.find? p with
      | some x => forL f (xs.map g) r D = .ret (v x) D
      | none => ∃ r', forL f (xs.map g) r D = .next r' D ∧ P r')
  | [], r, _, h0 => ⟨r, rfl, h0⟩
  | x :: xs, r, h, h0 => by
    have hx := h x (by simp) r h0
    cases e : p x with
    | true =>
      rw [e] at hx
      simp only [if_true] at hx
      rw [List.find?_cons_of_pos e]
      simp only [List.map_cons, forL, hx, Res.ret_andThen]
    | false =>
      rw [e] at hx
      simp only [Bool.false_eq_true, if_false] at hx
      obtain ⟨r1, e1, p1⟩ := hx
      have ih := forL_find g p v P xs r1 (fun y hy => h y (by simp [hy])) p1
      rw [List.find?_cons_of_neg (by simp [e])]
      simp only [List.map_cons, forL, e1, Res.next_andThen]
      exact ih
def leastP (m : Nat) (rs : List Nat) (span : Int) (dust : List Int) (ps : List (List Nat)) : Option Nat := (List.range (ps.length + 1)).find? fun k => (chosenP k ps).any (HW m rs span dust)
def eL : Option Nat → PyData
  | none => .none
  | some k => .int (k : Nat)
def lpC : CS := (.cond (.bi .any [(.comp [5] (.name 5) .seq [(.call false 171 [(.var 3), (.var 4)])] none (.call false 172 [(.var 0), (.var 1), (.var 2), (.var 5)]))]) [(.ret (.var 4))] [])
def lpI : CS := (.for_ (.name 4) .range [(.bin .add (.bi .len [(.var 3)]) (.const (.int 1)))] [lpC])
theorem fd_least_eq : fd_least_players.body = [(.expr (.call false 149 [(.var 0), (.var 1), (.var 2), (.var 3)])), lpI, (.ret (.const .none))] := rfl
def lpEnv (m : Nat) (rs : List Nat) (span : Int) (dust : List Int) (ps : List (List Nat)) (j4 : Sl) : Env := [.val (eB m rs), .val (.int span), .val (eD dust), .val (eP ps), j4, .non]
def lpF (cf : CallF) : PyData → Env → DS → Res := fun x r D => Res.of (Out.lift (assign (.name 4) x r) D) fun r D => execB cf [lpC] r D
theorem lp_a1 (cf : CallF) (ps : List (List Nat)) (D : DS) (l4 : ps.length ≤ 4) : execS cf lpI (lpEnv m rs span dust ps .non) D = forL (lpF cf) ((List.range (ps.length + 1)).map fun (i : Nat) => PyData.int (i : Nat)) (lpEnv m rs span dust ps .non) D := by
  unfold lpI
  rw [execS]
  have e0 : evalEs cf [(.bin .add (.bi .len [(.var 3)]) (.const (.int 1)))] (lpEnv m rs span dust ps .non) D = .ok [.int ((ps.length : Int) + 1)] D := by
    simp [evalEs, evalE, slotD, lpEnv, eP]
  have e1 : ((ps.length : Int) + 1).toNat = ps.length + 1 := by omega
  rw [e0, Res.of_ok, range_ok (by omega) (by omega), e1, Out.lift_some, Res.of_ok]
  unfold lpF
  with_reducible rfl
theorem lp_cnd (cf : CallF) (ps : List (List Nat)) (k : Nat) (D : DS) (l4 : ps.length ≤ 4) (hk4 : k ≤ 4) (ch : cf false 171 [eP ps, .int (k : Nat)] D = .ok (.list ((chosenP k ps).map eP)) D)
    (hw : ∀ t ∈ chosenP k ps, cf false 172 [eB m rs, .int span, eD dust, eP t] D = .ok (.bool (HW m rs span dust t)) D) :
    execS cf lpC (lpEnv m rs span dust ps (.val (.int (k : Nat)))) D = if (chosenP k ps).any (HW m rs span dust) then .ret (.int (k : Nat)) D else .next (lpEnv m rs span dust ps (.val (.int (k : Nat)))) D := by
  have cl := chosenP_len k ps l4
  have cl2 : 4 ^ k ≤ 4 ^ 4 := Nat.pow_le_pow_right (by decide) hk4
  unfold lpC lpEnv
  simp only [execS, evalE, evalEs, slotD, List.getElem?_cons_zero, List.getElem?_cons_succ, Out.lift_some, Out.ok_bind, Bool.false_and, Bool.false_eq_true, if_false, ch, itemsD]
  rw [compL_mapS eP (fun t => .bool (HW m rs span dust t))]
  · simp only [Out.calm_ok, Out.ok_bind]
    rw [fits_ok (by simp only [List.length_map]; omega)]
    simp only [Out.ok_bind]
    rw [any_bi]
    simp only [Out.lift_some, Res.of_ok]
    cases (chosenP k ps).any (HW m rs span dust) <;> simp [execB, execS, evalE, slotD]
  · intro t ht
    simp [wipeE, assign, evalT, evalE, evalEs, slotD, hw t ht]
theorem lp_need (cf : CallF) (ps : List (List Nat)) (D : DS) (h : cf false 149 [eB m rs, .int span, eD dust, eP ps] D = .ok .none D) : execS cf (.expr (.call false 149 [(.var 0), (.var 1), (.var 2), (.var 3)])) (startE 6 [eB m rs, .int span, eD dust, eP ps]) D = .next (lpEnv m rs span dust ps .non) D := by
  simp [execS, evalE, evalEs, slotD, startE, lpEnv, h]
theorem lp_run (cf : CallF) (ps : List (List Nat)) (D : DS) (l4 : ps.length ≤ 4) (hn : cf false 149 [eB m rs, .int span, eD dust, eP ps] D = .ok .none D) (ch : ∀ k ≤ 4, cf false 171 [eP ps, .int (k : Nat)] D = .ok (.list ((chosenP k ps).map eP)) D)
    (hw : ∀ k, ∀ t ∈ chosenP k ps, cf false 172 [eB m rs, .int span, eD dust, eP t] D = .ok (.bool (HW m rs span dust t)) D) :
    runFD cf fd_least_players false [eB m rs, .int span, eD dust, eP ps] D = .ok (eL (leastP m rs span dust ps)) D := by
  unfold runFD
  have hp : fd_least_players.dice = false := rfl
  have hp2 : fd_least_players.pars = 4 := rfl
  have hs : fd_least_players.slots = 6 := rfl
  rw [if_pos (by simp [hp, hp2]), fd_least_eq, hs]
  simp only [Bool.false_eq_true, if_false]
  rw [execB, lp_need cf ps D hn, Res.next_andThen, execB, lp_a1 cf ps D l4]
  have z := forL_find (f := lpF cf) (D := D) (fun (i : Nat) => PyData.int (i : Nat)) (fun k => (chosenP k ps).any (HW m rs span dust)) (fun (k : Nat) => .int (k : Nat)) (fun r => ∃ j, r = lpEnv m rs span dust ps j) (List.range (ps.length + 1)) (lpEnv m rs span dust ps .non) ?_ ⟨.non, rfl⟩
  · unfold leastP
    cases e : (List.range (ps.length + 1)).find? fun k => (chosenP k ps).any (HW m rs span dust) with
    | some k =>
      rw [e] at z
      simp only at z
      rw [z]
      simp only [Res.ret_andThen, eL]
    | none =>
      rw [e] at z
      obtain ⟨r', z, j, rfl⟩ := z
      rw [z, Res.next_andThen, execB]
      simp [execS, evalE, eL]
  · rintro k hk r ⟨j, rfl⟩
    have hk4 : k ≤ 4 := by simp at hk; omega
    have e2 : assign (.name 4) (.int (k : Nat)) (lpEnv m rs span dust ps j) = some (lpEnv m rs span dust ps (.val (.int (k : Nat)))) := rfl
    unfold lpF
    rw [e2]
    simp only [Out.lift_some, Res.of_ok, execB, lp_cnd cf ps k D l4 hk4 (ch k hk4) (hw k)]
    split
    · rfl
    · exact ⟨_, rfl, _, rfl⟩
theorem m_least_players (n : Nat) (ps : List (List Nat)) (D : DS) (V : VD m rs span dust) (H : VPl rs ps) : call tbl (n + 7) false f_least_players [eB m rs, .int span, eD dust, eP ps] D = .ok (eL (leastP m rs span dust ps)) D := by
  rw [callS]
  simp only [tb_least_players]
  refine lp_run (call tbl (n + 6)) ps D H.le (m_need_players n m rs span dust ps D V H) (fun k hk => ?_) fun k t ht => ?_
  · have := m_chosen k (n + 5 - k) ps D H.le hk
    rw [show n + 5 - k + k + 1 = n + 6 by omega] at this
    exact this
  · obtain ⟨t1, t2⟩ := (chosenP_mem k ps t).mp ht
    have l4 := H.le
    have := t1.length_le
    exact m_have_week (n + 3) t D V (by omega) (fun h hx => H.h h (t1.subset hx))
end
end Dk

set_option linter.all false
set_option maxRecDepth 100000
/-! MathG: all lots; what least_players tells. -/
namespace Dk
open PySem (PyData Str)
def lotsT {α : Type} : List α → List (List α) → List (List α)
  | [], rest => rest
  | p :: ps, rest => lotsT ps (rest ++ [p] :: rest.map (· ++ [p]))
theorem lotsT_mem {α : Type} : ∀ (ps : List α) (rest : List (List α)) (s : List α), s ∈ lotsT ps rest ↔ (∃ a ∈ rest, ∃ t, t.Sublist ps ∧ s = a ++ t) ∨ (s.Sublist ps ∧ s ≠ [])
  | [], rest, s => by
    simp only [lotsT, List.sublist_nil]
    constructor
    · intro h; exact .inl ⟨s, h, [], rfl, by simp⟩
    · rintro (⟨a, ha, t, rfl, rfl⟩ | ⟨rfl, h⟩)
      · simpa using ha
      · exact absurd rfl h
  | p :: ps, rest, s => by
    rw [lotsT, lotsT_mem ps]
    constructor
    · rintro (⟨a, ha, t, ht, rfl⟩ | ⟨h1, h2⟩)
      · simp only [List.mem_append, List.mem_cons, List.mem_map] at ha
        rcases ha with ha | rfl | ⟨b, hb, rfl⟩
        · exact .inl ⟨a, ha, t, ht.cons _, rfl⟩
        · exact .inr ⟨by simpa using ht.cons_cons p, by simp⟩
        · exact .inl ⟨b, hb, p :: t, ht.cons_cons _, by simp⟩
      · exact .inr ⟨h1.cons _, h2⟩
    · rintro (⟨a, ha, t, ht, rfl⟩ | ⟨h1, h2⟩)
      · cases ht with
        | cons _ h => exact .inl ⟨a, by simp [ha], t, h, rfl⟩
        | @cons_cons t' _ _ h => exact .inl ⟨a ++ [p], by simp only [List.mem_append, List.mem_cons, List.mem_map]; exact .inr (.inr ⟨a, ha, rfl⟩), t', h, by simp⟩
      · cases h1 with
        | cons _ h => exact .inr ⟨h, h2⟩
        | @cons_cons t' _ _ h => exact .inl ⟨[p], by simp, t', h, rfl⟩
theorem lotsT_foldl {α : Type} : ∀ (ps : List α) (rest : List (List α)), ps.foldl (fun found one => found ++ found.map (· ++ [one])) ([] :: rest) = [] :: lotsT ps rest
  | [], rest => rfl
  | p :: ps, rest => by
    rw [List.foldl_cons, lotsT, ← lotsT_foldl ps]
    simp
def loEnv (ps : List (List Nat)) (found : List (List (List Nat))) (j2 : Sl) : Env := [.val (eP ps), .val (.list (found.map eP)), j2, .non]
def loS : CS := (.asg (.name 1) (.bin .add (.var 1) (.comp [3] (.name 3) .seq [(.var 1)] none (.bin .add (.var 3) (.tup [(.var 2)])))))
def loI : CS := (.for_ (.name 2) .seq [(.var 0)] [loS])
theorem fd_lots_eq : fd_law_lots_of.body = [(.asg (.name 1) (.lst [(.tup [])])), loI, (.ret (.slice (.var 1) (some (.const (.int 1))) none))] := rfl
theorem loS_ok (cf : CallF) (D : DS) (ps : List (List Nat)) (found : List (List (List Nat))) (one : List Nat) (hf : found.length ≤ 1000) (hr : ∀ t ∈ found, t.length ≤ 100) :
    execS cf loS (loEnv ps found (.val (eH one))) D = .next (loEnv ps (found ++ found.map (· ++ [one])) (.val (eH one))) D := by
  unfold loS loEnv
  simp only [execS, evalE, evalEs, slotD, List.getElem?_cons_zero, List.getElem?_cons_succ, Out.lift_some, Out.ok_bind, itemsD]
  rw [compL_mapS eP (fun t => eP (t ++ [one]))]
  · simp only [Out.calm_ok, Out.ok_bind]
    rw [fits_ok (by simp only [List.length_map]; omega)]
    simp only [Out.ok_bind]
    rw [add_l _ _ (by simp only [List.length_map]; omega)]
    simp [assign, Function.comp_def]
  · intro t ht
    have := hr t ht
    simp [wipeE, assign, evalT, evalE, evalEs, slotD, szL, eP]
    rw [add_t _ _ (by simp; omega)]
    simp
theorem m_lots_of (n : Nat) (ps : List (List Nat)) (D : DS) (hl : ps.length ≤ 4) : call tbl (n + 1) false f_law_lots_of [eP ps] D = .ok (.list ((lotsT ps []).map eP)) D := by
  rw [callS]
  simp only [tb_law_lots_of, runFD]
  have hp : fd_law_lots_of.dice = false := rfl
  have hp2 : fd_law_lots_of.pars = 1 := rfl
  have hs : fd_law_lots_of.slots = 4 := rfl
  rw [if_pos (by simp [hp, hp2]), fd_lots_eq, hs]
  simp only [Bool.false_eq_true, if_false]
  have z := forL_ix (f := fun x r D => Res.of (Out.lift (assign (.name 2) x r) D) fun r D => execB (call tbl n) [loS] r D) (D := D) eH (fun one found => found ++ found.map (· ++ [one])) ps
    (fun i found r => ∃ j, r = loEnv ps found j ∧ found.length ≤ 2 ^ i ∧ ∀ t ∈ found, t.length ≤ i) [[]] (loEnv ps [[]] .non) ?_ ⟨.non, rfl, by simp, by simp⟩
  · obtain ⟨r', e, j, rfl, _⟩ := z
    rw [lotsT_foldl] at e
    have a0 : execS (call tbl n) (.asg (.name 1) (.lst [(.tup [])])) (startE 4 [eP ps]) D = .next (loEnv ps [[]] .non) D := by
      simp [execS, evalE, evalEs, assign, startE, loEnv, szL, eP]
    have a1 : execS (call tbl n) loI (loEnv ps [[]] .non) D = .next (loEnv ps ([] :: lotsT ps []) j) D := by
      unfold loI
      rw [execS]
      have e1 : evalEs (call tbl n) [(.var 0)] (loEnv ps [[]] .non) D = .ok [eP ps] D := by simp [evalEs, evalE, slotD, loEnv]
      rw [e1]
      simp only [Res.of_ok, eP, itemsD, Out.lift_some]
      exact e
    rw [execB, a0, Res.next_andThen, execB, a1, Res.next_andThen, execB]
    simp [execS, evalE, evalO, slotD, loEnv, sliceD, cut1]
  · rintro i hi found r ⟨j, rfl, h1, h2⟩
    have hb : 2 ^ i ≤ 2 ^ 4 := Nat.pow_le_pow_right (by decide) (by omega)
    refine ⟨_, ?_, .val (eH ps[i]), rfl, by simp [Nat.pow_succ]; omega, ?_⟩
    · have e2 : assign (.name 2) (eH ps[i]) (loEnv ps found j) = some (loEnv ps found (.val (eH ps[i]))) := rfl
      rw [e2]
      simp only [Out.lift_some, Res.of_ok]
      rw [execB, loS_ok _ _ _ _ _ (by omega) (fun t ht => by have := h2 t ht; omega)]
      rfl
    · intro t ht
      simp only [List.mem_append, List.mem_map] at ht
      rcases ht with ht | ⟨a, ha, rfl⟩
      · have := h2 t ht; omega
      · have := h2 a ha; simp; omega
/-! ### the least -/
section
variable {m : Nat} {rs : List Nat} {span : Int} {dust : List Int}
/-- some k of the players have a week -/
def Can (m : Nat) (rs : List Nat) (span : Int) (dust : List Int) (ps : List (List Nat)) (k : Nat) : Prop := ∃ s : List (List Nat), s.Sublist ps ∧ s.length = k ∧ HW m rs span dust s = true
theorem can_any (ps : List (List Nat)) (k : Nat) : (chosenP k ps).any (HW m rs span dust) = true ↔ Can m rs span dust ps k := by
  rw [List.any_eq_true]
  constructor
  · rintro ⟨s, h1, h2⟩
    obtain ⟨a, b⟩ := (chosenP_mem k ps s).mp h1
    exact ⟨s, a, b, h2⟩
  · rintro ⟨s, a, b, h2⟩
    exact ⟨s, (chosenP_mem k ps s).mpr ⟨a, b⟩, h2⟩
theorem leastP_some {ps : List (List Nat)} {k : Nat} : leastP m rs span dust ps = some k ↔ Can m rs span dust ps k ∧ ∀ j < k, ¬ Can m rs span dust ps j := by
  unfold leastP
  rw [List.find?_range_eq_some]
  constructor
  · rintro ⟨h1, h2, h3⟩
    exact ⟨(can_any ps k).mp h1, fun j hj c => by
      have := h3 j hj
      rw [(can_any ps j).mpr c] at this
      cases this⟩
  · rintro ⟨h1, h2⟩
    refine ⟨(can_any ps k).mpr h1, ?_, fun j hj => ?_⟩
    · obtain ⟨s, a, b, _⟩ := h1
      have := a.length_le
      simp; omega
    · cases e : (chosenP j ps).any (HW m rs span dust) with
      | false => rfl
      | true => exact absurd ((can_any ps j).mp e) (h2 j hj)
theorem leastP_none {ps : List (List Nat)} : leastP m rs span dust ps = none ↔ ∀ k, ¬ Can m rs span dust ps k := by
  unfold leastP
  rw [List.find?_eq_none]
  constructor
  · intro h k c
    obtain ⟨s, a, b, e⟩ := id c
    have := a.length_le
    exact h k (by simp; omega) ((can_any ps k).mpr c)
  · intro h k _ e
    exact h k ((can_any ps k).mp e)
end
end Dk

set_option linter.all false
set_option maxRecDepth 100000
/-! MathH: rows of a day; players in another order, or more of them. -/
namespace Dk
open PySem (PyData Str)
inductive RowOk (some_ : List Nat) : List (List Nat) → List (Option Nat) → Prop
  | nil : RowOk some_ [] []
  | cons {h : List Nat} {ps : List (List Nat)} {x : Option Nat} {t : List (Option Nat)} : x ∈ usable some_ h → RowOk some_ ps t → RowOk some_ (h :: ps) (x :: t)
theorem rowsOf_mem (some_ : List Nat) : ∀ (ps : List (List Nat)) (found : List (List (Option Nat))) (row : List (Option Nat)), row ∈ ps.foldl (fun found hand => stepRows some_ hand found) found ↔ ∃ r0 ∈ found, ∃ t, RowOk some_ ps t ∧ row = r0 ++ t
  | [], found, row => by
    simp only [List.foldl_nil]
    constructor
    · intro h; exact ⟨row, h, [], .nil, by simp⟩
    · rintro ⟨r0, h, t, ht, rfl⟩; cases ht; simpa using h
  | p :: ps, found, row => by
    rw [List.foldl_cons, rowsOf_mem some_ ps]
    constructor
    · rintro ⟨r0, h, t, ht, rfl⟩
      simp only [stepRows, List.mem_flatMap, List.mem_map] at h
      obtain ⟨r1, h1, x, hx, rfl⟩ := h
      exact ⟨r1, h1, x :: t, .cons hx ht, by simp⟩
    · rintro ⟨r0, h, t, ht, rfl⟩
      cases ht with
      | @cons _ _ x t' hx ht =>
        refine ⟨r0 ++ [x], ?_, t', ht, by simp⟩
        simp only [stepRows, List.mem_flatMap, List.mem_map]
        exact ⟨r0, h, x, hx, rfl⟩
theorem RowOk.append {some_ : List Nat} {ps qs : List (List Nat)} {t u : List (Option Nat)} (h : RowOk some_ ps t) (h2 : RowOk some_ qs u) : RowOk some_ (ps ++ qs) (t ++ u) := by
  induction h with
  | nil => exact h2
  | cons hx _ ih => exact .cons hx ih
theorem RowOk.reverse {some_ : List Nat} {ps : List (List Nat)} {t : List (Option Nat)} (h : RowOk some_ ps t) : RowOk some_ ps.reverse t.reverse := by
  induction h with
  | nil => exact .nil
  | cons hx _ ih =>
    rw [List.reverse_cons, List.reverse_cons]
    exact ih.append (.cons hx .nil)
theorem covers_mem {keys : List Nat} {row row' : List (Option Nat)} (h : ∀ o, o ∈ row → o ∈ row') (c : covers keys row = true) : covers keys row' = true := by
  unfold covers at c ⊢
  rw [List.all_eq_true] at c ⊢
  intro k hk
  have := c k hk
  simp only [decide_eq_true_eq, touchedBy, List.mem_flatMap] at this ⊢
  obtain ⟨o, h1, h2⟩ := this
  exact ⟨o, h o h1, h2⟩
section
variable {m : Nat} {rs : List Nat} {span : Int} {dust : List Int}
theorem HW_iff (ps : List (List Nat)) : HW m rs span dust ps = true ↔ ∀ day < span.toNat, ∃ row, RowOk (letsOf m rs dust (span - 1 - (day : Int))) ps row ∧ covers (keysOf m dust (span - 1 - (day : Int))) row = true := by
  unfold HW
  rw [List.all_eq_true]
  constructor
  · intro h day hd
    have := h day (by simpa using hd)
    cases e : dayRows m rs span dust ps day with
    | nil => rw [e] at this; simp at this
    | cons row rows =>
      have hm : row ∈ dayRows m rs span dust ps day := by rw [e]; simp
      unfold dayRows daysFor at hm
      rw [List.mem_filter] at hm
      obtain ⟨h1, h2⟩ := hm
      obtain ⟨r0, h0, t, ht, rfl⟩ := (rowsOf_mem _ ps [[]] row).mp h1
      simp only [List.mem_singleton] at h0
      subst h0
      exact ⟨t, ht, by simpa using h2⟩
  · intro h day hd
    obtain ⟨row, h1, h2⟩ := h day (by simpa using hd)
    have hm : row ∈ dayRows m rs span dust ps day := by
      unfold dayRows daysFor
      rw [List.mem_filter]
      exact ⟨(rowsOf_mem _ ps [[]] row).mpr ⟨[], by simp, row, h1, by simp⟩, h2⟩
    cases e : dayRows m rs span dust ps day with
    | nil => rw [e] at hm; simp at hm
    | cons => rfl
theorem HW_rev {ps : List (List Nat)} (h : HW m rs span dust ps = true) : HW m rs span dust ps.reverse = true := by
  rw [HW_iff] at h ⊢
  intro day hd
  obtain ⟨row, h1, h2⟩ := h day hd
  exact ⟨row.reverse, h1.reverse, covers_mem (fun o ho => by simpa using ho) h2⟩
theorem Can.rev {ps : List (List Nat)} {k : Nat} (h : Can m rs span dust ps k) : Can m rs span dust ps.reverse k := by
  obtain ⟨s, a, b, c⟩ := h
  exact ⟨s.reverse, a.reverse, by simpa using b, HW_rev c⟩
theorem Can.more {ps : List (List Nat)} {k : Nat} (h : Can m rs span dust ps k) (qs : List (List Nat)) : Can m rs span dust (ps ++ qs) k := by
  obtain ⟨s, a, b, c⟩ := h
  exact ⟨s, a.trans (List.sublist_append_left _ _), b, c⟩
theorem leastP_rev (ps : List (List Nat)) : leastP m rs span dust ps.reverse = leastP m rs span dust ps := by
  have back : ∀ k, Can m rs span dust ps.reverse k → Can m rs span dust ps k := fun k h => by simpa using h.rev
  cases e : leastP m rs span dust ps with
  | none =>
    rw [leastP_none] at e ⊢
    exact fun k c => e k (back k c)
  | some k =>
    rw [leastP_some] at e ⊢
    exact ⟨e.1.rev, fun j hj c => e.2 j hj (back j c)⟩
theorem leastP_more (ps qs : List (List Nat)) {k : Nat} (h : leastP m rs span dust ps = some k) : ∃ j, leastP m rs span dust (ps ++ qs) = some j ∧ j ≤ k := by
  rw [leastP_some] at h
  cases e : leastP m rs span dust (ps ++ qs) with
  | none =>
    rw [leastP_none] at e
    exact absurd (h.1.more qs) (e k)
  | some j =>
    refine ⟨j, rfl, ?_⟩
    rw [leastP_some] at e
    by_cases hj : j ≤ k
    · exact hj
    · exact absurd (h.1.more qs) (e.2 k (by omega))
/-- nothing was touched -/
theorem HW_nil (V : VD m rs span dust) : HW m rs span dust [] = true ↔ ∀ x ∈ dust, x = span := by
  rw [HW_iff]
  have s1 := V.s1
  constructor
  · intro h x hx
    obtain ⟨h0, h1⟩ := V.d x hx
    by_cases e : x = span
    · exact e
    · exfalso
      obtain ⟨i, hi⟩ := List.mem_iff_getElem?.mp hx
      have hd : (span - 1 - x).toNat < span.toNat := by omega
      obtain ⟨row, h1, h2⟩ := h (span - 1 - x).toNat hd
      cases h1
      have hin : i ∈ keysOf m dust (span - 1 - ((span - 1 - x).toNat : Int)) := by
        have e2 : span - 1 - ((span - 1 - x).toNat : Int) = x := by omega
        rw [e2]
        unfold keysOf
        rw [List.mem_map]
        have hil : i < dust.length := (List.getElem?_eq_some_iff.mp hi).1
        refine ⟨(i, x), ?_, rfl⟩
        rw [List.mem_filter]
        refine ⟨List.mem_iff_getElem?.mpr ⟨i, ?_⟩, by simp⟩
        rw [List.getElem?_zip_eq_some]
        exact ⟨by rw [List.getElem?_range (by rw [← V.l]; exact hil)], hi⟩
      unfold covers at h2
      rw [List.all_eq_true] at h2
      have := h2 i hin
      simp [touchedBy] at this
  · intro h day hd
    refine ⟨[], .nil, ?_⟩
    unfold covers
    rw [List.all_eq_true]
    intro k hk
    exfalso
    unfold keysOf at hk
    simp only [List.mem_map, List.mem_filter, decide_eq_true_eq] at hk
    obtain ⟨p, ⟨h1, h2⟩, _⟩ := hk
    have := h p.2 (List.of_mem_zip h1).2
    omega
end
end Dk

set_option linter.all false
set_option maxRecDepth 100000
/-! MathI: the dice. -/
namespace Dk
open PySem (PyData Str)
theorem mul_c (a b : Int) (h : small64 b = true) : binD .mul (.int a) (.int b) = some (.int (a * b)) := by
  simp only [binD, h, Bool.or_true, Bool.true_or, if_true]
theorem mul_k (a b : Int) (h1 : small1k a = true) (h2 : small1k b = true) : binD .mul (.int a) (.int b) = some (.int (a * b)) := by
  simp only [binD, h1, h2, Bool.and_self, Bool.or_true, if_true]
theorem mod_p (a b : Int) (h : 0 < b) : binD .mod (.int a) (.int b) = some (.int (a % b)) := by
  simp only [binD, h, if_true]
theorem div_p (a b : Int) (h : 0 < b) (h2 : small1k b = true) : binD .fdiv (.int a) (.int b) = some (.int (a / b)) := by
  simp only [binD]
  rw [if_pos ⟨h, h2⟩]
theorem sm1k {a : Int} (h0 : 0 ≤ a) (h1 : a < 2 ^ 400) : small1k a = true := by
  unfold small1k
  apply decide_eq_true
  have : (2 : Int) ^ 400 < 2 ^ 1000 := by decide +kernel
  have e : (a.natAbs : Int) = a := by omega
  have : (a.natAbs : Int) < ((2 ^ 1000 : Nat) : Int) := by
    rw [e]
    have e3 : ((2 ^ 1000 : Nat) : Int) = 2 ^ 1000 := by decide +kernel
    rw [e3]; omega
  omega
abbrev P1 : Int := 340282366920938463463374607431768211507
abbrev P2 : Int := 340282366920938463463374607431768211297
abbrev Q1 : Int := 18446744073709551557
theorem m_drawn (n : Nat) (a b : Int) (D : DS) : ∃ z, call tbl (n + 1) false f_law_drawn [.int a, .int b] D = .ok (.int z) D := by
  rw [callS]
  simp only [tb_law_drawn, runFD, fd_law_drawn]
  have c1 : small64 (6364136223846793005 : Int) = true := by decide +kernel
  have c2 : small64 (1442695040888963407 : Int) = true := by decide +kernel
  have p1 : (0 : Int) < P1 := by decide
  have p2 : (0 : Int) < P2 := by decide
  have q1 : (0 : Int) < Q1 := by decide
  have kq : small1k Q1 = true := by decide +kernel
  generalize hx : (a * 6364136223846793005 + (b + 1) * 1442695040888963407) % P1 = x
  have x0 : 0 ≤ x := by rw [← hx]; exact Int.emod_nonneg _ (by decide)
  have x1 : x < P1 := by rw [← hx]; exact Int.emod_lt_of_pos _ p1
  generalize hy : x * x % P2 = y
  have y0 : 0 ≤ y := by rw [← hy]; exact Int.emod_nonneg _ (by decide)
  have y1 : y < P2 := by rw [← hy]; exact Int.emod_lt_of_pos _ p2
  have k1 : small1k x = true := sm1k x0 (Int.lt_of_lt_of_le x1 (by decide +kernel))
  have k2 : small1k y = true := sm1k y0 (Int.lt_of_lt_of_le y1 (by decide +kernel))
  have u0 : 0 ≤ y % Q1 := Int.emod_nonneg _ (by decide)
  have u1 : y % Q1 < Q1 := Int.emod_lt_of_pos _ q1
  have v0 : 0 ≤ y / Q1 := Int.ediv_nonneg y0 (by decide)
  have v1 : y / Q1 ≤ y := Int.ediv_le_self _ y0
  have k3 : small1k (y % Q1 + 1) = true := sm1k (by omega) (Int.lt_of_le_of_lt (by omega : _ ≤ Q1) (by decide +kernel))
  have k4 : small1k (y / Q1 + 1) = true := sm1k (by omega) (Int.lt_of_le_of_lt (by omega : _ ≤ P2) (by decide +kernel))
  have k5 : small1k ((y % Q1 + 1) * (y / Q1 + 1)) = true := by
    refine sm1k (Int.mul_nonneg (by omega) (by omega)) (Int.lt_of_le_of_lt (Int.mul_le_mul (by omega : _ ≤ Q1) (by omega : _ ≤ P2) (by omega) (by decide)) (by decide +kernel))
  refine ⟨(y % Q1 + 1) * (y / Q1 + 1) * y % P1, ?_⟩
  simp [startE, execB, execS, evalE, slotD, assign, mul_c _ _ c1, mul_c _ _ c2, mod_p _ _ p1, hx, mul_k _ _ k1 k1, mod_p _ _ p2, hy, mod_p _ _ q1, div_p _ _ q1 kq, mul_k _ _ k3 k4, mul_k _ _ k5 k2]
theorem m_roll (n : Nat) (many : Nat) (cn : Int × Int) (h1 : 1 ≤ many) (h2 : many ≤ 1000) : ∃ (t : Nat) (cn' : Int × Int), t < many ∧ call tbl (n + 2) true f_law_roll [.int (many : Nat)] (some cn) = .ok (.int (t : Nat)) (some cn') := by
  obtain ⟨c, k⟩ := cn
  rw [callS]
  have pm : (0 : Int) < many := by omega
  have km : small1k (many : Int) = true := sm1k (by omega) (Int.lt_of_le_of_lt (show (many : Int) ≤ 1000 by omega) (by decide +kernel))
  have k8 : small1k (8 : Int) = true := by decide +kernel
  have pw : binD .pow (.int 10) (.int 18) = some (.int 1000000000000000000) := by
    have s10 : small64 (10 : Int) = true := by decide +kernel
    simp only [binD]
    rw [if_pos ⟨by decide, by decide, s10⟩]
    rfl
  have mm : ∀ z : Int, ∃ t : Nat, t < many ∧ z % (many : Int) = (t : Nat) := fun z => ⟨(z % (many : Int)).toNat, by have := Int.emod_nonneg z (by omega : (many : Int) ≠ 0); have := Int.emod_lt_of_pos z pm; omega, by have := Int.emod_nonneg z (by omega : (many : Int) ≠ 0); omega⟩
  simp only [tb_law_roll, runFD, fd_law_roll]
  by_cases hc : (1000000000000000000 : Int) ≤ c
  · obtain ⟨t, t1, t2⟩ := mm c
    refine ⟨t, (c / many, k), t1, ?_⟩
    simp [startE, execB, execS, evalE, slotD, assign, pw, hc, mod_p _ _ pm, div_p _ _ pm km, t2]
  · obtain ⟨z, hz⟩ := m_drawn n c (k + 1) (some (c, k + 1))
    obtain ⟨t, t1, t2⟩ := mm (z / 8)
    refine ⟨t, (c, k + 1), t1, ?_⟩
    simp [startE, execB, execS, evalE, evalEs, slotD, assign, pw, hc, hz, mod_p _ _ pm, div_p z 8 (by decide) k8, t2]
end Dk

set_option linter.all false
set_option maxRecDepth 100000
/-! MathJ: what is drawn: plays, players. -/
namespace Dk
open PySem (PyData Str)
/-- a loop, all told by P -/
theorem forL_any {f : PyData → Env → DS → Res} : ∀ (xs : List PyData) (P : Nat → Env → DS → Prop) (r : Env) (D : DS), (∀ i (hi : i < xs.length) r D, P i r D → ∃ r' D', f xs[i] r D = .next r' D' ∧ P (i + 1) r' D') → P 0 r D →
    ∃ r' D', forL f xs r D = .next r' D' ∧ P xs.length r' D'
  | [], P, r, D, _, h0 => ⟨r, D, rfl, h0⟩
  | x :: xs, P, r, D, h, h0 => by
    obtain ⟨r1, D1, e1, p1⟩ := h 0 (by simp) r D h0
    obtain ⟨r2, D2, e2, p2⟩ := forL_any xs (fun i => P (i + 1)) r1 D1 (fun i hi r D p => by
      have := h (i + 1) (by simp; omega) r D p
      simpa using this) p1
    refine ⟨r2, D2, ?_, p2⟩
    rw [forL, show f x r D = .next r1 D1 from e1, Res.next_andThen, e2]
/-- a comprehension that draws which it takes -/
theorem compL_dice {α : Type} {f : PyData → DS → Out (Option PyData)} (g F : α → PyData) : ∀ (xs : List α) (cn : Int × Int), (∀ x ∈ xs, ∀ cn, ∃ (b : Bool) (cn' : Int × Int), f (g x) (some cn) = .ok (if b then some (F x) else none) (some cn')) →
    ∃ (ys : List α) (cn' : Int × Int), ys.Sublist xs ∧ compL f (xs.map g) (some cn) = .ok (ys.map F) (some cn')
  | [], cn, _ => ⟨[], cn, List.Sublist.refl _, rfl⟩
  | x :: xs, cn, h => by
    obtain ⟨b, c1, e1⟩ := h x (by simp) cn
    obtain ⟨ys, c2, s, e2⟩ := compL_dice g F xs c1 fun y hy => h y (by simp [hy])
    cases b with
    | true => exact ⟨x :: ys, c2, s.cons_cons _, by rw [List.map_cons, compL, e1, Out.ok_bind, e2]; rfl⟩
    | false => exact ⟨ys, c2, s.cons _, by rw [List.map_cons, compL, e1, Out.ok_bind, e2]; rfl⟩
/-- .. that draws each of its items -/
theorem compL_draw {α β : Type} {f : PyData → DS → Out (Option PyData)} (g : α → PyData) (F : β → PyData) (Pb : β → Prop) : ∀ (xs : List α) (cn : Int × Int), (∀ x ∈ xs, ∀ cn, ∃ (b : β) (cn' : Int × Int), Pb b ∧ f (g x) (some cn) = .ok (some (F b)) (some cn')) →
    ∃ (ys : List β) (cn' : Int × Int), ys.length = xs.length ∧ (∀ y ∈ ys, Pb y) ∧ compL f (xs.map g) (some cn) = .ok (ys.map F) (some cn')
  | [], cn, _ => ⟨[], cn, rfl, by simp, rfl⟩
  | x :: xs, cn, h => by
    obtain ⟨b, c1, pb, e1⟩ := h x (by simp) cn
    obtain ⟨ys, c2, l, ps, e2⟩ := compL_draw g F Pb xs c1 fun y hy => h y (by simp [hy])
    refine ⟨b :: ys, c2, by simp [l], ?_, by rw [List.map_cons, compL, e1, Out.ok_bind, e2]; rfl⟩
    intro y hy
    rcases List.mem_cons.mp hy with rfl | hy
    · exact pb
    · exact ps y hy
section
variable {m : Nat} {rs : List Nat}
/-- those of the board's reaches that a roll of many takes -/
theorem draw_reaches (n : Nat) (many slot bslot : Nat) (hm : 1 ≤ many) (hm2 : many ≤ 1000) (cn : Int × Int) (V : VB m rs) (r : Env) (hb : slotD r bslot = some (eB m rs)) (hs : ∀ x, slotD ((wipeE r [slot]).set slot (.val x)) slot = some x) :
    ∃ (h : List Nat) (cn' : Int × Int), h.Sublist rs ∧ evalE (call tbl (n + 2)) (.comp [slot] (.name slot) .seq [(.ix (.var bslot) (.const (.int 1)))] (some (.cmp .eq (.call true 63 [(.const (.int (many : Nat)))]) (.const (.int 0)))) (.var slot)) r (some cn) = .ok (.list (h.map eR)) (some cn') := by
  have hle := V.le
  obtain ⟨ys, cn', s, e⟩ := compL_dice (f := cTurn (call tbl (n + 2)) [slot] (.name slot) (some (.cmp .eq (.call true 63 [(.const (.int (many : Nat)))]) (.const (.int 0)))) (.var slot) r) eR eR rs cn (fun x hx cn => by
    obtain ⟨t, c2, t3, e⟩ := m_roll n many cn hm hm2
    refine ⟨decide (t = 0), c2, ?_⟩
    have e : call tbl (n + 2) true 63 [.int (many : Nat)] (some cn) = .ok (.int (t : Nat)) (some c2) := e
    simp [cTurn, assign, evalT, evalE, evalEs, e, hs]
    by_cases h : t = 0 <;> simp [h])
  refine ⟨ys, cn', s, ?_⟩
  have := s.length_le
  rw [eval_comp]
  have e1 : evalEs (call tbl (n + 2)) [(.ix (.var bslot) (.const (.int 1)))] r (some cn) = .ok [.tuple (rs.map eR)] (some cn) := by
    simp [evalEs, evalE, hb, eB, ixD, ixNat]
  rw [e1]
  simp only [Out.ok_bind, itemsD, Out.lift_some, e, Out.calm_ok]
  exact fits_ok (by simp; omega)
theorem m_any_day (n : Nat) (cn : Int × Int) (V : VB m rs) : ∃ (h : List Nat) (cn' : Int × Int), h.Sublist rs ∧ call tbl (n + 3) true f_law_any_day [eB m rs] (some cn) = .ok (eH h) (some cn') := by
  obtain ⟨h, cn', s, e⟩ := draw_reaches n 3 2 1 (by decide) (by decide) cn V [.non, .val (eB m rs), .non] rfl (fun x => rfl)
  refine ⟨h, cn', s, ?_⟩
  have e : evalE (call tbl (n + 2)) (.comp [2] (.name 2) .seq [(.ix (.var 1) (.const (.int 1)))] (some (.cmp .eq (.call true 63 [(.const (.int 3))]) (.const (.int 0)))) (.var 2)) [.non, .val (eB m rs), .non] (some cn) = .ok (.list (h.map eR)) (some cn') := e
  rw [callS]
  simp only [tb_law_any_day, runFD, fd_law_any_day]
  have es : (Sl.non :: startE 2 [eB m rs] : Env) = [.non, .val (eB m rs), .non] := rfl
  simp only [List.length_cons, List.length_nil, if_true, Nat.reduceAdd, Nat.reduceSub, and_self, es, execB, execS]
  rw [evalE, evalEs, e]
  simp [evalEs, eH]
theorem m_any_play (n : Nat) (cn : Int × Int) (span : Int) (V : VB m rs) (s0 : 0 ≤ span) (s5 : span ≤ 5) : ∃ (play : List (List Nat)) (cn' : Int × Int), play.length = span.toNat ∧ (∀ h ∈ play, h.Sublist rs) ∧ call tbl (n + 4) true f_law_any_play [eB m rs, .int span] (some cn) = .ok (eP play) (some cn') := by
  obtain ⟨ys, cn', l, p, e⟩ := compL_draw (f := cTurn (call tbl (n + 3)) [3] (.name 3) none (.call true 69 [(.var 1)]) [.non, .val (eB m rs), .val (.int span), .non]) (fun (i : Nat) => PyData.int (i : Nat)) eH (fun h : List Nat => h.Sublist rs) (List.range span.toNat) cn (fun x hx cn => by
    obtain ⟨h, c2, s, e⟩ := m_any_day n cn V
    refine ⟨h, c2, s, ?_⟩
    have e : call tbl (n + 3) true 69 [eB m rs] (some cn) = .ok (eH h) (some c2) := e
    simp [cTurn, assign, wipeE, evalT, evalE, evalEs, slotD, e])
  refine ⟨ys, cn', by simpa using l, p, ?_⟩
  rw [callS]
  simp only [tb_law_any_play, runFD, fd_law_any_play]
  have es : (Sl.non :: startE 3 [eB m rs, .int span] : Env) = [.non, .val (eB m rs), .val (.int span), .non] := rfl
  simp only [List.length_cons, List.length_nil, if_true, Nat.reduceAdd, Nat.reduceSub, and_self, es, execB, execS]
  have e2 : evalE (call tbl (n + 3)) (.comp [3] (.name 3) .range [(.var 2)] none (.call true 69 [(.var 1)])) [.non, .val (eB m rs), .val (.int span), .non] (some cn) = .ok (.list (ys.map eH)) (some cn') := by
    rw [eval_comp]
    have e1 : evalEs (call tbl (n + 3)) [(.var 2)] [.non, .val (eB m rs), .val (.int span), .non] (some cn) = .ok [.int span] (some cn) := by simp [evalEs, evalE, slotD]
    rw [e1, Out.ok_bind, range_ok s0 (by omega), Out.lift_some, Out.ok_bind, e, Out.calm_ok, Out.ok_bind]
    exact fits_ok (by simp at l ⊢; omega)
  rw [evalE, evalEs, e2]
  simp [evalEs, eP]
theorem cutTo (xs : List PyData) (k : Nat) : cut xs none (some (k : Int)) = xs.take k := by
  unfold cut sIx
  have h1 : ¬ ((k : Int) < 0) := by omega
  simp only [if_neg h1, List.drop_zero, Nat.sub_zero, Int.toNat_natCast]
  by_cases h : k ≤ xs.length
  · rw [Nat.min_eq_left h]
  · rw [Nat.min_eq_right (by omega), List.take_length, List.take_of_length_le (by omega)]
def plEnv (m : Nat) (rs : List Nat) (found : List (List Nat)) (j4 j5 : Sl) : Env := [.non, .val (eB m rs), .val (.int 3), .own (found.map eH), j4, j5, .non]
def plH : CS := (.asg (.name 5) (.slice (.comp [6] (.name 6) .seq [(.ix (.var 1) (.const (.int 1)))] (some (.cmp .eq (.call true 63 [(.const (.int 2))]) (.const (.int 0)))) (.var 6)) none (some (.const (.int 3)))))
def plA : CS := (.app 3 (.ite (.cmp .ne (.var 5) (.lst [])) (.bi .tuple [(.var 5)]) (.slice (.ix (.var 1) (.const (.int 1))) none (some (.const (.int 1))))))
def plI : CS := (.for_ (.name 4) .range [(.bin .add (.const (.int 1)) (.call true 63 [(.var 2)]))] [plH, plA])
theorem fd_players_eq : fd_law_any_players.body = [(.asgO 3 (.lst [])), plI, (.ret (.bi .tuple [(.peek 3)]))] := rfl
theorem plH_ok (n : Nat) (cn : Int × Int) (V : VB m rs) (found : List (List Nat)) (j4 j5 : Sl) : ∃ (h : List Nat) (cn' : Int × Int), h.Sublist rs ∧ h.length ≤ 3 ∧ execS (call tbl (n + 2)) plH (plEnv m rs found j4 j5) (some cn) = .next (plEnv m rs found j4 (.val (.list (h.map eR)))) (some cn') := by
  obtain ⟨h, cn', s, e⟩ := draw_reaches n 2 6 1 (by decide) (by decide) cn V (plEnv m rs found j4 j5) rfl (fun x => rfl)
  have e : evalE (call tbl (n + 2)) (.comp [6] (.name 6) .seq [(.ix (.var 1) (.const (.int 1)))] (some (.cmp .eq (.call true 63 [(.const (.int 2))]) (.const (.int 0)))) (.var 6)) (plEnv m rs found j4 j5) (some cn) = .ok (.list (h.map eR)) (some cn') := e
  refine ⟨h.take 3, cn', (List.take_sublist _ _).trans s, by simp; omega, ?_⟩
  unfold plH
  rw [execS, evalE, e]
  have c3 : cut (h.map eR) none (some 3) = (h.take 3).map eR := by rw [List.map_take]; exact cutTo _ 3
  simp [evalO, evalE, sliceD, c3, assign, plEnv]
theorem plA_ok (cf : CallF) (D : DS) (V : VB m rs) (found : List (List Nat)) (h : List Nat) (s : h.Sublist rs) (h3 : h.length ≤ 3) (hf : found.length ≤ 100) (j4 : Sl) : ∃ g, VH rs g ∧ g.length ≤ 3 ∧ execS cf plA (plEnv m rs found j4 (.val (.list (h.map eR)))) D = .next (plEnv m rs (found ++ [g]) j4 (.val (.list (h.map eR)))) D := by
  have hz : found.length < szL := by unfold szL; omega
  cases h with
  | nil =>
    refine ⟨rs.take 1, ⟨by have := V.ne; simp; omega, by simp; omega, V.up.sublist (List.take_sublist _ _), fun r hr => List.mem_of_mem_take hr⟩, by simp; omega, ?_⟩
    have c1 : cut (rs.map eR) none (some 1) = (rs.take 1).map eR := by rw [List.map_take]; exact cutTo _ 1
    unfold plA plEnv
    simp [execS, evalE, evalEs, evalO, slotD, ownOf, eB, ixD, ixNat, sliceD, c1, eH, hz, szL, cmp_ne_nil]
    omega
  | cons a t =>
    refine ⟨a :: t, ⟨by simp, by omega, V.up.sublist s, fun r hr => s.subset hr⟩, h3, ?_⟩
    unfold plA plEnv
    simp [execS, evalE, evalEs, slotD, ownOf, eH, hz, szL, cmp_ne_nil]
    omega
theorem m_any_players (n : Nat) (cn : Int × Int) (V : VB m rs) : ∃ (ps : List (List Nat)) (cn' : Int × Int), VPl rs ps ∧ ps.length ≤ 3 ∧ (∀ h ∈ ps, h.length ≤ 3) ∧ call tbl (n + 3) true f_law_any_players [eB m rs, .int 3] (some cn) = .ok (eP ps) (some cn') := by
  rw [callS]
  simp only [tb_law_any_players, runFD]
  have hp : fd_law_any_players.dice = true := rfl
  have hp2 : fd_law_any_players.pars = 3 := rfl
  have hs : fd_law_any_players.slots = 7 := rfl
  rw [if_pos (by simp [hp, hp2]), fd_players_eq, hs]
  simp only [if_true]
  have a0 : execS (call tbl (n + 2)) (.asgO 3 (.lst [])) (.non :: startE (7 - 1) [eB m rs, .int 3]) (some cn) = .next (plEnv m rs [] .non .non) (some cn) := by
    simp [execS, evalE, evalEs, startE, plEnv]
  rw [execB, a0, Res.next_andThen, execB]
  obtain ⟨t, c2, t3, er⟩ := m_roll n 3 cn (by decide) (by decide)
  have er : call tbl (n + 2) true 63 [.int 3] (some cn) = .ok (.int (t : Nat)) (some c2) := er
  have e1 : evalEs (call tbl (n + 2)) [(.bin .add (.const (.int 1)) (.call true 63 [(.var 2)]))] (plEnv m rs [] .non .non) (some cn) = .ok [.int (1 + (t : Int))] (some c2) := by
    simp [evalEs, evalE, slotD, plEnv, er]
  obtain ⟨r', D', e2, cn', j4, j5, ps, rfl, rfl, l, hv⟩ := forL_any (f := fun x r D => Res.of (Out.lift (assign (.name 4) x r) D) fun r D => execB (call tbl (n + 2)) [plH, plA] r D) ((List.range (1 + (t : Int)).toNat).map fun (i : Nat) => PyData.int (i : Nat))
    (fun i r D => ∃ (cn : Int × Int) (j4 j5 : Sl) (ps : List (List Nat)), r = plEnv m rs ps j4 j5 ∧ D = some cn ∧ ps.length = i ∧ ∀ h ∈ ps, VH rs h ∧ h.length ≤ 3) (plEnv m rs [] .non .non) (some c2) (by
      rintro i hi r D ⟨cn, j4, j5, ps, rfl, rfl, l, hv⟩
      simp only [List.length_map, List.length_range] at hi
      have hi4 : i < 4 := by omega
      obtain ⟨h, c3, s, h3, eh⟩ := plH_ok n cn V ps (.val (.int (i : Nat))) j5
      obtain ⟨g, vg, g3, eg⟩ := plA_ok (call tbl (n + 2)) (some c3) V ps h s h3 (by omega) (.val (.int (i : Nat)))
      refine ⟨_, _, ?_, c3, .val (.int (i : Nat)), .val (.list (h.map eR)), ps ++ [g], rfl, rfl, by simp [l], ?_⟩
      · have ea : assign (.name 4) (((List.range (1 + (t : Int)).toNat).map fun (i : Nat) => PyData.int (i : Nat))[i]'(by simpa using hi)) (plEnv m rs ps j4 j5) = some (plEnv m rs ps (.val (.int (i : Nat))) j5) := by
          simp [assign, plEnv]
        rw [ea, Out.lift_some, Res.of_ok, execB, eh, Res.next_andThen, execB, eg, Res.next_andThen, execB]
      · intro x hx
        simp only [List.mem_append, List.mem_singleton] at hx
        rcases hx with hx | rfl
        · exact hv x hx
        · exact ⟨vg, g3⟩) ⟨c2, .non, .non, [], rfl, rfl, rfl, by simp⟩
  simp only [List.length_map, List.length_range] at l
  refine ⟨ps, cn', ⟨by omega, by omega, fun h hx => (hv h hx).1⟩, by omega, fun h hx => (hv h hx).2, ?_⟩
  have a1 : execS (call tbl (n + 2)) plI (plEnv m rs [] .non .non) (some cn) = .next (plEnv m rs ps j4 j5) (some cn') := by
    unfold plI
    rw [execS, e1, Res.of_ok, range_ok (by omega) (by omega), Out.lift_some, Res.of_ok]
    exact e2
  rw [a1, Res.next_andThen, execB]
  simp [execS, evalE, evalEs, slotP, plEnv, eP]
end
end Dk

set_option linter.all false
set_option maxRecDepth 100000
/-! MathK: the dust that a play leaves; dusts drawn. -/
namespace Dk
open PySem (PyData Str)
section
variable {m : Nat} {rs : List Nat}
def leEnv (m : Nat) (rs : List Nat) (play : List (List Nat)) (found : List Int) (j3 j4 j5 j6 : Sl) : Env := [.val (eB m rs), .val (eP play), .own (found.map .int), j3, j4, j5, j6, .non]
def leC : CS := (.cond (.cmp .ne (.comp [7] (.name 7) .seq [(.var 6)] (some (.cmp .isIn (.var 3) (.var 7))) (.var 7)) (.lst [])) [(.asg (.name 4) (.bin .sub (.bin .sub (.bi .len [(.var 1)]) (.const (.int 1))) (.var 5)))] [])
def leD : CS := (.for_ (.tup [5, 6]) .enum [(.var 1)] [leC])
def leK : CS := (.for_ (.name 3) .seq [(.ix (.var 0) (.const (.int 0)))] [(.asg (.name 4) (.bi .len [(.var 1)])), leD, (.app 2 (.var 4))])
theorem fd_left_eq : fd_law_left.body = [(.asgO 2 (.lst [])), leK, (.ret (.bi .tuple [(.peek 2)]))] := rfl
theorem inK_eR {k r : Nat} (hk : k < 6) (hr : r < 21) : cmpD .isIn (eK k) (eR r) = some (decide (k ∈ kx r)) := (cmp_inK hk (kx_lt r hr)).1
theorem leC_ok (cf : CallF) (D : DS) (V : VB m rs) (play : List (List Nat)) (found : List Int) (k day : Nat) (v : Int) (h : List Nat) (s : h.Sublist rs) (hk : k < 6) (hd : day < play.length) (hv : 0 ≤ v ∧ v ≤ play.length) :
    ∃ v', (0 ≤ v' ∧ v' ≤ (play.length : Int)) ∧ execS cf leC (leEnv m rs play found (.val (eK k)) (.val (.int v)) (.val (.int (day : Nat))) (.val (eH h))) D = .next (leEnv m rs play found (.val (eK k)) (.val (.int v')) (.val (.int (day : Nat))) (.val (eH h))) D := by
  have hle := V.le
  have sl := s.length_le
  have ec : evalE cf (.comp [7] (.name 7) .seq [(.var 6)] (some (.cmp .isIn (.var 3) (.var 7))) (.var 7)) (leEnv m rs play found (.val (eK k)) (.val (.int v)) (.val (.int (day : Nat))) (.val (eH h))) D = .ok (.list ((h.filter fun r => decide (k ∈ kx r)).map eR)) D := by
    rw [eval_comp]
    have e1 : evalEs cf [(.var 6)] (leEnv m rs play found (.val (eK k)) (.val (.int v)) (.val (.int (day : Nat))) (.val (eH h))) D = .ok [eH h] D := by simp [evalEs, evalE, slotD, leEnv]
    rw [e1]
    simp only [Out.ok_bind, eH, itemsD, Out.lift_some]
    rw [compL_fil eR (fun r => decide (k ∈ kx r)) eR]
    · have := List.length_filter_le (fun r => decide (k ∈ kx r)) h
      simp only [Out.calm_ok, Out.ok_bind]
      exact fits_ok (by simp only [List.length_map]; omega)
    · intro r hr
      have z := inK_eR hk (V.lt r (s.subset hr))
      simp [cTurn, assign, wipeE, evalT, evalE, slotD, leEnv, z]
      by_cases q : k ∈ kx r <;> simp [q]
  have e2 : evalE cf (.cmp .ne (.comp [7] (.name 7) .seq [(.var 6)] (some (.cmp .isIn (.var 3) (.var 7))) (.var 7)) (.lst [])) (leEnv m rs play found (.val (eK k)) (.val (.int v)) (.val (.int (day : Nat))) (.val (eH h))) D = .ok (.bool (!((h.filter fun r => decide (k ∈ kx r)).map eR).isEmpty)) D := by
    rw [evalE, ec]
    simp only [Out.ok_bind]
    rw [evalE, evalEs]
    simp only [Out.ok_bind]
    rw [if_pos (show ([] : List PyData).length ≤ szL from Nat.zero_le _)]
    simp only [Out.ok_bind, cmp_ne_nil, Out.lift_some]
  unfold leC
  rw [execS, e2, Res.of_ok]
  cases ((h.filter fun r => decide (k ∈ kx r)).map eR).isEmpty with
  | true => exact ⟨v, hv, by simp [execB]⟩
  | false =>
    refine ⟨(play.length : Int) - 1 - day, by omega, ?_⟩
    simp [execB, execS, evalE, evalEs, slotD, leEnv, eP, assign]
theorem leD_ok (cf : CallF) (D : DS) (V : VB m rs) (play : List (List Nat)) (found : List Int) (k : Nat) (j5 j6 : Sl) (hs : ∀ h ∈ play, h.Sublist rs) (hk : k < 6) :
    ∃ v' a b, (0 ≤ v' ∧ v' ≤ (play.length : Int)) ∧ execS cf leD (leEnv m rs play found (.val (eK k)) (.val (.int (play.length : Nat))) j5 j6) D = .next (leEnv m rs play found (.val (eK k)) (.val (.int v')) a b) D := by
  obtain ⟨r', D', e, v', a, b, rfl, rfl, hv⟩ := forL_any (f := fun x r D => Res.of (Out.lift (assign (.tup [5, 6]) x r) D) fun r D => execB cf [leC] r D) (((List.range play.length).zip play).map fun p => PyData.tuple [.int (p.1 : Nat), eH p.2])
    (fun i r D' => ∃ (v : Int) (a b : Sl), r = leEnv m rs play found (.val (eK k)) (.val (.int v)) a b ∧ D' = D ∧ 0 ≤ v ∧ v ≤ (play.length : Int)) (leEnv m rs play found (.val (eK k)) (.val (.int (play.length : Nat))) j5 j6) D (by
      rintro i hi r D' ⟨v, a, b, rfl, rfl, h0, h1⟩
      simp only [List.length_map, List.length_zip, List.length_range, Nat.min_self] at hi
      have hp : ((List.range play.length).zip play)[i]'(by simpa using hi) = (i, play[i]) := by simp
      obtain ⟨v', hv, e⟩ := leC_ok cf D' V play found k i v play[i] (hs _ (List.getElem_mem hi)) hk hi ⟨h0, h1⟩
      refine ⟨_, _, ?_, v', .val (.int (i : Nat)), .val (eH play[i]), rfl, rfl, hv.1, hv.2⟩
      rw [List.getElem_map, hp]
      have ea : assign (.tup [5, 6]) (.tuple [.int (i : Nat), eH play[i]]) (leEnv m rs play found (.val (eK k)) (.val (.int v)) a b) = some (leEnv m rs play found (.val (eK k)) (.val (.int v)) (.val (.int (i : Nat))) (.val (eH play[i]))) := rfl
      rw [ea, Out.lift_some, Res.of_ok, execB, e, Res.next_andThen, execB]) ⟨_, j5, j6, rfl, rfl, by omega, by omega⟩
  refine ⟨v', a, b, hv, ?_⟩
  unfold leD
  have e1 : evalEs cf [(.var 1)] (leEnv m rs play found (.val (eK k)) (.val (.int (play.length : Nat))) j5 j6) D' = .ok [eP play] D' := by simp [evalEs, evalE, slotD, leEnv]
  have e3 : itemsD .enum [eP play] = some (((List.range play.length).zip play).map fun p => PyData.tuple [.int (p.1 : Nat), eH p.2]) := by
    simp only [eP, itemsD, List.length_map]
    rw [enum_map]
  rw [execS, e1, Res.of_ok, e3, Out.lift_some, Res.of_ok]
  exact e
theorem m_left (n : Nat) (D : DS) (V : VB m rs) (play : List (List Nat)) (hs : ∀ h ∈ play, h.Sublist rs) : ∃ dust : List Int, dust.length = m ∧ (∀ x ∈ dust, 0 ≤ x ∧ x ≤ (play.length : Int)) ∧ call tbl (n + 1) false f_law_left [eB m rs, eP play] D = .ok (eD dust) D := by
  rw [callS]
  simp only [tb_law_left, runFD]
  have hp : fd_law_left.dice = false := rfl
  have hp2 : fd_law_left.pars = 2 := rfl
  have hsl : fd_law_left.slots = 8 := rfl
  rw [if_pos (by simp [hp, hp2]), fd_left_eq, hsl]
  simp only [Bool.false_eq_true, if_false]
  have a0 : execS (call tbl n) (.asgO 2 (.lst [])) (startE 8 [eB m rs, eP play]) D = .next (leEnv m rs play [] .non .non .non .non) D := by
    simp [execS, evalE, evalEs, startE, leEnv]
  obtain ⟨r', D', e, found, j3, j4, j5, j6, rfl, rfl, hl, hv⟩ := forL_any (f := fun x r D => Res.of (Out.lift (assign (.name 3) x r) D) fun r D => execB (call tbl n) [(.asg (.name 4) (.bi .len [(.var 1)])), leD, (.app 2 (.var 4))] r D) ((List.range m).map eK)
    (fun i r D' => ∃ (found : List Int) (j3 j4 j5 j6 : Sl), r = leEnv m rs play found j3 j4 j5 j6 ∧ D' = D ∧ found.length = i ∧ ∀ x ∈ found, 0 ≤ x ∧ x ≤ (play.length : Int)) (leEnv m rs play [] .non .non .non .non) D (by
      rintro i hi r D' ⟨found, j3, j4, j5, j6, rfl, rfl, hl, hv⟩
      simp only [List.length_map, List.length_range] at hi
      have n6 := V.n6
      obtain ⟨v', a, b, hv', e⟩ := leD_ok (call tbl n) D' V play found i j5 j6 hs (by omega)
      have hz : found.length < szL := by unfold szL; omega
      refine ⟨_, _, ?_, found ++ [v'], .val (eK i), .val (.int v'), a, b, rfl, rfl, by simp [hl], ?_⟩
      · have ea : assign (.name 3) (((List.range m).map eK)[i]'(by simpa using hi)) (leEnv m rs play found j3 j4 j5 j6) = some (leEnv m rs play found (.val (eK i)) j4 j5 j6) := by
          simp [assign, leEnv]
        have eb : execS (call tbl n) (.asg (.name 4) (.bi .len [(.var 1)])) (leEnv m rs play found (.val (eK i)) j4 j5 j6) D' = .next (leEnv m rs play found (.val (eK i)) (.val (.int (play.length : Nat))) j5 j6) D' := by
          simp [execS, evalE, evalEs, slotD, leEnv, eP, assign]
        have ec : execS (call tbl n) (.app 2 (.var 4)) (leEnv m rs play found (.val (eK i)) (.val (.int v')) a b) D' = .next (leEnv m rs play (found ++ [v']) (.val (eK i)) (.val (.int v')) a b) D' := by
          simp [execS, evalE, slotD, ownOf, leEnv, hz]
        rw [ea, Out.lift_some, Res.of_ok, execB, eb, Res.next_andThen, execB, e, Res.next_andThen, execB, ec, Res.next_andThen, execB]
      · intro x hx
        simp only [List.mem_append, List.mem_singleton] at hx
        rcases hx with hx | rfl
        · exact hv x hx
        · exact hv') ⟨[], .non, .non, .non, .non, rfl, rfl, rfl, by simp⟩
  refine ⟨found, by simpa using hl, hv, ?_⟩
  have a1 : execS (call tbl n) leK (leEnv m rs play [] .non .non .non .non) D' = .next (leEnv m rs play found j3 j4 j5 j6) D' := by
    unfold leK
    have e1 : evalEs (call tbl n) [(.ix (.var 0) (.const (.int 0)))] (leEnv m rs play [] .non .non .non .non) D' = .ok [.tuple ((List.range m).map eK)] D' := by
      simp [evalEs, evalE, slotD, leEnv, eB, ixD, ixNat]
    rw [execS, e1, Res.of_ok]
    simp only [itemsD, Out.lift_some, Res.of_ok]
    exact e
  rw [execB, a0, Res.next_andThen, execB, a1, Res.next_andThen, execB]
  simp [execS, evalE, evalEs, slotP, leEnv, eD]
def duA : CS := (.asg (.name 3) (.call false 71 [(.var 1), (.call true 70 [(.var 1), (.var 2)])]))
def duT : CS := (.asg (.name 4) (.call true 63 [(.bi .len [(.var 3)])]))
def duS : CS := (.asg (.name 3) (.bin .add (.bin .add (.slice (.var 3) none (some (.var 4))) (.tup [(.call true 63 [(.bin .add (.var 2) (.const (.int 1)))])])) (.slice (.var 3) (some (.bin .add (.var 4) (.const (.int 1)))) none)))
def duC : CS := (.cond (.cmp .eq (.call true 63 [(.const (.int 3))]) (.const (.int 0))) [duT, duS] [])
theorem fd_dust_eq : fd_law_any_dust.body = [duA, duC, (.ret (.var 3))] := rfl
def duEnv (m : Nat) (rs : List Nat) (span : Int) (j3 j4 : Sl) : Env := [.non, .val (eB m rs), .val (.int span), j3, j4]
theorem m_any_dust (n : Nat) (cn : Int × Int) (V : VB m rs) (span : Int) (s1 : 1 ≤ span) (s5 : span ≤ 5) : ∃ (dust : List Int) (cn' : Int × Int), VD m rs span dust ∧ call tbl (n + 5) true f_law_any_dust [eB m rs, .int span] (some cn) = .ok (eD dust) (some cn') := by
  rw [callS]
  simp only [tb_law_any_dust, runFD]
  have hp : fd_law_any_dust.dice = true := rfl
  have hp2 : fd_law_any_dust.pars = 3 := rfl
  have hsl : fd_law_any_dust.slots = 5 := rfl
  rw [if_pos (by simp [hp, hp2]), fd_dust_eq, hsl]
  simp only [if_true]
  have n6 := V.n6
  have n2 := V.n2
  obtain ⟨play, c1, pl, ps, e1⟩ := m_any_play n cn span V (by omega) s5
  obtain ⟨dust, dl, dv, e2⟩ := m_left (n + 3) (some c1) V play ps
  have e1 : call tbl (n + 4) true 70 [eB m rs, .int span] (some cn) = .ok (eP play) (some c1) := e1
  have e2 : call tbl (n + 4) false 71 [eB m rs, eP play] (some c1) = .ok (eD dust) (some c1) := e2
  have dv : ∀ x ∈ dust, 0 ≤ x ∧ x ≤ span := fun x hx => by have := dv x hx; omega
  have a0 : execS (call tbl (n + 4)) duA (.non :: startE (5 - 1) [eB m rs, .int span]) (some cn) = .next (duEnv m rs span (.val (eD dust)) .non) (some c1) := by
    unfold duA
    simp [execS, evalE, evalEs, slotD, startE, e1, e2, assign, duEnv]
  rw [execB, a0, Res.next_andThen, execB]
  obtain ⟨t, c2, t3, e3⟩ := m_roll (n + 2) 3 c1 (by decide) (by decide)
  have e3 : call tbl (n + 4) true 63 [.int 3] (some c1) = .ok (.int (t : Nat)) (some c2) := e3
  have ec : evalE (call tbl (n + 4)) (.cmp .eq (.call true 63 [(.const (.int 3))]) (.const (.int 0))) (duEnv m rs span (.val (eD dust)) .non) (some c1) = .ok (.bool (decide (t = 0))) (some c2) := by
    simp [evalE, evalEs, e3]
  have fin : ∀ (dd : List Int) (j4 : Sl) (c : Int × Int), execB (call tbl (n + 4)) [(.ret (.var 3))] (duEnv m rs span (.val (eD dd)) j4) (some c) = .ret (eD dd) (some c) := by
    intro dd j4 c
    simp [execB, execS, evalE, slotD, duEnv]
  by_cases ht : t = 0
  · obtain ⟨a, c3, a3, e4⟩ := m_roll (n + 2) m c2 (by omega) (by omega)
    obtain ⟨x, c4, x3, e5⟩ := m_roll (n + 2) (span.toNat + 1) c3 (by omega) (by omega)
    have e4 : call tbl (n + 4) true 63 [.int (m : Nat)] (some c2) = .ok (.int (a : Nat)) (some c3) := e4
    have e5 : call tbl (n + 4) true 63 [.int (span + 1)] (some c3) = .ok (.int (x : Nat)) (some c4) := by
      have q : ((span.toNat + 1 : Nat) : Int) = span + 1 := by omega
      have e5 : call tbl (n + 4) true 63 [.int ((span.toNat + 1 : Nat) : Int)] (some c3) = .ok (.int (x : Nat)) (some c4) := e5
      rw [q] at e5
      exact e5
    have aT : execS (call tbl (n + 4)) duT (duEnv m rs span (.val (eD dust)) .non) (some c2) = .next (duEnv m rs span (.val (eD dust)) (.val (.int (a : Nat)))) (some c3) := by
      unfold duT
      simp [execS, evalE, evalEs, slotD, duEnv, eD, dl, e4, assign]
    have aS : execS (call tbl (n + 4)) duS (duEnv m rs span (.val (eD dust)) (.val (.int (a : Nat)))) (some c3) = .next (duEnv m rs span (.val (eD (dust.take a ++ [(x : Int)] ++ dust.drop (a + 1)))) (.val (.int (a : Nat)))) (some c4) := by
      unfold duS
      simp [execS, evalE, evalEs, evalO, slotD, duEnv, eD, e5, assign, sliceD, cutTo, cutK, szL]
      rw [add_t _ _ (by simp; omega)]
      simp only [Out.lift_some, Out.ok_bind]
      rw [add_t _ _ (by simp; omega)]
      simp
    refine ⟨dust.take a ++ [(x : Int)] ++ dust.drop (a + 1), c4, ⟨V, s1, s5, by simp; omega, ?_⟩, ?_⟩
    · intro y hy
      simp only [List.mem_append, List.mem_singleton] at hy
      rcases hy with (hy | rfl) | hy
      · exact dv y (List.mem_of_mem_take hy)
      · omega
      · exact dv y (List.mem_of_mem_drop hy)
    · have aC : execS (call tbl (n + 4)) duC (duEnv m rs span (.val (eD dust)) .non) (some c1) = .next (duEnv m rs span (.val (eD (dust.take a ++ [(x : Int)] ++ dust.drop (a + 1)))) (.val (.int (a : Nat)))) (some c4) := by
        unfold duC
        rw [execS, ec, Res.of_ok]
        simp only [ht, decide_true]
        rw [execB, aT, Res.next_andThen, execB, aS, Res.next_andThen, execB]
      rw [aC, Res.next_andThen, fin]
  · refine ⟨dust, c2, ⟨V, s1, s5, dl, dv⟩, ?_⟩
    have aC : execS (call tbl (n + 4)) duC (duEnv m rs span (.val (eD dust)) .non) (some c1) = .next (duEnv m rs span (.val (eD dust)) .non) (some c2) := by
      unfold duC
      rw [execS, ec, Res.of_ok]
      simp only [ht, decide_false]
      rw [execB]
    rw [aC, Res.next_andThen, fin]
end
end Dk

set_option linter.all false
set_option maxRecDepth 100000
/-! MathL: boards drawn. -/
namespace Dk
open PySem (PyData Str)
/-! ### sorted -/
theorem leB_eR : ∀ a < 21, ∀ b < 21, leB (eR a) (eR b) = decide (a ≤ b) := by
  intro a ha b hb
  unfold leB
  rw [eR_lt b hb a ha]
  by_cases h : b < a
  · simp [h]
  · simp [h]; omega
theorem sort_eR (xs : List Nat) (h : ∀ r ∈ xs, r < 21) : biD .sorted [.list (xs.map eR)] = some (.list ((xs.mergeSort (fun a b => decide (a ≤ b))).map eR)) := by
  have c1 : sortable (xs.map eR) = true := by
    unfold sortable comparable
    simp only [Bool.and_eq_true, List.all_eq_true, List.mem_map, forall_exists_index, and_imp, forall_apply_eq_imp_iff₂, decide_eq_true_eq]
    refine ⟨fun a ha b hb => by rw [eR_lt a (h a ha) b (h b hb)]; rfl, fun a ha => ⟨rfl, by rw [eR_dep a (h a ha)]; decide⟩⟩
  have c2 : oneKind (xs.map eR) = true := by
    unfold oneKind oneKind0
    rw [Bool.or_eq_true, Bool.or_eq_true]
    left
    left
    simp only [List.all_eq_true, List.mem_map, forall_exists_index, and_imp, forall_apply_eq_imp_iff₂]
    intro a ha
    have := kx_len a (h a ha)
    unfold eR
    cases e : kx a with
    | nil => rw [e] at this; simp at this
    | cons => rfl
  simp only [biD, c1, c2, Bool.and_self, if_true]
  congr 2
  unfold sortD
  exact (List.map_mergeSort fun a ha b hb => (leB_eR a (h a ha) b (h b hb)).symm).symm
theorem sort_up (xs : List Nat) (h : xs.Nodup) : (xs.mergeSort (fun a b => decide (a ≤ b))).Pairwise (· < ·) := by
  have p := List.mergeSort_perm xs (fun a b => decide (a ≤ b))
  have s := List.pairwise_mergeSort (le := fun a b : Nat => decide (a ≤ b)) (fun a b c h1 h2 => by simp at *; omega) (fun a b => by simp; omega) xs
  have n : (xs.mergeSort (fun a b => decide (a ≤ b))).Nodup := p.nodup_iff.mpr h
  exact (s.and n).imp fun h => by
    obtain ⟨h1, h2⟩ := h
    simp at h1
    omega
/-! ### the reaches by their keys -/
def ix1 (i : Nat) : Nat := [0, 6, 11, 15, 18, 20].getD i 0
def ix2 (i j : Nat) : Nat := ix1 i + (j - i)
theorem kx_ix1 : ∀ i < 6, kx (ix1 i) = [i] ∧ ix1 i < 21 := by decide +kernel
theorem kx_ix2 : ∀ i < 6, ∀ j < 6, i < j → kx (ix2 i j) = [i, j] ∧ ix2 i j < 21 := by decide +kernel
/-- all that may be drawn of n keys -/
def allR (n : Nat) : List Nat := (List.range n).map ix1 ++ ((List.range n).zip (List.range n)).flatMap fun p => ((List.range n).drop (p.1 + 1)).map fun j => ix2 p.2 j
theorem allR_ok : ∀ n ≤ 6, 2 ≤ n → (allR n).Nodup ∧ (∀ r ∈ allR n, r < 21 ∧ ∀ i ∈ kx r, i < n) ∧ (allR n).length ≤ 21 ∧ 2 ≤ (allR n).length := by decide +kernel
def bdEnvG (sz hg m : Nat) (s4 j6 j7 s9 j10 : Sl) : Env := [.non, .val (.int (sz : Nat)), .val (.int (hg : Nat)), .val (.tuple ((List.range m).map eK)), s4, .non, j6, j7, .non, s9, j10]
def bdK : CS := (.asg (.name 3) (.slice (.tup [(.const (.str "do")), (.const (.str "fa")), (.const (.str "la")), (.const (.str "mi")), (.const (.str "re")), (.const (.str "so"))]) none (some (.bin .add (.const (.int 2)) (.call true 63 [(.bin .sub (.var 1) (.const (.int 1)))])))))
def bdO : CS := (.asgO 4 (.comp [5] (.name 5) .seq [(.var 3)] none (.tup [(.var 5)])))
def bdS : CS := (.asgO 4 (.bin .add (.peek 4) (.comp [8] (.name 8) .seq [(.slice (.var 3) (some (.bin .add (.var 6) (.const (.int 1)))) none)] none (.tup [(.var 7), (.var 8)]))))
def bdI : CS := (.for_ (.tup [6, 7]) .enum [(.var 3)] [bdS])
def bdP : CS := (.cond (.cmp .ne (.peek 4) (.lst [])) [(.appPop 9 4 (.call true 63 [(.bi .len [(.peek 4)])]))] [])
def bdD : CS := (.for_ (.name 10) .range [(.bin .add (.const (.int 1)) (.call true 63 [(.var 2)]))] [bdP])
theorem fd_board_eq : fd_law_any_board.body = [bdK, bdO, bdI, (.asgO 9 (.lst [])), bdD, (.ret (.tup [(.var 3), (.bi .tuple [(.bi .sorted [(.peek 9)])])]))] := rfl
theorem eR_ix1 {i : Nat} (h : i < 6) : PyData.tuple [eK i] = eR (ix1 i) := by unfold eR; rw [(kx_ix1 i h).1]; rfl
theorem eR_ix2 {i j : Nat} (hi : i < 6) (hj : j < 6) (h : i < j) : PyData.tuple [eK i, eK j] = eR (ix2 i j) := by unfold eR; rw [(kx_ix2 i hi j hj h).1]; rfl
section
variable {sz hg : Nat}
theorem bdK_ok (n : Nat) (cn : Int × Int) (s2 : 2 ≤ sz) (s6 : sz ≤ 6) : ∃ (m : Nat) (cn' : Int × Int), 2 ≤ m ∧ m ≤ sz ∧ execS (call tbl (n + 2)) bdK (.non :: startE 10 [.int (sz : Nat), .int (hg : Nat)]) (some cn) = .next (bdEnvG sz hg m .non .non .non .non .non) (some cn') := by
  obtain ⟨t, c2, t3, e⟩ := m_roll n (sz - 1) cn (by omega) (by omega)
  have e : call tbl (n + 2) true 63 [.int ((sz : Int) - 1)] (some cn) = .ok (.int (t : Nat)) (some c2) := by
    rw [← e]
    congr 3
    omega
  refine ⟨2 + t, c2, by omega, by omega, ?_⟩
  have w : ∀ t < 5, cut [.str "do", .str "fa", .str "la", .str "mi", .str "re", .str "so"] none (some (2 + ((t : Nat) : Int))) = (List.range (2 + t)).map eK := by
    intro t ht
    match t, ht with
    | 0, _ => rfl
    | 1, _ => rfl
    | 2, _ => rfl
    | 3, _ => rfl
    | 4, _ => rfl
  unfold bdK
  simp [execS, evalE, evalEs, evalO, slotD, startE, e, szL, sliceD, w t (by omega), assign, bdEnvG]
theorem bdO_ok (cf : CallF) (D : DS) (m : Nat) (h : m ≤ 6) : execS cf bdO (bdEnvG sz hg m .non .non .non .non .non) D = .next (bdEnvG sz hg m (.own (((List.range m).map ix1).map eR)) .non .non .non .non) D := by
  unfold bdO
  have ec : evalE cf (.comp [5] (.name 5) .seq [(.var 3)] none (.tup [(.var 5)])) (bdEnvG sz hg m .non .non .non .non .non) D = .ok (.list (((List.range m).map ix1).map eR)) D := by
    rw [eval_comp]
    have e1 : evalEs cf [(.var 3)] (bdEnvG sz hg m .non .non .non .non .non) D = .ok [.tuple ((List.range m).map eK)] D := by simp [evalEs, evalE, slotD, bdEnvG]
    rw [e1]
    simp only [Out.ok_bind, itemsD, Out.lift_some]
    rw [compL_mapS eK (fun i => eR (ix1 i))]
    · simp only [Out.calm_ok, Out.ok_bind, List.map_map]
      exact fits_ok (by simp; omega)
    · intro i hi
      simp only [List.mem_range] at hi
      simp [cTurn, assign, wipeE, evalT, evalE, evalEs, slotD, bdEnvG, szL, eR_ix1 (show i < 6 by omega)]
  rw [execS, ec, Res.of_ok]
  simp [bdEnvG]
theorem bdS_ok (cf : CallF) (D : DS) (m i : Nat) (h : m ≤ 6) (hi : i < m) (acc : List Nat) (ha : acc.length ≤ 1000) :
    execS cf bdS (bdEnvG sz hg m (.own (acc.map eR)) (.val (.int (i : Nat))) (.val (eK i)) .non .non) D = .next (bdEnvG sz hg m (.own ((acc ++ ((List.range m).drop (i + 1)).map fun j => ix2 i j).map eR)) (.val (.int (i : Nat))) (.val (eK i)) .non .non) D := by
  have ec : evalE cf (.comp [8] (.name 8) .seq [(.slice (.var 3) (some (.bin .add (.var 6) (.const (.int 1)))) none)] none (.tup [(.var 7), (.var 8)])) (bdEnvG sz hg m (.own (acc.map eR)) (.val (.int (i : Nat))) (.val (eK i)) .non .non) D = .ok (.list ((((List.range m).drop (i + 1)).map fun j => ix2 i j).map eR)) D := by
    rw [eval_comp]
    have e1 : evalEs cf [(.slice (.var 3) (some (.bin .add (.var 6) (.const (.int 1)))) none)] (bdEnvG sz hg m (.own (acc.map eR)) (.val (.int (i : Nat))) (.val (eK i)) .non .non) D = .ok [.tuple (((List.range m).drop (i + 1)).map eK)] D := by
      simp [evalEs, evalE, evalO, slotD, bdEnvG, sliceD, cutK]
    rw [e1]
    simp only [Out.ok_bind, itemsD, Out.lift_some]
    rw [compL_mapS eK (fun j => eR (ix2 i j))]
    · simp only [Out.calm_ok, Out.ok_bind, List.map_map]
      exact fits_ok (by simp; omega)
    · intro j hj
      have hj6 : i < j ∧ j < m := by
        obtain ⟨k, hk⟩ := List.mem_iff_getElem?.mp hj
        rw [List.getElem?_drop] at hk
        obtain ⟨a, b⟩ := List.getElem?_eq_some_iff.mp hk
        simp at a b
        omega
      simp [cTurn, assign, wipeE, evalT, evalE, evalEs, slotD, bdEnvG, szL, eR_ix2 (show i < 6 by omega) (show j < 6 by omega) hj6.1]
  have ep : evalE cf (.peek 4) (bdEnvG sz hg m (.own (acc.map eR)) (.val (.int (i : Nat))) (.val (eK i)) .non .non) D = .ok (.list (acc.map eR)) D := by simp [evalE, slotP, bdEnvG]
  unfold bdS
  rw [execS, evalE, ep, Out.ok_bind, ec, Out.ok_bind, add_l _ _ (by simp; omega)]
  simp [bdEnvG]
theorem bdI_ok (cf : CallF) (D : DS) (m : Nat) (h : m ≤ 6) : ∃ a b, execS cf bdI (bdEnvG sz hg m (.own (((List.range m).map ix1).map eR)) .non .non .non .non) D = .next (bdEnvG sz hg m (.own ((allR m).map eR)) a b .non .non) D := by
  have z := forL_ix (f := fun x r D => Res.of (Out.lift (assign (.tup [6, 7]) x r) D) fun r D => execB cf [bdS] r D) (D := D) (fun p : Nat × Nat => PyData.tuple [.int (p.1 : Nat), eK p.2]) (fun p acc => acc ++ ((List.range m).drop (p.1 + 1)).map fun j => ix2 p.2 j) ((List.range m).zip (List.range m))
    (fun i acc r => ∃ a b, r = bdEnvG sz hg m (.own (acc.map eR)) a b .non .non ∧ acc.length ≤ 6 + 6 * i) ((List.range m).map ix1) (bdEnvG sz hg m (.own (((List.range m).map ix1).map eR)) .non .non .non .non) ?_ ⟨.non, .non, rfl, by simp; omega⟩
  · obtain ⟨r', e, a, b, rfl, _⟩ := z
    refine ⟨a, b, ?_⟩
    rw [foldl_app] at e
    unfold bdI
    have e1 : evalEs cf [(.var 3)] (bdEnvG sz hg m (.own (((List.range m).map ix1).map eR)) .non .non .non .non) D = .ok [.tuple ((List.range m).map eK)] D := by simp [evalEs, evalE, slotD, bdEnvG]
    have e3 : itemsD .enum [.tuple ((List.range m).map eK)] = some (((List.range m).zip (List.range m)).map fun p => PyData.tuple [.int (p.1 : Nat), eK p.2]) := by
      simp only [itemsD, List.length_map]
      rw [enum_map]
      simp
    rw [execS, e1, Res.of_ok, e3, Out.lift_some, Res.of_ok]
    exact e
  · rintro i hi acc r ⟨a, b, rfl, hl⟩
    simp only [List.length_zip, List.length_range, Nat.min_self] at hi
    have hp : ((List.range m).zip (List.range m))[i]'(by simpa using hi) = (i, i) := by simp
    rw [hp]
    refine ⟨_, ?_, .val (.int (i : Nat)), .val (eK i), rfl, by simp; omega⟩
    have ea : assign (.tup [6, 7]) (.tuple [.int (i : Nat), eK i]) (bdEnvG sz hg m (.own (acc.map eR)) a b .non .non) = some (bdEnvG sz hg m (.own (acc.map eR)) (.val (.int (i : Nat))) (.val (eK i)) .non .non) := rfl
    simp only
    rw [ea, Out.lift_some, Res.of_ok, execB, bdS_ok cf D m i h hi acc (by omega), Res.next_andThen, execB]
theorem pick_perm {α : Type} : ∀ (l : List α) (t : Nat) (h : t < l.length), (l[t] :: l.eraseIdx t).Perm l
  | x :: xs, 0, _ => .refl _
  | x :: xs, t + 1, h => by
    have ih := pick_perm xs t (by simpa using h)
    simp only [List.getElem_cons_succ, List.eraseIdx_cons_succ]
    exact (List.Perm.swap _ _ _).trans (ih.cons x)
theorem erase_map {α β : Type} (f : α → β) : ∀ (l : List α) (t : Nat), (l.map f).eraseIdx t = (l.eraseIdx t).map f
  | [], t => rfl
  | x :: xs, 0 => rfl
  | x :: xs, t + 1 => by simp [erase_map f xs t]
theorem bdP_ok (n : Nat) (cn : Int × Int) (m : Nat) (S T : List Nat) (a b j10 : Sl) (hS : S.length ≤ 21) (hT : T.length ≤ 100) : ∃ (S' T' : List Nat) (cn' : Int × Int), (T' ++ S').Perm (T ++ S) ∧ S'.length ≤ S.length ∧ T.length ≤ T'.length ∧ T'.length ≤ T.length + 1 ∧ (S ≠ [] → 1 ≤ T'.length) ∧
    execS (call tbl (n + 2)) bdP (bdEnvG sz hg m (.own (S.map eR)) a b (.own (T.map eR)) j10) (some cn) = .next (bdEnvG sz hg m (.own (S'.map eR)) a b (.own (T'.map eR)) j10) (some cn') := by
  have ep : ∀ D, evalE (call tbl (n + 2)) (.peek 4) (bdEnvG sz hg m (.own (S.map eR)) a b (.own (T.map eR)) j10) D = .ok (.list (S.map eR)) D := by intro D; simp [evalE, slotP, bdEnvG]
  have ec : evalE (call tbl (n + 2)) (.cmp .ne (.peek 4) (.lst [])) (bdEnvG sz hg m (.own (S.map eR)) a b (.own (T.map eR)) j10) (some cn) = .ok (.bool (!(S.map eR).isEmpty)) (some cn) := by
    rw [evalE, ep, Out.ok_bind, evalE, evalEs]
    simp only [Out.ok_bind]
    rw [if_pos (show ([] : List PyData).length ≤ szL from Nat.zero_le _)]
    simp only [Out.ok_bind, cmp_ne_nil, Out.lift_some]
  unfold bdP
  cases S with
  | nil =>
    refine ⟨[], T, cn, .refl _, by simp, by simp, by omega, by simp, ?_⟩
    rw [execS, ec, Res.of_ok]
    simp [execB]
  | cons x xs =>
    obtain ⟨t, c2, t3, e⟩ := m_roll n (x :: xs).length cn (by simp) (by omega)
    have e : call tbl (n + 2) true 63 [.int ((x :: xs).length : Nat)] (some cn) = .ok (.int (t : Nat)) (some c2) := e
    refine ⟨(x :: xs).eraseIdx t, T ++ [(x :: xs)[t]], c2, ?_, ?_, by simp, by simp, fun _ => by simp, ?_⟩
    · rw [List.append_assoc]
      exact List.Perm.append_left T (pick_perm _ t t3)
    · rw [List.length_eraseIdx]; split <;> omega
    · rw [execS, ec, Res.of_ok]
      have er : evalE (call tbl (n + 2)) (.call true 63 [(.bi .len [(.peek 4)])]) (bdEnvG sz hg m (.own ((x :: xs).map eR)) a b (.own (T.map eR)) j10) (some cn) = .ok (.int (t : Nat)) (some c2) := by
        rw [evalE, evalEs, evalE, evalEs, ep]
        simp only [Option.isNone_some, Bool.and_false, Bool.false_eq_true, if_false, Out.ok_bind, evalEs, len_l, Out.lift_some, List.length_map]
        exact e
      have h4 : ownOf (bdEnvG sz hg m (.own ((x :: xs).map eR)) a b (.own (T.map eR)) j10) 4 = some ((x :: xs).map eR) := rfl
      have h9 : ownOf (bdEnvG sz hg m (.own ((x :: xs).map eR)) a b (.own (T.map eR)) j10) 9 = some (T.map eR) := rfl
      have hx : ixNat ((x :: xs).map eR).length (t : Nat) = some t := by
        unfold ixNat
        rw [if_pos (by omega), if_pos (by simp only [List.length_map]; omega)]
        simp
      have hg : ((x :: xs).map eR)[t]? = some (eR (x :: xs)[t]) := by rw [List.getElem?_map, List.getElem?_eq_getElem t3]; rfl
      have he : ((x :: xs).map eR).eraseIdx t = ((x :: xs).eraseIdx t).map eR := erase_map eR _ t
      have hb : (9 : Nat) ≠ 4 ∧ (T.map eR).length < szL ∧ -(2 ^ 63 : Int) ≤ (t : Int) ∧ (t : Int) < 2 ^ 63 := by
        refine ⟨by decide, by unfold szL; simp; omega, by omega, by omega⟩
      have eb : (!((x :: xs).map eR).isEmpty) = true := rfl
      rw [eb]
      simp only
      rw [execB, execS, h9, Out.lift_some, Res.of_ok, h4, Out.lift_some, Res.of_ok, er, Res.of_ok]
      simp only [hx, hg]
      rw [if_pos hb, he, Res.next_andThen, execB]
      simp [bdEnvG]
theorem m_any_boardG (n : Nat) (cn : Int × Int) (s2 : 2 ≤ sz) (s6 : sz ≤ 6) (g1 : 1 ≤ hg) (g10 : hg ≤ 10) : ∃ (m : Nat) (rs : List Nat) (cn' : Int × Int), VB m rs ∧ m ≤ sz ∧ rs.length ≤ hg ∧ call tbl (n + 3) true f_law_any_board [.int (sz : Nat), .int (hg : Nat)] (some cn) = .ok (eB m rs) (some cn') := by
  rw [callS]
  simp only [tb_law_any_board, runFD]
  have hp : fd_law_any_board.dice = true := rfl
  have hp2 : fd_law_any_board.pars = 3 := rfl
  have hsl : fd_law_any_board.slots = 11 := rfl
  rw [if_pos (by simp [hp, hp2]), fd_board_eq, hsl]
  simp only [if_true]
  obtain ⟨m, c1, m2, m5, e1⟩ := bdK_ok (hg := hg) n cn s2 s6
  have e1 : execS (call tbl (n + 2)) bdK (.non :: startE (11 - 1) [.int (sz : Nat), .int (hg : Nat)]) (some cn) = .next (bdEnvG sz hg m .non .non .non .non .non) (some c1) := e1
  obtain ⟨a, b, e2⟩ := bdI_ok (sz := sz) (hg := hg) (call tbl (n + 2)) (some c1) m (by omega)
  obtain ⟨nd, ok, al, al2⟩ := allR_ok m (by omega) m2
  obtain ⟨t, c2, t3, er⟩ := m_roll n hg c1 (by omega) (by omega)
  have er : call tbl (n + 2) true 63 [.int (hg : Nat)] (some c1) = .ok (.int (t : Nat)) (some c2) := er
  have e4 : execS (call tbl (n + 2)) (.asgO 9 (.lst [])) (bdEnvG sz hg m (.own ((allR m).map eR)) a b .non .non) (some c1) = .next (bdEnvG sz hg m (.own ((allR m).map eR)) a b (.own []) .non) (some c1) := by
    simp [execS, evalE, evalEs, bdEnvG]
  obtain ⟨r', D', e5, cn', S, T, j10, rfl, rfl, pm, sl, tl, t1⟩ := forL_any (f := fun x r D => Res.of (Out.lift (assign (.name 10) x r) D) fun r D => execB (call tbl (n + 2)) [bdP] r D) ((List.range (1 + (t : Int)).toNat).map fun (i : Nat) => PyData.int (i : Nat))
    (fun i r D => ∃ (cn : Int × Int) (S T : List Nat) (j10 : Sl), r = bdEnvG sz hg m (.own (S.map eR)) a b (.own (T.map eR)) j10 ∧ D = some cn ∧ (T ++ S).Perm (allR m) ∧ S.length ≤ 21 ∧ T.length ≤ i ∧ (1 ≤ i → 1 ≤ T.length)) (bdEnvG sz hg m (.own ((allR m).map eR)) a b (.own []) .non) (some c2) (by
      rintro i hi r D ⟨cn, S, T, j10, rfl, rfl, pm, sl, tl, t1⟩
      simp only [List.length_map, List.length_range] at hi
      obtain ⟨S', T', c3, pm', s', g1, g2, g3, e⟩ := bdP_ok n cn m S T a b (.val (.int (i : Nat))) sl (by omega)
      refine ⟨_, _, ?_, c3, S', T', .val (.int (i : Nat)), rfl, rfl, pm'.trans pm, by omega, by omega, fun _ => ?_⟩
      · have ea : assign (.name 10) (((List.range (1 + (t : Int)).toNat).map fun (i : Nat) => PyData.int (i : Nat))[i]'(by simpa using hi)) (bdEnvG sz hg m (.own (S.map eR)) a b (.own (T.map eR)) j10) = some (bdEnvG sz hg m (.own (S.map eR)) a b (.own (T.map eR)) (.val (.int (i : Nat)))) := by
          simp [assign, bdEnvG]
        rw [ea, Out.lift_some, Res.of_ok, execB, e, Res.next_andThen, execB]
      · by_cases hi0 : 1 ≤ i
        · have := t1 hi0; omega
        · have hT : T = [] := List.length_eq_zero_iff.mp (by omega)
          subst hT
          apply g3
          intro q
          subst q
          have := pm.length_eq
          simp at this
          omega) ⟨c2, allR m, [], .non, rfl, rfl, by simp, al, by simp, by simp⟩
  simp only [List.length_map, List.length_range] at tl t1
  have T21 : ∀ r ∈ T, r < 21 ∧ ∀ i ∈ kx r, i < m := fun r hr => ok r (pm.subset (List.mem_append_left _ hr))
  have Tn : T.Nodup := (List.nodup_append.mp (pm.nodup_iff.mpr nd)).1
  have pT := List.mergeSort_perm T (fun a b => decide (a ≤ b))
  refine ⟨m, T.mergeSort (fun a b => decide (a ≤ b)), cn', ⟨m2, by omega, by rw [pT.length_eq]; exact t1 (by omega), by rw [pT.length_eq]; omega, sort_up T Tn, fun r hr => (T21 r (pT.subset hr)).1, fun r hr => (T21 r (pT.subset hr)).2⟩, m5, by rw [pT.length_eq]; omega, ?_⟩
  have e6 : execS (call tbl (n + 2)) bdD (bdEnvG sz hg m (.own ((allR m).map eR)) a b (.own []) .non) (some c1) = .next (bdEnvG sz hg m (.own (S.map eR)) a b (.own (T.map eR)) j10) (some cn') := by
    unfold bdD
    have e0 : evalEs (call tbl (n + 2)) [(.bin .add (.const (.int 1)) (.call true 63 [(.var 2)]))] (bdEnvG sz hg m (.own ((allR m).map eR)) a b (.own []) .non) (some c1) = .ok [.int (1 + (t : Int))] (some c2) := by
      simp [evalEs, evalE, slotD, bdEnvG, er]
    rw [execS, e0, Res.of_ok, range_ok (by omega) (by omega), Out.lift_some, Res.of_ok]
    exact e5
  rw [execB, e1, Res.next_andThen, execB, bdO_ok _ _ m (by omega), Res.next_andThen, execB, e2, Res.next_andThen, execB, e4, Res.next_andThen, execB, e6, Res.next_andThen, execB]
  have e7 : evalE (call tbl (n + 2)) (.bi .sorted [(.peek 9)]) (bdEnvG sz hg m (.own (S.map eR)) a b (.own (T.map eR)) j10) (some cn') = .ok (.list ((T.mergeSort (fun a b => decide (a ≤ b))).map eR)) (some cn') := by
    rw [evalE, evalEs, evalE]
    simp [slotP, bdEnvG, evalEs, sort_eR T fun r hr => (T21 r hr).1]
  have et : evalE (call tbl (n + 2)) (.bi .tuple [(.bi .sorted [(.peek 9)])]) (bdEnvG sz hg m (.own (S.map eR)) a b (.own (T.map eR)) j10) (some cn') = .ok (.tuple ((T.mergeSort (fun a b => decide (a ≤ b))).map eR)) (some cn') := by
    rw [evalE, evalEs, e7]
    simp [evalEs]
  have ev : evalE (call tbl (n + 2)) (.var 3) (bdEnvG sz hg m (.own (S.map eR)) a b (.own (T.map eR)) j10) (some cn') = .ok (.tuple ((List.range m).map eK)) (some cn') := by simp [evalE, slotD, bdEnvG]
  rw [execS, evalE, evalEs, ev, Out.ok_bind, evalEs, et]
  simp [evalEs, szL, eB, execB]
end
theorem m_any_board (n : Nat) (cn : Int × Int) : ∃ (m : Nat) (rs : List Nat) (cn' : Int × Int), VB m rs ∧ m ≤ 5 ∧ rs.length ≤ 6 ∧ call tbl (n + 3) true f_law_any_board [.int 5, .int 6] (some cn) = .ok (eB m rs) (some cn') := m_any_boardG (sz := 5) (hg := 6) n cn (by omega) (by omega) (by omega) (by omega)
end Dk

set_option linter.all false
set_option maxRecDepth 100000
/-! MathN: pairs of keys, covers; plain. -/
namespace Dk
def apart (f r : Nat) : Bool := !(kx r).any fun i => decide (i ∈ kx f)
def mp : Nat → List Nat → List Nat
  | 0, _ => []
  | _ + 1, [] => []
  | n + 1, f :: t => if (mp n t).length ≤ (f :: mp n (t.filter (apart f))).length then f :: mp n (t.filter (apart f)) else mp n t
theorem mp_len : ∀ (n : Nat) (xs : List Nat), (mp n xs).length ≤ n
  | 0, _ => by simp [mp]
  | n + 1, [] => by simp [mp]
  | n + 1, f :: t => by
    rw [mp]
    have h1 := mp_len n t
    have h2 := mp_len n (t.filter (apart f))
    split
    · simp; omega
    · omega
theorem apart_iff {f r : Nat} : apart f r = true ↔ ∀ i ∈ kx r, i ∉ kx f := by
  simp [apart]
theorem apart_symm {f r : Nat} (h : apart f r = true) : apart r f = true := by
  rw [apart_iff] at h ⊢
  intro i hi hr
  exact h i hr hi
theorem mp_fuel : ∀ (n : Nat) (xs : List Nat), xs.length ≤ n → mp n xs = mp xs.length xs
  | n, [], _ => by cases n <;> simp [mp]
  | n + 1, f :: t, h => by
    simp only [List.length_cons] at h ⊢
    rw [mp, mp]
    have hl := List.length_filter_le (apart f) t
    rw [mp_fuel n t (by omega), mp_fuel n (t.filter (apart f)) (by omega), mp_fuel t.length (t.filter (apart f)) hl]
theorem mp_sub : ∀ (n : Nat) (xs : List Nat), (mp n xs).Sublist xs
  | 0, _ => by simp [mp]
  | n + 1, [] => by simp [mp]
  | n + 1, f :: t => by
    rw [mp]
    split
    · exact ((mp_sub n _).trans List.filter_sublist).cons₂ f
    · exact (mp_sub n t).cons f
theorem mp_apart : ∀ (n : Nat) (xs : List Nat), (mp n xs).Pairwise fun a b => apart a b = true
  | 0, _ => by simp [mp]
  | n + 1, [] => by simp [mp]
  | n + 1, f :: t => by
    rw [mp]
    split
    · rw [List.pairwise_cons]
      refine ⟨fun b hb => ?_, mp_apart n _⟩
      have := (mp_sub n (t.filter (apart f))).subset hb
      exact (List.mem_filter.mp this).2
    · exact mp_apart n t
/-- no more pairs apart than those -/
theorem mp_most : ∀ (n : Nat) (xs S : List Nat), xs.length ≤ n → (∀ r ∈ S, r ∈ xs) → (∀ r ∈ xs, kx r ≠ []) → S.Pairwise (fun a b => apart a b = true) → S.length ≤ (mp n xs).length
  | n, [], S, _, hs, _, _ => by
    cases S with
    | nil => simp
    | cons a S => exact absurd (hs a (by simp)) (by simp)
  | n + 1, f :: t, S, hn, hs, hk, hp => by
    simp only [List.length_cons] at hn
    have hl := List.length_filter_le (apart f) t
    have h1 : (mp n t).length ≤ (mp (n + 1) (f :: t)).length := by rw [mp]; split <;> omega
    have h2 : (mp n (t.filter (apart f))).length + 1 ≤ (mp (n + 1) (f :: t)).length := by
      rw [mp]
      split
      · simp
      · rename_i h; simp at h; omega
    by_cases hf : f ∈ S
    · obtain ⟨A, B, rfl⟩ := List.append_of_mem hf
      have hp' : (A ++ B).Pairwise (fun a b => apart a b = true) := hp.sublist (by simp)
      rw [List.pairwise_append, List.pairwise_cons] at hp
      obtain ⟨_, ⟨hB, _⟩, hA⟩ := hp
      have key : ∀ r ∈ A ++ B, apart f r = true := by
        intro r hr
        rcases List.mem_append.mp hr with hr | hr
        · exact apart_symm (hA r hr f (by simp))
        · exact hB r hr
      have := mp_most n (t.filter (apart f)) (A ++ B) (by omega) (fun r hr => by
        rw [List.mem_filter]
        refine ⟨?_, key r hr⟩
        have hm : r ∈ f :: t := hs r (by
          rcases List.mem_append.mp hr with hr | hr
          · simp [hr]
          · simp [hr])
        rcases List.mem_cons.mp hm with rfl | hm
        · have h3 := key r hr
          rw [apart_iff] at h3
          have h4 := hk r (by simp)
          cases e : kx r with
          | nil => exact absurd e h4
          | cons i l => exact absurd (by simp [e]) (h3 i (by simp [e]))
        · exact hm) (fun r hr => hk r (by simp [(List.mem_filter.mp hr).1])) hp'
      simp only [List.length_append, List.length_cons] at this ⊢
      omega
    · have := mp_most n t S (by omega) (fun r hr => by
        rcases List.mem_cons.mp (hs r hr) with rfl | h
        · exact absurd hr hf
        · exact h) (fun r hr => hk r (by simp [hr])) hp
      omega
theorem nodup_le {α : Type} [DecidableEq α] : ∀ (xs ys : List α), xs.Nodup → (∀ x ∈ xs, x ∈ ys) → xs.length ≤ ys.length
  | [], ys, _, _ => by simp
  | x :: xs, ys, hn, h => by
    rw [List.nodup_cons] at hn
    have := nodup_le xs (ys.erase x) hn.2 fun z hz => by
      have ne : z ≠ x := fun e => hn.1 (by rw [← e]; exact hz)
      exact (List.mem_erase_of_ne ne).mpr (h z (by simp [hz]))
    rw [List.length_erase_of_mem (h x (by simp))] at this
    have : 0 < ys.length := List.length_pos_of_mem (h x (by simp))
    simp only [List.length_cons]
    omega
theorem len_filter_add {α : Type} (p : α → Bool) : ∀ xs : List α, xs.length = (xs.filter p).length + (xs.filter fun x => !p x).length
  | [] => rfl
  | x :: xs => by
    have := len_filter_add p xs
    cases e : p x <;> simp [e] <;> omega
/-- a cover's reaches that touch two keys anew -/
theorem cover_twos : ∀ (C keys : List Nat), (∀ r ∈ C, r < 21) → keys.Nodup → (∀ k ∈ keys, ∃ r ∈ C, k ∈ kx r) →
    ∃ S : List Nat, (∀ r ∈ S, r ∈ C ∧ (kx r).length = 2 ∧ ∀ i ∈ kx r, i ∈ keys) ∧ S.Pairwise (fun a b => apart a b = true) ∧ keys.length ≤ C.length + S.length
  | [], keys, _, _, hc => by
    cases keys with
    | nil => exact ⟨[], by simp, .nil, by simp⟩
    | cons k ks => obtain ⟨r, hr, _⟩ := hc k (by simp); simp at hr
  | r :: C, keys, h21, hn, hc => by
    have r21 := h21 r (by simp)
    obtain ⟨S, h1, h2, h3⟩ := cover_twos C (keys.filter fun k => !decide (k ∈ kx r)) (fun x hx => h21 x (by simp [hx])) (hn.filter _) (fun k hk => by
      rw [List.mem_filter] at hk
      obtain ⟨r', hr', hkr⟩ := hc k hk.1
      rcases List.mem_cons.mp hr' with rfl | hr'
      · simp [hkr] at hk
      · exact ⟨r', hr', hkr⟩)
    have split : keys.length = (keys.filter fun k => !decide (k ∈ kx r)).length + (keys.filter fun k => decide (k ∈ kx r)).length := by
      have := len_filter_add (fun k => decide (k ∈ kx r)) keys
      omega
    have le2 : (keys.filter fun k => decide (k ∈ kx r)).length ≤ (kx r).length := nodup_le _ _ (hn.filter _) fun k hk => by simpa using (List.mem_filter.mp hk).2
    have kl := kx_len r r21
    by_cases two : (keys.filter fun k => decide (k ∈ kx r)).length = 2
    · have l2 : (kx r).length = 2 := by omega
      have all : ∀ i ∈ kx r, i ∈ keys := by
        intro i hi
        by_cases hik : i ∈ keys
        · exact hik
        · exfalso
          have : (i :: (keys.filter fun k => decide (k ∈ kx r))).length ≤ (kx r).length := nodup_le _ _ (by
            rw [List.nodup_cons]
            exact ⟨fun h => hik (List.mem_filter.mp h).1, hn.filter _⟩) fun k hk => by
              rcases List.mem_cons.mp hk with rfl | hk
              · exact hi
              · simpa using (List.mem_filter.mp hk).2
          simp only [List.length_cons] at this
          omega
      refine ⟨r :: S, fun x hx => ?_, ?_, ?_⟩
      · rcases List.mem_cons.mp hx with rfl | hx
        · exact ⟨by simp, l2, all⟩
        · obtain ⟨a, b, c⟩ := h1 x hx
          exact ⟨by simp [a], b, fun i hi => (List.mem_filter.mp (c i hi)).1⟩
      · rw [List.pairwise_cons]
        refine ⟨fun x hx => ?_, h2⟩
        rw [apart_iff]
        intro i hi
        have := (List.mem_filter.mp ((h1 x hx).2.2 i hi)).2
        simpa using this
      · simp only [List.length_cons]
        omega
    · refine ⟨S, fun x hx => ?_, h2, ?_⟩
      · obtain ⟨a, b, c⟩ := h1 x hx
        exact ⟨by simp [a], b, fun i hi => (List.mem_filter.mp (c i hi)).1⟩
      · simp only [List.length_cons]
        omega
/-- the keys that pairs apart touch are twice as many -/
theorem pairs_keys : ∀ (M : List Nat), (∀ r ∈ M, r < 21) → (∀ r ∈ M, (kx r).length = 2) → M.Pairwise (fun a b => apart a b = true) → (M.flatMap kx).Nodup ∧ (M.flatMap kx).length = 2 * M.length
  | [], _, _, _ => by simp
  | r :: M, h21, h2, hp => by
    rw [List.pairwise_cons] at hp
    obtain ⟨a, b⟩ := pairs_keys M (fun x hx => h21 x (by simp [hx])) (fun x hx => h2 x (by simp [hx])) hp.2
    rw [List.flatMap_cons]
    refine ⟨?_, ?_⟩
    · rw [List.nodup_append]
      refine ⟨(kx_rise r (h21 r (by simp))).imp (fun h => by omega), a, ?_⟩
      intro i hi j hj e
      subst e
      rw [List.mem_flatMap] at hj
      obtain ⟨x, hx, hix⟩ := hj
      have := hp.1 x hx
      rw [apart_iff] at this
      exact this i hix hi
    · have := h2 r (by simp)
      simp only [List.length_append, List.length_cons, b, this]
      omega
end Dk

set_option linter.all false
set_option maxRecDepth 100000
/-! MathM: the fewest reaches of a day. -/
namespace Dk
open PySem (PyData Str)
section
variable {m : Nat} {rs : List Nat} {span : Int} {dust : List Int}
theorem m_touched (n : Nat) (xs : List Nat) (D : DS) (h : ∀ r ∈ xs, r < 21) (hl : xs.length ≤ 100) : call tbl (n + 1) false f_touched [.list (xs.map eR)] D = .ok (.list ((xs.flatMap kx).map eK)) D := by
  rw [callS]
  simp only [tb_touched, runFD, fd_touched]
  simp [startE, execB, execS, evalE, evalEs, slotD, itemsD]
  rw [compL2_map eR (fun r => (kx r).map eK)]
  · simp only [Out.calm_ok, Out.ok_bind]
    have fl := flatMap_len kx 2 xs fun r hr => (kx_len r (h r hr)).2
    have e : (xs.flatMap fun r => (kx r).map eK) = (xs.flatMap kx).map eK := by rw [List.map_flatMap]
    rw [e, fits_ok (by simp only [List.length_map]; omega)]
    simp
  · intro r hr
    simp [wipeE, assign, evalT]
    simp only [eR, Out.lift_some, Out.ok_bind]
    rw [compL_mapS eK eK]
    intro i hi
    simp [wipeE, assign]
def twosOf (rs keys : List Nat) : List Nat := rs.filter fun r => decide ((kx r).length = 2) && inAll keys r
theorem m_twos (n : Nat) (keys : List Nat) (D : DS) (V : VB m rs) (hk : ∀ k ∈ keys, k < 6) : call tbl (n + 1) false f_twos_among [eB m rs, .list (keys.map eK)] D = .ok (.list ((twosOf rs keys).map eR)) D := by
  rw [callS]
  have hle := V.le
  simp only [tb_twos_among, runFD, fd_twos_among]
  have es : startE 4 [eB m rs, .list (keys.map eK)] = [.val (eB m rs), .val (.list (keys.map eK)), .non, .non] := rfl
  simp only [List.length_cons, List.length_nil, Nat.reduceAdd, Bool.false_eq_true, if_false, and_self, if_true, es, execB, execS]
  rw [eval_comp]
  have e1 : evalEs (call tbl n) [(.ix (.var 0) (.const (.int 1)))] [.val (eB m rs), .val (.list (keys.map eK)), .non, .non] D = .ok [.tuple (rs.map eR)] D := by
    simp [evalEs, evalE, slotD, eB, ixD, ixNat]
  rw [e1]
  simp only [Out.ok_bind, itemsD, Out.lift_some]
  rw [compL_fil eR (fun r => decide ((kx r).length = 2) && inAll keys r) eR]
  · have := List.length_filter_le (fun r => decide ((kx r).length = 2) && inAll keys r) rs
    simp only [Out.calm_ok, Out.ok_bind]
    rw [fits_ok (by simp only [List.length_map]; omega)]
    simp [twosOf]
  · intro r hr
    have r21 := V.lt r hr
    have kl := kx_len r r21
    have ec : evalE (call tbl n) (.comp [3] (.name 3) .seq [(.var 2)] none (.cmp .isIn (.var 3) (.var 1))) [.val (eB m rs), .val (.list (keys.map eK)), .val (eR r), .non] D = .ok (.list ((kx r).map fun i => .bool (decide (i ∈ keys)))) D := by
      rw [eval_comp]
      have e1 : evalEs (call tbl n) [(.var 2)] [.val (eB m rs), .val (.list (keys.map eK)), .val (eR r), .non] D = .ok [eR r] D := by simp [evalEs, evalE, slotD]
      rw [e1]
      simp only [Out.ok_bind, eR, itemsD, Out.lift_some]
      rw [compL_mapS eK (fun i => .bool (decide (i ∈ keys)))]
      · simp only [Out.calm_ok, Out.ok_bind]
        exact fits_ok (by simp; omega)
      · intro i hi
        have z := (cmp_inK (xs := keys) (kx_lt r r21 i hi) hk).2
        simp [cTurn, assign, wipeE, evalT, evalE, slotD, z]
    have el : biD .len [eR r] = some (.int ((kx r).length : Nat)) := by unfold eR; rw [len_t]; simp
    have ea : evalE (call tbl n) (.bi .all [(.comp [3] (.name 3) .seq [(.var 2)] none (.cmp .isIn (.var 3) (.var 1)))]) [.val (eB m rs), .val (.list (keys.map eK)), .val (eR r), .non] D = .ok (.bool (inAll keys r)) D := by
      rw [evalE, evalEs, ec]
      simp only [Out.ok_bind, evalEs]
      rw [all_bi]
      rfl
    have e2 : evalE (call tbl n) (.cmp .eq (.bi .len [(.var 2)]) (.const (.int 2))) [.val (eB m rs), .val (.list (keys.map eK)), .val (eR r), .non] D = .ok (.bool (decide ((kx r).length = 2))) D := by
      simp [evalE, evalEs, slotD, el]
      omega
    have et : evalT (call tbl n) (some (.and (.cmp .eq (.bi .len [(.var 2)]) (.const (.int 2))) (.bi .all [(.comp [3] (.name 3) .seq [(.var 2)] none (.cmp .isIn (.var 3) (.var 1)))]))) [.val (eB m rs), .val (.list (keys.map eK)), .val (eR r), .non] D = .ok (decide ((kx r).length = 2) && inAll keys r) D := by
      rw [evalT, evalE, e2, Out.ok_bind]
      by_cases q : (kx r).length = 2
      · simp only [q, decide_true, ea, Out.ok_bind, Bool.true_and]
      · simp only [q, decide_false, Out.ok_bind, Bool.false_and]
    have ew : assign (.name 2) (eR r) (wipeE [.val (eB m rs), .val (.list (keys.map eK)), .non, .non] [2]) = some [.val (eB m rs), .val (.list (keys.map eK)), .val (eR r), .non] := rfl
    unfold cTurn
    rw [ew, Out.lift_some, Out.ok_bind, et, Out.ok_bind]
    cases (decide ((kx r).length = 2) && inAll keys r) <;> simp [evalE, slotD]
def mpR : CS := (.asg (.name 4) (.comp [5] (.name 5) .seq [(.slice (.var 1) (some (.const (.int 1))) none)] (some (.not (.bi .any [(.comp [6] (.name 6) .seq [(.var 5)] none (.cmp .isIn (.var 6) (.var 2)))]))) (.var 5)))
def mpEnv (kd : PyData) (xs : List Nat) (j2 j3 j4 j7 : Sl) : Env := [.val kd, .val (.list (xs.map eR)), j2, j3, j4, .non, .non, j7]
theorem mpR_ok (cf : CallF) (D : DS) (kd : PyData) (f : Nat) (t : List Nat) (j3 : Sl) (h : ∀ r ∈ f :: t, r < 21) (hl : t.length ≤ 100) :
    execS cf mpR (mpEnv kd (f :: t) (.val (eR f)) j3 .non .non) D = .next (mpEnv kd (f :: t) (.val (eR f)) j3 (.val (.list ((t.filter (apart f)).map eR))) .non) D := by
  unfold mpR
  have ec : evalE cf (.comp [5] (.name 5) .seq [(.slice (.var 1) (some (.const (.int 1))) none)] (some (.not (.bi .any [(.comp [6] (.name 6) .seq [(.var 5)] none (.cmp .isIn (.var 6) (.var 2)))]))) (.var 5)) (mpEnv kd (f :: t) (.val (eR f)) j3 .non .non) D = .ok (.list ((t.filter (apart f)).map eR)) D := by
    rw [eval_comp]
    have e1 : evalEs cf [(.slice (.var 1) (some (.const (.int 1))) none)] (mpEnv kd (f :: t) (.val (eR f)) j3 .non .non) D = .ok [.list (t.map eR)] D := by
      simp [evalEs, evalE, evalO, slotD, mpEnv, sliceD, cut1]
    rw [e1]
    simp only [Out.ok_bind, itemsD, Out.lift_some]
    rw [compL_fil eR (apart f) eR]
    · have := List.length_filter_le (apart f) t
      simp only [Out.calm_ok, Out.ok_bind]
      exact fits_ok (by simp only [List.length_map]; omega)
    · intro r hr
      have r21 := h r (by simp [hr])
      have kl := kx_len r r21
      have ed : evalE cf (.comp [6] (.name 6) .seq [(.var 5)] none (.cmp .isIn (.var 6) (.var 2))) [.val kd, .val (.list ((f :: t).map eR)), .val (eR f), j3, .non, .val (eR r), .non, .non] D = .ok (.list ((kx r).map fun i => .bool (decide (i ∈ kx f)))) D := by
        rw [eval_comp]
        have e1 : evalEs cf [(.var 5)] [.val kd, .val (.list ((f :: t).map eR)), .val (eR f), j3, .non, .val (eR r), .non, .non] D = .ok [eR r] D := by simp [evalEs, evalE, slotD]
        rw [e1]
        simp only [Out.ok_bind, show itemsD .seq [eR r] = some ((kx r).map eK) from rfl, Out.lift_some]
        rw [compL_mapS eK (fun i => .bool (decide (i ∈ kx f)))]
        · simp only [Out.calm_ok, Out.ok_bind]
          exact fits_ok (by simp; omega)
        · intro i hi
          have z := inK_eR (kx_lt r r21 i hi) (h f (by simp))
          simp [cTurn, assign, wipeE, evalT, evalE, slotD, z]
      have et : evalT cf (some (.not (.bi .any [(.comp [6] (.name 6) .seq [(.var 5)] none (.cmp .isIn (.var 6) (.var 2)))]))) [.val kd, .val (.list ((f :: t).map eR)), .val (eR f), j3, .non, .val (eR r), .non, .non] D = .ok (apart f r) D := by
        rw [evalT, evalE, evalE, evalEs, ed]
        simp only [Out.ok_bind, evalEs]
        rw [any_bi]
        rfl
      have ew : assign (.name 5) (eR r) (wipeE (mpEnv kd (f :: t) (.val (eR f)) j3 .non .non) [5]) = some [.val kd, .val (.list ((f :: t).map eR)), .val (eR f), j3, .non, .val (eR r), .non, .non] := rfl
      unfold cTurn
      rw [ew, Out.lift_some, Out.ok_bind, et, Out.ok_bind]
      cases apart f r <;> simp [evalE, slotD]
  rw [execS, ec, Res.of_ok]
  simp [assign, mpEnv]
theorem fd_mp_eq : fd_most_pairs.body = [(.cond (.cmp .eq (.var 1) (.lst [])) [(.ret (.lst []))] []), (.asg (.name 2) (.ix (.var 1) (.const (.int 0)))), (.asg (.name 3) (.call false 26 [(.var 0), (.slice (.var 1) (some (.const (.int 1))) none)])), mpR, (.asg (.name 7) (.bin .add (.lst [(.var 2)]) (.call false 26 [(.var 0), (.var 4)]))), (.ret (.ite (.cmp .ge (.bi .len [(.var 7)]) (.bi .len [(.var 3)])) (.var 7) (.var 3)))] := rfl
theorem m_most_pairs (kd : PyData) (D : DS) : ∀ (n : Nat) (xs : List Nat), (∀ r ∈ xs, r < 21) → xs.length ≤ n → xs.length ≤ 100 → call tbl (n + 1) false f_most_pairs [kd, .list (xs.map eR)] D = .ok (.list ((mp n xs).map eR)) D
  | n, [], _, _, _ => by
    rw [callS]
    simp only [tb_most_pairs, runFD, fd_mp_eq]
    have e : mp n [] = [] := by cases n <;> rfl
    simp [fd_most_pairs, startE, execB, execS, evalE, evalEs, slotD, cmp_eq_nil, szL, e]
  | n + 1, f :: t, h, hl, hn => by
    simp only [List.length_cons] at hl hn
    have fl := List.length_filter_le (apart f) t
    have i1 := m_most_pairs kd D n t (fun r hr => h r (by simp [hr])) (by omega) (by omega)
    have i2 := m_most_pairs kd D n (t.filter (apart f)) (fun r hr => h r (by simp [(List.mem_filter.mp hr).1])) (by omega) (by omega)
    rw [callS]
    simp only [tb_most_pairs, runFD, fd_mp_eq]
    have es : startE fd_most_pairs.slots [kd, .list ((f :: t).map eR)] = mpEnv kd (f :: t) .non .non .non .non := rfl
    have e0 : execS (call tbl (n + 1)) (.cond (.cmp .eq (.var 1) (.lst [])) [(.ret (.lst []))] []) (mpEnv kd (f :: t) .non .non .non .non) D = .next (mpEnv kd (f :: t) .non .non .non .non) D := by
      simp [execS, execB, evalE, evalEs, slotD, mpEnv, cmp_eq_nil, szL]
    have e1 : execS (call tbl (n + 1)) (.asg (.name 2) (.ix (.var 1) (.const (.int 0)))) (mpEnv kd (f :: t) .non .non .non .non) D = .next (mpEnv kd (f :: t) (.val (eR f)) .non .non .non) D := by
      simp [execS, execB, evalE, evalEs, slotD, mpEnv, ixD, ixNat, assign]
    have e2 : execS (call tbl (n + 1)) (.asg (.name 3) (.call false 26 [(.var 0), (.slice (.var 1) (some (.const (.int 1))) none)])) (mpEnv kd (f :: t) (.val (eR f)) .non .non .non) D = .next (mpEnv kd (f :: t) (.val (eR f)) (.val (.list ((mp n t).map eR))) .non .non) D := by
      simp [execS, execB, evalE, evalEs, evalO, slotD, mpEnv, sliceD, cut1, i1, assign]
    have e3 := mpR_ok (call tbl (n + 1)) D kd f t (.val (.list ((mp n t).map eR))) h (by omega)
    have ml := (mp_sub n (t.filter (apart f))).length_le
    have e4 : execS (call tbl (n + 1)) (.asg (.name 7) (.bin .add (.lst [(.var 2)]) (.call false 26 [(.var 0), (.var 4)]))) (mpEnv kd (f :: t) (.val (eR f)) (.val (.list ((mp n t).map eR))) (.val (.list ((t.filter (apart f)).map eR))) .non) D = .next (mpEnv kd (f :: t) (.val (eR f)) (.val (.list ((mp n t).map eR))) (.val (.list ((t.filter (apart f)).map eR))) (.val (.list ((f :: mp n (t.filter (apart f))).map eR)))) D := by
      have z := add_l [eR f] ((mp n (t.filter (apart f))).map eR) (by simp; omega)
      simp [execS, execB, evalE, evalEs, slotD, mpEnv, i2, z, assign, szL]
    simp only [List.length_cons, List.length_nil, show fd_most_pairs.dice = false from rfl, show fd_most_pairs.pars = 2 from rfl, Nat.reduceAdd, Bool.false_eq_true, if_false, and_self, if_true, es]
    rw [execB, e0, Res.next_andThen, execB, e1, Res.next_andThen, execB, e2, Res.next_andThen, execB, e3, Res.next_andThen, execB, e4, Res.next_andThen]
    rw [mp]
    by_cases q : (mp n t).length ≤ (f :: mp n (t.filter (apart f))).length
    · rw [if_pos q]
      simp at q
      have q' : ((mp n t).length : Int) ≤ ((mp n (t.filter (apart f))).length : Int) + 1 := by omega
      simp [execB, execS, evalE, evalEs, slotD, mpEnv, q']
    · rw [if_neg q]
      simp at q
      have q' : ¬ ((mp n t).length : Int) ≤ ((mp n (t.filter (apart f))).length : Int) + 1 := by omega
      simp [execB, execS, evalE, evalEs, slotD, mpEnv, q']
end
end Dk

set_option linter.all false
set_option maxRecDepth 100000
/-! MathO: what bars a dust; a day's cover; the fewest by day. -/
namespace Dk
open PySem (PyData Str)
theorem comp_map {α : Type} {cf : CallF} {own : List Nat} {tg : Tg} {k : ItK} {src : List CE} {test : Option CE} {elt : CE} {r : Env} {D : DS} {vs : List PyData} (g F : α → PyData) (xs : List α)
    (e1 : evalEs cf src r D = .ok vs D) (e2 : itemsD k vs = some (xs.map g)) (hl : xs.length ≤ 16777216) (h : ∀ x ∈ xs, cTurn cf own tg test elt r (g x) D = .ok (some (F x)) D) :
    evalE cf (.comp own tg k src test elt) r D = .ok (.list (xs.map F)) D := by
  rw [eval_comp, e1, Out.ok_bind, e2, Out.lift_some, Out.ok_bind, compL_mapS g F xs h, Out.calm_ok, Out.ok_bind, fits_ok (by simpa using hl)]
theorem comp_fil {α : Type} {cf : CallF} {own : List Nat} {tg : Tg} {k : ItK} {src : List CE} {test : Option CE} {elt : CE} {r : Env} {D : DS} {vs : List PyData} (g : α → PyData) (p : α → Bool) (F : α → PyData) (xs : List α)
    (e1 : evalEs cf src r D = .ok vs D) (e2 : itemsD k vs = some (xs.map g)) (hl : xs.length ≤ 16777216) (h : ∀ x ∈ xs, cTurn cf own tg test elt r (g x) D = .ok (if p x then some (F x) else none) D) :
    evalE cf (.comp own tg k src test elt) r D = .ok (.list ((xs.filter p).map F)) D := by
  have := List.length_filter_le p xs
  rw [eval_comp, e1, Out.ok_bind, e2, Out.lift_some, Out.ok_bind, compL_fil g p F xs h, Out.calm_ok, Out.ok_bind, fits_ok (by simp only [List.length_map]; omega)]
theorem cmp_notInK {a : Nat} {xs : List Nat} (ha : a < 6) (h : ∀ i ∈ xs, i < 6) : cmpD .notIn (eK a) (.list (xs.map eK)) = some (!decide (a ∈ xs)) := by
  have h1 := in_eK ha h
  have h2 := eK_dep a ha
  unfold eK at h1 h2 ⊢
  simp only [cmpD, rowOf, h2, Nat.zero_le, if_true]
  exact congrArg (fun b => some (!b)) h1
section
variable {m : Nat} {rs : List Nat} {span : Int} {dust : List Int}
def barredOn (m : Nat) (rs : List Nat) (dust : List Int) (a : Int) : List Nat := (keysOf m dust a).filter fun k => !decide (k ∈ (letsOf m rs dust a).flatMap kx)
def barredOf (m : Nat) (rs : List Nat) (span : Int) (dust : List Int) : List Nat := (List.range span.toNat).foldl (fun acc (day : Nat) => acc ++ barredOn m rs dust (span - 1 - (day : Int))) []
def There (m : Nat) (rs : List Nat) (span : Int) (dust : List Int) : Bool := (barredOf m rs span dust).isEmpty
theorem letsOf_sub : (letsOf m rs dust a).Sublist rs := List.filter_sublist
theorem letsOf_lt (V : VB m rs) {a : Int} : ∀ r ∈ letsOf m rs dust a, r < 21 := fun r hr => V.lt r (letsOf_sub.subset hr)
theorem letsOf_len (V : VB m rs) (a : Int) : (letsOf m rs dust a).length ≤ 10 := Nat.le_trans letsOf_sub.length_le V.le
def abEnv (m : Nat) (rs : List Nat) (span : Int) (dust : List Int) (found : List Nat) (j4 j5 : Sl) : Env := [.val (eB m rs), .val (.int span), .val (eD dust), .val (.list (found.map eK)), j4, j5, .non]
def abA : CS := (.asg (.name 5) (.call false 20 [(.call false 18 [(.var 0), (.var 1), (.var 2), (.var 4)])]))
def abB : CS := (.asg (.name 3) (.bin .add (.var 3) (.comp [6] (.name 6) .seq [(.call false 17 [(.var 0), (.var 1), (.var 2), (.var 4)])] (some (.cmp .notIn (.var 6) (.var 5))) (.var 6))))
theorem fd_ab_eq : fd_all_barred.body = [(.asg (.name 3) (.lst [])), (.for_ (.name 4) .range [(.var 1)] [abA, abB]), (.ret (.var 3))] := rfl
theorem abA_ok (n : Nat) (D : DS) (V : VB m rs) (found : List Nat) (day : Int) (j5 : Sl) : execS (call tbl (n + 1)) abA (abEnv m rs span dust found (.val (.int day)) j5) D = .next (abEnv m rs span dust found (.val (.int day)) (.val (.list (((letsOf m rs dust (span - 1 - day)).flatMap kx).map eK)))) D := by
  have ll := letsOf_len (dust := dust) V (span - 1 - day)
  have z := m_touched n (letsOf m rs dust (span - 1 - day)) D (letsOf_lt V) (by omega)
  unfold abA
  simp [execS, evalE, evalEs, slotD, abEnv, m_lets n m rs span day dust D V, z, assign]
theorem abB_ok (n : Nat) (D : DS) (V : VB m rs) (found : List Nat) (day : Int) (hf : found.length ≤ 1000) : execS (call tbl (n + 1)) abB (abEnv m rs span dust found (.val (.int day)) (.val (.list (((letsOf m rs dust (span - 1 - day)).flatMap kx).map eK)))) D = .next (abEnv m rs span dust (found ++ barredOn m rs dust (span - 1 - day)) (.val (.int day)) (.val (.list (((letsOf m rs dust (span - 1 - day)).flatMap kx).map eK)))) D := by
  have n6 := V.n6
  have kl := keysOf_len m dust (span - 1 - day)
  have e : evalE (call tbl (n + 1)) (.comp [6] (.name 6) .seq [(.call false 17 [(.var 0), (.var 1), (.var 2), (.var 4)])] (some (.cmp .notIn (.var 6) (.var 5))) (.var 6)) (abEnv m rs span dust found (.val (.int day)) (.val (.list (((letsOf m rs dust (span - 1 - day)).flatMap kx).map eK)))) D = .ok (.list ((barredOn m rs dust (span - 1 - day)).map eK)) D := by
    refine comp_fil (vs := [.list ((keysOf m dust (span - 1 - day)).map eK)]) eK (fun k => !decide (k ∈ (letsOf m rs dust (span - 1 - day)).flatMap kx)) eK (keysOf m dust (span - 1 - day)) ?_ rfl (by omega) fun k hk => ?_
    · simp [evalEs, evalE, slotD, abEnv, m_keys_of n m rs span day dust D V.n6]
    · have k6 := keysOf_lt hk
      have z := cmp_notInK (a := k) (xs := (letsOf m rs dust (span - 1 - day)).flatMap kx) (by omega) (fun i hi => by
        obtain ⟨r, hr, hi⟩ := List.mem_flatMap.mp hi
        exact kx_lt r (letsOf_lt V r hr) i hi)
      simp only [cTurn, assign, wipeE, abEnv, evalT, evalE, slotD]
      simp only [List.set_cons_succ, List.set_cons_zero, Out.lift_some, Out.ok_bind, List.getElem?_cons_succ, List.getElem?_cons_zero, z]
      cases decide (k ∈ (letsOf m rs dust (span - 1 - day)).flatMap kx) <;> rfl
  have bl : (barredOn m rs dust (span - 1 - day)).length ≤ 6 := Nat.le_trans (List.length_filter_le _ _) (by omega)
  have z := add_l (found.map eK) ((barredOn m rs dust (span - 1 - day)).map eK) (by simp; omega)
  unfold abB
  have e3 : evalE (call tbl (n + 1)) (.var 3) (abEnv m rs span dust found (.val (.int day)) (.val (.list (((letsOf m rs dust (span - 1 - day)).flatMap kx).map eK)))) D = .ok (.list (found.map eK)) D := by simp [evalE, slotD, abEnv]
  rw [execS, evalE, e3, Out.ok_bind, e, Out.ok_bind, z]
  simp [assign, abEnv]
theorem m_all_barred (n : Nat) (D : DS) (V : VD m rs span dust) : call tbl (n + 2) false f_all_barred [eB m rs, .int span, eD dust] D = .ok (.list ((barredOf m rs span dust).map eK)) D := by
  rw [callS]
  have s1 := V.s1
  have s5 := V.s5
  have n6 := V.b.n6
  simp only [tb_all_barred, runFD, fd_ab_eq]
  have e0 : execS (call tbl (n + 1)) (.asg (.name 3) (.lst [])) (startE fd_all_barred.slots [eB m rs, .int span, eD dust]) D = .next (abEnv m rs span dust [] .non .non) D := by
    simp [execS, evalE, evalEs, fd_all_barred, startE, assign, abEnv, szL]
  obtain ⟨r', e1, P⟩ := forL_ix (D := D) (f := fun x r D => Res.of (Out.lift (assign (.name 4) x r) D) fun r D => execB (call tbl (n + 1)) [abA, abB] r D) (fun (i : Nat) => PyData.int (i : Nat)) (fun (day : Nat) acc => acc ++ barredOn m rs dust (span - 1 - (day : Int))) (List.range span.toNat)
    (fun i (found : List Nat) r => found.length ≤ 6 * i ∧ ∃ j4 j5, r = abEnv m rs span dust found j4 j5) [] (abEnv m rs span dust [] .non .non) (by
      rintro i hi found r ⟨hf, j4, j5, rfl⟩
      simp only [List.length_range] at hi
      simp only [List.getElem_range]
      have bl : (barredOn m rs dust (span - 1 - (i : Int))).length ≤ 6 := Nat.le_trans (List.length_filter_le _ _) (Nat.le_trans (keysOf_len m dust _) (by omega))
      refine ⟨abEnv m rs span dust (found ++ barredOn m rs dust (span - 1 - (i : Int))) (.val (.int i)) (.val (.list (((letsOf m rs dust (span - 1 - (i : Int))).flatMap kx).map eK))), ?_, ?_, _, _, rfl⟩
      · have a : assign (.name 4) (.int (i : Nat)) (abEnv m rs span dust found j4 j5) = some (abEnv m rs span dust found (.val (.int (i : Nat))) j5) := rfl
        simp only [a, Out.lift_some, Res.of_ok]
        rw [execB, abA_ok n D V.b, Res.next_andThen, execB, abB_ok n D V.b found i (by omega), Res.next_andThen, execB]
      · simp only [List.length_append]; omega) ⟨by simp, _, _, rfl⟩
  obtain ⟨-, j4, j5, rfl⟩ := P
  have e2 : execS (call tbl (n + 1)) (.for_ (.name 4) .range [(.var 1)] [abA, abB]) (abEnv m rs span dust [] .non .non) D = .next (abEnv m rs span dust (barredOf m rs span dust) j4 j5) D := by
    rw [execS]
    have ev : evalEs (call tbl (n + 1)) [(.var 1)] (abEnv m rs span dust [] .non .non) D = .ok [.int span] D := by simp [evalEs, evalE, slotD, abEnv]
    rw [ev, Res.of_ok, range_ok (by omega) (by omega), Out.lift_some, Res.of_ok]
    exact e1
  simp only [List.length_cons, List.length_nil, show fd_all_barred.dice = false from rfl, show fd_all_barred.pars = 3 from rfl, Nat.reduceAdd, Bool.false_eq_true, if_false, and_self, if_true]
  rw [execB, e0, Res.next_andThen, execB, e2, Res.next_andThen]
  simp [execB, execS, evalE, slotD, abEnv]
theorem m_is_there (n : Nat) (D : DS) (V : VD m rs span dust) : call tbl (n + 3) false f_is_there [eB m rs, .int span, eD dust] D = .ok (.bool (There m rs span dust)) D := by
  rw [callS]
  simp only [tb_is_there, runFD, fd_is_there]
  simp [startE, execB, execS, evalE, evalEs, slotD, m_all_barred n D V, cmp_eq_nil, There, szL]
theorem m_need_there (n : Nat) (D : DS) (V : VD m rs span dust) (t : There m rs span dust = true) : call tbl (n + 6) false f_need_there [eB m rs, .int span, eD dust] D = .ok .none D := by
  rw [callS]
  simp only [tb_need_there, runFD, fd_need_there]
  simp [startE, execB, execS, evalE, evalEs, slotD, m_need_dust n m rs span dust D V, m_is_there (n + 2) D V, t]
/-- what a dust that can be has -/
theorem there_iff : There m rs span dust = true ↔ ∀ day < span.toNat, ∀ k ∈ keysOf m dust (span - 1 - (day : Int)), ∃ r ∈ letsOf m rs dust (span - 1 - (day : Int)), k ∈ kx r := by
  unfold There barredOf
  rw [foldl_app, List.nil_append, List.isEmpty_iff, List.flatMap_eq_nil_iff]
  constructor
  · intro h day hd k hk
    have := h day (by simpa using hd)
    unfold barredOn at this
    rw [List.filter_eq_nil_iff] at this
    have := this k hk
    simp only [Bool.not_eq_true', decide_eq_false_iff_not, Decidable.not_not, List.mem_flatMap] at this
    exact this
  · intro h day hd
    unfold barredOn
    rw [List.filter_eq_nil_iff]
    intro k hk
    have := h day (by simpa using hd) k hk
    simp only [Bool.not_eq_true', decide_eq_false_iff_not, Decidable.not_not, List.mem_flatMap]
    exact this
end
end Dk

set_option linter.all false
set_option maxRecDepth 100000
/-! MathP: a day's cover; the fewest by day. -/
namespace Dk
open PySem (PyData Str)
section
variable {m : Nat} {rs : List Nat} {span : Int} {dust : List Int}
def hasK (k r : Nat) : Bool := decide (k ∈ kx r)
def dcStep (some_ : List Nat) (k : Nat) (found : List Nat) : List Nat := if found.any (hasK k) then found else found ++ (some_.filter (hasK k)).take 1
def dcRaw (rs keys some_ : List Nat) : List Nat := keys.foldl (fun f k => dcStep some_ k f) (mp (twosOf rs keys).length (twosOf rs keys))
def leN (a b : Nat) : Bool := decide (a ≤ b)
def dayCover (m : Nat) (rs : List Nat) (dust : List Int) (a : Int) : List Nat := (dcRaw rs (keysOf m dust a) (letsOf m rs dust a)).mergeSort (fun a b => decide (a ≤ b))
def dcEnv (m : Nat) (rs : List Nat) (span : Int) (dust : List Int) (day : Int) (keys found some_ : List Nat) (j7 : Sl) : Env := [.val (eB m rs), .val (.int span), .val (eD dust), .val (.int day), .val (.list (keys.map eK)), .val (.list (found.map eR)), .val (.list (some_.map eR)), j7, .non]
def dcI : CS := (.asg (.name 5) (.bin .add (.var 5) (.lst [(.ix (.comp [8] (.name 8) .seq [(.var 6)] (some (.cmp .isIn (.var 7) (.var 8))) (.var 8)) (.const (.int 0)))])))
def dcC : CS := (.cond (.not (.bi .any [(.comp [8] (.name 8) .seq [(.var 5)] none (.cmp .isIn (.var 7) (.var 8)))])) [dcI] [])
def dcF : CS := (.for_ (.name 7) .seq [(.var 4)] [dcC])
theorem fd_dc_eq : fd_day_cover.body = [(.asg (.name 4) (.call false 17 [(.var 0), (.var 1), (.var 2), (.var 3)])), (.asg (.name 5) (.call false 26 [(.var 4), (.call false 25 [(.var 0), (.var 4)])])), (.asg (.name 6) (.call false 18 [(.var 0), (.var 1), (.var 2), (.var 3)])), dcF, (.ret (.bi .tuple [(.bi .sorted [(.var 5)])]))] := rfl
theorem dcI_ok (cf : CallF) (D : DS) (day : Int) (keys found some_ : List Nat) (k : Nat) (hk : k < 6) (hf : found.length ≤ 1000) (hs : some_.length ≤ 1000) (h21 : ∀ r ∈ some_, r < 21) (ex : ∃ r ∈ some_, k ∈ kx r) :
    execS cf dcI (dcEnv m rs span dust day keys found some_ (.val (eK k))) D = .next (dcEnv m rs span dust day keys (found ++ (some_.filter (hasK k)).take 1) some_ (.val (eK k))) D := by
  have e : evalE cf (.comp [8] (.name 8) .seq [(.var 6)] (some (.cmp .isIn (.var 7) (.var 8))) (.var 8)) (dcEnv m rs span dust day keys found some_ (.val (eK k))) D = .ok (.list ((some_.filter (hasK k)).map eR)) D := by
    refine comp_fil (vs := [.list (some_.map eR)]) eR (hasK k) eR some_ ?_ rfl (by omega) fun r hr => ?_
    · simp [evalEs, evalE, slotD, dcEnv]
    · have z := inK_eR (k := k) (r := r) hk (h21 r hr)
      simp only [cTurn, assign, wipeE, dcEnv, evalT, evalE, slotD]
      simp only [List.set_cons_succ, List.set_cons_zero, Out.lift_some, Out.ok_bind, List.getElem?_cons_succ, List.getElem?_cons_zero, z, hasK]
      by_cases q : k ∈ kx r <;> simp [q]
  cases q : some_.filter (hasK k) with
  | nil =>
    obtain ⟨r, hr, hkr⟩ := ex
    have : r ∈ some_.filter (hasK k) := List.mem_filter.mpr ⟨hr, by simp [hasK, hkr]⟩
    rw [q] at this
    simp at this
  | cons r l =>
    unfold dcI
    rw [q] at e
    have z := add_l (found.map eR) [eR r] (by simp; omega)
    have e3 : evalE cf (.var 5) (dcEnv m rs span dust day keys found some_ (.val (eK k))) D = .ok (.list (found.map eR)) D := by simp [evalE, slotD, dcEnv]
    rw [execS, evalE, e3, Out.ok_bind, evalE, evalEs, evalE, e]
    simp [evalE, evalEs, ixD, ixNat, szL, z, assign, dcEnv]
theorem dcC_ok (cf : CallF) (D : DS) (day : Int) (keys found some_ : List Nat) (k : Nat) (hk : k < 6) (hf : found.length ≤ 1000) (hs : some_.length ≤ 1000) (h21 : ∀ r ∈ some_, r < 21) (f21 : ∀ r ∈ found, r < 21) (ex : ∃ r ∈ some_, k ∈ kx r) :
    execS cf dcC (dcEnv m rs span dust day keys found some_ (.val (eK k))) D = .next (dcEnv m rs span dust day keys (dcStep some_ k found) some_ (.val (eK k))) D := by
  have e : evalE cf (.comp [8] (.name 8) .seq [(.var 5)] none (.cmp .isIn (.var 7) (.var 8))) (dcEnv m rs span dust day keys found some_ (.val (eK k))) D = .ok (.list (found.map fun r => .bool (hasK k r))) D := by
    refine comp_map (vs := [.list (found.map eR)]) eR _ found ?_ rfl (by omega) fun r hr => ?_
    · simp [evalEs, evalE, slotD, dcEnv]
    · have z := inK_eR (k := k) (r := r) hk (f21 r hr)
      simp [cTurn, assign, wipeE, dcEnv, evalT, evalE, slotD, z, hasK]
  unfold dcC
  have e2 : evalE cf (.not (.bi .any [(.comp [8] (.name 8) .seq [(.var 5)] none (.cmp .isIn (.var 7) (.var 8)))])) (dcEnv m rs span dust day keys found some_ (.val (eK k))) D = .ok (.bool (!found.any (hasK k))) D := by
    rw [evalE, evalE, evalEs, e]
    simp only [Out.ok_bind, evalEs]
    rw [any_bi]
    rfl
  rw [execS, e2, Res.of_ok]
  unfold dcStep
  cases q : found.any (hasK k) with
  | true => simp only [Bool.not_true, if_true, execB]
  | false =>
    simp only [Bool.not_false, Bool.false_eq_true, if_false]
    rw [execB, dcI_ok cf D day keys found some_ k hk hf hs h21 ex, Res.next_andThen, execB]
theorem dcStep_len (some_ : List Nat) (k : Nat) (found : List Nat) : (dcStep some_ k found).length ≤ found.length + 1 := by
  unfold dcStep
  split
  · omega
  · simp; omega
theorem dcStep_mem {some_ : List Nat} {k : Nat} {found : List Nat} {x : Nat} (h : x ∈ dcStep some_ k found) : x ∈ found ∨ x ∈ some_ := by
  unfold dcStep at h
  split at h
  · exact .inl h
  · rcases List.mem_append.mp h with h | h
    · exact .inl h
    · exact .inr (List.mem_filter.mp (List.mem_of_mem_take h)).1
theorem dcF_ok (cf : CallF) (D : DS) (day : Int) (keys found some_ : List Nat) (hk : ∀ k ∈ keys, k < 6) (hkl : keys.length ≤ 6) (hf : found.length ≤ 100) (hs : some_.length ≤ 1000) (h21 : ∀ r ∈ some_, r < 21) (f21 : ∀ r ∈ found, r < 21) (ex : ∀ k ∈ keys, ∃ r ∈ some_, k ∈ kx r) :
    ∃ j7, execS cf dcF (dcEnv m rs span dust day keys found some_ .non) D = .next (dcEnv m rs span dust day keys (keys.foldl (fun f k => dcStep some_ k f) found) some_ j7) D := by
  obtain ⟨r', e1, P⟩ := forL_ix (D := D) (f := fun x r D => Res.of (Out.lift (assign (.name 7) x r) D) fun r D => execB cf [dcC] r D) eK (fun k f => dcStep some_ k f) keys
    (fun i (f : List Nat) r => f.length ≤ 100 + i ∧ (∀ x ∈ f, x < 21) ∧ ∃ j7, r = dcEnv m rs span dust day keys f some_ j7) found (dcEnv m rs span dust day keys found some_ .non) (by
      rintro i hi f r ⟨hf, h2, j7, rfl⟩
      have hm : keys[i] ∈ keys := List.getElem_mem hi
      refine ⟨dcEnv m rs span dust day keys (dcStep some_ keys[i] f) some_ (.val (eK keys[i])), ?_, ?_, ?_, _, rfl⟩
      · have a : assign (.name 7) (eK keys[i]) (dcEnv m rs span dust day keys f some_ j7) = some (dcEnv m rs span dust day keys f some_ (.val (eK keys[i]))) := rfl
        simp only [a, Out.lift_some, Res.of_ok]
        rw [execB, dcC_ok cf D day keys f some_ _ (hk _ hm) (by omega) hs h21 h2 (ex _ hm), Res.next_andThen, execB]
      · have := dcStep_len some_ keys[i] f; omega
      · intro x hx
        rcases dcStep_mem hx with h | h
        · exact h2 x h
        · exact h21 x h) ⟨by omega, f21, _, rfl⟩
  obtain ⟨-, -, j7, rfl⟩ := P
  refine ⟨j7, ?_⟩
  unfold dcF
  rw [execS]
  have ev : evalEs cf [(.var 4)] (dcEnv m rs span dust day keys found some_ .non) D = .ok [.list (keys.map eK)] D := by simp [evalEs, evalE, slotD, dcEnv]
  rw [ev, Res.of_ok]
  simp only [itemsD, Out.lift_some, Res.of_ok]
  exact e1
theorem map_fst_zip_sub {α β : Type} : ∀ (xs : List α) (ys : List β), ((xs.zip ys).map (·.1)).Sublist xs
  | [], _ => by simp
  | x :: xs, [] => by simp
  | x :: xs, y :: ys => by
    simp only [List.zip_cons_cons, List.map_cons]
    exact (map_fst_zip_sub xs ys).cons₂ x
theorem twosOf_sub : (twosOf rs keys).Sublist rs := List.filter_sublist
theorem foldl_dc_mem (some_ : List Nat) : ∀ (keys found : List Nat) (x : Nat), x ∈ keys.foldl (fun f k => dcStep some_ k f) found → x ∈ found ∨ x ∈ some_
  | [], _, x, h => .inl h
  | k :: ks, found, x, h => by
    rw [List.foldl_cons] at h
    rcases foldl_dc_mem some_ ks _ x h with h | h
    · exact dcStep_mem h
    · exact .inr h
theorem dcRaw_mem {keys some_ : List Nat} {x : Nat} (h : x ∈ dcRaw rs keys some_) : x ∈ twosOf rs keys ∨ x ∈ some_ := by
  rcases foldl_dc_mem some_ keys _ x h with h | h
  · exact .inl ((mp_sub _ _).subset h)
  · exact .inr h
theorem m_day_cover (n : Nat) (D : DS) (V : VB m rs) (day : Int) (ex : ∀ k ∈ keysOf m dust (span - 1 - day), ∃ r ∈ letsOf m rs dust (span - 1 - day), k ∈ kx r) :
    call tbl (n + 12) false f_day_cover [eB m rs, .int span, eD dust, .int day] D = .ok (eH (dayCover m rs dust (span - 1 - day))) D := by
  rw [callS]
  have n6 := V.n6
  have kl := keysOf_len m dust (span - 1 - day)
  have tl : (twosOf rs (keysOf m dust (span - 1 - day))).length ≤ 10 := Nat.le_trans twosOf_sub.length_le V.le
  have t21 : ∀ r ∈ twosOf rs (keysOf m dust (span - 1 - day)), r < 21 := fun r hr => V.lt r (twosOf_sub.subset hr)
  have k6 : ∀ k ∈ keysOf m dust (span - 1 - day), k < 6 := fun k hk => by have := keysOf_lt hk; omega
  simp only [tb_day_cover, runFD, fd_dc_eq]
  have e0 : execS (call tbl (n + 11)) (.asg (.name 4) (.call false 17 [(.var 0), (.var 1), (.var 2), (.var 3)])) (startE fd_day_cover.slots [eB m rs, .int span, eD dust, .int day]) D = .next [.val (eB m rs), .val (.int span), .val (eD dust), .val (.int day), .val (.list ((keysOf m dust (span - 1 - day)).map eK)), .non, .non, .non, .non] D := by
    simp [execS, evalE, evalEs, fd_day_cover, startE, assign, slotD, m_keys_of (n + 10) m rs span day dust D n6]
  have zt := m_twos (n + 10) (keysOf m dust (span - 1 - day)) D V k6
  have zp := m_most_pairs (.list ((keysOf m dust (span - 1 - day)).map eK)) D (n + 10) (twosOf rs (keysOf m dust (span - 1 - day))) t21 (by omega) (by omega)
  rw [mp_fuel (n + 10) _ (by omega)] at zp
  have e1 : execS (call tbl (n + 11)) (.asg (.name 5) (.call false 26 [(.var 4), (.call false 25 [(.var 0), (.var 4)])])) [.val (eB m rs), .val (.int span), .val (eD dust), .val (.int day), .val (.list ((keysOf m dust (span - 1 - day)).map eK)), .non, .non, .non, .non] D = .next [.val (eB m rs), .val (.int span), .val (eD dust), .val (.int day), .val (.list ((keysOf m dust (span - 1 - day)).map eK)), .val (.list ((mp (twosOf rs (keysOf m dust (span - 1 - day))).length (twosOf rs (keysOf m dust (span - 1 - day)))).map eR)), .non, .non, .non] D := by
    simp [execS, evalE, evalEs, assign, slotD, zt, zp]
  have e2 : execS (call tbl (n + 11)) (.asg (.name 6) (.call false 18 [(.var 0), (.var 1), (.var 2), (.var 3)])) [.val (eB m rs), .val (.int span), .val (eD dust), .val (.int day), .val (.list ((keysOf m dust (span - 1 - day)).map eK)), .val (.list ((mp (twosOf rs (keysOf m dust (span - 1 - day))).length (twosOf rs (keysOf m dust (span - 1 - day)))).map eR)), .non, .non, .non] D = .next (dcEnv m rs span dust day (keysOf m dust (span - 1 - day)) (mp (twosOf rs (keysOf m dust (span - 1 - day))).length (twosOf rs (keysOf m dust (span - 1 - day)))) (letsOf m rs dust (span - 1 - day)) .non) D := by
    simp [execS, evalE, evalEs, assign, slotD, m_lets (n + 10) m rs span day dust D V, dcEnv]
  have ms := mp_sub (twosOf rs (keysOf m dust (span - 1 - day))).length (twosOf rs (keysOf m dust (span - 1 - day)))
  have ml := ms.length_le
  obtain ⟨j7, e3⟩ := dcF_ok (m := m) (rs := rs) (span := span) (dust := dust) (call tbl (n + 11)) D day (keysOf m dust (span - 1 - day)) (mp (twosOf rs (keysOf m dust (span - 1 - day))).length (twosOf rs (keysOf m dust (span - 1 - day)))) (letsOf m rs dust (span - 1 - day)) k6 (by omega) (by omega) (by have := letsOf_len (dust := dust) V (span - 1 - day); omega) (letsOf_lt V) (fun r hr => t21 r (ms.subset hr)) ex
  have so := sort_eR (dcRaw rs (keysOf m dust (span - 1 - day)) (letsOf m rs dust (span - 1 - day))) (fun r hr => by
    rcases dcRaw_mem hr with h | h
    · exact t21 r h
    · exact letsOf_lt V r h)
  simp only [List.length_cons, List.length_nil, show fd_day_cover.dice = false from rfl, show fd_day_cover.pars = 4 from rfl, Nat.reduceAdd, Bool.false_eq_true, if_false, and_self, if_true]
  rw [execB, e0, Res.next_andThen, execB, e1, Res.next_andThen, execB, e2, Res.next_andThen, execB, e3, Res.next_andThen]
  unfold dcRaw at so
  simp [execB, execS, evalE, evalEs, slotD, dcEnv, so, dayCover, dcRaw, eH]
theorem eH_len (h : List Nat) : biD .len [eH h] = some (.int (h.length : Nat)) := by unfold eH; rw [len_t]; simp
def coverAt (m : Nat) (rs : List Nat) (span : Int) (dust : List Int) (day : Nat) : List Nat := dayCover m rs dust (span - 1 - (day : Int))
def fewPlay (m : Nat) (rs : List Nat) (span : Int) (dust : List Int) : List (List Nat) := (List.range span.toNat).map (coverAt m rs span dust)
theorem m_few_play (n : Nat) (D : DS) (V : VD m rs span dust) (t : There m rs span dust = true) : call tbl (n + 13) false f_few_play [eB m rs, .int span, eD dust] D = .ok (eP (fewPlay m rs span dust)) D := by
  rw [callS]
  have s1 := V.s1
  have s5 := V.s5
  simp only [tb_few_play, runFD, fd_few_play]
  have e : evalE (call tbl (n + 12)) (.comp [3] (.name 3) .range [(.var 1)] none (.call false 27 [(.var 0), (.var 1), (.var 2), (.var 3)])) [.val (eB m rs), .val (.int span), .val (eD dust), .non] D = .ok (.list ((List.range span.toNat).map fun day => eH (coverAt m rs span dust day))) D := by
    refine comp_map (vs := [.int span]) (fun (i : Nat) => PyData.int (i : Nat)) _ _ ?_ (range_ok (by omega) (by omega)) (by simp; omega) fun day hd => ?_
    · simp [evalEs, evalE, slotD]
    · have z := m_day_cover (span := span) n D V.b (day : Int) (fun k hk => there_iff.mp t day (by simpa using hd) k hk)
      simp [cTurn, assign, wipeE, evalT, evalE, evalEs, slotD, z, coverAt]
  have es : startE 4 [eB m rs, .int span, eD dust] = [.val (eB m rs), .val (.int span), .val (eD dust), .non] := rfl
  simp only [List.length_cons, List.length_nil, Nat.reduceAdd, Bool.false_eq_true, if_false, and_self, if_true, es, execB, execS]
  rw [evalE, evalEs, e]
  simp [evalEs, fewPlay, eP]
theorem m_fewest_by_day (n : Nat) (D : DS) (V : VD m rs span dust) (t : There m rs span dust = true) : call tbl (n + 14) false f_fewest_by_day [eB m rs, .int span, eD dust] D = .ok (.tuple ((fewPlay m rs span dust).map fun h => .int (h.length : Nat))) D := by
  rw [callS]
  have s1 := V.s1
  have s5 := V.s5
  simp only [tb_fewest_by_day, runFD, fd_fewest_by_day]
  have es : startE 4 [eB m rs, .int span, eD dust] = [.val (eB m rs), .val (.int span), .val (eD dust), .non] := rfl
  have fl : (fewPlay m rs span dust).length ≤ 5 := by simp [fewPlay]; omega
  have e : evalE (call tbl (n + 13)) (.comp [3] (.name 3) .seq [(.call false 28 [(.var 0), (.var 1), (.var 2)])] none (.bi .len [(.var 3)])) [.val (eB m rs), .val (.int span), .val (eD dust), .non] D = .ok (.list ((fewPlay m rs span dust).map fun h => .int (h.length : Nat))) D := by
    refine comp_map (vs := [eP (fewPlay m rs span dust)]) eH _ _ ?_ rfl (by omega) fun h hh => ?_
    · simp [evalEs, evalE, slotD, m_few_play n D V t]
    · simp [cTurn, assign, wipeE, evalT, evalE, evalEs, slotD, eH_len]
  have e0 : execS (call tbl (n + 13)) (.expr (.call false 24 [(.var 0), (.var 1), (.var 2)])) [.val (eB m rs), .val (.int span), .val (eD dust), .non] D = .next [.val (eB m rs), .val (.int span), .val (eD dust), .non] D := by
    simp [execS, evalE, evalEs, slotD, m_need_there (n + 7) D V t]
  simp only [List.length_cons, List.length_nil, Nat.reduceAdd, Bool.false_eq_true, if_false, and_self, if_true, es]
  rw [execB, e0, Res.next_andThen, execB, execS, evalE, evalEs, e]
  simp [evalEs]
/-! ### how many -/
theorem keysOf_nodup (m : Nat) (dust : List Int) (a : Int) : (keysOf m dust a).Nodup := by
  unfold keysOf
  have h1 : (((List.range m).zip dust).map (·.1)).Nodup := by
    refine List.Nodup.sublist ?_ List.nodup_range (l₂ := List.range m)
    exact map_fst_zip_sub _ _
  exact h1.sublist (List.filter_sublist.map _)
theorem dc_len (some_ : List Nat) (M : List Nat) : ∀ (keys found : List Nat), (∀ r ∈ M, r ∈ found) → (keys.foldl (fun f k => dcStep some_ k f) found).length ≤ found.length + (keys.filter fun k => !M.any (hasK k)).length
  | [], found, _ => by simp
  | k :: ks, found, h => by
    rw [List.foldl_cons]
    have h2 : ∀ r ∈ M, r ∈ dcStep some_ k found := fun r hr => by
      unfold dcStep
      split
      · exact h r hr
      · exact List.mem_append_left _ (h r hr)
    have ih := dc_len some_ M ks (dcStep some_ k found) h2
    by_cases q : M.any (hasK k) = true
    · have q2 : found.any (hasK k) = true := by
        rw [List.any_eq_true] at q ⊢
        obtain ⟨r, hr, hk⟩ := q
        exact ⟨r, h r hr, hk⟩
      have e : dcStep some_ k found = found := by unfold dcStep; rw [if_pos q2]
      rw [e] at ih ⊢
      rw [List.filter_cons_of_neg (by simp [q])]
      exact ih
    · rw [List.filter_cons_of_pos (by simp [q])]
      have := dcStep_len some_ k found
      simp only [List.length_cons]
      omega
/-- a day's cover is no longer than any row of reaches that touch the day's keys -/
theorem dayCover_le (V : VB m rs) (a : Int) (C : List Nat) (hC : ∀ r ∈ C, r ∈ rs) (hc : ∀ k ∈ keysOf m dust a, ∃ r ∈ C, k ∈ kx r) : (dayCover m rs dust a).length ≤ C.length := by
  unfold dayCover
  rw [List.length_mergeSort]
  unfold dcRaw
  have hn := keysOf_nodup m dust a
  have t21 : ∀ r ∈ twosOf rs (keysOf m dust a), r < 21 := fun r hr => V.lt r (twosOf_sub.subset hr)
  obtain ⟨S, h1, h2, h3⟩ := cover_twos C (keysOf m dust a) (fun r hr => V.lt r (hC r hr)) hn hc
  have big := mp_most (twosOf rs (keysOf m dust a)).length (twosOf rs (keysOf m dust a)) S (Nat.le_refl _) (fun r hr => by
    obtain ⟨x, y, z⟩ := h1 r hr
    unfold twosOf
    rw [List.mem_filter]
    refine ⟨hC r x, ?_⟩
    simp [y, inAll]
    exact z) (fun r hr => by
      have := (kx_len r (t21 r hr)).1
      intro e
      rw [e] at this
      simp at this) h2
  generalize eM : mp (twosOf rs (keysOf m dust a)).length (twosOf rs (keysOf m dust a)) = M at big ⊢
  have Ms : M.Sublist (twosOf rs (keysOf m dust a)) := eM ▸ mp_sub _ _
  have Mp : M.Pairwise fun a b => apart a b = true := eM ▸ mp_apart _ _
  have M2 : ∀ r ∈ M, (kx r).length = 2 ∧ ∀ i ∈ kx r, i ∈ keysOf m dust a := fun r hr => by
    have := Ms.subset hr
    unfold twosOf at this
    simp only [List.mem_filter, Bool.and_eq_true, decide_eq_true_eq, inAll, List.all_eq_true] at this
    exact this.2
  obtain ⟨p1, p2⟩ := pairs_keys M (fun r hr => t21 r (Ms.subset hr)) (fun r hr => (M2 r hr).1) Mp
  have le := dc_len (letsOf m rs dust a) M (keysOf m dust a) M (fun r hr => hr)
  have sp := len_filter_add (fun k => M.any (hasK k)) (keysOf m dust a)
  have ge : (M.flatMap kx).length ≤ ((keysOf m dust a).filter fun k => M.any (hasK k)).length := nodup_le _ _ p1 fun i hi => by
    obtain ⟨r, hr, hir⟩ := List.mem_flatMap.mp hi
    rw [List.mem_filter]
    refine ⟨(M2 r hr).2 i hir, ?_⟩
    rw [List.any_eq_true]
    exact ⟨r, hr, by simp [hasK, hir]⟩
  omega
end
end Dk

set_option linter.all false
set_option maxRecDepth 100000
/-! MathQ: parts of some things; the law's own plays. -/
namespace Dk
open PySem (PyData Str)
def eT {α : Type} (g : α → PyData) (s : List α) : PyData := .tuple (s.map g)
def partsOf {α : Type} (xs : List α) : List (List α) := xs.foldl (fun found x => found ++ found.map (· ++ [x])) [[]]
theorem partsOf_snoc {α : Type} (xs : List α) (x : α) : partsOf (xs ++ [x]) = partsOf xs ++ (partsOf xs).map (· ++ [x]) := by
  simp [partsOf, List.foldl_append]
theorem list_snoc_ind {α : Type} {P : List α → Prop} (h0 : P []) (h1 : ∀ xs x, P xs → P (xs ++ [x])) (xs : List α) : P xs := by
  have : ∀ ys : List α, P ys.reverse := by
    intro ys
    induction ys with
    | nil => exact h0
    | cons y ys ih => rw [List.reverse_cons]; exact h1 _ _ ih
  have := this xs.reverse
  rwa [List.reverse_reverse] at this
theorem partsOf_len {α : Type} (xs : List α) : (partsOf xs).length = 2 ^ xs.length := by
  induction xs using list_snoc_ind with
  | h0 => rfl
  | h1 xs x ih => rw [partsOf_snoc]; simp [ih, Nat.pow_succ]; omega
theorem sub_snoc {α : Type} {s xs : List α} {x : α} : s.Sublist (xs ++ [x]) ↔ s.Sublist xs ∨ ∃ t, t.Sublist xs ∧ s = t ++ [x] := by
  rw [List.sublist_append_iff]
  constructor
  · rintro ⟨l1, l2, rfl, h1, h2⟩
    cases h2 with
    | cons _ h => cases h; left; simpa using h1
    | cons_cons _ h => cases h; right; exact ⟨l1, h1, rfl⟩
  · rintro (h | ⟨t, h, rfl⟩)
    · exact ⟨s, [], by simp, h, by simp⟩
    · exact ⟨t, [x], rfl, h, List.Sublist.refl _⟩
theorem partsOf_mem {α : Type} (xs s : List α) : s ∈ partsOf xs ↔ s.Sublist xs := by
  induction xs using list_snoc_ind generalizing s with
  | h0 => simp [partsOf]
  | h1 xs x ih =>
    rw [partsOf_snoc, List.mem_append, ih, sub_snoc, List.mem_map]
    constructor
    · rintro (h | ⟨t, h, rfl⟩)
      · exact .inl h
      · exact .inr ⟨t, (ih t).mp h, rfl⟩
    · rintro (h | ⟨t, h, rfl⟩)
      · exact .inl h
      · exact .inr ⟨t, (ih t).mpr h, rfl⟩
def ptS : CS := (.for_ (.name 2) .seq [(.var 0)] [(.asg (.name 1) (.bin .add (.var 1) (.comp [3] (.name 3) .seq [(.var 1)] none (.bin .add (.var 3) (.tup [(.var 2)])))))])
def ptEnv {α : Type} (v : PyData) (g : α → PyData) (found : List (List α)) (j2 : Sl) : Env := [.val v, .val (.list (found.map (eT g))), j2, .non]
theorem pt_step {α : Type} (cf : CallF) (D : DS) (v : PyData) (g : α → PyData) (found : List (List α)) (x : α) (hl : found.length ≤ 100000) (hs : ∀ s ∈ found, s.length ≤ 1000) :
    execS cf (.asg (.name 1) (.bin .add (.var 1) (.comp [3] (.name 3) .seq [(.var 1)] none (.bin .add (.var 3) (.tup [(.var 2)]))))) (ptEnv v g found (.val (g x))) D = .next (ptEnv v g (found ++ found.map (· ++ [x])) (.val (g x))) D := by
  have e1 : evalE cf (.var 1) (ptEnv v g found (.val (g x))) D = .ok (.list (found.map (eT g))) D := by simp [evalE, slotD, ptEnv]
  have e2 : evalE cf (.comp [3] (.name 3) .seq [(.var 1)] none (.bin .add (.var 3) (.tup [(.var 2)]))) (ptEnv v g found (.val (g x))) D = .ok (.list (found.map fun s => eT g (s ++ [x]))) D := by
    refine comp_map (vs := [.list (found.map (eT g))]) (eT g) (fun s => eT g (s ++ [x])) found ?_ rfl (by omega) fun s hs1 => ?_
    · rw [evalEs, e1, Out.ok_bind, evalEs, Out.ok_bind]
    · have := hs s hs1
      have a := add_t (s.map g) [g x] (by simp; omega)
      simp [cTurn, assign, wipeE, ptEnv, evalT, evalE, evalEs, slotD, eT, szL, a]
  have a := add_l (found.map (eT g)) (found.map fun s => eT g (s ++ [x])) (by simp; omega)
  rw [execS, evalE, e1, Out.ok_bind, e2, Out.ok_bind, a]
  simp [assign, ptEnv, Function.comp_def]
theorem ptS_ok {α : Type} (cf : CallF) (D : DS) (v : PyData) (g : α → PyData) (xs : List α) (hv : itemsD .seq [v] = some (xs.map g)) (hl : xs.length ≤ 16) : ∃ j2, execS cf ptS (ptEnv v g [[]] .non) D = .next (ptEnv v g (partsOf xs) j2) D := by
  obtain ⟨r', e1, P⟩ := forL_ix (D := D) (f := fun x r D => Res.of (Out.lift (assign (.name 2) x r) D) fun r D => execB cf [(.asg (.name 1) (.bin .add (.var 1) (.comp [3] (.name 3) .seq [(.var 1)] none (.bin .add (.var 3) (.tup [(.var 2)])))))] r D) g (fun x found => found ++ found.map (· ++ [x])) xs
    (fun i (found : List (List α)) r => (found.length ≤ 2 ^ i ∧ ∀ s ∈ found, s.length ≤ i) ∧ ∃ j2, r = ptEnv v g found j2) [[]] (ptEnv v g [[]] .non) (by
      rintro i hi found r ⟨⟨hf, hs⟩, j2, rfl⟩
      have p : 2 ^ i ≤ 2 ^ 16 := Nat.pow_le_pow_right (by decide) (by omega)
      refine ⟨ptEnv v g (found ++ found.map (· ++ [xs[i]])) (.val (g xs[i])), ?_, ⟨?_, ?_⟩, _, rfl⟩
      · have a : assign (.name 2) (g xs[i]) (ptEnv v g found j2) = some (ptEnv v g found (.val (g xs[i]))) := rfl
        simp only [a, Out.lift_some, Res.of_ok]
        rw [execB, pt_step cf D v g found xs[i] (by omega) (fun s h => by have := hs s h; omega), Res.next_andThen, execB]
      · simp [Nat.pow_succ]; omega
      · intro s h
        rcases List.mem_append.mp h with h | h
        · have := hs s h; omega
        · obtain ⟨t, ht, rfl⟩ := List.mem_map.mp h
          have := hs t ht
          simp; omega) ⟨⟨by simp, by simp⟩, _, rfl⟩
  obtain ⟨-, j2, rfl⟩ := P
  refine ⟨j2, ?_⟩
  unfold ptS
  rw [execS]
  have ev : evalEs cf [(.var 0)] (ptEnv v g [[]] .non) D = .ok [v] D := by simp [evalEs, evalE, slotD, ptEnv]
  rw [ev, Res.of_ok, hv, Out.lift_some, Res.of_ok]
  exact e1
theorem fd_pt_eq : fd_parts_of.body = [(.asg (.name 1) (.lst [(.tup [])])), ptS, (.ret (.var 1))] := rfl
theorem fd_lpt_eq : fd_law_parts.body = [(.asg (.name 1) (.lst [(.tup [])])), ptS, (.ret (.bi .sorted [(.var 1)]))] := rfl
theorem pt_start {α : Type} (cf : CallF) (D : DS) (v : PyData) (g : α → PyData) : execS cf (.asg (.name 1) (.lst [(.tup [])])) (startE 4 [v]) D = .next (ptEnv v g [[]] .non) D := by
  simp [execS, evalE, evalEs, startE, assign, ptEnv, szL, eT]
theorem m_parts_of {α : Type} (n : Nat) (v : PyData) (g : α → PyData) (xs : List α) (D : DS) (hv : itemsD .seq [v] = some (xs.map g)) (hl : xs.length ≤ 16) : call tbl (n + 1) false f_parts_of [v] D = .ok (.list ((partsOf xs).map (eT g))) D := by
  rw [callS]
  obtain ⟨j2, e⟩ := ptS_ok (call tbl n) D v g xs hv hl
  simp only [tb_parts_of, runFD, fd_pt_eq]
  simp only [List.length_cons, List.length_nil, show fd_parts_of.dice = false from rfl, show fd_parts_of.pars = 1 from rfl, show fd_parts_of.slots = 4 from rfl, Nat.reduceAdd, Bool.false_eq_true, if_false, and_self, if_true]
  rw [execB, pt_start, Res.next_andThen, execB, e, Res.next_andThen]
  simp [execB, execS, evalE, slotD, ptEnv]
/-! ### sorted rows of rows -/
theorem sort_perm {α : Type} (g : α → PyData) (xs : List α) (hs : sortable (xs.map g) = true) (ho : oneKind (xs.map g) = true) : biD .sorted [.list (xs.map g)] = some (.list ((xs.mergeSort (fun a b => leB (g a) (g b))).map g)) := by
  simp only [biD, hs, ho, Bool.and_self, if_true]
  congr 2
  unfold sortD
  exact (List.map_mergeSort (r := fun a b => leB (g a) (g b)) (s := leB) (f := g) fun a ha b hb => rfl).symm
theorem ltDs_some {α : Type} (g : α → PyData) : ∀ (xs ys : List α), (∀ a ∈ xs, ∀ b ∈ ys, (ltD (g a) (g b)).isSome = true) → (ltDs (xs.map g) (ys.map g)).isSome = true
  | [], [], _ => rfl
  | [], _ :: _, _ => rfl
  | _ :: _, [], _ => rfl
  | a :: xs, b :: ys, h => by
    have h1 := h a (by simp) b (by simp)
    have h2 := ltDs_some g xs ys fun x hx y hy => h x (by simp [hx]) y (by simp [hy])
    rw [List.map_cons, List.map_cons, ltDs]
    rw [Option.isSome_iff_exists] at h1 h2
    obtain ⟨u, e1⟩ := h1
    obtain ⟨v, e2⟩ := h2
    rw [e1, e2]; rfl
theorem depDs_le {α : Type} (g : α → PyData) (d : Nat) : ∀ (xs : List α), (∀ a ∈ xs, depD (g a) ≤ d) → depDs (xs.map g) ≤ d
  | [], _ => Nat.zero_le _
  | a :: xs, h => by
    rw [List.map_cons, depDs]
    have h1 := h a (by simp)
    have h2 := depDs_le g d xs fun x hx => h x (by simp [hx])
    omega
theorem eH_lt {a b : List Nat} (ha : ∀ r ∈ a, r < 21) (hb : ∀ r ∈ b, r < 21) : (ltD (eH a) (eH b)).isSome = true := by
  unfold eH
  rw [ltD]
  exact ltDs_some eR a b fun x hx y hy => by rw [eR_lt x (ha x hx) y (hb y hy)]; rfl
theorem eH_dep {a : List Nat} (ha : ∀ r ∈ a, r < 21) : depD (eH a) ≤ 2 := by
  unfold eH
  rw [depD]
  have := depDs_le eR 1 a fun x hx => by rw [eR_dep x (ha x hx)]; omega
  omega
theorem eP_lt {a b : List (List Nat)} (ha : ∀ h ∈ a, ∀ r ∈ h, r < 21) (hb : ∀ h ∈ b, ∀ r ∈ h, r < 21) : (ltD (eP a) (eP b)).isSome = true := by
  unfold eP
  rw [ltD]
  exact ltDs_some eH a b fun x hx y hy => eH_lt (ha x hx) (hb y hy)
theorem eP_dep {a : List (List Nat)} (ha : ∀ h ∈ a, ∀ r ∈ h, r < 21) : depD (eP a) ≤ 3 := by
  unfold eP
  rw [depD]
  have := depDs_le eH 2 a fun x hx => eH_dep (ha x hx)
  omega
theorem sortable_of {α : Type} (g : α → PyData) (xs : List α) (h1 : ∀ a ∈ xs, ∀ b ∈ xs, (ltD (g a) (g b)).isSome = true) (h2 : ∀ a ∈ xs, depD (g a) ≤ 60) (h3 : ∀ a ∈ xs, isNone (g a) = false) : sortable (xs.map g) = true := by
  unfold sortable comparable
  simp only [Bool.and_eq_true, List.all_eq_true, List.mem_map, forall_exists_index, and_imp, forall_apply_eq_imp_iff₂, decide_eq_true_eq, Bool.not_eq_true']
  exact ⟨h1, fun a ha => ⟨h3 a ha, h2 a ha⟩⟩
def lawParts (rs : List Nat) : List (List Nat) := (partsOf rs).mergeSort (fun a b => leB (eH a) (eH b))
theorem lawParts_mem {rs s : List Nat} : s ∈ lawParts rs ↔ s.Sublist rs := by
  unfold lawParts
  rw [(List.mergeSort_perm _ _).mem_iff, partsOf_mem]
theorem lawParts_len (rs : List Nat) : (lawParts rs).length = 2 ^ rs.length := by
  unfold lawParts
  rw [List.length_mergeSort, partsOf_len]
theorem partsOf_head {α : Type} (xs : List α) : ∃ t, partsOf xs = [] :: t := by
  induction xs using list_snoc_ind with
  | h0 => exact ⟨[], rfl⟩
  | h1 xs x ih =>
    obtain ⟨t, e⟩ := ih
    rw [partsOf_snoc, e]
    exact ⟨_, rfl⟩
theorem m_law_parts (n : Nat) (rs : List Nat) (D : DS) (h21 : ∀ r ∈ rs, r < 21) (hl : rs.length ≤ 16) : call tbl (n + 1) false f_law_parts [.tuple (rs.map eR)] D = .ok (.list ((lawParts rs).map eH)) D := by
  rw [callS]
  obtain ⟨j2, e⟩ := ptS_ok (call tbl n) D (.tuple (rs.map eR)) eR rs rfl hl
  have hm : ∀ s ∈ partsOf rs, ∀ r ∈ s, r < 21 := fun s hs r hr => h21 r (((partsOf_mem rs s).mp hs).subset hr)
  have hs : sortable ((partsOf rs).map eH) = true := sortable_of eH _ (fun a ha b hb => eH_lt (hm a ha) (hm b hb)) (fun a ha => by have := eH_dep (hm a ha); omega) fun a ha => rfl
  have ho : oneKind ((partsOf rs).map eH) = true := by
    obtain ⟨t, et⟩ := partsOf_head rs
    rw [et]
    unfold oneKind
    rw [Bool.or_eq_true]
    right
    show (t.map eH).all isTup = true
    rw [List.all_eq_true]
    intro x hx
    obtain ⟨s, _, rfl⟩ := List.mem_map.mp hx
    rfl
  have z := sort_perm eH (partsOf rs) hs ho
  have z' : biD .sorted [.list ((partsOf rs).map (eT eR))] = some (.list ((lawParts rs).map eH)) := z
  simp only [tb_law_parts, runFD, fd_lpt_eq]
  simp only [List.length_cons, List.length_nil, show fd_law_parts.dice = false from rfl, show fd_law_parts.pars = 1 from rfl, show fd_law_parts.slots = 4 from rfl, Nat.reduceAdd, Bool.false_eq_true, if_false, and_self, if_true]
  rw [execB, pt_start, Res.next_andThen, execB, e, Res.next_andThen]
  have e1 : evalE (call tbl n) (.var 1) (ptEnv (.tuple (rs.map eR)) eR (partsOf rs) j2) D = .ok (.list ((partsOf rs).map (eT eR))) D := by simp [evalE, slotD, ptEnv]
  rw [execB, execS, evalE, evalEs, e1, Out.ok_bind, evalEs, Out.ok_bind, Out.ok_bind, z']
  rfl
end Dk

set_option linter.all false
set_option maxRecDepth 100000
/-! MathR: the law's own plays. -/
namespace Dk
open PySem (PyData Str)
def badAt (age : Int) (keys : List Nat) (p : Nat × Int) : Bool := (decide (p.1 ∈ keys) && decide (age < p.2)) || (decide (p.2 = age) && !decide (p.1 ∈ keys))
def isRight (m : Nat) (dust : List Int) (age : Int) (part : List Nat) : Bool := ((List.range m).zip dust).all fun p => !badAt age (part.flatMap kx) p
section
variable {m : Nat} {rs : List Nat} {span : Int} {dust : List Int}
def irK : CS := (.for_ (.name 5) .seq [(.var 3)] [(.asg (.name 4) (.bin .add (.var 4) (.bi .list [(.var 5)])))])
def irC : CS := (.cond (.or (.and (.cmp .isIn (.var 6) (.var 4)) (.cmp .gt (.var 7) (.var 2))) (.and (.cmp .eq (.var 7) (.var 2)) (.cmp .notIn (.var 6) (.var 4)))) [(.ret (.const (.bool false)))] [])
def irZ : CS := (.for_ (.tup [6, 7]) .zip [(.ix (.var 0) (.const (.int 0))), (.var 1)] [irC])
theorem fd_ir_eq : fd_law_is_right.body = [(.asg (.name 4) (.lst [])), irK, irZ, (.ret (.const (.bool true)))] := rfl
def irEnv (m : Nat) (rs : List Nat) (dust : List Int) (age : Int) (part keys : List Nat) (j5 j6 j7 : Sl) : Env := [.val (eB m rs), .val (eD dust), .val (.int age), .val (eH part), .val (.list (keys.map eK)), j5, j6, j7]
theorem kx_sum_len : ∀ (part : List Nat), (∀ r ∈ part, r < 21) → (part.flatMap kx).length ≤ 2 * part.length
  | [], _ => by simp
  | r :: part, h => by
    have h1 := kx_len r (h r (by simp))
    have h2 := kx_sum_len part fun x hx => h x (by simp [hx])
    rw [List.flatMap_cons, List.length_append, List.length_cons]; omega
theorem irK_ok (cf : CallF) (D : DS) (age : Int) (part : List Nat) (h21 : ∀ r ∈ part, r < 21) (hl : part.length ≤ 1000) : ∃ j5, execS cf irK (irEnv m rs dust age part [] .non .non .non) D = .next (irEnv m rs dust age part (part.flatMap kx) j5 .non .non) D := by
  obtain ⟨r', e1, P⟩ := forL_ix (D := D) (f := fun x r D => Res.of (Out.lift (assign (.name 5) x r) D) fun r D => execB cf [(.asg (.name 4) (.bin .add (.var 4) (.bi .list [(.var 5)])))] r D) eR (fun r keys => keys ++ kx r) part
    (fun i (keys : List Nat) r => keys.length ≤ 2 * i ∧ ∃ j5, r = irEnv m rs dust age part keys j5 .non .non) [] (irEnv m rs dust age part [] .non .non .non) (by
      rintro i hi keys r ⟨hk, j5, rfl⟩
      have kl := kx_len part[i] (h21 _ (List.getElem_mem hi))
      refine ⟨irEnv m rs dust age part (keys ++ kx part[i]) (.val (eR part[i])) .non .non, ?_, by simp; omega, _, rfl⟩
      have a := add_l (keys.map eK) ((kx part[i]).map eK) (by simp; omega)
      have l : biD .list [eR part[i]] = some (.list ((kx part[i]).map eK)) := rfl
      simp [assign, irEnv, execB, execS, evalE, evalEs, slotD, l, a]) ⟨by simp, _, rfl⟩
  obtain ⟨-, j5, rfl⟩ := P
  refine ⟨j5, ?_⟩
  rw [foldl_app, List.nil_append] at e1
  unfold irK
  rw [execS]
  have ev : evalEs cf [(.var 3)] (irEnv m rs dust age part [] .non .non .non) D = .ok [eH part] D := by simp [evalEs, evalE, slotD, irEnv]
  have it : itemsD .seq [eH part] = some (part.map eR) := rfl
  rw [ev, Res.of_ok, it, Out.lift_some, Res.of_ok]
  exact e1
theorem irC_ok (cf : CallF) (D : DS) (age : Int) (part keys : List Nat) (j5 : Sl) (k : Nat) (d : Int) (hk : k < 6) (h6 : ∀ i ∈ keys, i < 6) : execS cf irC (irEnv m rs dust age part keys j5 (.val (eK k)) (.val (.int d))) D =
    if badAt age keys (k, d) then .ret (.bool false) D else .next (irEnv m rs dust age part keys j5 (.val (eK k)) (.val (.int d))) D := by
  have a := (cmp_inK hk h6).2
  have b := cmp_notInK hk h6
  unfold irC badAt irEnv
  simp only [execS, evalE, slotD, List.getElem?_cons_zero, List.getElem?_cons_succ, Out.lift_some, Out.ok_bind, a, b, cmp_gt, cmp_eqi]
  by_cases q1 : k ∈ keys
  · by_cases q2 : age < d
    · simp [q1, q2, execB, execS, evalE]
    · simp [q1, q2, execB, execS, evalE]
      by_cases q3 : d = age <;> simp [q3, execB, execS, evalE]
  · by_cases q3 : d = age
    · simp [q1, q3, execB, execS, evalE]
    · simp [q1, q3, execB, execS, evalE]
theorem m_law_is_right (n : Nat) (D : DS) (V : VD m rs span dust) (age : Int) (part : List Nat) (h21 : ∀ r ∈ part, r < 21) (hl : part.length ≤ 1000) : call tbl (n + 1) false f_law_is_right [eB m rs, eD dust, .int age, eH part] D = .ok (.bool (isRight m dust age part)) D := by
  rw [callS]
  have n6 := V.b.n6
  obtain ⟨j5, e1⟩ := irK_ok (m := m) (rs := rs) (dust := dust) (call tbl n) D age part h21 hl
  have e0 : execS (call tbl n) (.asg (.name 4) (.lst [])) (startE fd_law_is_right.slots [eB m rs, eD dust, .int age, eH part]) D = .next (irEnv m rs dust age part [] .non .non .non) D := by
    simp [execS, evalE, evalEs, fd_law_is_right, startE, assign, irEnv, szL]
  have k6 : ∀ i ∈ part.flatMap kx, i < 6 := fun i hi => by
    obtain ⟨r, hr, hi⟩ := List.mem_flatMap.mp hi
    exact kx_lt r (h21 r hr) i hi
  have z := forL_find (D := D) (f := fun x r D => Res.of (Out.lift (assign (.tup [6, 7]) x r) D) fun r D => execB (call tbl n) [irC] r D) (fun p : Nat × Int => PyData.tuple [eK p.1, .int p.2]) (badAt age (part.flatMap kx)) (fun _ => .bool false)
    (fun r => ∃ j6 j7, r = irEnv m rs dust age part (part.flatMap kx) j5 j6 j7) ((List.range m).zip dust) (irEnv m rs dust age part (part.flatMap kx) j5 .non .non) (by
      rintro ⟨k, d⟩ hp r ⟨j6, j7, rfl⟩
      have hk : k < m := by simpa using (List.of_mem_zip hp).1
      have a : assign (.tup [6, 7]) (.tuple [eK k, .int d]) (irEnv m rs dust age part (part.flatMap kx) j5 j6 j7) = some (irEnv m rs dust age part (part.flatMap kx) j5 (.val (eK k)) (.val (.int d))) := rfl
      simp only [a, Out.lift_some, Res.of_ok, execB, irC_ok (call tbl n) D age part (part.flatMap kx) j5 k d (by omega) k6]
      cases q : badAt age (part.flatMap kx) (k, d) with
      | true => simp
      | false => simp only [Bool.false_eq_true, if_false, Res.next_andThen]; exact ⟨_, rfl, _, _, rfl⟩) ⟨_, _, rfl⟩
  have ei : execS (call tbl n) irZ (irEnv m rs dust age part (part.flatMap kx) j5 .non .non) D = forL (fun x r D => Res.of (Out.lift (assign (.tup [6, 7]) x r) D) fun r D => execB (call tbl n) [irC] r D) (((List.range m).zip dust).map fun p : Nat × Int => PyData.tuple [eK p.1, .int p.2]) (irEnv m rs dust age part (part.flatMap kx) j5 .non .non) D := by
    unfold irZ
    rw [execS]
    have ev : evalEs (call tbl n) [(.ix (.var 0) (.const (.int 0))), (.var 1)] (irEnv m rs dust age part (part.flatMap kx) j5 .non .non) D = .ok [.tuple ((List.range m).map eK), eD dust] D := by
      simp [evalEs, evalE, slotD, irEnv, eB, ixD, ixNat]
    have it : itemsD .zip [.tuple ((List.range m).map eK), eD dust] = some (((List.range m).zip dust).map fun p : Nat × Int => PyData.tuple [eK p.1, .int p.2]) := by
      show some (((List.range m).map eK).zipWith (fun x y => PyData.tuple [x, y]) (dust.map PyData.int)) = _
      rw [zip_map]
    rw [ev, Res.of_ok, it, Out.lift_some, Res.of_ok]
  simp only [tb_law_is_right, runFD, fd_ir_eq]
  simp only [List.length_cons, List.length_nil, show fd_law_is_right.dice = false from rfl, show fd_law_is_right.pars = 4 from rfl, Nat.reduceAdd, Bool.false_eq_true, if_false, and_self, if_true]
  rw [execB, e0, Res.next_andThen, execB, e1, Res.next_andThen, execB, ei]
  have er : isRight m dust age part = ((((List.range m).zip dust).find? (badAt age (part.flatMap kx))).isNone) := by
    unfold isRight
    rw [Bool.eq_iff_iff, List.all_eq_true, Option.isNone_iff_eq_none, List.find?_eq_none]
    simp
  rw [er]
  cases q : ((List.range m).zip dust).find? (badAt age (part.flatMap kx)) with
  | some x =>
    rw [q] at z
    simp only at z
    rw [z]
    rfl
  | none =>
    rw [q] at z
    simp only at z
    obtain ⟨r', z1, j6, j7, rfl⟩ := z
    rw [z1, Res.next_andThen]
    simp [execB, execS, evalE]
/-! ### the plays -/
def rightParts (m : Nat) (rs : List Nat) (dust : List Int) (a : Int) : List (List Nat) := (lawParts rs).filter (isRight m dust a)
def lawRows (m : Nat) (rs : List Nat) (span : Int) (dust : List Int) (k : Nat) : List (List (List Nat)) := (List.range k).foldl (fun rows (day : Nat) => (rightParts m rs dust (span - 1 - (day : Int))).flatMap fun part => rows.map (· ++ [part])) [[]]
def lawPlays (m : Nat) (rs : List Nat) (span : Int) (dust : List Int) : List (List (List Nat)) := (lawRows m rs span dust span.toNat).mergeSort (fun a b => leB (eP a) (eP b))
theorem lawRows_mem : ∀ (k : Nat) (row : List (List Nat)), row ∈ lawRows m rs span dust k ↔ row.length = k ∧ ∀ i (hi : i < row.length), row[i] ∈ rightParts m rs dust (span - 1 - (i : Int))
  | 0, row => by
    simp only [lawRows, List.range_zero, List.foldl_nil, List.mem_singleton]
    constructor
    · rintro rfl; simp
    · rintro ⟨h, _⟩; exact List.length_eq_zero_iff.mp h
  | k + 1, row => by
    have ih := lawRows_mem k
    have e : lawRows m rs span dust (k + 1) = (rightParts m rs dust (span - 1 - (k : Int))).flatMap fun part => (lawRows m rs span dust k).map (· ++ [part]) := by
      unfold lawRows
      rw [List.range_succ, List.foldl_append]; rfl
    rw [e, List.mem_flatMap]
    constructor
    · rintro ⟨part, hp, hr⟩
      obtain ⟨t, ht, rfl⟩ := List.mem_map.mp hr
      obtain ⟨h1, h2⟩ := (ih t).mp ht
      refine ⟨by simp [h1], fun i hi => ?_⟩
      by_cases q : i < t.length
      · rw [List.getElem_append_left q]; exact h2 i q
      · have : i = k := by simp at hi; omega
        subst this
        rw [List.getElem_append_right (by omega)]
        simpa using hp
    · rintro ⟨h1, h2⟩
      have hne : row ≠ [] := by rintro rfl; simp at h1
      refine ⟨row.getLast hne, ?_, ?_⟩
      · have := h2 k (by omega)
        rw [List.getLast_eq_getElem]
        simpa [h1] using this
      · refine List.mem_map.mpr ⟨row.dropLast, (ih _).mpr ⟨by simp [h1], fun i hi => ?_⟩, List.dropLast_concat_getLast hne⟩
        rw [List.getElem_dropLast]
        exact h2 i _
theorem lawPlays_mem (row : List (List Nat)) : row ∈ lawPlays m rs span dust ↔ row.length = span.toNat ∧ ∀ i (hi : i < row.length), row[i] ∈ rightParts m rs dust (span - 1 - (i : Int)) := by
  unfold lawPlays
  rw [(List.mergeSort_perm _ _).mem_iff, lawRows_mem]
def lwpC : CS := (.cond (.call false 83 [(.var 0), (.var 2), (.var 6), (.var 7)]) [(.asg (.name 5) (.bin .add (.var 5) (.comp [8] (.name 8) .seq [(.var 3)] none (.bin .add (.var 8) (.tup [(.var 7)])))))] [])
def lwpI : CS := (.for_ (.name 7) .seq [(.call false 82 [(.ix (.var 0) (.const (.int 1)))])] [lwpC])
def lwpB : List CS := [(.par [5, 6] [(.lst []), (.bin .sub (.bin .sub (.var 1) (.const (.int 1))) (.var 4))]), lwpI, (.asg (.name 3) (.var 5))]
theorem fd_lwp_eq : fd_law_plays.body = [(.asg (.name 3) (.lst [(.tup [])])), (.for_ (.name 4) .range [(.var 1)] lwpB), (.ret (.bi .sorted [(.var 3)]))] := rfl
def lwpEnv (m : Nat) (rs : List Nat) (span : Int) (dust : List Int) (rows : List (List (List Nat))) (j4 j5 j6 j7 : Sl) : Env := [.val (eB m rs), .val (.int span), .val (eD dust), .val (.list (rows.map eP)), j4, j5, j6, j7, .non]
theorem lwpC_ok (n : Nat) (D : DS) (V : VD m rs span dust) (rows longer : List (List (List Nat))) (age : Int) (part : List Nat) (j4 : Sl) (hp : part.Sublist rs) (hr : rows.length ≤ 1000000) (hlo : longer.length ≤ 10000000) (hrl : ∀ row ∈ rows, row.length ≤ 1000) :
    execS (call tbl (n + 1)) lwpC (lwpEnv m rs span dust rows j4 (.val (.list (longer.map eP))) (.val (.int age)) (.val (eH part))) D = .next (lwpEnv m rs span dust rows j4 (.val (.list ((if isRight m dust age part then longer ++ rows.map (· ++ [part]) else longer).map eP))) (.val (.int age)) (.val (eH part))) D := by
  have hl := hp.length_le
  have := V.b.le
  have z := m_law_is_right (rs := rs) n D V age part (fun r hr => V.b.lt r (hp.subset hr)) (by omega)
  have ec : evalE (call tbl (n + 1)) (.call false 83 [(.var 0), (.var 2), (.var 6), (.var 7)]) (lwpEnv m rs span dust rows j4 (.val (.list (longer.map eP))) (.val (.int age)) (.val (eH part))) D = .ok (.bool (isRight m dust age part)) D := by
    simp [evalE, evalEs, slotD, lwpEnv, z]
  unfold lwpC
  rw [execS, ec, Res.of_ok]
  cases q : isRight m dust age part with
  | false => simp [execB]
  | true =>
    have e1 : evalE (call tbl (n + 1)) (.var 5) (lwpEnv m rs span dust rows j4 (.val (.list (longer.map eP))) (.val (.int age)) (.val (eH part))) D = .ok (.list (longer.map eP)) D := by simp [evalE, slotD, lwpEnv]
    have e2 : evalE (call tbl (n + 1)) (.comp [8] (.name 8) .seq [(.var 3)] none (.bin .add (.var 8) (.tup [(.var 7)]))) (lwpEnv m rs span dust rows j4 (.val (.list (longer.map eP))) (.val (.int age)) (.val (eH part))) D = .ok (.list (rows.map fun row => eP (row ++ [part]))) D := by
      refine comp_map (vs := [.list (rows.map eP)]) eP (fun row => eP (row ++ [part])) rows ?_ rfl (by omega) fun row hrow => ?_
      · simp [evalEs, evalE, slotD, lwpEnv]
      · have := hrl row hrow
        have a := add_t (row.map eH) [eH part] (by simp; omega)
        simp [cTurn, assign, wipeE, lwpEnv, evalT, evalE, evalEs, slotD, eP, szL, a]
    have a := add_l (longer.map eP) (rows.map fun row => eP (row ++ [part])) (by simp; omega)
    simp only [if_true]
    rw [execB, execS, evalE, e1, Out.ok_bind, e2, Out.ok_bind, a]
    simp [assign, lwpEnv, execB, Function.comp_def]
theorem lwp_flat (rows : List (List (List Nat))) (p : List Nat → Bool) : ∀ (parts : List (List Nat)) (acc : List (List (List Nat))), parts.foldl (fun longer part => if p part then longer ++ rows.map (· ++ [part]) else longer) acc = acc ++ (parts.filter p).flatMap fun part => rows.map (· ++ [part])
  | [], acc => by simp
  | x :: parts, acc => by
    rw [List.foldl_cons, lwp_flat rows p parts]
    by_cases q : p x = true
    · simp [q]
    · simp [q]
theorem lwpI_ok (n : Nat) (D : DS) (V : VD m rs span dust) (rows : List (List (List Nat))) (age : Int) (j4 j7 : Sl) (hr : rows.length * 2 ^ rs.length ≤ 1000000) (hrl : ∀ row ∈ rows, row.length ≤ 1000) :
    ∃ j7', execS (call tbl (n + 1)) lwpI (lwpEnv m rs span dust rows j4 (.val (.list [])) (.val (.int age)) j7) D = .next (lwpEnv m rs span dust rows j4 (.val (.list (((rightParts m rs dust age).flatMap fun part => rows.map (· ++ [part])).map eP))) (.val (.int age)) j7') D := by
  have hpos : 0 < 2 ^ rs.length := Nat.pow_pos (by decide)
  have hr1 : rows.length ≤ 1000000 := Nat.le_trans (Nat.le_mul_of_pos_right _ hpos) hr
  have ll := V.b.le
  obtain ⟨r', e1, P⟩ := forL_ix (D := D) (f := fun x r D => Res.of (Out.lift (assign (.name 7) x r) D) fun r D => execB (call tbl (n + 1)) [lwpC] r D) eH (fun part longer => if isRight m dust age part then longer ++ rows.map (· ++ [part]) else longer) (lawParts rs)
    (fun i (longer : List (List (List Nat))) r => longer.length ≤ rows.length * i ∧ ∃ j7, r = lwpEnv m rs span dust rows j4 (.val (.list (longer.map eP))) (.val (.int age)) j7) [] (lwpEnv m rs span dust rows j4 (.val (.list [])) (.val (.int age)) j7) (by
      rintro i hi longer r ⟨hlo, j7, rfl⟩
      have hi2 : i ≤ 2 ^ rs.length := by rw [lawParts_len] at hi; omega
      have hlo2 : longer.length ≤ 1000000 := Nat.le_trans hlo (Nat.le_trans (Nat.mul_le_mul_left _ hi2) hr)
      refine ⟨_, ?_, ?_, .val (eH (lawParts rs)[i]), rfl⟩
      · have a : assign (.name 7) (eH (lawParts rs)[i]) (lwpEnv m rs span dust rows j4 (.val (.list (longer.map eP))) (.val (.int age)) j7) = some (lwpEnv m rs span dust rows j4 (.val (.list (longer.map eP))) (.val (.int age)) (.val (eH (lawParts rs)[i]))) := rfl
        simp only [a, Out.lift_some, Res.of_ok]
        rw [execB, lwpC_ok n D V rows longer age _ j4 (lawParts_mem.mp (List.getElem_mem hi)) hr1 (by omega) hrl, Res.next_andThen, execB]
      · split
        · simp only [List.length_append, List.length_map, Nat.mul_succ]; omega
        · rw [Nat.mul_succ]; omega) ⟨by simp, j7, rfl⟩
  obtain ⟨-, j7', rfl⟩ := P
  refine ⟨j7', ?_⟩
  rw [lwp_flat, List.nil_append] at e1
  unfold lwpI
  rw [execS]
  have ev : evalEs (call tbl (n + 1)) [(.call false 82 [(.ix (.var 0) (.const (.int 1)))])] (lwpEnv m rs span dust rows j4 (.val (.list [])) (.val (.int age)) j7) D = .ok [.list ((lawParts rs).map eH)] D := by
    have z := m_law_parts n rs D V.b.lt (by omega)
    have i1 : ixD (eB m rs) (.int 1) = some (.tuple (rs.map eR)) := rfl
    simp [evalEs, evalE, slotD, lwpEnv, i1, z]
  have it : itemsD .seq [.list ((lawParts rs).map eH)] = some ((lawParts rs).map eH) := rfl
  rw [ev, Res.of_ok, it, Out.lift_some, Res.of_ok]
  exact e1
theorem lawRows_succ (k : Nat) : lawRows m rs span dust (k + 1) = (rightParts m rs dust (span - 1 - (k : Int))).flatMap fun part => (lawRows m rs span dust k).map (· ++ [part]) := by
  unfold lawRows
  rw [List.range_succ, List.foldl_append]; rfl
theorem rightParts_len (a : Int) : (rightParts m rs dust a).length ≤ 2 ^ rs.length := by
  unfold rightParts
  rw [← lawParts_len]
  exact List.length_filter_le _ _
theorem lawRows_len : ∀ k, (lawRows m rs span dust k).length ≤ 2 ^ (rs.length * k)
  | 0 => by simp [lawRows]
  | k + 1 => by
    rw [lawRows_succ]
    have h := flatMap_len (fun part => (lawRows m rs span dust k).map (· ++ [part])) (2 ^ (rs.length * k)) (rightParts m rs dust (span - 1 - (k : Int))) fun x _ => by rw [List.length_map]; exact lawRows_len k
    refine Nat.le_trans h ?_
    rw [Nat.mul_succ, Nat.pow_add, Nat.mul_comm]
    exact Nat.mul_le_mul_left _ (rightParts_len _)
theorem m_law_plays (n : Nat) (D : DS) (V : VD m rs span dust) (hb : rs.length * span.toNat ≤ 19) : call tbl (n + 2) false f_law_plays [eB m rs, .int span, eD dust] D = .ok (.list ((lawPlays m rs span dust).map eP)) D := by
  rw [callS]
  have s1 := V.s1
  have s5 := V.s5
  have e0 : execS (call tbl (n + 1)) (.asg (.name 3) (.lst [(.tup [])])) (startE fd_law_plays.slots [eB m rs, .int span, eD dust]) D = .next (lwpEnv m rs span dust [[]] .non .non .non .non) D := by
    simp [execS, evalE, evalEs, fd_law_plays, startE, assign, lwpEnv, szL, eP]
  obtain ⟨r', e1, P⟩ := forL_ix (D := D) (f := fun x r D => Res.of (Out.lift (assign (.name 4) x r) D) fun r D => execB (call tbl (n + 1)) lwpB r D) (fun (i : Nat) => PyData.int (i : Nat)) (fun (day : Nat) (rows : List (List (List Nat))) => (rightParts m rs dust (span - 1 - (day : Int))).flatMap fun part => rows.map (· ++ [part])) (List.range span.toNat)
    (fun i (rows : List (List (List Nat))) r => rows = lawRows m rs span dust i ∧ ∃ j4 j5 j6 j7, r = lwpEnv m rs span dust rows j4 j5 j6 j7) [[]] (lwpEnv m rs span dust [[]] .non .non .non .non) (by
      rintro i hi rows r ⟨rfl, j4, j5, j6, j7, rfl⟩
      simp only [List.length_range] at hi
      simp only [List.getElem_range]
      have hl1 := lawRows_len (m := m) (rs := rs) (span := span) (dust := dust) i
      have hl2 : (lawRows m rs span dust i).length * 2 ^ rs.length ≤ 1000000 := by
        refine Nat.le_trans (Nat.mul_le_mul_right _ hl1) ?_
        rw [← Nat.pow_add, ← Nat.mul_succ]
        have : rs.length * (i + 1) ≤ rs.length * span.toNat := Nat.mul_le_mul_left _ hi
        exact Nat.le_trans (Nat.pow_le_pow_right (by decide) (Nat.le_trans this hb)) (by decide)
      obtain ⟨j7', ei⟩ := lwpI_ok (rs := rs) n D V (lawRows m rs span dust i) (span - 1 - (i : Int)) (.val (.int (i : Nat))) j7 hl2 (fun row hrow => by have := ((lawRows_mem i row).mp hrow).1; omega)
      refine ⟨lwpEnv m rs span dust (lawRows m rs span dust (i + 1)) (.val (.int (i : Nat))) (.val (.list ((lawRows m rs span dust (i + 1)).map eP))) (.val (.int (span - 1 - (i : Int)))) j7', ?_, (lawRows_succ i).symm, ?_⟩
      · have a : assign (.name 4) (.int (i : Nat)) (lwpEnv m rs span dust (lawRows m rs span dust i) j4 j5 j6 j7) = some (lwpEnv m rs span dust (lawRows m rs span dust i) (.val (.int (i : Nat))) j5 j6 j7) := rfl
        have b : execS (call tbl (n + 1)) (.par [5, 6] [(.lst []), (.bin .sub (.bin .sub (.var 1) (.const (.int 1))) (.var 4))]) (lwpEnv m rs span dust (lawRows m rs span dust i) (.val (.int (i : Nat))) j5 j6 j7) D = .next (lwpEnv m rs span dust (lawRows m rs span dust i) (.val (.int (i : Nat))) (.val (.list [])) (.val (.int (span - 1 - (i : Int)))) j7) D := by
          simp [execS, evalE, evalEs, slotD, lwpEnv, szL, setAll]
        simp only [a, Out.lift_some, Res.of_ok]
        unfold lwpB
        rw [execB, b, Res.next_andThen, execB, ei, Res.next_andThen, ← lawRows_succ, execB]
        simp [execS, execB, evalE, slotD, assign, lwpEnv]
      · rw [lawRows_succ]
        exact ⟨_, _, _, _, rfl⟩) ⟨rfl, _, _, _, _, rfl⟩
  obtain ⟨P1, j4, j5, j6, j7, rfl⟩ := P
  rw [List.length_range] at P1
  have e2 : execS (call tbl (n + 1)) (.for_ (.name 4) .range [(.var 1)] lwpB) (lwpEnv m rs span dust [[]] .non .non .non .non) D = .next (lwpEnv m rs span dust (lawRows m rs span dust span.toNat) j4 j5 j6 j7) D := by
    rw [execS]
    have ev : evalEs (call tbl (n + 1)) [(.var 1)] (lwpEnv m rs span dust [[]] .non .non .non .non) D = .ok [.int span] D := by simp [evalEs, evalE, slotD, lwpEnv]
    rw [ev, Res.of_ok, range_ok (by omega) (by omega), Out.lift_some, Res.of_ok]
    rw [P1] at e1
    exact e1
  have rl : ∀ row ∈ lawRows m rs span dust span.toNat, row ≠ [] ∧ ∀ h ∈ row, ∀ r ∈ h, r < 21 := by
    intro row hrow
    obtain ⟨h1, h2⟩ := (lawRows_mem _ row).mp hrow
    refine ⟨by rintro rfl; simp at h1; omega, fun h hh r hr => ?_⟩
    obtain ⟨i, hi, rfl⟩ := List.mem_iff_getElem.mp hh
    have := h2 i hi
    unfold rightParts at this
    exact V.b.lt r ((lawParts_mem.mp ((List.mem_filter.mp this).1)).subset hr)
  have z := sort_perm eP (lawRows m rs span dust span.toNat) (sortable_of eP _ (fun a ha b hb => eP_lt (rl a ha).2 (rl b hb).2) (fun a ha => by have := eP_dep (rl a ha).2; omega) fun a ha => rfl) (by
    unfold oneKind oneKind0
    rw [Bool.or_eq_true, Bool.or_eq_true]
    left; left
    rw [List.all_eq_true]
    intro x hx
    obtain ⟨row, hrow, rfl⟩ := List.mem_map.mp hx
    have := (rl row hrow).1
    cases row with
    | nil => exact absurd rfl this
    | cons => rfl)
  have e3 : evalE (call tbl (n + 1)) (.var 3) (lwpEnv m rs span dust (lawRows m rs span dust span.toNat) j4 j5 j6 j7) D = .ok (.list ((lawRows m rs span dust span.toNat).map eP)) D := by simp [evalE, slotD, lwpEnv]
  simp only [tb_law_plays, runFD, fd_lwp_eq]
  simp only [List.length_cons, List.length_nil, show fd_law_plays.dice = false from rfl, show fd_law_plays.pars = 3 from rfl, Nat.reduceAdd, Bool.false_eq_true, if_false, and_self, if_true]
  rw [execB, e0, Res.next_andThen, execB, e2, Res.next_andThen, execB, execS, evalE, evalEs, e3, Out.ok_bind, evalEs, Out.ok_bind, Out.ok_bind, z]
  rfl
end
end Dk

set_option linter.all false
set_option maxRecDepth 100000
/-! MathS: how many covers there are, by keys left out. -/
namespace Dk
open PySem (PyData Str)
/-! ### plain -/
def subs {α : Type} : List α → List (List α)
  | [] => [[]]
  | x :: xs => subs xs ++ (subs xs).map (x :: ·)
theorem subs_mem {α : Type} : ∀ (xs s : List α), s ∈ subs xs ↔ s.Sublist xs
  | [], s => by simp [subs]
  | x :: xs, s => by
    rw [subs, List.mem_append, subs_mem xs, List.mem_map]
    constructor
    · rintro (h | ⟨t, h, rfl⟩)
      · exact h.cons x
      · exact ((subs_mem xs t).mp h).cons_cons x
    · intro h
      cases h with
      | cons _ h => exact .inl h
      | cons_cons _ h => exact .inr ⟨_, (subs_mem xs _).mpr h, rfl⟩
theorem subs_len {α : Type} : ∀ (xs : List α), (subs xs).length = 2 ^ xs.length
  | [] => rfl
  | x :: xs => by rw [subs]; simp [subs_len xs, Nat.pow_succ]; omega
/-- those whose items all keep q -/
theorem subs_fil {α : Type} (q : α → Bool) : ∀ (xs : List α) (p : List α → Bool), (subs xs).countP (fun s => p s && s.all q) = (subs (xs.filter q)).countP p
  | [], p => by simp [subs, List.countP_cons]
  | x :: xs, p => by
    rw [subs, List.countP_append, List.countP_map, subs_fil q xs p]
    by_cases h : q x = true
    · rw [List.filter_cons_of_pos h, subs, List.countP_append, List.countP_map]
      congr 1
      have := subs_fil q xs (fun s => p (x :: s))
      rw [show (p ∘ fun s => x :: s) = fun s => p (x :: s) from rfl, ← this]
      congr 1
      funext s
      simp [h]
    · rw [List.filter_cons_of_neg h]
      have : (subs xs).countP ((fun s => p s && s.all q) ∘ fun s => x :: s) = 0 := by
        rw [List.countP_eq_zero]
        intro s _
        simp [h]
      rw [this, Nat.add_zero]
def coversK (keys : List Nat) (s : List Nat) : Bool := keys.all fun k => s.any (hasK k)
def numC (keys some_ : List Nat) : Nat := (subs some_).countP (coversK keys)
def freeN (S some_ : List Nat) : Nat := (some_.filter fun r => !(kx r).any fun i => decide (i ∈ S)).length
def termC (some_ S : List Nat) : Int := (if S.length % 2 = 1 then -1 else 1) * 2 ^ freeN S some_
def cntC (keys some_ : List Nat) : Int := ((partsOf keys).map (termC some_)).sum
theorem freeN_snoc (S : List Nat) (k : Nat) (some_ : List Nat) : freeN (S ++ [k]) some_ = freeN S (some_.filter fun r => !hasK k r) := by
  unfold freeN
  rw [List.filter_filter]
  congr 2
  funext r
  rw [Bool.eq_iff_iff]
  simp only [Bool.not_eq_true', Bool.and_eq_true, hasK, decide_eq_false_iff_not, List.any_eq_false, decide_eq_true_eq, List.mem_append, List.mem_singleton]
  constructor
  · intro h
    exact ⟨fun i hi hs => h i hi (.inl hs), fun hk => h k hk (.inr rfl)⟩
  · rintro ⟨h1, h2⟩ i hi (hs | rfl)
    · exact h1 i hi hs
    · exact h2 hi
theorem termC_snoc (S : List Nat) (k : Nat) (some_ : List Nat) : termC some_ (S ++ [k]) = - termC (some_.filter fun r => !hasK k r) S := by
  unfold termC
  rw [freeN_snoc]
  generalize (2 : Int) ^ freeN S (some_.filter fun r => !hasK k r) = z
  by_cases h : S.length % 2 = 1
  · have : ¬ (S.length + 1) % 2 = 1 := by omega
    simp [h, this]
  · have : (S.length + 1) % 2 = 1 := by omega
    simp [h, this]
theorem sum_neg_map {α : Type} (f : α → Int) : ∀ xs : List α, (xs.map fun x => - f x).sum = - (xs.map f).sum
  | [] => rfl
  | x :: xs => by simp [sum_neg_map f xs]; omega
theorem cntC_snoc (keys : List Nat) (k : Nat) (some_ : List Nat) : cntC (keys ++ [k]) some_ = cntC keys some_ - cntC keys (some_.filter fun r => !hasK k r) := by
  unfold cntC
  rw [partsOf_snoc, List.map_append, List.sum_append, List.map_map]
  have : ((termC some_) ∘ fun x => x ++ [k]) = fun S => - termC (some_.filter fun r => !hasK k r) S := funext fun S => termC_snoc S k some_
  rw [this, sum_neg_map]
  omega
theorem numC_snoc (keys : List Nat) (k : Nat) (some_ : List Nat) : numC (keys ++ [k]) some_ + numC keys (some_.filter fun r => !hasK k r) = numC keys some_ := by
  unfold numC
  rw [← subs_fil (fun r => !hasK k r) some_ (coversK keys)]
  have : ∀ l : List (List Nat), l.countP (coversK (keys ++ [k])) + l.countP (fun s => coversK keys s && s.all fun r => !hasK k r) = l.countP (coversK keys) := by
    intro l
    induction l with
    | nil => rfl
    | cons s l ih =>
      rw [List.countP_cons, List.countP_cons, List.countP_cons, ← ih]
      have e1 : coversK (keys ++ [k]) s = (coversK keys s && s.any (hasK k)) := by simp [coversK, List.all_append]
      have e2 : (s.all fun r => !hasK k r) = !s.any (hasK k) := by rw [← List.not_any_eq_all_not]
      rw [e1, e2]
      cases coversK keys s <;> cases s.any (hasK k) <;> simp <;> omega
  exact this _
theorem cntC_eq (keys : List Nat) : ∀ some_ : List Nat, cntC keys some_ = (numC keys some_ : Nat) := by
  induction keys using list_snoc_ind with
  | h0 =>
    intro some_
    have e1 : freeN [] some_ = some_.length := by
      unfold freeN
      rw [List.filter_eq_self.mpr]
      intro r _
      simp
    have e2 : numC [] some_ = 2 ^ some_.length := by
      unfold numC
      rw [← subs_len, List.countP_eq_length]
      intro s _
      rfl
    rw [e2]
    simp [cntC, partsOf, termC, e1]
  | h1 keys k ih =>
    intro some_
    have := numC_snoc keys k some_
    rw [cntC_snoc, ih, ih]
    omega
theorem numC_pos (keys some_ : List Nat) : 0 < numC keys some_ ↔ ∀ k ∈ keys, ∃ r ∈ some_, k ∈ kx r := by
  unfold numC
  rw [List.countP_pos_iff]
  have e : ∀ s, coversK keys s = true ↔ ∀ k ∈ keys, ∃ r ∈ s, k ∈ kx r := by
    intro s
    simp [coversK, hasK, List.all_eq_true, List.any_eq_true]
  constructor
  · rintro ⟨s, hs, hc⟩ k hk
    obtain ⟨r, hr, h⟩ := (e s).mp hc k hk
    exact ⟨r, ((subs_mem _ _).mp hs).subset hr, h⟩
  · intro h
    exact ⟨some_, (subs_mem _ _).mpr (List.Sublist.refl _), (e _).mpr h⟩
/-! ### count_covers -/
section
variable {keys some_ : List Nat}
def ccEnv (keys some_ : List Nat) (total : Int) (j3 j4 : Sl) : Env := [.val (.list (keys.map eK)), .val (.list (some_.map eR)), .val (.int total), j3, j4, .non, .non]
def ccF : CS := (.asg (.name 4) (.bi .len [(.comp [5] (.name 5) .seq [(.var 1)] (some (.not (.bi .any [(.comp [6] (.name 6) .seq [(.var 5)] none (.cmp .isIn (.var 6) (.var 3)))]))) (.var 5))]))
def ccT : CS := (.asg (.name 2) (.bin .add (.var 2) (.bin .mul (.ite (.cmp .eq (.bin .mod (.bi .len [(.var 3)]) (.const (.int 2))) (.const (.int 1))) (.neg (.const (.int 1))) (.const (.int 1))) (.bin .shl (.const (.int 1)) (.var 4)))))
theorem fd_cc_eq : fd_count_covers.body = [(.asg (.name 2) (.const (.int 0))), (.for_ (.name 3) .seq [(.call false 30 [(.var 0)])] [ccF, ccT]), (.ret (.var 2))] := rfl
theorem ccF_ok (cf : CallF) (D : DS) (total : Int) (S : List Nat) (j4 : Sl) (hS : ∀ i ∈ S, i < 6) (h21 : ∀ r ∈ some_, r < 21) (hl : some_.length ≤ 1000) :
    execS cf ccF (ccEnv keys some_ total (.val (eT eK S)) j4) D = .next (ccEnv keys some_ total (.val (eT eK S)) (.val (.int (freeN S some_ : Nat)))) D := by
  have e : evalE cf (.comp [5] (.name 5) .seq [(.var 1)] (some (.not (.bi .any [(.comp [6] (.name 6) .seq [(.var 5)] none (.cmp .isIn (.var 6) (.var 3)))]))) (.var 5)) (ccEnv keys some_ total (.val (eT eK S)) j4) D = .ok (.list ((some_.filter fun r => !(kx r).any fun i => decide (i ∈ S)).map eR)) D := by
    refine comp_fil (vs := [.list (some_.map eR)]) eR (fun r => !(kx r).any fun i => decide (i ∈ S)) eR some_ ?_ rfl (by omega) fun r hr => ?_
    · simp [evalEs, evalE, slotD, ccEnv]
    · have kl := kx_len r (h21 r hr)
      have e2 : evalE cf (.comp [6] (.name 6) .seq [(.var 5)] none (.cmp .isIn (.var 6) (.var 3))) [.val (.list (keys.map eK)), .val (.list (some_.map eR)), .val (.int total), .val (eT eK S), j4, .val (eR r), .non] D = .ok (.list ((kx r).map fun i => .bool (decide (i ∈ S)))) D := by
        refine comp_map (vs := [eR r]) eK (fun i => .bool (decide (i ∈ S))) (kx r) ?_ rfl (by omega) fun i hi => ?_
        · simp [evalEs, evalE, slotD]
        · have z := (cmp_inK (xs := S) (kx_lt r (h21 r hr) i hi) hS).1
          simp [cTurn, assign, wipeE, evalT, evalE, slotD, eT, z]
      have a : assign (.name 5) (eR r) (wipeE (ccEnv keys some_ total (.val (eT eK S)) j4) [5]) = some [.val (.list (keys.map eK)), .val (.list (some_.map eR)), .val (.int total), .val (eT eK S), j4, .val (eR r), .non] := rfl
      unfold cTurn
      rw [a, Out.lift_some, Out.ok_bind, evalT, evalE, evalE, evalEs, e2, Out.ok_bind, evalEs, Out.ok_bind, Out.ok_bind, any_bi]
      cases q : (kx r).any fun i => decide (i ∈ S) <;> simp [evalE, slotD]
  unfold ccF
  rw [execS, evalE, evalEs, e, Out.ok_bind, evalEs, Out.ok_bind, Out.ok_bind, len_l]
  simp [assign, ccEnv, freeN]
theorem ccT_ok (cf : CallF) (D : DS) (total : Int) (S : List Nat) (hl : some_.length ≤ 1000) :
    execS cf ccT (ccEnv keys some_ total (.val (eT eK S)) (.val (.int (freeN S some_ : Nat)))) D = .next (ccEnv keys some_ (total + termC some_ S) (.val (eT eK S)) (.val (.int (freeN S some_ : Nat)))) D := by
  have fl : freeN S some_ ≤ some_.length := List.length_filter_le _ _
  have s1 : small64 (1 : Int) = true := by decide +kernel
  have sm : small64 (-1 : Int) = true := by decide +kernel
  have el : biD .len [eT eK S] = some (.int (S.length : Nat)) := by unfold eT; rw [len_t]; simp
  have es : binD .shl (.int 1) (.int (freeN S some_ : Nat)) = some (.int (2 ^ freeN S some_)) := by
    simp only [binD]
    rw [if_pos ⟨by omega, by omega, s1⟩]
    simp
  have em : binD .mod (.int (S.length : Nat)) (.int 2) = some (.int ((S.length : Int) % 2)) := mod_p _ _ (by decide)
  have m1 : ∀ z : Int, binD .mul (.int 1) (.int z) = some (.int (1 * z)) := fun z => by simp only [binD, s1, Bool.true_or, if_true]
  have m2 : ∀ z : Int, binD .mul (.int (-1)) (.int z) = some (.int (-1 * z)) := fun z => by simp only [binD, sm, Bool.true_or, if_true]
  unfold ccT termC
  by_cases h : S.length % 2 = 1
  · have h' : (S.length : Int) % 2 = 1 := by omega
    simp [execS, evalE, evalEs, slotD, ccEnv, el, em, es, m2, h, h', assign]
  · have h' : ¬ (S.length : Int) % 2 = 1 := by omega
    simp [execS, evalE, evalEs, slotD, ccEnv, el, em, es, m1, h, h', assign]
theorem foldl_sum {α : Type} (f : α → Int) : ∀ (xs : List α) (a : Int), xs.foldl (fun t x => t + f x) a = a + (xs.map f).sum
  | [], a => by simp
  | x :: xs, a => by rw [List.foldl_cons, foldl_sum f xs]; simp; omega
theorem m_count_covers (n : Nat) (D : DS) (hk : ∀ i ∈ keys, i < 6) (hkl : keys.length ≤ 6) (h21 : ∀ r ∈ some_, r < 21) (hl : some_.length ≤ 1000) : call tbl (n + 2) false f_count_covers [.list (keys.map eK), .list (some_.map eR)] D = .ok (.int (numC keys some_ : Nat)) D := by
  rw [callS]
  have e0 : execS (call tbl (n + 1)) (.asg (.name 2) (.const (.int 0))) (startE fd_count_covers.slots [.list (keys.map eK), .list (some_.map eR)]) D = .next (ccEnv keys some_ 0 .non .non) D := by
    simp [execS, evalE, evalEs, fd_count_covers, startE, assign, ccEnv]
  obtain ⟨r', e1, j3, j4, rfl⟩ := forL_ix (D := D) (f := fun x r D => Res.of (Out.lift (assign (.name 3) x r) D) fun r D => execB (call tbl (n + 1)) [ccF, ccT] r D) (eT eK) (fun S total => total + termC some_ S) (partsOf keys)
    (fun i (total : Int) r => ∃ j3 j4, r = ccEnv keys some_ total j3 j4) 0 (ccEnv keys some_ 0 .non .non) (by
      rintro i hi total r ⟨j3, j4, rfl⟩
      have hS : ∀ k ∈ (partsOf keys)[i], k < 6 := fun k hk1 => hk k (((partsOf_mem keys _).mp (List.getElem_mem hi)).subset hk1)
      refine ⟨ccEnv keys some_ (total + termC some_ (partsOf keys)[i]) (.val (eT eK (partsOf keys)[i])) (.val (.int (freeN (partsOf keys)[i] some_ : Nat))), ?_, _, _, rfl⟩
      have a : assign (.name 3) (eT eK (partsOf keys)[i]) (ccEnv keys some_ total j3 j4) = some (ccEnv keys some_ total (.val (eT eK (partsOf keys)[i])) j4) := rfl
      simp only [a, Out.lift_some, Res.of_ok]
      rw [execB, ccF_ok _ D total _ j4 hS h21 hl, Res.next_andThen, execB, ccT_ok _ D total _ hl, Res.next_andThen, execB]) ⟨_, _, rfl⟩
  have et : (partsOf keys).foldl (fun b x => b + termC some_ x) 0 = (numC keys some_ : Nat) := by
    rw [foldl_sum, Int.zero_add]
    exact cntC_eq keys some_
  rw [et] at e1
  have e2 : execS (call tbl (n + 1)) (.for_ (.name 3) .seq [(.call false 30 [(.var 0)])] [ccF, ccT]) (ccEnv keys some_ 0 .non .non) D = .next (ccEnv keys some_ (numC keys some_ : Nat) j3 j4) D := by
    rw [execS]
    have z := m_parts_of n (.list (keys.map eK)) eK keys D rfl (by omega)
    have ev : evalEs (call tbl (n + 1)) [(.call false 30 [(.var 0)])] (ccEnv keys some_ 0 .non .non) D = .ok [.list ((partsOf keys).map (eT eK))] D := by simp [evalEs, evalE, slotD, ccEnv, z]
    have it : itemsD .seq [.list ((partsOf keys).map (eT eK))] = some ((partsOf keys).map (eT eK)) := rfl
    rw [ev, Res.of_ok, it, Out.lift_some, Res.of_ok]
    exact e1
  simp only [tb_count_covers, runFD, fd_cc_eq]
  simp only [List.length_cons, List.length_nil, show fd_count_covers.dice = false from rfl, show fd_count_covers.pars = 2 from rfl, Nat.reduceAdd, Bool.false_eq_true, if_false, and_self, if_true]
  rw [execB, e0, Res.next_andThen, execB, e2, Res.next_andThen]
  simp [execB, execS, evalE, slotD, ccEnv]
end
/-! ### the law's parts of a day -/
section
variable {m : Nat} {rs : List Nat} {span : Int} {dust : List Int}
theorem keysOf_mem (hl : dust.length = m) {a : Int} {k : Nat} : k ∈ keysOf m dust a ↔ ∃ h : k < dust.length, dust[k] = a := by
  unfold keysOf
  simp only [List.mem_map, List.mem_filter, decide_eq_true_eq]
  constructor
  · rintro ⟨p, ⟨h1, h2⟩, rfl⟩
    obtain ⟨i, hi⟩ := List.mem_iff_getElem?.mp h1
    rw [List.getElem?_zip_eq_some] at hi
    obtain ⟨h3, h4⟩ := hi
    obtain ⟨h5, h6⟩ := List.getElem?_eq_some_iff.mp h4
    rw [List.getElem?_range (by omega)] at h3
    cases h3
    exact ⟨h5, by rw [h6]; exact h2⟩
  · rintro ⟨h, rfl⟩
    refine ⟨(k, dust[k]), ⟨List.mem_iff_getElem?.mpr ⟨k, ?_⟩, rfl⟩, rfl⟩
    rw [List.getElem?_zip_eq_some]
    exact ⟨List.getElem?_range (by omega), List.getElem?_eq_getElem h⟩
theorem goodOf_mem (hl : dust.length = m) {a : Int} {k : Nat} : k ∈ goodOf m dust a ↔ ∃ h : k < dust.length, dust[k] ≤ a := by
  unfold goodOf
  simp only [List.mem_map, List.mem_filter, decide_eq_true_eq]
  constructor
  · rintro ⟨p, ⟨h1, h2⟩, rfl⟩
    obtain ⟨i, hi⟩ := List.mem_iff_getElem?.mp h1
    rw [List.getElem?_zip_eq_some] at hi
    obtain ⟨h3, h4⟩ := hi
    obtain ⟨h5, h6⟩ := List.getElem?_eq_some_iff.mp h4
    rw [List.getElem?_range (by omega)] at h3
    cases h3
    exact ⟨h5, by rw [h6]; exact h2⟩
  · rintro ⟨h, h2⟩
    refine ⟨(k, dust[k]), ⟨List.mem_iff_getElem?.mpr ⟨k, ?_⟩, h2⟩, rfl⟩
    rw [List.getElem?_zip_eq_some]
    exact ⟨List.getElem?_range (by omega), List.getElem?_eq_getElem h⟩
theorem letsOf_mem (V : VD m rs span dust) {a : Int} {r : Nat} : r ∈ letsOf m rs dust a ↔ r ∈ rs ∧ ∀ i ∈ kx r, ∃ h : i < dust.length, dust[i] ≤ a := by
  unfold letsOf inAll
  simp only [List.mem_filter, List.all_eq_true, decide_eq_true_eq, goodOf_mem V.l]
theorem rightParts_mem (V : VD m rs span dust) {a : Int} {s : List Nat} : s ∈ rightParts m rs dust a ↔ s.Sublist rs ∧ (∀ r ∈ s, r ∈ letsOf m rs dust a) ∧ ∀ k ∈ keysOf m dust a, ∃ r ∈ s, k ∈ kx r := by
  unfold rightParts
  rw [List.mem_filter, lawParts_mem]
  refine and_congr_right fun hs => ?_
  have zm : ∀ k (h : k < dust.length), (k, dust[k]) ∈ (List.range m).zip dust := fun k h => by
    refine List.mem_iff_getElem?.mpr ⟨k, ?_⟩
    rw [List.getElem?_zip_eq_some]
    exact ⟨List.getElem?_range (by have := V.l; omega), List.getElem?_eq_getElem h⟩
  have zi : ∀ p ∈ (List.range m).zip dust, ∃ h : p.1 < dust.length, dust[p.1] = p.2 := fun p hp => by
    obtain ⟨i, hi⟩ := List.mem_iff_getElem?.mp hp
    rw [List.getElem?_zip_eq_some] at hi
    obtain ⟨h3, h4⟩ := hi
    obtain ⟨h5, h6⟩ := List.getElem?_eq_some_iff.mp h4
    rw [List.getElem?_range (by have := V.l; omega)] at h3
    have e : i = p.1 := Option.some.inj h3
    subst e
    exact ⟨h5, h6⟩
  unfold isRight
  rw [List.all_eq_true]
  constructor
  · intro h
    refine ⟨fun r hr => (letsOf_mem V).mpr ⟨hs.subset hr, fun i hi => ?_⟩, fun k hk => ?_⟩
    · have im := V.b.kl r (hs.subset hr) i hi
      have id : i < dust.length := by have := V.l; omega
      refine ⟨id, ?_⟩
      have := h _ (zm i id)
      simp only [badAt, Bool.not_eq_true', Bool.or_eq_false_iff, Bool.and_eq_false_iff, decide_eq_false_iff_not] at this
      have hin : i ∈ s.flatMap kx := List.mem_flatMap.mpr ⟨r, hr, hi⟩
      rcases this.1 with q | q
      · exact absurd hin q
      · omega
    · obtain ⟨kd, e⟩ := (keysOf_mem V.l).mp hk
      have := h _ (zm k kd)
      simp only [badAt, Bool.not_eq_true', Bool.or_eq_false_iff, Bool.and_eq_false_iff, decide_eq_false_iff_not] at this
      rcases this.2 with q | q
      · exact absurd e q
      · simp only [Bool.not_eq_false', decide_eq_true_eq] at q
        exact List.mem_flatMap.mp q
  · rintro ⟨h1, h2⟩ p hp
    obtain ⟨pd, e⟩ := zi p hp
    simp only [badAt, Bool.not_eq_true', Bool.or_eq_false_iff, Bool.and_eq_false_iff, decide_eq_false_iff_not]
    constructor
    · by_cases q : p.1 ∈ s.flatMap kx
      · right
        obtain ⟨r, hr, hi⟩ := List.mem_flatMap.mp q
        obtain ⟨_, h3⟩ := (letsOf_mem V).mp (h1 r hr)
        obtain ⟨_, h4⟩ := h3 p.1 hi
        omega
      · exact .inl q
    · by_cases q : p.2 = a
      · right
        simp only [Bool.not_eq_false', decide_eq_true_eq]
        obtain ⟨r, hr, hi⟩ := h2 p.1 ((keysOf_mem V.l).mpr ⟨pd, by rw [e]; exact q⟩)
        exact List.mem_flatMap.mpr ⟨r, hr, hi⟩
      · exact .inl q
theorem letsOf_right (V : VD m rs span dust) {a : Int} : letsOf m rs dust a ∈ rightParts m rs dust a ↔ ∀ k ∈ keysOf m dust a, ∃ r ∈ letsOf m rs dust a, k ∈ kx r := by
  rw [rightParts_mem V]
  exact ⟨fun h => h.2.2, fun h => ⟨letsOf_sub, fun r hr => hr, h⟩⟩
theorem plays_ne (V : VD m rs span dust) : lawPlays m rs span dust ≠ [] ↔ There m rs span dust = true := by
  rw [there_iff]
  constructor
  · intro h day hd k hk
    obtain ⟨row, hr⟩ := List.exists_mem_of_ne_nil _ h
    obtain ⟨h1, h2⟩ := (lawPlays_mem row).mp hr
    obtain ⟨_, h4, h5⟩ := (rightParts_mem V).mp (h2 day (by omega))
    obtain ⟨r, hr, hkr⟩ := h5 k hk
    exact ⟨r, h4 r hr, hkr⟩
  · intro h he
    have : (List.range span.toNat).map (fun day : Nat => letsOf m rs dust (span - 1 - (day : Int))) ∈ lawPlays m rs span dust := (lawPlays_mem _).mpr ⟨by simp, fun i hi => by
      simp only [List.length_map, List.length_range] at hi
      simp only [List.getElem_map, List.getElem_range]
      exact (letsOf_right V).mpr (h i hi)⟩
    rw [he] at this
    cases this
/-- just what may be played on a day -/
theorem plays_day (V : VD m rs span dust) (t : There m rs span dust = true) {day : Nat} (hd : day < span.toNat) (s : List Nat) : (∃ row ∈ lawPlays m rs span dust, row[day]? = some s) ↔ s ∈ rightParts m rs dust (span - 1 - (day : Int)) := by
  constructor
  · rintro ⟨row, hr, e⟩
    obtain ⟨h1, h2⟩ := (lawPlays_mem row).mp hr
    obtain ⟨hi, rfl⟩ := List.getElem?_eq_some_iff.mp e
    exact h2 day hi
  · intro hs
    refine ⟨((List.range span.toNat).map (fun day : Nat => letsOf m rs dust (span - 1 - (day : Int)))).set day s, (lawPlays_mem _).mpr ⟨by simp, fun i hi => ?_⟩, ?_⟩
    · simp only [List.length_set, List.length_map, List.length_range] at hi
      rw [List.getElem_set]
      split
      · rename_i e; subst e; exact hs
      · simp only [List.getElem_map, List.getElem_range]
        exact (letsOf_right V).mpr (there_iff.mp t i hi)
    · rw [List.getElem?_set_self (by simpa using hd)]
end
end Dk

set_option linter.all false
set_option maxRecDepth 100000
/-! MathT: surely and perhaps; what is refused. -/
namespace Dk
open PySem (PyData Str)
section
variable {m : Nat} {rs : List Nat} {span : Int} {dust : List Int}
theorem m_need_day (n : Nat) (D : DS) (day : Int) (h0 : 0 ≤ day) (h1 : day < span) : call tbl (n + 2) false f_need_day [.int span, .int day] D = .ok .none D := by
  rw [callS]
  have h : day ≤ span - 1 := by omega
  simp only [tb_need_day, runFD, fd_need_day]
  simp [startE, execB, execS, evalE, evalEs, slotD, m_is_whole n day 0 (span - 1) D, h0, h]
theorem VH.one {r : Nat} (h : r ∈ rs) : VH rs [r] := ⟨by simp, by simp, by simp, by simpa using h⟩
theorem m_need_reach (n : Nat) (D : DS) (V : VB m rs) {r : Nat} (h : r ∈ rs) : call tbl (n + 4) false f_need_reach [eB m rs, eR r] D = .ok .none D := by
  rw [callS]
  have z : call tbl (n + 3) false f_are_reaches [eB m rs, .tuple [eR r]] D = .ok (.bool true) D := m_are_reaches n m rs [r] D V (VH.one h)
  simp only [tb_need_reach, runFD, fd_need_reach]
  simp [startE, execB, execS, evalE, evalEs, slotD, szL, z]
/-- no reach of the board -/
def BadR (m : Nat) (rs : List Nat) (bad : PyData) : Prop := (∀ (n : Nat) (D : DS), call tbl (n + 2) false f_are_keys [.tuple ((List.range m).map eK), bad] D = .ok (.bool false) D) ∨
  ((∀ (n : Nat) (D : DS), call tbl (n + 2) false f_are_keys [.tuple ((List.range m).map eK), bad] D = .ok (.bool true) D) ∧ cmpD .isIn bad (.tuple (rs.map eR)) = some false)
theorem m_are_reaches_bad (n : Nat) (D : DS) {bad : PyData} (h : BadR m rs bad) : call tbl (n + 3) false f_are_reaches [eB m rs, .tuple [bad]] D = .ok (.bool false) D := by
  rw [callS]
  simp only [tb_are_reaches, runFD, fd_are_reaches, eB]
  simp [startE, execB, execS, evalE, evalEs, evalT, slotD, itemsD, compL, wipeE, assign, ixD, ixNat]
  rcases h with h | ⟨h1, h2⟩
  · simp [h n D, fits, szL, biD, boolsOf]
  · simp [h1 n D, h2, fits, szL, biD, boolsOf]
theorem m_need_reach_bad (n : Nat) (D : DS) {bad : PyData} (h : BadR m rs bad) : call tbl (n + 4) false f_need_reach [eB m rs, bad] D = .exc 5 D := by
  rw [callS]
  simp only [tb_need_reach, runFD, fd_need_reach]
  simp [startE, execB, execS, evalE, evalEs, slotD, szL, m_are_reaches_bad n D h]
theorem m_need_there_bad (n : Nat) (D : DS) (V : VD m rs span dust) (t : There m rs span dust = false) : call tbl (n + 6) false f_need_there [eB m rs, .int span, eD dust] D = .exc 12 D := by
  rw [callS]
  simp only [tb_need_there, runFD, fd_need_there]
  simp [startE, execB, execS, evalE, evalEs, slotD, m_need_dust n m rs span dust D V, m_is_there (n + 2) D V, t]
theorem m_need_asked (n : Nat) (D : DS) (V : VD m rs span dust) (day : Int) (h0 : 0 ≤ day) (h1 : day < span) {r : Nat} (h : r ∈ rs) : call tbl (n + 7) false f_need_asked [eB m rs, .int span, eD dust, .int day, eR r] D = if There m rs span dust then .ok .none D else .exc 12 D := by
  rw [callS]
  simp only [tb_need_asked, runFD, fd_need_asked]
  cases t : There m rs span dust with
  | true => simp [startE, execB, execS, evalE, evalEs, slotD, m_need_dust (n + 1) m rs span dust D V, m_need_day (n + 4) D day h0 h1, m_need_reach (n + 2) D V.b h, m_need_there n D V t]
  | false => simp [startE, execB, execS, evalE, evalEs, slotD, m_need_dust (n + 1) m rs span dust D V, m_need_day (n + 4) D day h0 h1, m_need_reach (n + 2) D V.b h, m_need_there_bad n D V t]
theorem m_need_asked_bad (n : Nat) (D : DS) (V : VD m rs span dust) (day : Int) (h0 : 0 ≤ day) (h1 : day < span) {bad : PyData} (h : BadR m rs bad) : call tbl (n + 7) false f_need_asked [eB m rs, .int span, eD dust, .int day, bad] D = .exc 5 D := by
  rw [callS]
  simp only [tb_need_asked, runFD, fd_need_asked]
  simp [startE, execB, execS, evalE, evalEs, slotD, m_need_dust (n + 1) m rs span dust D V, m_need_day (n + 4) D day h0 h1, m_need_reach_bad (n + 2) D h]
theorem m_may_on (n : Nat) (D : DS) (V : VD m rs span dust) (day : Int) {r : Nat} (h : r < 21) : call tbl (n + 2) false f_may_on [eB m rs, .int span, eD dust, .int day, eR r] D = .ok (.bool (decide (r ∈ letsOf m rs dust (span - 1 - day)))) D := by
  rw [callS]
  have z := (cmp_inR h (letsOf_lt (dust := dust) (a := span - 1 - day) V.b)).2
  simp only [tb_may_on, runFD, fd_may_on]
  simp [startE, execB, execS, evalE, evalEs, slotD, m_lets n m rs span day dust D V.b, z]
def sureOn (m : Nat) (rs : List Nat) (dust : List Int) (a : Int) (r : Nat) : Bool := decide (numC (keysOf m dust a) ((letsOf m rs dust a).filter fun x => !decide (x = r)) = 0)
theorem cmp_neR {a b : Nat} (ha : a < 21) (hb : b < 21) : cmpD .ne (eR a) (eR b) = some (!decide (a = b)) := by
  have h1 := eR_eq a ha b hb
  have h2 := eR_dep a ha
  unfold eR at h1 h2 ⊢
  simp only [cmpD, h2]
  rw [if_pos (by omega), h1]
theorem m_sure_on (n : Nat) (D : DS) (V : VD m rs span dust) (day : Int) {r : Nat} (h : r < 21) : call tbl (n + 3) false f_sure_on [eB m rs, .int span, eD dust, .int day, eR r] D = .ok (.bool (sureOn m rs dust (span - 1 - day) r)) D := by
  rw [callS]
  have n6 := V.b.n6
  have ll := letsOf_len (dust := dust) V.b (span - 1 - day)
  have e : evalE (call tbl (n + 2)) (.comp [6] (.name 6) .seq [(.call false 18 [(.var 0), (.var 1), (.var 2), (.var 3)])] (some (.cmp .ne (.var 6) (.var 4))) (.var 6)) [.val (eB m rs), .val (.int span), .val (eD dust), .val (.int day), .val (eR r), .non, .non] D = .ok (.list (((letsOf m rs dust (span - 1 - day)).filter fun x => !decide (x = r)).map eR)) D := by
    refine comp_fil (vs := [.list ((letsOf m rs dust (span - 1 - day)).map eR)]) eR (fun x => !decide (x = r)) eR _ ?_ rfl (by omega) fun x hx => ?_
    · simp [evalEs, evalE, slotD, m_lets (n + 1) m rs span day dust D V.b]
    · have z := cmp_neR (letsOf_lt V.b x hx) h
      simp [cTurn, assign, wipeE, evalT, evalE, slotD, z]
      by_cases q : x = r <;> simp [q]
  have z := m_count_covers (keys := keysOf m dust (span - 1 - day)) (some_ := (letsOf m rs dust (span - 1 - day)).filter fun x => !decide (x = r)) n D (fun i hi => by have := keysOf_lt hi; omega) (by have := keysOf_len m dust (span - 1 - day); omega) (fun x hx => letsOf_lt V.b x (List.mem_filter.mp hx).1) (Nat.le_trans (List.length_filter_le _ _) (by omega))
  have k := m_keys_of (n + 1) m rs span day dust D V.b.n6
  simp only [tb_sure_on, runFD, fd_sure_on]
  simp only [List.length_cons, List.length_nil, Nat.reduceAdd, Bool.false_eq_true, if_false, and_self, if_true, startE, List.map_cons, List.map_nil, List.replicate, Nat.reduceSub, List.cons_append, List.nil_append]
  rw [execB, execS, e, Res.of_ok]
  simp [execB, execS, evalE, evalEs, slotD, assign, k, z, sureOn]
theorem m_may_have (n : Nat) (D : DS) (V : VD m rs span dust) (day : Int) (h0 : 0 ≤ day) (h1 : day < span) {r : Nat} (h : r ∈ rs) : call tbl (n + 8) false f_may_have [eB m rs, .int span, eD dust, .int day, eR r] D = if There m rs span dust then .ok (.bool (decide (r ∈ letsOf m rs dust (span - 1 - day)))) D else .exc 12 D := by
  rw [callS]
  simp only [tb_may_have, runFD, fd_may_have]
  cases t : There m rs span dust <;> simp [startE, execB, execS, evalE, evalEs, slotD, m_need_asked n D V day h0 h1 h, t, m_may_on (n + 5) D V day (V.b.lt r h)]
theorem m_surely (n : Nat) (D : DS) (V : VD m rs span dust) (day : Int) (h0 : 0 ≤ day) (h1 : day < span) {r : Nat} (h : r ∈ rs) : call tbl (n + 8) false f_surely [eB m rs, .int span, eD dust, .int day, eR r] D = if There m rs span dust then .ok (.bool (sureOn m rs dust (span - 1 - day) r)) D else .exc 12 D := by
  rw [callS]
  simp only [tb_surely, runFD, fd_surely]
  cases t : There m rs span dust <;> simp [startE, execB, execS, evalE, evalEs, slotD, m_need_asked n D V day h0 h1 h, t, m_sure_on (n + 4) D V day (V.b.lt r h)]
theorem m_may_have_bad (n : Nat) (D : DS) (V : VD m rs span dust) (day : Int) (h0 : 0 ≤ day) (h1 : day < span) {bad : PyData} (h : BadR m rs bad) : call tbl (n + 8) false f_may_have [eB m rs, .int span, eD dust, .int day, bad] D = .exc 5 D := by
  rw [callS]
  simp only [tb_may_have, runFD, fd_may_have]
  simp [startE, execB, execS, evalE, evalEs, slotD, m_need_asked_bad n D V day h0 h1 h]
theorem m_surely_bad (n : Nat) (D : DS) (V : VD m rs span dust) (day : Int) (h0 : 0 ≤ day) (h1 : day < span) {bad : PyData} (h : BadR m rs bad) : call tbl (n + 8) false f_surely [eB m rs, .int span, eD dust, .int day, bad] D = .exc 5 D := by
  rw [callS]
  simp only [tb_surely, runFD, fd_surely]
  simp [startE, execB, execS, evalE, evalEs, slotD, m_need_asked_bad n D V day h0 h1 h]
theorem m_sure_reaches (n : Nat) (D : DS) (V : VD m rs span dust) (day : Int) (h0 : 0 ≤ day) (h1 : day < span) : call tbl (n + 7) false f_sure_reaches [eB m rs, .int span, eD dust, .int day] D = if There m rs span dust then .ok (.list ((rs.filter (sureOn m rs dust (span - 1 - day))).map eR)) D else .exc 12 D := by
  rw [callS]
  have ll := V.b.le
  simp only [tb_sure_reaches, runFD, fd_sure_reaches]
  cases t : There m rs span dust with
  | false => simp [startE, execB, execS, evalE, evalEs, slotD, m_need_dust (n + 1) m rs span dust D V, m_need_day (n + 4) D day h0 h1, m_need_there_bad n D V t]
  | true =>
    have e : evalE (call tbl (n + 6)) (.comp [4] (.name 4) .seq [(.ix (.var 0) (.const (.int 1)))] (some (.call false 53 [(.var 0), (.var 1), (.var 2), (.var 3), (.var 4)])) (.var 4)) [.val (eB m rs), .val (.int span), .val (eD dust), .val (.int day), .non] D = .ok (.list ((rs.filter (sureOn m rs dust (span - 1 - day))).map eR)) D := by
      refine comp_fil (vs := [.tuple (rs.map eR)]) eR (sureOn m rs dust (span - 1 - day)) eR rs ?_ rfl (by omega) fun x hx => ?_
      · have i1 : ixD (eB m rs) (.int 1) = some (.tuple (rs.map eR)) := rfl
        simp [evalEs, evalE, slotD, i1]
      · have z := m_sure_on (n + 3) D V day (V.b.lt x hx)
        simp [cTurn, assign, wipeE, evalT, evalE, evalEs, slotD, z]
        cases sureOn m rs dust (span - 1 - day) x <;> simp
    have a1 : execS (call tbl (n + 6)) (.expr (.call false 13 [(.var 0), (.var 1), (.var 2)])) [.val (eB m rs), .val (.int span), .val (eD dust), .val (.int day), .non] D = .next [.val (eB m rs), .val (.int span), .val (eD dust), .val (.int day), .non] D := by
      simp [execS, evalE, evalEs, slotD, m_need_dust (n + 1) m rs span dust D V]
    have a2 : execS (call tbl (n + 6)) (.expr (.call false 14 [(.var 1), (.var 3)])) [.val (eB m rs), .val (.int span), .val (eD dust), .val (.int day), .non] D = .next [.val (eB m rs), .val (.int span), .val (eD dust), .val (.int day), .non] D := by
      simp [execS, evalE, evalEs, slotD, m_need_day (n + 4) D day h0 h1]
    have a3 : execS (call tbl (n + 6)) (.expr (.call false 24 [(.var 0), (.var 1), (.var 2)])) [.val (eB m rs), .val (.int span), .val (eD dust), .val (.int day), .non] D = .next [.val (eB m rs), .val (.int span), .val (eD dust), .val (.int day), .non] D := by
      simp [execS, evalE, evalEs, slotD, m_need_there n D V t]
    simp only [List.length_cons, List.length_nil, Nat.reduceAdd, Bool.false_eq_true, if_false, and_self, if_true, startE, List.map_cons, List.map_nil, List.replicate, Nat.reduceSub, List.cons_append, List.nil_append]
    rw [execB, a1, Res.next_andThen, execB, a2, Res.next_andThen, execB, a3, Res.next_andThen, execB, execS, e]
    rfl
def daysOf (m : Nat) (rs : List Nat) (span : Int) (dust : List Int) (r : Nat) : List Nat := (List.range span.toNat).filter fun day => decide (r ∈ letsOf m rs dust (span - 1 - (day : Int)))
theorem m_days_of (n : Nat) (D : DS) (V : VD m rs span dust) {r : Nat} (h : r ∈ rs) : call tbl (n + 7) false f_days_of [eB m rs, .int span, eD dust, eR r] D = if There m rs span dust then .ok (.list ((daysOf m rs span dust r).map fun (i : Nat) => .int (i : Nat))) D else .exc 12 D := by
  rw [callS]
  have s1 := V.s1
  have s5 := V.s5
  simp only [tb_days_of, runFD, fd_days_of]
  cases t : There m rs span dust with
  | false => simp [startE, execB, execS, evalE, evalEs, slotD, m_need_dust (n + 1) m rs span dust D V, m_need_reach (n + 2) D V.b h, m_need_there_bad n D V t]
  | true =>
    have e : evalE (call tbl (n + 6)) (.comp [4] (.name 4) .range [(.var 1)] (some (.call false 100 [(.var 0), (.var 1), (.var 2), (.var 4), (.var 3)])) (.var 4)) [.val (eB m rs), .val (.int span), .val (eD dust), .val (eR r), .non] D = .ok (.list ((daysOf m rs span dust r).map fun (i : Nat) => .int (i : Nat))) D := by
      refine comp_fil (vs := [.int span]) (fun (i : Nat) => PyData.int (i : Nat)) (fun day : Nat => decide (r ∈ letsOf m rs dust (span - 1 - (day : Int)))) _ (List.range span.toNat) ?_ (range_ok (by omega) (by omega)) (by simp; omega) fun x hx => ?_
      · simp [evalEs, evalE, slotD]
      · have z := m_may_on (n + 4) D V (x : Int) (V.b.lt r h)
        simp [cTurn, assign, wipeE, evalT, evalE, evalEs, slotD, z]
        by_cases q : r ∈ letsOf m rs dust (span - 1 - (x : Int)) <;> simp [q]
    have a1 : execS (call tbl (n + 6)) (.expr (.call false 13 [(.var 0), (.var 1), (.var 2)])) [.val (eB m rs), .val (.int span), .val (eD dust), .val (eR r), .non] D = .next [.val (eB m rs), .val (.int span), .val (eD dust), .val (eR r), .non] D := by
      simp [execS, evalE, evalEs, slotD, m_need_dust (n + 1) m rs span dust D V]
    have a2 : execS (call tbl (n + 6)) (.expr (.call false 51 [(.var 0), (.var 3)])) [.val (eB m rs), .val (.int span), .val (eD dust), .val (eR r), .non] D = .next [.val (eB m rs), .val (.int span), .val (eD dust), .val (eR r), .non] D := by
      simp [execS, evalE, evalEs, slotD, m_need_reach (n + 2) D V.b h]
    have a3 : execS (call tbl (n + 6)) (.expr (.call false 24 [(.var 0), (.var 1), (.var 2)])) [.val (eB m rs), .val (.int span), .val (eD dust), .val (eR r), .non] D = .next [.val (eB m rs), .val (.int span), .val (eD dust), .val (eR r), .non] D := by
      simp [execS, evalE, evalEs, slotD, m_need_there n D V t]
    simp only [List.length_cons, List.length_nil, Nat.reduceAdd, Bool.false_eq_true, if_false, and_self, if_true, startE, List.map_cons, List.map_nil, List.replicate, Nat.reduceSub, List.cons_append, List.nil_append]
    rw [execB, a1, Res.next_andThen, execB, a2, Res.next_andThen, execB, a3, Res.next_andThen, execB, execS, e]
    rfl
theorem m_days_of_bad (n : Nat) (D : DS) (V : VD m rs span dust) {bad : PyData} (h : BadR m rs bad) : call tbl (n + 7) false f_days_of [eB m rs, .int span, eD dust, bad] D = .exc 5 D := by
  rw [callS]
  simp only [tb_days_of, runFD, fd_days_of]
  simp [startE, execB, execS, evalE, evalEs, slotD, m_need_dust (n + 1) m rs span dust D V, m_need_reach_bad (n + 2) D h]
theorem m_reach_text_bad (n : Nat) (D : DS) (V : VB m rs) {bad : PyData} (h : BadR m rs bad) : call tbl (n + 5) false f_reach_text [eB m rs, bad] D = .exc 5 D := by
  rw [callS]
  simp only [tb_reach_text, runFD, fd_reach_text]
  simp [startE, execB, execS, evalE, evalEs, slotD, m_need_board n m rs 1 D V (by decide) (by decide), m_need_reach_bad n D h]
/-! ### reaches that the board hasn't -/
def miEnv (m : Nat) (rs : List Nat) (j1 j3 j4 : Sl) : Env := [.val (eB m rs), j1, .non, j3, j4, .non, .non]
def miO : CS := (.asg (.name 1) (.comp [2] (.name 2) .seq [(.ix (.var 0) (.const (.int 0)))] none (.tup [(.var 2)])))
def miS : CS := (.asg (.name 1) (.bin .add (.var 1) (.comp [5] (.name 5) .seq [(.slice (.ix (.var 0) (.const (.int 0))) (some (.bin .add (.var 3) (.const (.int 1)))) none)] none (.tup [(.var 4), (.var 5)]))))
def miI : CS := (.for_ (.tup [3, 4]) .enum [(.ix (.var 0) (.const (.int 0)))] [miS])
theorem fd_mi_eq : fd_law_missing.body = [miO, miI, (.ret (.slice (.comp [6] (.name 6) .seq [(.var 1)] (some (.cmp .notIn (.var 6) (.ix (.var 0) (.const (.int 1))))) (.var 6)) none (some (.const (.int 1)))))] := rfl
theorem ix0_eB : ixD (eB m rs) (.int 0) = some (.tuple ((List.range m).map eK)) := rfl
theorem ix1_eB : ixD (eB m rs) (.int 1) = some (.tuple (rs.map eR)) := rfl
theorem miO_ok (cf : CallF) (D : DS) (h : m ≤ 6) : execS cf miO (miEnv m rs .non .non .non) D = .next (miEnv m rs (.val (.list (((List.range m).map ix1).map eR))) .non .non) D := by
  have ec : evalE cf (.comp [2] (.name 2) .seq [(.ix (.var 0) (.const (.int 0)))] none (.tup [(.var 2)])) (miEnv m rs .non .non .non) D = .ok (.list ((List.range m).map fun i => eR (ix1 i))) D := by
    refine comp_map (vs := [.tuple ((List.range m).map eK)]) eK (fun i => eR (ix1 i)) (List.range m) ?_ rfl (by simp; omega) fun i hi => ?_
    · simp [evalEs, evalE, slotD, miEnv, ix0_eB]
    · simp only [List.mem_range] at hi
      simp [cTurn, assign, wipeE, evalT, evalE, evalEs, slotD, miEnv, szL, eR_ix1 (show i < 6 by omega)]
  unfold miO
  rw [execS, ec, Res.of_ok]
  simp [miEnv, assign, Function.comp_def]
theorem miS_ok (cf : CallF) (D : DS) (i : Nat) (h : m ≤ 6) (hi : i < m) (acc : List Nat) (ha : acc.length ≤ 1000) :
    execS cf miS (miEnv m rs (.val (.list (acc.map eR))) (.val (.int (i : Nat))) (.val (eK i))) D = .next (miEnv m rs (.val (.list ((acc ++ ((List.range m).drop (i + 1)).map fun j => ix2 i j).map eR))) (.val (.int (i : Nat))) (.val (eK i))) D := by
  have ec : evalE cf (.comp [5] (.name 5) .seq [(.slice (.ix (.var 0) (.const (.int 0))) (some (.bin .add (.var 3) (.const (.int 1)))) none)] none (.tup [(.var 4), (.var 5)])) (miEnv m rs (.val (.list (acc.map eR))) (.val (.int (i : Nat))) (.val (eK i))) D = .ok (.list ((((List.range m).drop (i + 1)).map fun j => eR (ix2 i j)))) D := by
    refine comp_map (vs := [.tuple (((List.range m).drop (i + 1)).map eK)]) eK (fun j => eR (ix2 i j)) ((List.range m).drop (i + 1)) ?_ rfl (by simp; omega) fun j hj => ?_
    · simp [evalEs, evalE, evalO, slotD, miEnv, ix0_eB, sliceD, cutK]
    · have hj6 : i < j ∧ j < m := by
        obtain ⟨k, hk⟩ := List.mem_iff_getElem?.mp hj
        rw [List.getElem?_drop] at hk
        obtain ⟨a, b⟩ := List.getElem?_eq_some_iff.mp hk
        simp at a b
        omega
      simp [cTurn, assign, wipeE, evalT, evalE, evalEs, slotD, miEnv, szL, eR_ix2 (show i < 6 by omega) (show j < 6 by omega) hj6.1]
  have ep : evalE cf (.var 1) (miEnv m rs (.val (.list (acc.map eR))) (.val (.int (i : Nat))) (.val (eK i))) D = .ok (.list (acc.map eR)) D := by simp [evalE, slotD, miEnv]
  unfold miS
  rw [execS, evalE, ep, Out.ok_bind, ec, Out.ok_bind, add_l _ _ (by simp; omega)]
  simp [miEnv, assign, Function.comp_def]
theorem miI_ok (cf : CallF) (D : DS) (h : m ≤ 6) : ∃ a b, execS cf miI (miEnv m rs (.val (.list (((List.range m).map ix1).map eR))) .non .non) D = .next (miEnv m rs (.val (.list ((allR m).map eR))) a b) D := by
  have z := forL_ix (f := fun x r D => Res.of (Out.lift (assign (.tup [3, 4]) x r) D) fun r D => execB cf [miS] r D) (D := D) (fun p : Nat × Nat => PyData.tuple [.int (p.1 : Nat), eK p.2]) (fun p acc => acc ++ ((List.range m).drop (p.1 + 1)).map fun j => ix2 p.2 j) ((List.range m).zip (List.range m))
    (fun i acc r => ∃ a b, r = miEnv m rs (.val (.list (acc.map eR))) a b ∧ acc.length ≤ 6 + 6 * i) ((List.range m).map ix1) (miEnv m rs (.val (.list (((List.range m).map ix1).map eR))) .non .non) ?_ ⟨.non, .non, rfl, by simp; omega⟩
  · obtain ⟨r', e, a, b, rfl, _⟩ := z
    refine ⟨a, b, ?_⟩
    rw [foldl_app] at e
    unfold miI
    have e1 : evalEs cf [(.ix (.var 0) (.const (.int 0)))] (miEnv m rs (.val (.list (((List.range m).map ix1).map eR))) .non .non) D = .ok [.tuple ((List.range m).map eK)] D := by simp [evalEs, evalE, slotD, miEnv, ix0_eB]
    have e3 : itemsD .enum [.tuple ((List.range m).map eK)] = some (((List.range m).zip (List.range m)).map fun p => PyData.tuple [.int (p.1 : Nat), eK p.2]) := by
      simp only [itemsD, List.length_map]
      rw [enum_map]
      simp
    rw [execS, e1, Res.of_ok, e3, Out.lift_some, Res.of_ok]
    exact e
  · rintro i hi acc r ⟨a, b, rfl, hl⟩
    simp only [List.length_zip, List.length_range, Nat.min_self] at hi
    have hp : ((List.range m).zip (List.range m))[i]'(by simpa using hi) = (i, i) := by simp
    rw [hp]
    refine ⟨_, ?_, .val (.int (i : Nat)), .val (eK i), rfl, by simp; omega⟩
    have ea : assign (.tup [3, 4]) (.tuple [.int (i : Nat), eK i]) (miEnv m rs (.val (.list (acc.map eR))) a b) = some (miEnv m rs (.val (.list (acc.map eR))) (.val (.int (i : Nat))) (.val (eK i))) := rfl
    simp only
    rw [ea, Out.lift_some, Res.of_ok, execB, miS_ok cf D i h hi acc (by omega), Res.next_andThen, execB]
theorem cmp_notInR {a : Nat} {xs : List Nat} (ha : a < 21) (h : ∀ i ∈ xs, i < 21) : cmpD .notIn (eR a) (.tuple (xs.map eR)) = some (!decide (a ∈ xs)) := by
  have h1 := in_eR ha h
  have h2 := eR_dep a ha
  unfold eR at h1 h2 ⊢
  simp only [cmpD, rowOf, h2]
  rw [if_pos (by omega)]
  exact congrArg (fun b => some (!b)) h1
theorem m_law_missing (n : Nat) (D : DS) (V : VB m rs) : ∃ l : List Nat, (∀ r ∈ l, r < 21 ∧ (∀ i ∈ kx r, i < m) ∧ r ∉ rs) ∧ l.length ≤ 1 ∧ call tbl (n + 1) false f_law_missing [eB m rs] D = .ok (.list (l.map eR)) D := by
  obtain ⟨h1, h2, h3, h4⟩ := allR_ok m V.n6 V.n2
  refine ⟨((allR m).filter fun r => !decide (r ∈ rs)).take 1, ?_, by simp; omega, ?_⟩
  · intro r hr
    have := List.mem_filter.mp (List.mem_of_mem_take hr)
    exact ⟨(h2 r this.1).1, (h2 r this.1).2, by simpa using this.2⟩
  rw [callS]
  obtain ⟨a, b, e2⟩ := miI_ok (rs := rs) (call tbl n) D V.n6
  have ec : evalE (call tbl n) (.comp [6] (.name 6) .seq [(.var 1)] (some (.cmp .notIn (.var 6) (.ix (.var 0) (.const (.int 1))))) (.var 6)) (miEnv m rs (.val (.list ((allR m).map eR))) a b) D = .ok (.list (((allR m).filter fun r => !decide (r ∈ rs)).map eR)) D := by
    refine comp_fil (vs := [.list ((allR m).map eR)]) eR (fun r => !decide (r ∈ rs)) eR (allR m) ?_ rfl (by omega) fun r hr => ?_
    · simp [evalEs, evalE, slotD, miEnv]
    · have z := cmp_notInR (h2 r hr).1 V.lt
      simp [cTurn, assign, wipeE, evalT, evalE, slotD, miEnv, ix1_eB, z]
      by_cases q : r ∈ rs <;> simp [q]
  simp only [tb_law_missing, runFD, fd_mi_eq]
  simp only [List.length_cons, List.length_nil, show fd_law_missing.dice = false from rfl, show fd_law_missing.pars = 1 from rfl, show fd_law_missing.slots = 7 from rfl, Nat.reduceAdd, Bool.false_eq_true, if_false, and_self, if_true]
  have es : startE 7 [eB m rs] = miEnv m rs .non .non .non := rfl
  rw [es, execB, miO_ok _ D V.n6, Res.next_andThen, execB, e2, Res.next_andThen, execB, execS, evalE, ec, Out.ok_bind]
  have c1 : cut (((allR m).filter fun r => !decide (r ∈ rs)).map eR) none (some 1) = (((allR m).filter fun r => !decide (r ∈ rs)).take 1).map eR := by rw [List.map_take]; exact cutTo _ 1
  simp [evalO, evalE, sliceD, c1]
/-- what no board has as a reach -/
theorem badR_missing (V : VB m rs) {r : Nat} (h : r < 21 ∧ (∀ i ∈ kx r, i < m) ∧ r ∉ rs) : BadR m rs (eR r) := by
  right
  refine ⟨fun n D => m_are_keys n m r D V.n6 h.1 h.2.1, ?_⟩
  rw [(cmp_inR h.1 V.lt).1]
  simp [h.2.2]
theorem in_none (rs : List Nat) (h : ∀ r ∈ rs, r < 21) (x : PyData) (hd : depD x ≤ 60) (hs : ∀ s, x ≠ .str s) (hx : ∀ r < 21, eqD (eR r) x = false) : cmpD .isIn x (.tuple (rs.map eR)) = some false := by
  have : (rs.map eR).any (fun y => eqD y x) = false := by
    rw [List.any_eq_false]
    intro y hy
    obtain ⟨r, hr, rfl⟩ := List.mem_map.mp hy
    rw [hx r (h r hr)]; decide
  cases x <;> simp only [cmpD, rowOf, hd, if_true, this]
end
def badCases : List PyData := [.none, .int 5, .str "do", .tuple [], .tuple [.str "do", .str "do"], .tuple [.str "zed"], .list [.str "do"], .tuple [.none], .tuple [.str "do", .str "fa", .str "la"]]
theorem badR_cases {m : Nat} {rs : List Nat} (V : VB m rs) : ∀ x ∈ badCases, BadR m rs x := by
  have n2 := V.n2
  have n6 := V.n6
  have lt := V.lt
  clear V
  have hm : m = 2 ∨ m = 3 ∨ m = 4 ∨ m = 5 ∨ m = 6 := by omega
  intro x hx
  unfold badCases at hx
  simp only [List.mem_cons, List.not_mem_nil, or_false] at hx
  rcases hx with rfl | rfl | rfl | rfl | rfl | rfl | rfl | rfl | rfl
  · exact .inl fun n D => rfl
  · exact .inl fun n D => rfl
  · exact .inl fun n D => rfl
  · exact .inr ⟨fun n D => rfl, in_none rs lt _ (by decide +kernel) (by simp) (by decide +kernel)⟩
  · rcases hm with rfl | rfl | rfl | rfl | rfl <;> exact .inl fun n D => rfl
  · rcases hm with rfl | rfl | rfl | rfl | rfl <;> exact .inl fun n D => rfl
  · exact .inl fun n D => rfl
  · rcases hm with rfl | rfl | rfl | rfl | rfl <;> exact .inl fun n D => rfl
  · rcases hm with rfl | rfl | rfl | rfl | rfl
    · exact .inl fun n D => rfl
    all_goals exact .inr ⟨fun n D => rfl, in_none rs lt _ (by decide +kernel) (by simp) (by decide +kernel)⟩
end Dk

set_option linter.all false
set_option maxRecDepth 100000
/-! Math_k05: the law's turn. -/
namespace Dk
open PySem (PyData Str)
section
variable {m : Nat} {rs : List Nat} {span : Int} {dust : List Int}
/-! ### plain -/
def onDay (r day : Nat) (row : List (List Nat)) : Bool := decide (r ∈ row.getD day [])
theorem getD_of {row : List (List Nat)} {day : Nat} {s : List Nat} (h : row[day]? = some s) : row.getD day [] = s := by simp [List.getD, h]
theorem may_iff (V : VD m rs span dust) (t : There m rs span dust = true) {day : Nat} (hd : day < span.toNat) (r : Nat) : (lawPlays m rs span dust).any (onDay r day) = decide (r ∈ letsOf m rs dust (span - 1 - (day : Int))) := by
  rw [Bool.eq_iff_iff, List.any_eq_true]
  simp only [onDay, decide_eq_true_eq]
  constructor
  · rintro ⟨row, hr, h⟩
    have hl := ((lawPlays_mem row).mp hr).1
    have e : row[day]? = some (row.getD day []) := by rw [List.getD_eq_getElem?_getD, List.getElem?_eq_getElem (by omega)]; rfl
    have := (plays_day V t hd _).mp ⟨row, hr, e⟩
    exact ((rightParts_mem V).mp this).2.1 r h
  · intro h
    obtain ⟨row, hr, e⟩ := (plays_day V t hd _).mpr ((letsOf_right V).mpr (there_iff.mp t day hd))
    exact ⟨row, hr, by rw [getD_of e]; exact h⟩
theorem sure_iff (V : VD m rs span dust) (t : There m rs span dust = true) {day : Nat} (hd : day < span.toNat) (r : Nat) : (lawPlays m rs span dust).all (onDay r day) = sureOn m rs dust (span - 1 - (day : Int)) r := by
  rw [Bool.eq_iff_iff, List.all_eq_true]
  simp only [onDay, decide_eq_true_eq, sureOn]
  constructor
  · intro h
    refine Nat.eq_zero_of_not_pos fun hp => ?_
    rw [numC_pos] at hp
    have hs : (letsOf m rs dust (span - 1 - (day : Int))).filter (fun x => !decide (x = r)) ∈ rightParts m rs dust (span - 1 - (day : Int)) := (rightParts_mem V).mpr ⟨List.filter_sublist.trans letsOf_sub, fun x hx => (List.mem_filter.mp hx).1, hp⟩
    obtain ⟨row, hr, e⟩ := (plays_day V t hd _).mpr hs
    have := h row hr
    rw [getD_of e] at this
    simp at this
  · intro h row hr
    refine Decidable.byContradiction fun hn => ?_
    have hl := ((lawPlays_mem row).mp hr).1
    have e : row[day]? = some (row.getD day []) := by rw [List.getD_eq_getElem?_getD, List.getElem?_eq_getElem (by omega)]; rfl
    obtain ⟨_, h2, h3⟩ := (rightParts_mem V).mp ((plays_day V t hd _).mp ⟨row, hr, e⟩)
    have : 0 < numC (keysOf m dust (span - 1 - (day : Int))) ((letsOf m rs dust (span - 1 - (day : Int))).filter fun x => !decide (x = r)) := by
      rw [numC_pos]
      intro k hk
      obtain ⟨x, hx, hkx⟩ := h3 k hk
      refine ⟨x, List.mem_filter.mpr ⟨h2 x hx, ?_⟩, hkx⟩
      have : x ≠ r := by rintro rfl; exact hn hx
      simp [this]
    omega
theorem in_bools {α : Type} (f : α → Bool) (xs : List α) : cmpD .isIn (.bool true) (.list (xs.map fun x => .bool (f x))) = some (xs.any f) := by
  simp only [cmpD, rowOf, depD, Nat.zero_le, if_true]
  congr 1
  rw [List.any_map]
  congr 1
  funext x
  simp [eqD]
theorem notin_bools {α : Type} (f : α → Bool) (xs : List α) : cmpD .notIn (.bool false) (.list (xs.map fun x => .bool (f x))) = some (xs.all f) := by
  simp only [cmpD, rowOf, depD, Nat.zero_le, if_true]
  congr 1
  rw [List.any_map, List.not_any_eq_all_not]
  congr 1
  funext x
  simp [eqD]
theorem ne_bools (a b : Bool) : cmpD .ne (.bool a) (.bool b) = some (!(a == b)) := by
  cases a <;> cases b <;> rfl
theorem rowDay {row : List (List Nat)} {day : Nat} (h : day < row.length) : ixD (eP row) (.int (day : Nat)) = some (eH (row.getD day [])) := by
  have : (day : Int) < row.length := by omega
  have h2 : ¬ (day : Int) < 0 := by omega
  simp [ixD, eP, ixNat, this, h]
theorem ne_self {xs : List PyData} (h : eqDs xs xs = true) (hd : depDs xs ≤ 59) : cmpD .ne (.list xs) (.list xs) = some false := by
  simp only [cmpD, depD, eqD, h, Nat.min_self]
  rw [if_pos (by omega)]; rfl
theorem eqDs_self {α : Type} (g : α → PyData) : ∀ (xs : List α), (∀ x ∈ xs, eqD (g x) (g x) = true) → eqDs (xs.map g) (xs.map g) = true
  | [], _ => rfl
  | x :: xs, h => by
    rw [List.map_cons, eqDs, h x (by simp), eqDs_self g xs (fun y hy => h y (by simp [hy]))]; rfl
/-! ### deeds told -/
theorem told_eq {n f c : Nat} {es : List CE} {r : Env} {D : DS} {vs : List PyData} {x : String} (h1 : evalEs deadF es r D = .ok vs D) (h2 : call tbl n false f vs D = .exc c D) (h3 : excName c = some x) : evalE (call tbl (n + 2)) (.told f es) r D = .ok (refusedD x) D := by
  rw [evalE, h1, Out.calm_ok, Out.ok_bind, told_call tbl n f vs D (tbl_told f), h2]
  simp only [tellO, h3]
theorem made4 (cf : CallF) (D : DS) (r : Env) (t1 t2 t3 t4 : CE) (nm : String) (hr : 8 < r.length) (h1 : evalE cf t1 r D = .ok (refusedD nm) D) (h2 : ∀ s, evalE cf t2 (r.set 8 s) D = .ok (refusedD nm) D) (h3 : ∀ s, evalE cf t3 (r.set 8 s) D = .ok (refusedD nm) D) (h4 : ∀ s, evalE cf t4 (r.set 8 s) D = .ok (refusedD nm) D) :
    execB cf [(.asgO 8 (.lst [t1])), (.app 8 t2), (.app 8 t3), (.app 8 t4), (.cond (.cmp .ne (.peek 8) (.bin .mul (.lst [(.tup [(.const (.str (Str.ofString "refused"))), (.const (.str (Str.ofString nm)))])]) (.const (.int 4)))) [(.ret (.const (.bool false)))] [])] r D = .next (r.set 8 (.own [refusedD nm, refusedD nm, refusedD nm, refusedD nm])) D := by
  have g : ∀ s : Sl, (r.set 8 s)[8]? = some s := fun s => by rw [List.getElem?_set_self hr]
  have ss : ∀ s s' : Sl, (r.set 8 s).set 8 s' = r.set 8 s' := fun s s' => by rw [List.set_set]
  have a1 : execS cf (.asgO 8 (.lst [t1])) r D = .next (r.set 8 (.own [refusedD nm])) D := by
    simp [execS, evalE, evalEs, h1, szL]
  have a2 : execS cf (.app 8 t2) (r.set 8 (.own [refusedD nm])) D = .next (r.set 8 (.own [refusedD nm, refusedD nm])) D := by
    simp only [execS, ownOf, g, Out.lift_some, Res.of_ok, h2, ss]
    rw [if_pos (by simp [szL])]; rfl
  have a3 : execS cf (.app 8 t3) (r.set 8 (.own [refusedD nm, refusedD nm])) D = .next (r.set 8 (.own [refusedD nm, refusedD nm, refusedD nm])) D := by
    simp only [execS, ownOf, g, Out.lift_some, Res.of_ok, h3, ss]
    rw [if_pos (by simp [szL])]; rfl
  have a4 : execS cf (.app 8 t4) (r.set 8 (.own [refusedD nm, refusedD nm, refusedD nm])) D = .next (r.set 8 (.own [refusedD nm, refusedD nm, refusedD nm, refusedD nm])) D := by
    simp only [execS, ownOf, g, Out.lift_some, Res.of_ok, h4, ss]
    rw [if_pos (by simp [szL])]; rfl
  have a5 : cmpD .ne (.list [refusedD nm, refusedD nm, refusedD nm, refusedD nm]) (.list [refusedD nm, refusedD nm, refusedD nm, refusedD nm]) = some false :=
    ne_self (by simp [eqDs, eqD, refusedD]) (by simp [depDs, depD, refusedD])
  have a6 : evalE cf (.bin .mul (.lst [(.tup [(.const (.str (Str.ofString "refused"))), (.const (.str (Str.ofString nm)))])]) (.const (.int 4))) (r.set 8 (.own [refusedD nm, refusedD nm, refusedD nm, refusedD nm])) D = .ok (.list [refusedD nm, refusedD nm, refusedD nm, refusedD nm]) D := by
    simp [evalE, evalEs, szL, binD, refusedD, List.replicate]
  have a7 : evalE cf (.peek 8) (r.set 8 (.own [refusedD nm, refusedD nm, refusedD nm, refusedD nm])) D = .ok (.list [refusedD nm, refusedD nm, refusedD nm, refusedD nm]) D := by
    simp [evalE, slotP, g]
  rw [execB, a1, Res.next_andThen, execB, a2, Res.next_andThen, execB, a3, Res.next_andThen, execB, a4, Res.next_andThen, execB, execS, evalE, a7, Out.ok_bind, a6, Out.ok_bind, a5]
  simp [execB]
/-! ### the turn -/
def kEnv (m : Nat) (rs : List Nat) (span : Int) (dust : List Int) (day : Nat) (j7 j8 j9 j10 j12 j14 j15 : Sl) : Env :=
  [.non, .non, .val (eB m rs), .val (.int span), .val (eD dust), .val (.list ((lawPlays m rs span dust).map eP)), .val (.int (day : Nat)), j7, j8, j9, j10, .non, j12, .non, j14, j15]
def kM : CS := (.asg (.name 10) (.comp [11] (.name 11) .seq [(.var 5)] none (.cmp .isIn (.var 7) (.ix (.var 11) (.var 6)))))
def kC1 : CS := (.cond (.cmp .ne (.call false 101 [(.var 2), (.var 3), (.var 4), (.var 6), (.var 7)]) (.cmp .isIn (.const (.bool true)) (.var 10))) [(.ret (.const (.bool false)))] [])
def kC2 : CS := (.cond (.cmp .ne (.call false 54 [(.var 2), (.var 3), (.var 4), (.var 6), (.var 7)]) (.cmp .notIn (.const (.bool false)) (.var 10))) [(.ret (.const (.bool false)))] [])
def kS : CS := (.asg (.name 9) (.bin .add (.var 9) (.bin .mul (.lst [(.var 7)]) (.bi .int [(.cmp .notIn (.const (.bool false)) (.var 10))]))))
def kD : CS := (.asg (.name 12) (.comp [13] (.name 13) .range [(.var 3)] (some (.cmp .ne (.comp [11] (.name 11) .seq [(.var 5)] (some (.cmp .isIn (.var 7) (.ix (.var 11) (.var 13)))) (.var 11)) (.lst []))) (.var 13)))
def kC3 : CS := (.cond (.cmp .ne (.call false 102 [(.var 2), (.var 3), (.var 4), (.var 7)]) (.var 12)) [(.ret (.const (.bool false)))] [])
def kF : CS := (.for_ (.name 7) .seq [(.ix (.var 2) (.const (.int 1)))] [kM, kC1, kC2, kS, kD, kC3])
def kC4 : CS := (.cond (.cmp .ne (.call false 80 [(.var 2), (.var 3), (.var 4), (.var 6)]) (.var 9)) [(.ret (.const (.bool false)))] [])
def kA : List CS := [(.asg (.name 7) (.ix (.ix (.var 2) (.const (.int 1))) (.const (.int 0)))), (.asgO 8 (.lst [(.told 101 [(.var 2), (.var 3), (.var 4), (.var 6), (.var 7)])])), (.app 8 (.told 54 [(.var 2), (.var 3), (.var 4), (.var 6), (.var 7)])), (.app 8 (.told 80 [(.var 2), (.var 3), (.var 4), (.var 6)])), (.app 8 (.told 102 [(.var 2), (.var 3), (.var 4), (.var 7)])), (.cond (.cmp .ne (.peek 8) (.bin .mul (.lst [(.tup [(.const (.str "refused")), (.const (.str "Nothing"))])]) (.const (.int 4)))) [(.ret (.const (.bool false)))] [])]
def kB : List CS := [(.asg (.name 9) (.lst [])), kF, kC4]
def kG : List CS := [(.asgO 8 (.lst [(.told 101 [(.var 2), (.var 3), (.var 4), (.var 6), (.var 15)])])), (.app 8 (.told 54 [(.var 2), (.var 3), (.var 4), (.var 6), (.var 15)])), (.app 8 (.told 102 [(.var 2), (.var 3), (.var 4), (.var 15)])), (.app 8 (.told 103 [(.var 2), (.var 15)])), (.cond (.cmp .ne (.peek 8) (.bin .mul (.lst [(.tup [(.const (.str "refused")), (.const (.str "BadReach"))])]) (.const (.int 4)))) [(.ret (.const (.bool false)))] [])]
def kL : CS := (.for_ (.name 15) .seq [(.bin .add (.var 14) (.call false 68 [(.var 2)]))] kG)
def k1 : CS := (.par [2, 3] [(.call true 67 [(.const (.int 5)), (.const (.int 5))]), (.bin .add (.const (.int 1)) (.call true 63 [(.const (.int 3))]))])
def k2 : CS := (.asg (.name 4) (.call true 81 [(.var 2), (.var 3)]))
def k3 : CS := (.par [5, 6] [(.call false 84 [(.var 2), (.var 3), (.var 4)]), (.call true 63 [(.var 3)])])
def k4 : CS := (.cond (.cmp .eq (.var 5) (.lst [])) kA kB)
def k5 : CS := (.asg (.name 14) (.lst [(.const .none), (.const (.int 5)), (.const (.str "do")), (.tup []), (.tup [(.const (.str "do")), (.const (.str "do"))]), (.tup [(.const (.str "zed"))]), (.lst [(.const (.str "do"))]), (.tup [(.const .none)]), (.tup [(.const (.str "do")), (.const (.str "fa")), (.const (.str "la"))])]))
theorem b_law_eq : b_law = [k1, k2, k3, k4, k5, kL] := rfl
theorem kA_ok (D : DS) (V : VD m rs span dust) (t : There m rs span dust = false) (day : Nat) (hd : (day : Int) < span) (j9 j10 j12 j14 j15 : Sl) : ∃ j7 j8, execB (call tbl 30) kA (kEnv m rs span dust day .non .non j9 j10 j12 j14 j15) D = .next (kEnv m rs span dust day j7 j8 j9 j10 j12 j14 j15) D := by
  have hne := V.b.ne
  obtain ⟨r0, hr0, e0⟩ : ∃ r0, r0 ∈ rs ∧ ixD (.tuple (rs.map eR)) (.int 0) = some (eR r0) := by
    cases rs with
    | nil => simp at hne
    | cons r0 rest => exact ⟨r0, by simp, by simp [ixD, ixNat]⟩
  have a1 : execS (call tbl 30) (.asg (.name 7) (.ix (.ix (.var 2) (.const (.int 1))) (.const (.int 0)))) (kEnv m rs span dust day .non .non j9 j10 j12 j14 j15) D = .next (kEnv m rs span dust day (.val (eR r0)) .non j9 j10 j12 j14 j15) D := by
    simp [execS, evalE, slotD, kEnv, ix1_eB, e0, assign]
  refine ⟨.val (eR r0), .own [refusedD "Nothing", refusedD "Nothing", refusedD "Nothing", refusedD "Nothing"], ?_⟩
  have d0 : (0 : Int) ≤ (day : Int) := by omega
  have z := made4 (call tbl 30) D (kEnv m rs span dust day (.val (eR r0)) .non j9 j10 j12 j14 j15) (.told 101 [(.var 2), (.var 3), (.var 4), (.var 6), (.var 7)]) (.told 54 [(.var 2), (.var 3), (.var 4), (.var 6), (.var 7)]) (.told 80 [(.var 2), (.var 3), (.var 4), (.var 6)]) (.told 102 [(.var 2), (.var 3), (.var 4), (.var 7)]) "Nothing" (by simp [kEnv])
    (told_eq (n := 28) (c := 12) (by simp [evalEs, evalE, slotD, kEnv] <;> rfl) (by rw [m_may_have 20 D V day d0 hd hr0, t]; rfl) rfl)
    (fun s => told_eq (n := 28) (c := 12) (by simp [evalEs, evalE, slotD, kEnv] <;> rfl) (by rw [m_surely 20 D V day d0 hd hr0, t]; rfl) rfl)
    (fun s => told_eq (n := 28) (c := 12) (by simp [evalEs, evalE, slotD, kEnv] <;> rfl) (by rw [m_sure_reaches 21 D V day d0 hd, t]; rfl) rfl)
    (fun s => told_eq (n := 28) (c := 12) (by simp [evalEs, evalE, slotD, kEnv] <;> rfl) (by rw [m_days_of 21 D V hr0, t]; rfl) rfl)
  unfold kA
  rw [execB, a1, Res.next_andThen]
  exact z
theorem kG_ok (D : DS) (V : VD m rs span dust) (day : Nat) (hd : (day : Int) < span) {bad : PyData} (h : BadR m rs bad) (j7 j8 j9 j10 j12 j14 : Sl) : ∃ j8', execB (call tbl 30) kG (kEnv m rs span dust day j7 j8 j9 j10 j12 j14 (.val bad)) D = .next (kEnv m rs span dust day j7 j8' j9 j10 j12 j14 (.val bad)) D := by
  refine ⟨.own [refusedD "BadReach", refusedD "BadReach", refusedD "BadReach", refusedD "BadReach"], ?_⟩
  have d0 : (0 : Int) ≤ (day : Int) := by omega
  exact made4 (call tbl 30) D (kEnv m rs span dust day j7 j8 j9 j10 j12 j14 (.val bad)) (.told 101 [(.var 2), (.var 3), (.var 4), (.var 6), (.var 15)]) (.told 54 [(.var 2), (.var 3), (.var 4), (.var 6), (.var 15)]) (.told 102 [(.var 2), (.var 3), (.var 4), (.var 15)]) (.told 103 [(.var 2), (.var 15)]) "BadReach" (by simp [kEnv])
    (told_eq (n := 28) (c := 5) (by simp [evalEs, evalE, slotD, kEnv] <;> rfl) (m_may_have_bad 20 D V day d0 hd h) rfl)
    (fun s => told_eq (n := 28) (c := 5) (by simp [evalEs, evalE, slotD, kEnv] <;> rfl) (m_surely_bad 20 D V day d0 hd h) rfl)
    (fun s => told_eq (n := 28) (c := 5) (by simp [evalEs, evalE, slotD, kEnv] <;> rfl) (m_days_of_bad 21 D V h) rfl)
    (fun s => told_eq (n := 28) (c := 5) (by simp [evalEs, evalE, slotD, kEnv] <;> rfl) (m_reach_text_bad 23 D V.b h) rfl)
theorem rowMark (V : VD m rs span dust) {row : List (List Nat)} (hr : row ∈ lawPlays m rs span dust) {r day : Nat} (hrr : r < 21) (hd : day < span.toNat) : ixD (eP row) (.int (day : Nat)) = some (eH (row.getD day [])) ∧ cmpD .isIn (eR r) (eH (row.getD day [])) = some (onDay r day row) := by
  obtain ⟨hl, h2⟩ := (lawPlays_mem row).mp hr
  refine ⟨rowDay (by omega), ?_⟩
  have : row.getD day [] ∈ rightParts m rs dust (span - 1 - (day : Int)) := by
    have := h2 day (by omega)
    rwa [List.getD_eq_getElem?_getD, List.getElem?_eq_getElem (by omega)]
  have hs := ((rightParts_mem V).mp this).1
  exact (cmp_inR hrr fun i hi => V.b.lt i (hs.subset hi)).1
def sureL (m : Nat) (rs : List Nat) (span : Int) (dust : List Int) (day : Nat) (r : Nat) (acc : List Nat) : List Nat := acc ++ (if sureOn m rs dust (span - 1 - (day : Int)) r then [r] else [])
theorem plays_len (hb : rs.length * span.toNat ≤ 19) : (lawPlays m rs span dust).length ≤ 1000000 := by
  unfold lawPlays
  rw [List.length_mergeSort]
  exact Nat.le_trans (lawRows_len _) (Nat.le_trans (Nat.pow_le_pow_right (by decide) hb) (by decide))
theorem kF_turn (D : DS) (V : VD m rs span dust) (t : There m rs span dust = true) (hb : rs.length * span.toNat ≤ 19) (day : Nat) (hd : (day : Int) < span) (r : Nat) (hr : r ∈ rs) (acc : List Nat) (ha : acc.length ≤ 1000) (j8 j10 j12 j14 j15 : Sl) :
    ∃ j10' j12', execB (call tbl 30) [kM, kC1, kC2, kS, kD, kC3] (kEnv m rs span dust day (.val (eR r)) j8 (.val (.list (acc.map eR))) j10 j12 j14 j15) D = .next (kEnv m rs span dust day (.val (eR r)) j8 (.val (.list ((sureL m rs span dust day r acc).map eR))) j10' j12' j14 j15) D := by
  have r21 := V.b.lt r hr
  have s1 := V.s1
  have s5 := V.s5
  have hdn : day < span.toNat := by omega
  have d0 : (0 : Int) ≤ (day : Int) := by omega
  have pl := plays_len (m := m) (rs := rs) (span := span) (dust := dust) hb
  have em : evalE (call tbl 30) (.comp [11] (.name 11) .seq [(.var 5)] none (.cmp .isIn (.var 7) (.ix (.var 11) (.var 6)))) (kEnv m rs span dust day (.val (eR r)) j8 (.val (.list (acc.map eR))) j10 j12 j14 j15) D = .ok (.list ((lawPlays m rs span dust).map fun row => .bool (onDay r day row))) D := by
    refine comp_map (vs := [.list ((lawPlays m rs span dust).map eP)]) eP (fun row => .bool (onDay r day row)) (lawPlays m rs span dust) ?_ rfl (by omega) fun row hrow => ?_
    · simp [evalEs, evalE, slotD, kEnv]
    · obtain ⟨x1, x2⟩ := rowMark V hrow r21 hdn
      generalize row.getD day [] = hh at x1 x2
      simp [cTurn, assign, wipeE, evalT, evalE, slotD, kEnv, x1, x2]
  generalize hM : PyData.list ((lawPlays m rs span dust).map fun row => .bool (onDay r day row)) = M at em
  have i1 : cmpD .isIn (.bool true) M = some (decide (r ∈ letsOf m rs dust (span - 1 - (day : Int)))) := by rw [← hM, in_bools, may_iff V t hdn]
  have i2 : cmpD .notIn (.bool false) M = some (sureOn m rs dust (span - 1 - (day : Int)) r) := by rw [← hM, notin_bools, sure_iff V t hdn]
  have a1 : execS (call tbl 30) kM (kEnv m rs span dust day (.val (eR r)) j8 (.val (.list (acc.map eR))) j10 j12 j14 j15) D = .next (kEnv m rs span dust day (.val (eR r)) j8 (.val (.list (acc.map eR))) (.val M) j12 j14 j15) D := by
    unfold kM
    rw [execS, em, Res.of_ok]
    simp [assign, kEnv]
  have z1 := m_may_have 22 D V day d0 hd hr
  rw [t, if_pos rfl] at z1
  have z2 := m_surely 22 D V day d0 hd hr
  rw [t, if_pos rfl] at z2
  have z3 := m_days_of 23 D V hr
  rw [t, if_pos rfl] at z3
  simp only [Nat.reduceAdd] at z1 z2 z3
  have a2 : execS (call tbl 30) kC1 (kEnv m rs span dust day (.val (eR r)) j8 (.val (.list (acc.map eR))) (.val M) j12 j14 j15) D = .next (kEnv m rs span dust day (.val (eR r)) j8 (.val (.list (acc.map eR))) (.val M) j12 j14 j15) D := by
    unfold kC1
    simp [execS, evalE, evalEs, slotD, kEnv, z1, i1, ne_bools, execB]
  have a3 : execS (call tbl 30) kC2 (kEnv m rs span dust day (.val (eR r)) j8 (.val (.list (acc.map eR))) (.val M) j12 j14 j15) D = .next (kEnv m rs span dust day (.val (eR r)) j8 (.val (.list (acc.map eR))) (.val M) j12 j14 j15) D := by
    unfold kC2
    simp [execS, evalE, evalEs, slotD, kEnv, z2, i2, ne_bools, execB]
  have a4 : execS (call tbl 30) kS (kEnv m rs span dust day (.val (eR r)) j8 (.val (.list (acc.map eR))) (.val M) j12 j14 j15) D = .next (kEnv m rs span dust day (.val (eR r)) j8 (.val (.list ((sureL m rs span dust day r acc).map eR))) (.val M) j12 j14 j15) D := by
    have al0 := add_l (acc.map eR) [] (by simp; omega)
    have al1 := add_l (acc.map eR) [eR r] (by simp; omega)
    have mm0 : binD .mul (.list [eR r]) (.int 0) = some (.list []) := by simp [binD]
    have mm1 : binD .mul (.list [eR r]) (.int 1) = some (.list [eR r]) := by simp [binD, List.replicate]
    unfold kS sureL
    cases q : sureOn m rs dust (span - 1 - (day : Int)) r
    · simp [execS, evalE, evalEs, slotD, kEnv, i2, q, biD, szL, mm0, al0, assign]
    · simp [execS, evalE, evalEs, slotD, kEnv, i2, q, biD, szL, mm1, al1, assign]
  have a5 : execS (call tbl 30) kD (kEnv m rs span dust day (.val (eR r)) j8 (.val (.list ((sureL m rs span dust day r acc).map eR))) (.val M) j12 j14 j15) D = .next (kEnv m rs span dust day (.val (eR r)) j8 (.val (.list ((sureL m rs span dust day r acc).map eR))) (.val M) (.val (.list ((daysOf m rs span dust r).map fun (i : Nat) => .int (i : Nat)))) j14 j15) D := by
    generalize (.list ((sureL m rs span dust day r acc).map eR) : PyData) = S
    have e : evalE (call tbl 30) (.comp [13] (.name 13) .range [(.var 3)] (some (.cmp .ne (.comp [11] (.name 11) .seq [(.var 5)] (some (.cmp .isIn (.var 7) (.ix (.var 11) (.var 13)))) (.var 11)) (.lst []))) (.var 13)) (kEnv m rs span dust day (.val (eR r)) j8 (.val S) (.val M) j12 j14 j15) D = .ok (.list ((daysOf m rs span dust r).map fun (i : Nat) => .int (i : Nat))) D := by
      refine comp_fil (vs := [.int span]) (fun (i : Nat) => PyData.int (i : Nat)) (fun day : Nat => decide (r ∈ letsOf m rs dust (span - 1 - (day : Int)))) _ (List.range span.toNat) ?_ (range_ok (by omega) (by omega)) (by simp; omega) fun x hx => ?_
      · simp [evalEs, evalE, slotD, kEnv]
      · have hx' : x < span.toNat := by simpa using hx
        have e2 : evalE (call tbl 30) (.comp [11] (.name 11) .seq [(.var 5)] (some (.cmp .isIn (.var 7) (.ix (.var 11) (.var 13)))) (.var 11)) [.non, .non, .val (eB m rs), .val (.int span), .val (eD dust), .val (.list ((lawPlays m rs span dust).map eP)), .val (.int (day : Nat)), .val (eR r), j8, .val S, .val M, .non, j12, .val (.int (x : Nat)), j14, j15] D = .ok (.list (((lawPlays m rs span dust).filter (onDay r x)).map eP)) D := by
          refine comp_fil (vs := [.list ((lawPlays m rs span dust).map eP)]) eP (onDay r x) eP (lawPlays m rs span dust) ?_ rfl (by omega) fun row hrow => ?_
          · simp [evalEs, evalE, slotD]
          · obtain ⟨x1, x2⟩ := rowMark V hrow r21 hx'
            generalize row.getD x [] = hh at x1 x2
            simp [cTurn, assign, wipeE, evalT, evalE, slotD, x1, x2]
            cases onDay r x row <;> simp
        have a : assign (.name 13) (.int (x : Nat)) (wipeE (kEnv m rs span dust day (.val (eR r)) j8 (.val S) (.val M) j12 j14 j15) [13]) = some [.non, .non, .val (eB m rs), .val (.int span), .val (eD dust), .val (.list ((lawPlays m rs span dust).map eP)), .val (.int (day : Nat)), .val (eR r), j8, .val S, .val M, .non, j12, .val (.int (x : Nat)), j14, j15] := rfl
        have en : cmpD .ne (.list (((lawPlays m rs span dust).filter (onDay r x)).map eP)) (.list []) = some (decide (r ∈ letsOf m rs dust (span - 1 - (x : Int)))) := by
          rw [cmp_ne_nil, ← may_iff V t hx']
          congr 1
          rw [Bool.eq_iff_iff, List.any_eq_true]
          simp only [Bool.not_eq_true', List.isEmpty_eq_false_iff, ne_eq, List.map_eq_nil_iff, List.filter_eq_nil_iff]
          constructor
          · intro h
            refine Decidable.byContradiction fun hn => h fun y hy hq => hn ⟨y, hy, hq⟩
          · rintro ⟨y, hy, hq⟩ h
            exact h y hy hq
        unfold cTurn
        rw [a, Out.lift_some, Out.ok_bind, evalT, evalE, e2, Out.ok_bind]
        simp [evalE, evalEs, szL, en, slotD]
        by_cases q : r ∈ letsOf m rs dust (span - 1 - (x : Int)) <;> simp [q]
    unfold kD
    rw [execS, e, Res.of_ok]
    simp [assign, kEnv]
  have a6 : execS (call tbl 30) kC3 (kEnv m rs span dust day (.val (eR r)) j8 (.val (.list ((sureL m rs span dust day r acc).map eR))) (.val M) (.val (.list ((daysOf m rs span dust r).map fun (i : Nat) => .int (i : Nat)))) j14 j15) D = .next (kEnv m rs span dust day (.val (eR r)) j8 (.val (.list ((sureL m rs span dust day r acc).map eR))) (.val M) (.val (.list ((daysOf m rs span dust r).map fun (i : Nat) => .int (i : Nat)))) j14 j15) D := by
    have q := ne_self (eqDs_self (fun (i : Nat) => PyData.int (i : Nat)) (daysOf m rs span dust r) fun x _ => by simp [eqD]) (Nat.le_trans (depDs_le (fun (i : Nat) => PyData.int (i : Nat)) 0 (daysOf m rs span dust r) fun x _ => by simp [depD]) (by omega))
    unfold kC3
    simp [execS, evalE, evalEs, slotD, kEnv, z3, q, execB]
  refine ⟨.val M, .val (.list ((daysOf m rs span dust r).map fun (i : Nat) => .int (i : Nat))), ?_⟩
  · rw [execB, a1, Res.next_andThen, execB, a2, Res.next_andThen, execB, a3, Res.next_andThen, execB, a4, Res.next_andThen, execB, a5, Res.next_andThen, execB, a6, Res.next_andThen, execB]
theorem sure_fold (day : Nat) : ∀ (xs acc : List Nat), xs.foldl (fun b x => sureL m rs span dust day x b) acc = acc ++ xs.filter (sureOn m rs dust (span - 1 - (day : Int)))
  | [], acc => by simp
  | x :: xs, acc => by
    rw [List.foldl_cons, sure_fold day xs]
    unfold sureL
    cases q : sureOn m rs dust (span - 1 - (day : Int)) x <;> simp [q]
theorem kB_ok (D : DS) (V : VD m rs span dust) (t : There m rs span dust = true) (hb : rs.length * span.toNat ≤ 19) (day : Nat) (hd : (day : Int) < span) :
    ∃ j7 j9 j10 j12, execB (call tbl 30) kB (kEnv m rs span dust day .non .non .non .non .non .non .non) D = .next (kEnv m rs span dust day j7 .non j9 j10 j12 .non .non) D := by
  have ll := V.b.le
  have d0 : (0 : Int) ≤ (day : Int) := by omega
  have a0 : execS (call tbl 30) (.asg (.name 9) (.lst [])) (kEnv m rs span dust day .non .non .non .non .non .non .non) D = .next (kEnv m rs span dust day .non .non (.val (.list (([] : List Nat).map eR))) .non .non .non .non) D := by
    simp [execS, evalE, evalEs, szL, assign, kEnv]
  obtain ⟨r', e1, _, j7, j10, j12, rfl⟩ := forL_ix (D := D) (f := fun x r D => Res.of (Out.lift (assign (.name 7) x r) D) fun r D => execB (call tbl 30) [kM, kC1, kC2, kS, kD, kC3] r D) eR (sureL m rs span dust day) rs
    (fun i (acc : List Nat) r => acc.length ≤ i ∧ ∃ j7 j10 j12, r = kEnv m rs span dust day j7 .non (.val (.list (acc.map eR))) j10 j12 .non .non) [] (kEnv m rs span dust day .non .non (.val (.list (([] : List Nat).map eR))) .non .non .non .non) (by
      rintro i hi acc r ⟨ha, j7, j10, j12, rfl⟩
      obtain ⟨j10', j12', e⟩ := kF_turn D V t hb day hd rs[i] (List.getElem_mem hi) acc (by omega) .non j10 j12 .non .non
      refine ⟨kEnv m rs span dust day (.val (eR rs[i])) .non (.val (.list ((sureL m rs span dust day rs[i] acc).map eR))) j10' j12' .non .non, ?_, ?_, _, _, _, rfl⟩
      · have a : assign (.name 7) (eR rs[i]) (kEnv m rs span dust day j7 .non (.val (.list (acc.map eR))) j10 j12 .non .non) = some (kEnv m rs span dust day (.val (eR rs[i])) .non (.val (.list (acc.map eR))) j10 j12 .non .non) := rfl
        simp only [a, Out.lift_some, Res.of_ok]
        exact e
      · unfold sureL
        split <;> simp <;> omega) ⟨by simp, _, _, _, rfl⟩
  rw [sure_fold, List.nil_append] at e1
  have a1 : execS (call tbl 30) kF (kEnv m rs span dust day .non .non (.val (.list (([] : List Nat).map eR))) .non .non .non .non) D = .next (kEnv m rs span dust day j7 .non (.val (.list ((rs.filter (sureOn m rs dust (span - 1 - (day : Int)))).map eR))) j10 j12 .non .non) D := by
    unfold kF
    rw [execS]
    have ev : evalEs (call tbl 30) [(.ix (.var 2) (.const (.int 1)))] (kEnv m rs span dust day .non .non (.val (.list (([] : List Nat).map eR))) .non .non .non .non) D = .ok [.tuple (rs.map eR)] D := by simp [evalEs, evalE, slotD, kEnv, ix1_eB]
    have it : itemsD .seq [.tuple (rs.map eR)] = some (rs.map eR) := rfl
    rw [ev, Res.of_ok, it, Out.lift_some, Res.of_ok]
    exact e1
  have z := m_sure_reaches 23 D V day d0 hd
  rw [t, if_pos rfl] at z
  simp only [Nat.reduceAdd] at z
  have a2 : execS (call tbl 30) kC4 (kEnv m rs span dust day j7 .non (.val (.list ((rs.filter (sureOn m rs dust (span - 1 - (day : Int)))).map eR))) j10 j12 .non .non) D = .next (kEnv m rs span dust day j7 .non (.val (.list ((rs.filter (sureOn m rs dust (span - 1 - (day : Int)))).map eR))) j10 j12 .non .non) D := by
    have q := ne_self (eqDs_self eR (rs.filter (sureOn m rs dust (span - 1 - (day : Int)))) fun x hx => by rw [eR_eq x (V.b.lt x (List.mem_filter.mp hx).1) x (V.b.lt x (List.mem_filter.mp hx).1)]; simp) (Nat.le_trans (depDs_le eR 1 (rs.filter (sureOn m rs dust (span - 1 - (day : Int)))) fun x hx => by rw [eR_dep x (V.b.lt x (List.mem_filter.mp hx).1)]; omega) (by omega))
    unfold kC4
    simp [execS, evalE, evalEs, slotD, kEnv, z, q, execB]
  refine ⟨j7, .val (.list ((rs.filter (sureOn m rs dust (span - 1 - (day : Int)))).map eR)), j10, j12, ?_⟩
  · unfold kB
    rw [execB, a0, Res.next_andThen, execB, a1, Res.next_andThen, execB, a2, Res.next_andThen, execB]
theorem kL_ok (D : DS) (V : VD m rs span dust) (day : Nat) (hd : (day : Int) < span) (j7 j8 j9 j10 j12 j15 : Sl) : ∃ r, execS (call tbl 30) kL (kEnv m rs span dust day j7 j8 j9 j10 j12 (.val (.list badCases)) j15) D = .next r D := by
  obtain ⟨l, hl, l1, el⟩ := m_law_missing (m := m) (rs := rs) 29 D V.b
  have hbad : ∀ x ∈ badCases ++ l.map eR, BadR m rs x := fun x hx => by
    rcases List.mem_append.mp hx with hx | hx
    · exact badR_cases V.b x hx
    · obtain ⟨r, hr, rfl⟩ := List.mem_map.mp hx
      exact badR_missing V.b (hl r hr)
  obtain ⟨r', e1, j8', j15', rfl⟩ := forL_ix (D := D) (f := fun x r D => Res.of (Out.lift (assign (.name 15) x r) D) fun r D => execB (call tbl 30) kG r D) id (fun (_ : PyData) (u : Unit) => u) (badCases ++ l.map eR)
    (fun i (_ : Unit) r => ∃ j8 j15, r = kEnv m rs span dust day j7 j8 j9 j10 j12 (.val (.list badCases)) j15) () (kEnv m rs span dust day j7 j8 j9 j10 j12 (.val (.list badCases)) j15) (by
      rintro i hi u r ⟨j8, j15, rfl⟩
      obtain ⟨j8', e⟩ := kG_ok D V day hd (hbad _ (List.getElem_mem hi)) j7 j8 j9 j10 j12 (.val (.list badCases))
      refine ⟨_, ?_, j8', .val (badCases ++ l.map eR)[i], rfl⟩
      have a : assign (.name 15) (id (badCases ++ l.map eR)[i]) (kEnv m rs span dust day j7 j8 j9 j10 j12 (.val (.list badCases)) j15) = some (kEnv m rs span dust day j7 j8 j9 j10 j12 (.val (.list badCases)) (.val (badCases ++ l.map eR)[i])) := rfl
      simp only [a, Out.lift_some, Res.of_ok]
      exact e) ⟨_, _, rfl⟩
  refine ⟨kEnv m rs span dust day j7 j8' j9 j10 j12 (.val (.list badCases)) j15', ?_⟩
  · unfold kL
    rw [execS]
    have ad := add_l badCases (l.map eR) (by simp [badCases]; omega)
    simp only [Nat.reduceAdd] at el
    have ev : evalEs (call tbl 30) [(.bin .add (.var 14) (.call false 68 [(.var 2)]))] (kEnv m rs span dust day j7 j8 j9 j10 j12 (.val (.list badCases)) j15) D = .ok [.list (badCases ++ l.map eR)] D := by simp [evalEs, evalE, slotD, kEnv, el, ad]
    have it : itemsD .seq [.list (badCases ++ l.map eR)] = some (badCases ++ l.map eR) := rfl
    rw [ev, Res.of_ok, it, Out.lift_some, Res.of_ok]
    rw [List.map_id] at e1
    exact e1
end
theorem law_all : ∀ c : Int, ∃ r D, execB (call tbl 30) b_law (List.replicate lawSlots .non) (some (c, 0)) = .next r D := by
  intro c
  obtain ⟨m, rs, cn1, VBd, m5, r5, eb⟩ := m_any_boardG (sz := 5) (hg := 5) 27 (c, 0) (by omega) (by omega) (by omega) (by omega)
  obtain ⟨t, cn2, t3, er⟩ := m_roll 28 3 cn1 (by omega) (by omega)
  have s1 : (1 : Int) ≤ ((1 + t : Nat) : Int) := by omega
  have s5 : ((1 + t : Nat) : Int) ≤ 5 := by omega
  obtain ⟨dust, cn3, V, ed⟩ := m_any_dust 25 cn2 VBd ((1 + t : Nat) : Int) s1 s5
  obtain ⟨day, cn4, hday, ey⟩ := m_roll 28 (1 + t) cn3 (by omega) (by omega)
  have hb : rs.length * ((1 + t : Nat) : Int).toNat ≤ 19 := by
    have h1 : ((1 + t : Nat) : Int).toNat ≤ 3 := by omega
    have := Nat.mul_le_mul r5 h1
    omega
  have ep := m_law_plays (m := m) (rs := rs) (span := ((1 + t : Nat) : Int)) (dust := dust) 28 (some cn3) V hb
  have hd : (day : Int) < ((1 + t : Nat) : Int) := by omega
  have e1 : execS (call tbl 30) k1 (List.replicate lawSlots .non) (some (c, 0)) = .next [.non, .non, .val (eB m rs), .val (.int ((1 + t : Nat) : Int)), .non, .non, .non, .non, .non, .non, .non, .non, .non, .non, .non, .non] (some cn2) := by
    simp only [Nat.reduceAdd] at eb er
    have eb' : call tbl 30 true 67 [.int 5, .int 5] (some (c, 0)) = .ok (eB m rs) (some cn1) := eb
    have er' : call tbl 30 true 63 [.int 3] (some cn1) = .ok (.int (t : Nat)) (some cn2) := er
    unfold k1
    simp [execS, evalE, evalEs, eb', er', setAll, lawSlots, List.replicate]
  generalize ((1 + t : Nat) : Int) = span at *
  have e2 : execS (call tbl 30) k2 [.non, .non, .val (eB m rs), .val (.int span), .non, .non, .non, .non, .non, .non, .non, .non, .non, .non, .non, .non] (some cn2) = .next [.non, .non, .val (eB m rs), .val (.int span), .val (eD dust), .non, .non, .non, .non, .non, .non, .non, .non, .non, .non, .non] (some cn3) := by
    simp only [Nat.reduceAdd] at ed
    unfold k2
    simp [execS, evalE, evalEs, slotD, ed, assign]
  have e3 : execS (call tbl 30) k3 [.non, .non, .val (eB m rs), .val (.int span), .val (eD dust), .non, .non, .non, .non, .non, .non, .non, .non, .non, .non, .non] (some cn3) = .next (kEnv m rs span dust day .non .non .non .non .non .non .non) (some cn4) := by
    simp only [Nat.reduceAdd] at ep ey
    unfold k3
    simp [execS, evalE, evalEs, slotD, ep, ey, setAll, kEnv]
  have e4 : ∃ j7 j8 j9 j10 j12, execS (call tbl 30) k4 (kEnv m rs span dust day .non .non .non .non .non .non .non) (some cn4) = .next (kEnv m rs span dust day j7 j8 j9 j10 j12 .non .non) (some cn4) := by
    have ec : evalE (call tbl 30) (.cmp .eq (.var 5) (.lst [])) (kEnv m rs span dust day .non .non .non .non .non .non .non) (some cn4) = .ok (.bool (lawPlays m rs span dust).isEmpty) (some cn4) := by
      simp [evalE, evalEs, slotD, kEnv, szL, cmp_eq_nil]
    unfold k4
    rw [execS, ec, Res.of_ok]
    have pn := plays_ne V
    cases t : There m rs span dust with
    | true =>
      have : (lawPlays m rs span dust).isEmpty = false := by
        rw [List.isEmpty_eq_false_iff]; exact pn.mpr t
      rw [this]
      obtain ⟨j7, j9, j10, j12, e⟩ := kB_ok (some cn4) V t hb day hd
      exact ⟨j7, .non, j9, j10, j12, e⟩
    | false =>
      have : (lawPlays m rs span dust).isEmpty = true := by
        rw [List.isEmpty_iff]
        refine Decidable.byContradiction fun h => ?_
        have := pn.mp h
        rw [t] at this; cases this
      rw [this]
      obtain ⟨j7, j8, e⟩ := kA_ok (some cn4) V t day hd .non .non .non .non .non
      exact ⟨j7, j8, .non, .non, .non, e⟩
  obtain ⟨j7, j8, j9, j10, j12, e4⟩ := e4
  have e5 : execS (call tbl 30) k5 (kEnv m rs span dust day j7 j8 j9 j10 j12 .non .non) (some cn4) = .next (kEnv m rs span dust day j7 j8 j9 j10 j12 (.val (.list badCases)) .non) (some cn4) := by
    unfold k5
    simp [execS, evalE, evalEs, szL, assign, kEnv, badCases]
  obtain ⟨r, e6⟩ := kL_ok (some cn4) V day hd j7 j8 j9 j10 j12 .non
  refine ⟨r, some cn4, ?_⟩
  rw [b_law_eq, execB, e1, Res.next_andThen, execB, e2, Res.next_andThen, execB, e3, Res.next_andThen, execB, e4, Res.next_andThen, execB, e5, Res.next_andThen, execB, e6, Res.next_andThen, execB]
end Dk

set_option Elab.async false
set_option linter.all false
set_option maxRecDepth 100000
set_option maxHeartbeats 0
namespace Dk
open PySem PySem.Spec PyProof.Rows L2
abbrev lawRow : PySem.W.OpenLaw := PySem.Challenge.rw_dustkeys_k05_whole_surely_and_perhaps
def top (i : Nat) : Stmt := (PySem.W.OpenLaw.prog lawRow).main.body.getD i (.Pass ⟨0, 0, 0, 0⟩)
def dOf (x : PySem.Str) (i : Nat) : He.DefD := ⟨(x, none), x, x, defArgs (top i), defBody (top i), defScope (top i), [], []⟩
def forBody (st : Stmt) : List Stmt := match defBody st with
  | .For _ _ b _ _ :: _ => b
  | _ => []
def compSc (st : Stmt) : PySem.Scope := match defBody st with
  | [.Return (some (.ListComp _ _ sc _)) _] => sc
  | _ => defScope st
def fn : List He.DefD := [dOf "is_whole" 19, dOf "is_word" 20, dOf "rise" 21, dOf "are_keys" 22, dOf "is_board" 23, dOf "need_board" 24, dOf "are_reaches" 25, dOf "is_good_dust" 26, dOf "need_dust" 27, dOf "need_day" 28, dOf "keys_of" 29, dOf "lets" 30, dOf "touched" 32, dOf "all_barred" 33, dOf "is_there" 34, dOf "need_there" 36, dOf "parts_of" 37, dOf "count_covers" 39, dOf "need_reach" 41, dOf "need_asked" 42, dOf "may_on" 43, dOf "may_have" 44, dOf "sure_on" 45, dOf "surely" 46, dOf "sure_reaches" 47, dOf "days_of" 48, dOf "reach_text" 51, dOf "_law_drawn" 54, dOf "_law_roll" 55, dOf "_law_any_board" 59, dOf "_law_missing" 60, dOf "_law_any_day" 61, dOf "_law_any_play" 62, dOf "_law_left" 63, dOf "_law_any_dust" 64, dOf "_law_parts" 65, dOf "_law_is_right" 66, dOf "_law_plays" 67, dOf "_law_cell" 53, dOf "_law_rounds" 56, dOf "law" 68, dOf "_law_told" 58, dOf "_law_term" 57]
def fa : List He.Fa := ([.glo "is_whole", .glo "is_word", .glo "rise", .glo "are_keys", .glo "is_board", .glo "need_board", .glo "are_reaches", .glo "is_good_dust", .glo "need_dust", .glo "need_day", .glo "keys_of", .glo "lets", .glo "touched", .glo "all_barred", .glo "is_there", .glo "need_there", .glo "parts_of", .glo "count_covers", .glo "need_reach", .glo "need_asked", .glo "may_on", .glo "may_have", .glo "sure_on", .glo "surely", .glo "sure_reaches", .glo "days_of", .glo "reach_text", .glo "_law_drawn", .glo "_law_roll", .glo "_law_any_board"] : List He.Fa) ++ ([.glo "_law_missing", .glo "_law_any_day", .glo "_law_any_play", .glo "_law_left", .glo "_law_any_dust", .glo "_law_parts", .glo "_law_is_right", .glo "_law_plays", .glo "_law_cell", .glo "_law_rounds", .glo "law", .glo "_law_told", .glo "_law_term", .free "range", .free "enumerate", .free "zip", .free "len", .free "tuple", .free "list", .free "sorted", .free "sum", .free "all", .free "any", .free "abs", .free "int", .free "bool", .free "str", .free "min", .free "max", .free "isinstance"] : List He.Fa) ++ ([.free "ValueError", .str "SMALL" "abcdefghijklmnopqrstuvwxyz"] : List He.Fa)
def loose : List Str := (["DustError", "BadBoard", "BadNumber", "BadPlay", "BadDust", "BadDay", "BadReach", "BadLots", "BadLooks", "BadKey", "BadPart", "BadPlayers", "BadShares", "Nothing", "Full", "BadText", "SMALL", "is_whole", "is_word", "rise", "are_keys", "is_board", "need_board", "are_reaches", "is_good_dust", "need_dust", "need_day", "keys_of", "lets", "touched"] : List Str) ++ (["all_barred", "is_there", "need_there", "parts_of", "count_covers", "need_reach", "need_asked", "may_on", "may_have", "sure_on", "surely", "sure_reaches", "days_of", "one_text", "reach_text", "_law_cell", "_law_drawn", "_law_roll", "_law_rounds", "_law_term", "_law_told", "_law_any_board", "_law_missing", "_law_any_day", "_law_any_play", "_law_left", "_law_any_dust", "_law_parts", "_law_is_right", "_law_plays"] : List Str)
def lm : List Str := ["law"]
abbrev R : PySem.W.OpenRow := PySem.W.OpenLaw.row lawRow
abbrev hk : PySem.W.Hook := hookL 4 fa fn lm
def ob (s : PySem.W.SharedT) : AlL := obsLG 4 fa fn lm (HandSHeadRun.getT s)
theorem ob_eq (s : PySem.W.SharedT) : ob s = hk.obs s.abs := obsLG_eq (HandSHeadRun.getT_eq s)
theorem run (w : World) : HandSHeadRun.RunEq R (PySem.W.view R.prog [68]) hk ob 20000 loose w := by
  intro os
  kernel_rfl
def glTab : List (PySem.Str × GV) := [(("is_whole" : PySem.Str), GV.fn 1 false ["thing", "low", "high"]),
  (("is_word" : PySem.Str), GV.fn 2 false ["thing"]),
  (("rise" : PySem.Str), GV.fn 3 false ["rows"]),
  (("are_keys" : PySem.Str), GV.fn 4 false ["keys", "thing"]),
  (("is_board" : PySem.Str), GV.fn 5 false ["thing"]),
  (("need_board" : PySem.Str), GV.fn 6 false ["board", "span"]),
  (("are_reaches" : PySem.Str), GV.fn 7 false ["board", "thing"]),
  (("is_good_dust" : PySem.Str), GV.fn 11 false ["board", "span", "thing"]),
  (("need_dust" : PySem.Str), GV.fn 13 false ["board", "span", "dust"]),
  (("need_day" : PySem.Str), GV.fn 14 false ["span", "day"]),
  (("keys_of" : PySem.Str), GV.fn 17 false ["board", "span", "dust", "day"]),
  (("lets" : PySem.Str), GV.fn 18 false ["board", "span", "dust", "day"]),
  (("touched" : PySem.Str), GV.fn 20 false ["reaches"]),
  (("all_barred" : PySem.Str), GV.fn 21 false ["board", "span", "dust"]),
  (("is_there" : PySem.Str), GV.fn 22 false ["board", "span", "dust"]),
  (("need_there" : PySem.Str), GV.fn 24 false ["board", "span", "dust"]),
  (("parts_of" : PySem.Str), GV.fn 30 false ["keys"]),
  (("count_covers" : PySem.Str), GV.fn 33 false ["keys", "some"]),
  (("need_reach" : PySem.Str), GV.fn 51 false ["board", "reach"]),
  (("need_asked" : PySem.Str), GV.fn 52 false ["board", "span", "dust", "day", "reach"]),
  (("may_on" : PySem.Str), GV.fn 100 false ["board", "span", "dust", "day", "reach"]),
  (("may_have" : PySem.Str), GV.fn 101 false ["board", "span", "dust", "day", "reach"]),
  (("sure_on" : PySem.Str), GV.fn 53 false ["board", "span", "dust", "day", "reach"]),
  (("surely" : PySem.Str), GV.fn 54 false ["board", "span", "dust", "day", "reach"]),
  (("sure_reaches" : PySem.Str), GV.fn 80 false ["board", "span", "dust", "day"]),
  (("days_of" : PySem.Str), GV.fn 102 false ["board", "span", "dust", "reach"]),
  (("reach_text" : PySem.Str), GV.fn 103 false ["board", "reach"]),
  (("_law_drawn" : PySem.Str), GV.fn 62 false ["cell", "k"]),
  (("_law_roll" : PySem.Str), GV.fn 63 true ["dice", "many"]),
  (("_law_any_board" : PySem.Str), GV.fn 67 true ["dice", "size", "high"]),
  (("_law_missing" : PySem.Str), GV.fn 68 false ["board"]),
  (("_law_any_day" : PySem.Str), GV.fn 69 true ["dice", "board"]),
  (("_law_any_play" : PySem.Str), GV.fn 70 true ["dice", "board", "span"]),
  (("_law_left" : PySem.Str), GV.fn 71 false ["board", "play"]),
  (("_law_any_dust" : PySem.Str), GV.fn 81 true ["dice", "board", "span"]),
  (("_law_parts" : PySem.Str), GV.fn 82 false ["reaches"]),
  (("_law_is_right" : PySem.Str), GV.fn 83 false ["board", "dust", "age", "part"]),
  (("_law_plays" : PySem.Str), GV.fn 84 false ["board", "span", "dust"]),
  (("SMALL" : PySem.Str), GV.const (.str "abcdefghijklmnopqrstuvwxyz")),
  (("BadBoard" : PySem.Str), GV.exc 0),
  (("BadNumber" : PySem.Str), GV.exc 1),
  (("BadPlay" : PySem.Str), GV.exc 2),
  (("BadDust" : PySem.Str), GV.exc 3),
  (("BadDay" : PySem.Str), GV.exc 4),
  (("BadReach" : PySem.Str), GV.exc 5),
  (("BadLots" : PySem.Str), GV.exc 6),
  (("BadLooks" : PySem.Str), GV.exc 7),
  (("BadKey" : PySem.Str), GV.exc 8),
  (("BadPart" : PySem.Str), GV.exc 9),
  (("BadPlayers" : PySem.Str), GV.exc 10),
  (("BadShares" : PySem.Str), GV.exc 11),
  (("Nothing" : PySem.Str), GV.exc 12),
  (("Full" : PySem.Str), GV.exc 13),
  (("BadText" : PySem.Str), GV.exc 14),
  (("_law_told" : PySem.Str), GV.tell),
  (("one_text" : PySem.Str), GV.no)]
def gl : Gls := fun x => glTab.lookup x
def AllP {α : Type} (P : α → Prop) : List α → Prop
  | [] => True
  | a :: l => P a ∧ AllP P l
theorem AllP.of {α : Type} {P : α → Prop} : ∀ {l : List α}, AllP P l → ∀ a ∈ l, P a
  | _ :: _, h, a, m => by
    rcases List.mem_cons.mp m with rfl | m
    · exact h.1
    · exact AllP.of h.2 a m
theorem look_mem {β : Type} : ∀ {l : List (PySem.Str × β)} {x : PySem.Str} {b : β}, l.lookup x = some b → (x, b) ∈ l
  | (y, c) :: l, x, b, h => by
    rw [List.lookup_cons] at h
    cases e : x == y with
    | true => simp only [e] at h; cases h; rw [eq_of_beq e]; exact List.mem_cons_self ..
    | false => simp only [e] at h; exact List.mem_cons_of_mem _ (look_mem h)
theorem cp_is_whole : compSs gl ["thing", "low", "high"] [] 100 (defScope (top 19)) (defBody (top 19)) = some fd_is_whole.body := by kernel_rfl
theorem cp_is_word : compSs gl ["thing", "sign"] [] 100 (defScope (top 20)) (defBody (top 20)) = some fd_is_word.body := by kernel_rfl
theorem cp_rise : compSs gl ["rows", "one", "other"] [] 100 (defScope (top 21)) (defBody (top 21)) = some fd_rise.body := by kernel_rfl
theorem cp_are_keys : compSs gl ["keys", "thing", "one"] [] 100 (defScope (top 22)) (defBody (top 22)) = some fd_are_keys.body := by kernel_rfl
theorem cp_is_board : compSs gl ["thing", "keys", "reaches", "one"] [] 100 (defScope (top 23)) (defBody (top 23)) = some fd_is_board.body := by kernel_rfl
theorem cp_need_board : compSs gl ["board", "span"] [] 100 (defScope (top 24)) (defBody (top 24)) = some fd_need_board.body := by kernel_rfl
theorem cp_are_reaches : compSs gl ["board", "thing", "one"] [] 100 (defScope (top 25)) (defBody (top 25)) = some fd_are_reaches.body := by kernel_rfl
theorem cp_is_good_dust : compSs gl ["board", "span", "thing", "one"] [] 100 (defScope (top 26)) (defBody (top 26)) = some fd_is_good_dust.body := by kernel_rfl
theorem cp_need_dust : compSs gl ["board", "span", "dust"] [] 100 (defScope (top 27)) (defBody (top 27)) = some fd_need_dust.body := by kernel_rfl
theorem cp_need_day : compSs gl ["span", "day"] [] 100 (defScope (top 28)) (defBody (top 28)) = some fd_need_day.body := by kernel_rfl
theorem cp_keys_of : compSs gl ["board", "span", "dust", "day", "key", "many"] [] 100 (defScope (top 29)) (defBody (top 29)) = some fd_keys_of.body := by kernel_rfl
theorem cp_lets : compSs gl ["board", "span", "dust", "day", "good", "key", "many", "reach"] [] 100 (defScope (top 30)) (defBody (top 30)) = some fd_lets.body := by kernel_rfl
theorem cp_touched : compSs gl ["reaches", "reach", "key"] [] 100 (defScope (top 32)) (defBody (top 32)) = some fd_touched.body := by kernel_rfl
theorem cp_all_barred : compSs gl ["board", "span", "dust", "found", "day", "some", "key"] [] 100 (defScope (top 33)) (defBody (top 33)) = some fd_all_barred.body := by kernel_rfl
theorem cp_is_there : compSs gl ["board", "span", "dust"] [] 100 (defScope (top 34)) (defBody (top 34)) = some fd_is_there.body := by kernel_rfl
theorem cp_need_there : compSs gl ["board", "span", "dust"] [] 100 (defScope (top 36)) (defBody (top 36)) = some fd_need_there.body := by kernel_rfl
theorem cp_parts_of : compSs gl ["keys", "found", "key", "part"] [] 100 (defScope (top 37)) (defBody (top 37)) = some fd_parts_of.body := by kernel_rfl
theorem cp_count_covers : compSs gl ["keys", "some", "total", "part", "free", "reach", "key"] [] 100 (defScope (top 39)) (defBody (top 39)) = some fd_count_covers.body := by kernel_rfl
theorem cp_need_reach : compSs gl ["board", "reach"] [] 100 (defScope (top 41)) (defBody (top 41)) = some fd_need_reach.body := by kernel_rfl
theorem cp_need_asked : compSs gl ["board", "span", "dust", "day", "reach"] [] 100 (defScope (top 42)) (defBody (top 42)) = some fd_need_asked.body := by kernel_rfl
theorem cp_may_on : compSs gl ["board", "span", "dust", "day", "reach"] [] 100 (defScope (top 43)) (defBody (top 43)) = some fd_may_on.body := by kernel_rfl
theorem cp_may_have : compSs gl ["board", "span", "dust", "day", "reach"] [] 100 (defScope (top 44)) (defBody (top 44)) = some fd_may_have.body := by kernel_rfl
theorem cp_sure_on : compSs gl ["board", "span", "dust", "day", "reach", "some", "one"] [] 100 (defScope (top 45)) (defBody (top 45)) = some fd_sure_on.body := by kernel_rfl
theorem cp_surely : compSs gl ["board", "span", "dust", "day", "reach"] [] 100 (defScope (top 46)) (defBody (top 46)) = some fd_surely.body := by kernel_rfl
theorem cp_sure_reaches : compSs gl ["board", "span", "dust", "day", "reach"] [] 100 (defScope (top 47)) (defBody (top 47)) = some fd_sure_reaches.body := by kernel_rfl
theorem cp_days_of : compSs gl ["board", "span", "dust", "reach", "day"] [] 100 (defScope (top 48)) (defBody (top 48)) = some fd_days_of.body := by kernel_rfl
theorem cp_reach_text : compSs gl ["board", "reach"] [] 100 (defScope (top 51)) (defBody (top 51)) = some fd_reach_text.body := by kernel_rfl
theorem cp_law_drawn : compSs gl ["cell", "k", "more"] [] 100 (defScope (top 54)) (defBody (top 54)) = some fd_law_drawn.body := by kernel_rfl
theorem cp_law_roll : compSs gl ["dice", "many", "told"] [] 100 (defScope (top 55)) (defBody (top 55)) = some fd_law_roll.body := by kernel_rfl
theorem cp_law_any_board : compSs gl ["dice", "size", "high", "keys", "some", "key", "at", "one", "other", "reaches", "turn"] [4, 9] 100 (defScope (top 59)) (defBody (top 59)) = some fd_law_any_board.body := by kernel_rfl
theorem cp_law_missing : compSs gl ["board", "some", "key", "at", "one", "other", "reach"] [] 100 (defScope (top 60)) (defBody (top 60)) = some fd_law_missing.body := by kernel_rfl
theorem cp_law_any_day : compSs gl ["dice", "board", "reach"] [] 100 (defScope (top 61)) (defBody (top 61)) = some fd_law_any_day.body := by kernel_rfl
theorem cp_law_any_play : compSs gl ["dice", "board", "span", "day"] [] 100 (defScope (top 62)) (defBody (top 62)) = some fd_law_any_play.body := by kernel_rfl
theorem cp_law_left : compSs gl ["board", "play", "found", "key", "many", "day", "reaches", "reach"] [2] 100 (defScope (top 63)) (defBody (top 63)) = some fd_law_left.body := by kernel_rfl
theorem cp_law_any_dust : compSs gl ["dice", "board", "span", "dust", "at"] [] 100 (defScope (top 64)) (defBody (top 64)) = some fd_law_any_dust.body := by kernel_rfl
theorem cp_law_parts : compSs gl ["reaches", "found", "reach", "part"] [] 100 (defScope (top 65)) (defBody (top 65)) = some fd_law_parts.body := by kernel_rfl
theorem cp_law_is_right : compSs gl ["board", "dust", "age", "part", "keys", "reach", "key", "many"] [] 100 (defScope (top 66)) (defBody (top 66)) = some fd_law_is_right.body := by kernel_rfl
theorem cp_law_plays : compSs gl ["board", "span", "dust", "rows", "day", "longer", "age", "part", "row"] [] 100 (defScope (top 67)) (defBody (top 67)) = some fd_law_plays.body := by kernel_rfl
theorem cp_law : compSs gl ["script", "dice", "board", "span", "dust", "every", "day", "reach", "made", "sure_ones", "marks", "play", "days", "at", "cases", "bad"] [8] 100 (defScope (top 68)) (forBody (top 68)) = some b_law := by kernel_rfl
theorem sc_is_whole : FnScope ["thing", "low", "high"] ["thing", "low", "high"] (defScope (top 19)) := ⟨by kernel_rfl, by kernel_rfl, by kernel_rfl, by decide +kernel, by decide +kernel, by decide +kernel, by decide +kernel⟩
theorem sc_is_word : FnScope ["thing", "sign"] ["thing"] (defScope (top 20)) := ⟨by kernel_rfl, by kernel_rfl, by kernel_rfl, by decide +kernel, by decide +kernel, by decide +kernel, by decide +kernel⟩
theorem sc_rise : FnScope ["rows", "one", "other"] ["rows"] (defScope (top 21)) := ⟨by kernel_rfl, by kernel_rfl, by kernel_rfl, by decide +kernel, by decide +kernel, by decide +kernel, by decide +kernel⟩
theorem sc_are_keys : FnScope ["keys", "thing", "one"] ["keys", "thing"] (defScope (top 22)) := ⟨by kernel_rfl, by kernel_rfl, by kernel_rfl, by decide +kernel, by decide +kernel, by decide +kernel, by decide +kernel⟩
theorem sc_is_board : FnScope ["thing", "keys", "reaches", "one"] ["thing"] (defScope (top 23)) := ⟨by kernel_rfl, by kernel_rfl, by kernel_rfl, by decide +kernel, by decide +kernel, by decide +kernel, by decide +kernel⟩
theorem sc_need_board : FnScope ["board", "span"] ["board", "span"] (defScope (top 24)) := ⟨by kernel_rfl, by kernel_rfl, by kernel_rfl, by decide +kernel, by decide +kernel, by decide +kernel, by decide +kernel⟩
theorem sc_are_reaches : FnScope ["board", "thing", "one"] ["board", "thing"] (defScope (top 25)) := ⟨by kernel_rfl, by kernel_rfl, by kernel_rfl, by decide +kernel, by decide +kernel, by decide +kernel, by decide +kernel⟩
theorem sc_is_good_dust : FnScope ["board", "span", "thing", "one"] ["board", "span", "thing"] (defScope (top 26)) := ⟨by kernel_rfl, by kernel_rfl, by kernel_rfl, by decide +kernel, by decide +kernel, by decide +kernel, by decide +kernel⟩
theorem sc_need_dust : FnScope ["board", "span", "dust"] ["board", "span", "dust"] (defScope (top 27)) := ⟨by kernel_rfl, by kernel_rfl, by kernel_rfl, by decide +kernel, by decide +kernel, by decide +kernel, by decide +kernel⟩
theorem sc_need_day : FnScope ["span", "day"] ["span", "day"] (defScope (top 28)) := ⟨by kernel_rfl, by kernel_rfl, by kernel_rfl, by decide +kernel, by decide +kernel, by decide +kernel, by decide +kernel⟩
theorem sc_keys_of : FnScope ["board", "span", "dust", "day", "key", "many"] ["board", "span", "dust", "day"] (defScope (top 29)) := ⟨by kernel_rfl, by kernel_rfl, by kernel_rfl, by decide +kernel, by decide +kernel, by decide +kernel, by decide +kernel⟩
theorem sc_lets : FnScope ["board", "span", "dust", "day", "good", "key", "many", "reach"] ["board", "span", "dust", "day"] (defScope (top 30)) := ⟨by kernel_rfl, by kernel_rfl, by kernel_rfl, by decide +kernel, by decide +kernel, by decide +kernel, by decide +kernel⟩
theorem sc_touched : FnScope ["reaches", "reach", "key"] ["reaches"] (defScope (top 32)) := ⟨by kernel_rfl, by kernel_rfl, by kernel_rfl, by decide +kernel, by decide +kernel, by decide +kernel, by decide +kernel⟩
theorem sc_all_barred : FnScope ["board", "span", "dust", "found", "day", "some", "key"] ["board", "span", "dust"] (defScope (top 33)) := ⟨by kernel_rfl, by kernel_rfl, by kernel_rfl, by decide +kernel, by decide +kernel, by decide +kernel, by decide +kernel⟩
theorem sc_is_there : FnScope ["board", "span", "dust"] ["board", "span", "dust"] (defScope (top 34)) := ⟨by kernel_rfl, by kernel_rfl, by kernel_rfl, by decide +kernel, by decide +kernel, by decide +kernel, by decide +kernel⟩
theorem sc_need_there : FnScope ["board", "span", "dust"] ["board", "span", "dust"] (defScope (top 36)) := ⟨by kernel_rfl, by kernel_rfl, by kernel_rfl, by decide +kernel, by decide +kernel, by decide +kernel, by decide +kernel⟩
theorem sc_parts_of : FnScope ["keys", "found", "key", "part"] ["keys"] (defScope (top 37)) := ⟨by kernel_rfl, by kernel_rfl, by kernel_rfl, by decide +kernel, by decide +kernel, by decide +kernel, by decide +kernel⟩
theorem sc_count_covers : FnScope ["keys", "some", "total", "part", "free", "reach", "key"] ["keys", "some"] (defScope (top 39)) := ⟨by kernel_rfl, by kernel_rfl, by kernel_rfl, by decide +kernel, by decide +kernel, by decide +kernel, by decide +kernel⟩
theorem sc_need_reach : FnScope ["board", "reach"] ["board", "reach"] (defScope (top 41)) := ⟨by kernel_rfl, by kernel_rfl, by kernel_rfl, by decide +kernel, by decide +kernel, by decide +kernel, by decide +kernel⟩
theorem sc_need_asked : FnScope ["board", "span", "dust", "day", "reach"] ["board", "span", "dust", "day", "reach"] (defScope (top 42)) := ⟨by kernel_rfl, by kernel_rfl, by kernel_rfl, by decide +kernel, by decide +kernel, by decide +kernel, by decide +kernel⟩
theorem sc_may_on : FnScope ["board", "span", "dust", "day", "reach"] ["board", "span", "dust", "day", "reach"] (defScope (top 43)) := ⟨by kernel_rfl, by kernel_rfl, by kernel_rfl, by decide +kernel, by decide +kernel, by decide +kernel, by decide +kernel⟩
theorem sc_may_have : FnScope ["board", "span", "dust", "day", "reach"] ["board", "span", "dust", "day", "reach"] (defScope (top 44)) := ⟨by kernel_rfl, by kernel_rfl, by kernel_rfl, by decide +kernel, by decide +kernel, by decide +kernel, by decide +kernel⟩
theorem sc_sure_on : FnScope ["board", "span", "dust", "day", "reach", "some", "one"] ["board", "span", "dust", "day", "reach"] (defScope (top 45)) := ⟨by kernel_rfl, by kernel_rfl, by kernel_rfl, by decide +kernel, by decide +kernel, by decide +kernel, by decide +kernel⟩
theorem sc_surely : FnScope ["board", "span", "dust", "day", "reach"] ["board", "span", "dust", "day", "reach"] (defScope (top 46)) := ⟨by kernel_rfl, by kernel_rfl, by kernel_rfl, by decide +kernel, by decide +kernel, by decide +kernel, by decide +kernel⟩
theorem sc_sure_reaches : FnScope ["board", "span", "dust", "day", "reach"] ["board", "span", "dust", "day"] (defScope (top 47)) := ⟨by kernel_rfl, by kernel_rfl, by kernel_rfl, by decide +kernel, by decide +kernel, by decide +kernel, by decide +kernel⟩
theorem sc_days_of : FnScope ["board", "span", "dust", "reach", "day"] ["board", "span", "dust", "reach"] (defScope (top 48)) := ⟨by kernel_rfl, by kernel_rfl, by kernel_rfl, by decide +kernel, by decide +kernel, by decide +kernel, by decide +kernel⟩
theorem sc_reach_text : FnScope ["board", "reach"] ["board", "reach"] (defScope (top 51)) := ⟨by kernel_rfl, by kernel_rfl, by kernel_rfl, by decide +kernel, by decide +kernel, by decide +kernel, by decide +kernel⟩
theorem sc_law_drawn : FnScope ["cell", "k", "more"] ["cell", "k"] (defScope (top 54)) := ⟨by kernel_rfl, by kernel_rfl, by kernel_rfl, by decide +kernel, by decide +kernel, by decide +kernel, by decide +kernel⟩
theorem sc_law_roll : FnScope ["dice", "many", "told"] ["dice", "many"] (defScope (top 55)) := ⟨by kernel_rfl, by kernel_rfl, by kernel_rfl, by decide +kernel, by decide +kernel, by decide +kernel, by decide +kernel⟩
theorem sc_law_any_board : FnScope ["dice", "size", "high", "keys", "some", "key", "at", "one", "other", "reaches", "turn"] ["dice", "size", "high"] (defScope (top 59)) := ⟨by kernel_rfl, by kernel_rfl, by kernel_rfl, by decide +kernel, by decide +kernel, by decide +kernel, by decide +kernel⟩
theorem sc_law_missing : FnScope ["board", "some", "key", "at", "one", "other", "reach"] ["board"] (defScope (top 60)) := ⟨by kernel_rfl, by kernel_rfl, by kernel_rfl, by decide +kernel, by decide +kernel, by decide +kernel, by decide +kernel⟩
theorem sc_law_any_day : FnScope ["dice", "board", "reach"] ["dice", "board"] (defScope (top 61)) := ⟨by kernel_rfl, by kernel_rfl, by kernel_rfl, by decide +kernel, by decide +kernel, by decide +kernel, by decide +kernel⟩
theorem sc_law_any_play : FnScope ["dice", "board", "span", "day"] ["dice", "board", "span"] (defScope (top 62)) := ⟨by kernel_rfl, by kernel_rfl, by kernel_rfl, by decide +kernel, by decide +kernel, by decide +kernel, by decide +kernel⟩
theorem sc_law_left : FnScope ["board", "play", "found", "key", "many", "day", "reaches", "reach"] ["board", "play"] (defScope (top 63)) := ⟨by kernel_rfl, by kernel_rfl, by kernel_rfl, by decide +kernel, by decide +kernel, by decide +kernel, by decide +kernel⟩
theorem sc_law_any_dust : FnScope ["dice", "board", "span", "dust", "at"] ["dice", "board", "span"] (defScope (top 64)) := ⟨by kernel_rfl, by kernel_rfl, by kernel_rfl, by decide +kernel, by decide +kernel, by decide +kernel, by decide +kernel⟩
theorem sc_law_parts : FnScope ["reaches", "found", "reach", "part"] ["reaches"] (defScope (top 65)) := ⟨by kernel_rfl, by kernel_rfl, by kernel_rfl, by decide +kernel, by decide +kernel, by decide +kernel, by decide +kernel⟩
theorem sc_law_is_right : FnScope ["board", "dust", "age", "part", "keys", "reach", "key", "many"] ["board", "dust", "age", "part"] (defScope (top 66)) := ⟨by kernel_rfl, by kernel_rfl, by kernel_rfl, by decide +kernel, by decide +kernel, by decide +kernel, by decide +kernel⟩
theorem sc_law_plays : FnScope ["board", "span", "dust", "rows", "day", "longer", "age", "part", "row"] ["board", "span", "dust"] (defScope (top 67)) := ⟨by kernel_rfl, by kernel_rfl, by kernel_rfl, by decide +kernel, by decide +kernel, by decide +kernel, by decide +kernel⟩
theorem sc_law : FnScope ["script", "dice", "board", "span", "dust", "every", "day", "reach", "made", "sure_ones", "marks", "play", "days", "at", "cases", "bad"] ["script"] (defScope (top 68)) := ⟨by kernel_rfl, by kernel_rfl, by kernel_rfl, by decide +kernel, by decide +kernel, by decide +kernel, by decide +kernel⟩
theorem roundsSc : RoundsSc (defScope (top 56)) (compSc (top 56)) := ⟨⟨by kernel_rfl, by kernel_rfl, by kernel_rfl, by decide +kernel, by decide +kernel, by decide +kernel, by decide +kernel⟩, by decide +kernel, by decide +kernel, .inr (.inl (by decide +kernel)), by decide +kernel, by decide +kernel⟩
section
variable [TabEnv] {P : Program} {w : World} {K : Fr} {mg : PySem.Str → Option Value} {base h : Heap}
theorem ok_is_whole (hT : TabEnv.tabs = tabsL K lm) (G : h.Ns mainGlobals mg) (c : SaysL fa fn lm h K) (TB : ∀ p ∈ csL K lm, LamX.TabB base mg p.1 p.2) : DefOk gl tbl P w K mg base "is_whole" 1 false ["thing", "low", "high"] := by
  obtain ⟨fd, F⟩ := c.d.def_ 0 (d := dOf "is_whole" 19) rfl
  exact ⟨_, fd, _, _, _, _, _, _, ["thing", "low", "high"], [], 100, fd_is_whole.body, He.glo_ok c.inn G (c.d.fact 0 (f := .glo "is_whole") rfl), F.kp, F.bindsN (fun _ _ _ _ _ _ us hl => match us, hl with | [_, _, _], _ => rfl), F, sc_is_whole, cp_is_whole, rfl, by decide +kernel, fun z => absurd z (by decide +kernel)⟩
theorem ok_is_word (hT : TabEnv.tabs = tabsL K lm) (G : h.Ns mainGlobals mg) (c : SaysL fa fn lm h K) (TB : ∀ p ∈ csL K lm, LamX.TabB base mg p.1 p.2) : DefOk gl tbl P w K mg base "is_word" 2 false ["thing"] := by
  obtain ⟨fd, F⟩ := c.d.def_ 1 (d := dOf "is_word" 20) rfl
  exact ⟨_, fd, _, _, _, _, _, _, ["thing", "sign"], [], 100, fd_is_word.body, He.glo_ok c.inn G (c.d.fact 1 (f := .glo "is_word") rfl), F.kp, F.bindsN (fun _ _ _ _ _ _ us hl => match us, hl with | [_], _ => rfl), F, sc_is_word, cp_is_word, rfl, by decide +kernel, fun z => absurd z (by decide +kernel)⟩
theorem ok_rise (hT : TabEnv.tabs = tabsL K lm) (G : h.Ns mainGlobals mg) (c : SaysL fa fn lm h K) (TB : ∀ p ∈ csL K lm, LamX.TabB base mg p.1 p.2) : DefOk gl tbl P w K mg base "rise" 3 false ["rows"] := by
  obtain ⟨fd, F⟩ := c.d.def_ 2 (d := dOf "rise" 21) rfl
  exact ⟨_, fd, _, _, _, _, _, _, ["rows", "one", "other"], [], 100, fd_rise.body, He.glo_ok c.inn G (c.d.fact 2 (f := .glo "rise") rfl), F.kp, F.bindsN (fun _ _ _ _ _ _ us hl => match us, hl with | [_], _ => rfl), F, sc_rise, cp_rise, rfl, by decide +kernel, fun z => absurd z (by decide +kernel)⟩
theorem ok_are_keys (hT : TabEnv.tabs = tabsL K lm) (G : h.Ns mainGlobals mg) (c : SaysL fa fn lm h K) (TB : ∀ p ∈ csL K lm, LamX.TabB base mg p.1 p.2) : DefOk gl tbl P w K mg base "are_keys" 4 false ["keys", "thing"] := by
  obtain ⟨fd, F⟩ := c.d.def_ 3 (d := dOf "are_keys" 22) rfl
  exact ⟨_, fd, _, _, _, _, _, _, ["keys", "thing", "one"], [], 100, fd_are_keys.body, He.glo_ok c.inn G (c.d.fact 3 (f := .glo "are_keys") rfl), F.kp, F.bindsN (fun _ _ _ _ _ _ us hl => match us, hl with | [_, _], _ => rfl), F, sc_are_keys, cp_are_keys, rfl, by decide +kernel, fun z => absurd z (by decide +kernel)⟩
theorem ok_is_board (hT : TabEnv.tabs = tabsL K lm) (G : h.Ns mainGlobals mg) (c : SaysL fa fn lm h K) (TB : ∀ p ∈ csL K lm, LamX.TabB base mg p.1 p.2) : DefOk gl tbl P w K mg base "is_board" 5 false ["thing"] := by
  obtain ⟨fd, F⟩ := c.d.def_ 4 (d := dOf "is_board" 23) rfl
  exact ⟨_, fd, _, _, _, _, _, _, ["thing", "keys", "reaches", "one"], [], 100, fd_is_board.body, He.glo_ok c.inn G (c.d.fact 4 (f := .glo "is_board") rfl), F.kp, F.bindsN (fun _ _ _ _ _ _ us hl => match us, hl with | [_], _ => rfl), F, sc_is_board, cp_is_board, rfl, by decide +kernel, fun z => absurd z (by decide +kernel)⟩
theorem ok_need_board (hT : TabEnv.tabs = tabsL K lm) (G : h.Ns mainGlobals mg) (c : SaysL fa fn lm h K) (TB : ∀ p ∈ csL K lm, LamX.TabB base mg p.1 p.2) : DefOk gl tbl P w K mg base "need_board" 6 false ["board", "span"] := by
  obtain ⟨fd, F⟩ := c.d.def_ 5 (d := dOf "need_board" 24) rfl
  exact ⟨_, fd, _, _, _, _, _, _, ["board", "span"], [], 100, fd_need_board.body, He.glo_ok c.inn G (c.d.fact 5 (f := .glo "need_board") rfl), F.kp, F.bindsN (fun _ _ _ _ _ _ us hl => match us, hl with | [_, _], _ => rfl), F, sc_need_board, cp_need_board, rfl, by decide +kernel, fun z => absurd z (by decide +kernel)⟩
theorem ok_are_reaches (hT : TabEnv.tabs = tabsL K lm) (G : h.Ns mainGlobals mg) (c : SaysL fa fn lm h K) (TB : ∀ p ∈ csL K lm, LamX.TabB base mg p.1 p.2) : DefOk gl tbl P w K mg base "are_reaches" 7 false ["board", "thing"] := by
  obtain ⟨fd, F⟩ := c.d.def_ 6 (d := dOf "are_reaches" 25) rfl
  exact ⟨_, fd, _, _, _, _, _, _, ["board", "thing", "one"], [], 100, fd_are_reaches.body, He.glo_ok c.inn G (c.d.fact 6 (f := .glo "are_reaches") rfl), F.kp, F.bindsN (fun _ _ _ _ _ _ us hl => match us, hl with | [_, _], _ => rfl), F, sc_are_reaches, cp_are_reaches, rfl, by decide +kernel, fun z => absurd z (by decide +kernel)⟩
theorem ok_is_good_dust (hT : TabEnv.tabs = tabsL K lm) (G : h.Ns mainGlobals mg) (c : SaysL fa fn lm h K) (TB : ∀ p ∈ csL K lm, LamX.TabB base mg p.1 p.2) : DefOk gl tbl P w K mg base "is_good_dust" 11 false ["board", "span", "thing"] := by
  obtain ⟨fd, F⟩ := c.d.def_ 7 (d := dOf "is_good_dust" 26) rfl
  exact ⟨_, fd, _, _, _, _, _, _, ["board", "span", "thing", "one"], [], 100, fd_is_good_dust.body, He.glo_ok c.inn G (c.d.fact 7 (f := .glo "is_good_dust") rfl), F.kp, F.bindsN (fun _ _ _ _ _ _ us hl => match us, hl with | [_, _, _], _ => rfl), F, sc_is_good_dust, cp_is_good_dust, rfl, by decide +kernel, fun z => absurd z (by decide +kernel)⟩
theorem ok_need_dust (hT : TabEnv.tabs = tabsL K lm) (G : h.Ns mainGlobals mg) (c : SaysL fa fn lm h K) (TB : ∀ p ∈ csL K lm, LamX.TabB base mg p.1 p.2) : DefOk gl tbl P w K mg base "need_dust" 13 false ["board", "span", "dust"] := by
  obtain ⟨fd, F⟩ := c.d.def_ 8 (d := dOf "need_dust" 27) rfl
  exact ⟨_, fd, _, _, _, _, _, _, ["board", "span", "dust"], [], 100, fd_need_dust.body, He.glo_ok c.inn G (c.d.fact 8 (f := .glo "need_dust") rfl), F.kp, F.bindsN (fun _ _ _ _ _ _ us hl => match us, hl with | [_, _, _], _ => rfl), F, sc_need_dust, cp_need_dust, rfl, by decide +kernel, fun z => absurd z (by decide +kernel)⟩
theorem ok_need_day (hT : TabEnv.tabs = tabsL K lm) (G : h.Ns mainGlobals mg) (c : SaysL fa fn lm h K) (TB : ∀ p ∈ csL K lm, LamX.TabB base mg p.1 p.2) : DefOk gl tbl P w K mg base "need_day" 14 false ["span", "day"] := by
  obtain ⟨fd, F⟩ := c.d.def_ 9 (d := dOf "need_day" 28) rfl
  exact ⟨_, fd, _, _, _, _, _, _, ["span", "day"], [], 100, fd_need_day.body, He.glo_ok c.inn G (c.d.fact 9 (f := .glo "need_day") rfl), F.kp, F.bindsN (fun _ _ _ _ _ _ us hl => match us, hl with | [_, _], _ => rfl), F, sc_need_day, cp_need_day, rfl, by decide +kernel, fun z => absurd z (by decide +kernel)⟩
theorem ok_keys_of (hT : TabEnv.tabs = tabsL K lm) (G : h.Ns mainGlobals mg) (c : SaysL fa fn lm h K) (TB : ∀ p ∈ csL K lm, LamX.TabB base mg p.1 p.2) : DefOk gl tbl P w K mg base "keys_of" 17 false ["board", "span", "dust", "day"] := by
  obtain ⟨fd, F⟩ := c.d.def_ 10 (d := dOf "keys_of" 29) rfl
  exact ⟨_, fd, _, _, _, _, _, _, ["board", "span", "dust", "day", "key", "many"], [], 100, fd_keys_of.body, He.glo_ok c.inn G (c.d.fact 10 (f := .glo "keys_of") rfl), F.kp, F.bindsN (fun _ _ _ _ _ _ us hl => match us, hl with | [_, _, _, _], _ => rfl), F, sc_keys_of, cp_keys_of, rfl, by decide +kernel, fun z => absurd z (by decide +kernel)⟩
theorem ok_lets (hT : TabEnv.tabs = tabsL K lm) (G : h.Ns mainGlobals mg) (c : SaysL fa fn lm h K) (TB : ∀ p ∈ csL K lm, LamX.TabB base mg p.1 p.2) : DefOk gl tbl P w K mg base "lets" 18 false ["board", "span", "dust", "day"] := by
  obtain ⟨fd, F⟩ := c.d.def_ 11 (d := dOf "lets" 30) rfl
  exact ⟨_, fd, _, _, _, _, _, _, ["board", "span", "dust", "day", "good", "key", "many", "reach"], [], 100, fd_lets.body, He.glo_ok c.inn G (c.d.fact 11 (f := .glo "lets") rfl), F.kp, F.bindsN (fun _ _ _ _ _ _ us hl => match us, hl with | [_, _, _, _], _ => rfl), F, sc_lets, cp_lets, rfl, by decide +kernel, fun z => absurd z (by decide +kernel)⟩
theorem ok_touched (hT : TabEnv.tabs = tabsL K lm) (G : h.Ns mainGlobals mg) (c : SaysL fa fn lm h K) (TB : ∀ p ∈ csL K lm, LamX.TabB base mg p.1 p.2) : DefOk gl tbl P w K mg base "touched" 20 false ["reaches"] := by
  obtain ⟨fd, F⟩ := c.d.def_ 12 (d := dOf "touched" 32) rfl
  exact ⟨_, fd, _, _, _, _, _, _, ["reaches", "reach", "key"], [], 100, fd_touched.body, He.glo_ok c.inn G (c.d.fact 12 (f := .glo "touched") rfl), F.kp, F.bindsN (fun _ _ _ _ _ _ us hl => match us, hl with | [_], _ => rfl), F, sc_touched, cp_touched, rfl, by decide +kernel, fun z => absurd z (by decide +kernel)⟩
theorem ok_all_barred (hT : TabEnv.tabs = tabsL K lm) (G : h.Ns mainGlobals mg) (c : SaysL fa fn lm h K) (TB : ∀ p ∈ csL K lm, LamX.TabB base mg p.1 p.2) : DefOk gl tbl P w K mg base "all_barred" 21 false ["board", "span", "dust"] := by
  obtain ⟨fd, F⟩ := c.d.def_ 13 (d := dOf "all_barred" 33) rfl
  exact ⟨_, fd, _, _, _, _, _, _, ["board", "span", "dust", "found", "day", "some", "key"], [], 100, fd_all_barred.body, He.glo_ok c.inn G (c.d.fact 13 (f := .glo "all_barred") rfl), F.kp, F.bindsN (fun _ _ _ _ _ _ us hl => match us, hl with | [_, _, _], _ => rfl), F, sc_all_barred, cp_all_barred, rfl, by decide +kernel, fun z => absurd z (by decide +kernel)⟩
theorem ok_is_there (hT : TabEnv.tabs = tabsL K lm) (G : h.Ns mainGlobals mg) (c : SaysL fa fn lm h K) (TB : ∀ p ∈ csL K lm, LamX.TabB base mg p.1 p.2) : DefOk gl tbl P w K mg base "is_there" 22 false ["board", "span", "dust"] := by
  obtain ⟨fd, F⟩ := c.d.def_ 14 (d := dOf "is_there" 34) rfl
  exact ⟨_, fd, _, _, _, _, _, _, ["board", "span", "dust"], [], 100, fd_is_there.body, He.glo_ok c.inn G (c.d.fact 14 (f := .glo "is_there") rfl), F.kp, F.bindsN (fun _ _ _ _ _ _ us hl => match us, hl with | [_, _, _], _ => rfl), F, sc_is_there, cp_is_there, rfl, by decide +kernel, fun z => absurd z (by decide +kernel)⟩
theorem ok_need_there (hT : TabEnv.tabs = tabsL K lm) (G : h.Ns mainGlobals mg) (c : SaysL fa fn lm h K) (TB : ∀ p ∈ csL K lm, LamX.TabB base mg p.1 p.2) : DefOk gl tbl P w K mg base "need_there" 24 false ["board", "span", "dust"] := by
  obtain ⟨fd, F⟩ := c.d.def_ 15 (d := dOf "need_there" 36) rfl
  exact ⟨_, fd, _, _, _, _, _, _, ["board", "span", "dust"], [], 100, fd_need_there.body, He.glo_ok c.inn G (c.d.fact 15 (f := .glo "need_there") rfl), F.kp, F.bindsN (fun _ _ _ _ _ _ us hl => match us, hl with | [_, _, _], _ => rfl), F, sc_need_there, cp_need_there, rfl, by decide +kernel, fun z => absurd z (by decide +kernel)⟩
theorem ok_parts_of (hT : TabEnv.tabs = tabsL K lm) (G : h.Ns mainGlobals mg) (c : SaysL fa fn lm h K) (TB : ∀ p ∈ csL K lm, LamX.TabB base mg p.1 p.2) : DefOk gl tbl P w K mg base "parts_of" 30 false ["keys"] := by
  obtain ⟨fd, F⟩ := c.d.def_ 16 (d := dOf "parts_of" 37) rfl
  exact ⟨_, fd, _, _, _, _, _, _, ["keys", "found", "key", "part"], [], 100, fd_parts_of.body, He.glo_ok c.inn G (c.d.fact 16 (f := .glo "parts_of") rfl), F.kp, F.bindsN (fun _ _ _ _ _ _ us hl => match us, hl with | [_], _ => rfl), F, sc_parts_of, cp_parts_of, rfl, by decide +kernel, fun z => absurd z (by decide +kernel)⟩
theorem ok_count_covers (hT : TabEnv.tabs = tabsL K lm) (G : h.Ns mainGlobals mg) (c : SaysL fa fn lm h K) (TB : ∀ p ∈ csL K lm, LamX.TabB base mg p.1 p.2) : DefOk gl tbl P w K mg base "count_covers" 33 false ["keys", "some"] := by
  obtain ⟨fd, F⟩ := c.d.def_ 17 (d := dOf "count_covers" 39) rfl
  exact ⟨_, fd, _, _, _, _, _, _, ["keys", "some", "total", "part", "free", "reach", "key"], [], 100, fd_count_covers.body, He.glo_ok c.inn G (c.d.fact 17 (f := .glo "count_covers") rfl), F.kp, F.bindsN (fun _ _ _ _ _ _ us hl => match us, hl with | [_, _], _ => rfl), F, sc_count_covers, cp_count_covers, rfl, by decide +kernel, fun z => absurd z (by decide +kernel)⟩
theorem ok_need_reach (hT : TabEnv.tabs = tabsL K lm) (G : h.Ns mainGlobals mg) (c : SaysL fa fn lm h K) (TB : ∀ p ∈ csL K lm, LamX.TabB base mg p.1 p.2) : DefOk gl tbl P w K mg base "need_reach" 51 false ["board", "reach"] := by
  obtain ⟨fd, F⟩ := c.d.def_ 18 (d := dOf "need_reach" 41) rfl
  exact ⟨_, fd, _, _, _, _, _, _, ["board", "reach"], [], 100, fd_need_reach.body, He.glo_ok c.inn G (c.d.fact 18 (f := .glo "need_reach") rfl), F.kp, F.bindsN (fun _ _ _ _ _ _ us hl => match us, hl with | [_, _], _ => rfl), F, sc_need_reach, cp_need_reach, rfl, by decide +kernel, fun z => absurd z (by decide +kernel)⟩
theorem ok_need_asked (hT : TabEnv.tabs = tabsL K lm) (G : h.Ns mainGlobals mg) (c : SaysL fa fn lm h K) (TB : ∀ p ∈ csL K lm, LamX.TabB base mg p.1 p.2) : DefOk gl tbl P w K mg base "need_asked" 52 false ["board", "span", "dust", "day", "reach"] := by
  obtain ⟨fd, F⟩ := c.d.def_ 19 (d := dOf "need_asked" 42) rfl
  exact ⟨_, fd, _, _, _, _, _, _, ["board", "span", "dust", "day", "reach"], [], 100, fd_need_asked.body, He.glo_ok c.inn G (c.d.fact 19 (f := .glo "need_asked") rfl), F.kp, F.bindsN (fun _ _ _ _ _ _ us hl => match us, hl with | [_, _, _, _, _], _ => rfl), F, sc_need_asked, cp_need_asked, rfl, by decide +kernel, fun z => absurd z (by decide +kernel)⟩
theorem ok_may_on (hT : TabEnv.tabs = tabsL K lm) (G : h.Ns mainGlobals mg) (c : SaysL fa fn lm h K) (TB : ∀ p ∈ csL K lm, LamX.TabB base mg p.1 p.2) : DefOk gl tbl P w K mg base "may_on" 100 false ["board", "span", "dust", "day", "reach"] := by
  obtain ⟨fd, F⟩ := c.d.def_ 20 (d := dOf "may_on" 43) rfl
  exact ⟨_, fd, _, _, _, _, _, _, ["board", "span", "dust", "day", "reach"], [], 100, fd_may_on.body, He.glo_ok c.inn G (c.d.fact 20 (f := .glo "may_on") rfl), F.kp, F.bindsN (fun _ _ _ _ _ _ us hl => match us, hl with | [_, _, _, _, _], _ => rfl), F, sc_may_on, cp_may_on, rfl, by decide +kernel, fun z => absurd z (by decide +kernel)⟩
theorem ok_may_have (hT : TabEnv.tabs = tabsL K lm) (G : h.Ns mainGlobals mg) (c : SaysL fa fn lm h K) (TB : ∀ p ∈ csL K lm, LamX.TabB base mg p.1 p.2) : DefOk gl tbl P w K mg base "may_have" 101 false ["board", "span", "dust", "day", "reach"] := by
  obtain ⟨fd, F⟩ := c.d.def_ 21 (d := dOf "may_have" 44) rfl
  exact ⟨_, fd, _, _, _, _, _, _, ["board", "span", "dust", "day", "reach"], [], 100, fd_may_have.body, He.glo_ok c.inn G (c.d.fact 21 (f := .glo "may_have") rfl), F.kp, F.bindsN (fun _ _ _ _ _ _ us hl => match us, hl with | [_, _, _, _, _], _ => rfl), F, sc_may_have, cp_may_have, rfl, by decide +kernel, fun z => absurd z (by decide +kernel)⟩
theorem ok_sure_on (hT : TabEnv.tabs = tabsL K lm) (G : h.Ns mainGlobals mg) (c : SaysL fa fn lm h K) (TB : ∀ p ∈ csL K lm, LamX.TabB base mg p.1 p.2) : DefOk gl tbl P w K mg base "sure_on" 53 false ["board", "span", "dust", "day", "reach"] := by
  obtain ⟨fd, F⟩ := c.d.def_ 22 (d := dOf "sure_on" 45) rfl
  exact ⟨_, fd, _, _, _, _, _, _, ["board", "span", "dust", "day", "reach", "some", "one"], [], 100, fd_sure_on.body, He.glo_ok c.inn G (c.d.fact 22 (f := .glo "sure_on") rfl), F.kp, F.bindsN (fun _ _ _ _ _ _ us hl => match us, hl with | [_, _, _, _, _], _ => rfl), F, sc_sure_on, cp_sure_on, rfl, by decide +kernel, fun z => absurd z (by decide +kernel)⟩
theorem ok_surely (hT : TabEnv.tabs = tabsL K lm) (G : h.Ns mainGlobals mg) (c : SaysL fa fn lm h K) (TB : ∀ p ∈ csL K lm, LamX.TabB base mg p.1 p.2) : DefOk gl tbl P w K mg base "surely" 54 false ["board", "span", "dust", "day", "reach"] := by
  obtain ⟨fd, F⟩ := c.d.def_ 23 (d := dOf "surely" 46) rfl
  exact ⟨_, fd, _, _, _, _, _, _, ["board", "span", "dust", "day", "reach"], [], 100, fd_surely.body, He.glo_ok c.inn G (c.d.fact 23 (f := .glo "surely") rfl), F.kp, F.bindsN (fun _ _ _ _ _ _ us hl => match us, hl with | [_, _, _, _, _], _ => rfl), F, sc_surely, cp_surely, rfl, by decide +kernel, fun z => absurd z (by decide +kernel)⟩
theorem ok_sure_reaches (hT : TabEnv.tabs = tabsL K lm) (G : h.Ns mainGlobals mg) (c : SaysL fa fn lm h K) (TB : ∀ p ∈ csL K lm, LamX.TabB base mg p.1 p.2) : DefOk gl tbl P w K mg base "sure_reaches" 80 false ["board", "span", "dust", "day"] := by
  obtain ⟨fd, F⟩ := c.d.def_ 24 (d := dOf "sure_reaches" 47) rfl
  exact ⟨_, fd, _, _, _, _, _, _, ["board", "span", "dust", "day", "reach"], [], 100, fd_sure_reaches.body, He.glo_ok c.inn G (c.d.fact 24 (f := .glo "sure_reaches") rfl), F.kp, F.bindsN (fun _ _ _ _ _ _ us hl => match us, hl with | [_, _, _, _], _ => rfl), F, sc_sure_reaches, cp_sure_reaches, rfl, by decide +kernel, fun z => absurd z (by decide +kernel)⟩
theorem ok_days_of (hT : TabEnv.tabs = tabsL K lm) (G : h.Ns mainGlobals mg) (c : SaysL fa fn lm h K) (TB : ∀ p ∈ csL K lm, LamX.TabB base mg p.1 p.2) : DefOk gl tbl P w K mg base "days_of" 102 false ["board", "span", "dust", "reach"] := by
  obtain ⟨fd, F⟩ := c.d.def_ 25 (d := dOf "days_of" 48) rfl
  exact ⟨_, fd, _, _, _, _, _, _, ["board", "span", "dust", "reach", "day"], [], 100, fd_days_of.body, He.glo_ok c.inn G (c.d.fact 25 (f := .glo "days_of") rfl), F.kp, F.bindsN (fun _ _ _ _ _ _ us hl => match us, hl with | [_, _, _, _], _ => rfl), F, sc_days_of, cp_days_of, rfl, by decide +kernel, fun z => absurd z (by decide +kernel)⟩
theorem ok_reach_text (hT : TabEnv.tabs = tabsL K lm) (G : h.Ns mainGlobals mg) (c : SaysL fa fn lm h K) (TB : ∀ p ∈ csL K lm, LamX.TabB base mg p.1 p.2) : DefOk gl tbl P w K mg base "reach_text" 103 false ["board", "reach"] := by
  obtain ⟨fd, F⟩ := c.d.def_ 26 (d := dOf "reach_text" 51) rfl
  exact ⟨_, fd, _, _, _, _, _, _, ["board", "reach"], [], 100, fd_reach_text.body, He.glo_ok c.inn G (c.d.fact 26 (f := .glo "reach_text") rfl), F.kp, F.bindsN (fun _ _ _ _ _ _ us hl => match us, hl with | [_, _], _ => rfl), F, sc_reach_text, cp_reach_text, rfl, by decide +kernel, fun z => absurd z (by decide +kernel)⟩
theorem ok_law_drawn (hT : TabEnv.tabs = tabsL K lm) (G : h.Ns mainGlobals mg) (c : SaysL fa fn lm h K) (TB : ∀ p ∈ csL K lm, LamX.TabB base mg p.1 p.2) : DefOk gl tbl P w K mg base "_law_drawn" 62 false ["cell", "k"] := by
  obtain ⟨fd, F⟩ := c.d.def_ 27 (d := dOf "_law_drawn" 54) rfl
  exact ⟨_, fd, _, _, _, _, _, _, ["cell", "k", "more"], [], 100, fd_law_drawn.body, He.glo_ok c.inn G (c.d.fact 27 (f := .glo "_law_drawn") rfl), F.kp, F.bindsN (fun _ _ _ _ _ _ us hl => match us, hl with | [_, _], _ => rfl), F, sc_law_drawn, cp_law_drawn, rfl, by decide +kernel, fun z => absurd z (by decide +kernel)⟩
theorem ok_law_roll (hT : TabEnv.tabs = tabsL K lm) (G : h.Ns mainGlobals mg) (c : SaysL fa fn lm h K) (TB : ∀ p ∈ csL K lm, LamX.TabB base mg p.1 p.2) : DefOk gl tbl P w K mg base "_law_roll" 63 true ["dice", "many"] := by
  obtain ⟨fd, F⟩ := c.d.def_ 28 (d := dOf "_law_roll" 55) rfl
  exact ⟨_, fd, _, _, _, _, _, _, ["dice", "many", "told"], [], 100, fd_law_roll.body, He.glo_ok c.inn G (c.d.fact 28 (f := .glo "_law_roll") rfl), F.kp, F.bindsN (fun _ _ _ _ _ _ us hl => match us, hl with | [_, _], _ => rfl), F, sc_law_roll, cp_law_roll, rfl, rfl, fun z => absurd z (by decide +kernel)⟩
theorem ok_law_any_board (hT : TabEnv.tabs = tabsL K lm) (G : h.Ns mainGlobals mg) (c : SaysL fa fn lm h K) (TB : ∀ p ∈ csL K lm, LamX.TabB base mg p.1 p.2) : DefOk gl tbl P w K mg base "_law_any_board" 67 true ["dice", "size", "high"] := by
  obtain ⟨fd, F⟩ := c.d.def_ 29 (d := dOf "_law_any_board" 59) rfl
  exact ⟨_, fd, _, _, _, _, _, _, ["dice", "size", "high", "keys", "some", "key", "at", "one", "other", "reaches", "turn"], [4, 9], 100, fd_law_any_board.body, He.glo_ok c.inn G (c.d.fact 29 (f := .glo "_law_any_board") rfl), F.kp, F.bindsN (fun _ _ _ _ _ _ us hl => match us, hl with | [_, _, _], _ => rfl), F, sc_law_any_board, cp_law_any_board, rfl, rfl, fun z => absurd z (by decide +kernel)⟩
theorem ok_law_missing (hT : TabEnv.tabs = tabsL K lm) (G : h.Ns mainGlobals mg) (c : SaysL fa fn lm h K) (TB : ∀ p ∈ csL K lm, LamX.TabB base mg p.1 p.2) : DefOk gl tbl P w K mg base "_law_missing" 68 false ["board"] := by
  obtain ⟨fd, F⟩ := c.d.def_ 30 (d := dOf "_law_missing" 60) rfl
  exact ⟨_, fd, _, _, _, _, _, _, ["board", "some", "key", "at", "one", "other", "reach"], [], 100, fd_law_missing.body, He.glo_ok c.inn G (c.d.fact 30 (f := .glo "_law_missing") rfl), F.kp, F.bindsN (fun _ _ _ _ _ _ us hl => match us, hl with | [_], _ => rfl), F, sc_law_missing, cp_law_missing, rfl, by decide +kernel, fun z => absurd z (by decide +kernel)⟩
theorem ok_law_any_day (hT : TabEnv.tabs = tabsL K lm) (G : h.Ns mainGlobals mg) (c : SaysL fa fn lm h K) (TB : ∀ p ∈ csL K lm, LamX.TabB base mg p.1 p.2) : DefOk gl tbl P w K mg base "_law_any_day" 69 true ["dice", "board"] := by
  obtain ⟨fd, F⟩ := c.d.def_ 31 (d := dOf "_law_any_day" 61) rfl
  exact ⟨_, fd, _, _, _, _, _, _, ["dice", "board", "reach"], [], 100, fd_law_any_day.body, He.glo_ok c.inn G (c.d.fact 31 (f := .glo "_law_any_day") rfl), F.kp, F.bindsN (fun _ _ _ _ _ _ us hl => match us, hl with | [_, _], _ => rfl), F, sc_law_any_day, cp_law_any_day, rfl, rfl, fun z => absurd z (by decide +kernel)⟩
theorem ok_law_any_play (hT : TabEnv.tabs = tabsL K lm) (G : h.Ns mainGlobals mg) (c : SaysL fa fn lm h K) (TB : ∀ p ∈ csL K lm, LamX.TabB base mg p.1 p.2) : DefOk gl tbl P w K mg base "_law_any_play" 70 true ["dice", "board", "span"] := by
  obtain ⟨fd, F⟩ := c.d.def_ 32 (d := dOf "_law_any_play" 62) rfl
  exact ⟨_, fd, _, _, _, _, _, _, ["dice", "board", "span", "day"], [], 100, fd_law_any_play.body, He.glo_ok c.inn G (c.d.fact 32 (f := .glo "_law_any_play") rfl), F.kp, F.bindsN (fun _ _ _ _ _ _ us hl => match us, hl with | [_, _, _], _ => rfl), F, sc_law_any_play, cp_law_any_play, rfl, rfl, fun z => absurd z (by decide +kernel)⟩
theorem ok_law_left (hT : TabEnv.tabs = tabsL K lm) (G : h.Ns mainGlobals mg) (c : SaysL fa fn lm h K) (TB : ∀ p ∈ csL K lm, LamX.TabB base mg p.1 p.2) : DefOk gl tbl P w K mg base "_law_left" 71 false ["board", "play"] := by
  obtain ⟨fd, F⟩ := c.d.def_ 33 (d := dOf "_law_left" 63) rfl
  exact ⟨_, fd, _, _, _, _, _, _, ["board", "play", "found", "key", "many", "day", "reaches", "reach"], [2], 100, fd_law_left.body, He.glo_ok c.inn G (c.d.fact 33 (f := .glo "_law_left") rfl), F.kp, F.bindsN (fun _ _ _ _ _ _ us hl => match us, hl with | [_, _], _ => rfl), F, sc_law_left, cp_law_left, rfl, by decide +kernel, fun z => absurd z (by decide +kernel)⟩
theorem ok_law_any_dust (hT : TabEnv.tabs = tabsL K lm) (G : h.Ns mainGlobals mg) (c : SaysL fa fn lm h K) (TB : ∀ p ∈ csL K lm, LamX.TabB base mg p.1 p.2) : DefOk gl tbl P w K mg base "_law_any_dust" 81 true ["dice", "board", "span"] := by
  obtain ⟨fd, F⟩ := c.d.def_ 34 (d := dOf "_law_any_dust" 64) rfl
  exact ⟨_, fd, _, _, _, _, _, _, ["dice", "board", "span", "dust", "at"], [], 100, fd_law_any_dust.body, He.glo_ok c.inn G (c.d.fact 34 (f := .glo "_law_any_dust") rfl), F.kp, F.bindsN (fun _ _ _ _ _ _ us hl => match us, hl with | [_, _, _], _ => rfl), F, sc_law_any_dust, cp_law_any_dust, rfl, rfl, fun z => absurd z (by decide +kernel)⟩
theorem ok_law_parts (hT : TabEnv.tabs = tabsL K lm) (G : h.Ns mainGlobals mg) (c : SaysL fa fn lm h K) (TB : ∀ p ∈ csL K lm, LamX.TabB base mg p.1 p.2) : DefOk gl tbl P w K mg base "_law_parts" 82 false ["reaches"] := by
  obtain ⟨fd, F⟩ := c.d.def_ 35 (d := dOf "_law_parts" 65) rfl
  exact ⟨_, fd, _, _, _, _, _, _, ["reaches", "found", "reach", "part"], [], 100, fd_law_parts.body, He.glo_ok c.inn G (c.d.fact 35 (f := .glo "_law_parts") rfl), F.kp, F.bindsN (fun _ _ _ _ _ _ us hl => match us, hl with | [_], _ => rfl), F, sc_law_parts, cp_law_parts, rfl, by decide +kernel, fun z => absurd z (by decide +kernel)⟩
theorem ok_law_is_right (hT : TabEnv.tabs = tabsL K lm) (G : h.Ns mainGlobals mg) (c : SaysL fa fn lm h K) (TB : ∀ p ∈ csL K lm, LamX.TabB base mg p.1 p.2) : DefOk gl tbl P w K mg base "_law_is_right" 83 false ["board", "dust", "age", "part"] := by
  obtain ⟨fd, F⟩ := c.d.def_ 36 (d := dOf "_law_is_right" 66) rfl
  exact ⟨_, fd, _, _, _, _, _, _, ["board", "dust", "age", "part", "keys", "reach", "key", "many"], [], 100, fd_law_is_right.body, He.glo_ok c.inn G (c.d.fact 36 (f := .glo "_law_is_right") rfl), F.kp, F.bindsN (fun _ _ _ _ _ _ us hl => match us, hl with | [_, _, _, _], _ => rfl), F, sc_law_is_right, cp_law_is_right, rfl, by decide +kernel, fun z => absurd z (by decide +kernel)⟩
theorem ok_law_plays (hT : TabEnv.tabs = tabsL K lm) (G : h.Ns mainGlobals mg) (c : SaysL fa fn lm h K) (TB : ∀ p ∈ csL K lm, LamX.TabB base mg p.1 p.2) : DefOk gl tbl P w K mg base "_law_plays" 84 false ["board", "span", "dust"] := by
  obtain ⟨fd, F⟩ := c.d.def_ 37 (d := dOf "_law_plays" 67) rfl
  exact ⟨_, fd, _, _, _, _, _, _, ["board", "span", "dust", "rows", "day", "longer", "age", "part", "row"], [], 100, fd_law_plays.body, He.glo_ok c.inn G (c.d.fact 37 (f := .glo "_law_plays") rfl), F.kp, F.bindsN (fun _ _ _ _ _ _ us hl => match us, hl with | [_, _, _], _ => rfl), F, sc_law_plays, cp_law_plays, rfl, by decide +kernel, fun z => absurd z (by decide +kernel)⟩
def GvOk (P : Program) (w : World) (K : Fr) (mg : PySem.Str → Option Value) (base : Heap) (t : PySem.Str × GV) : Prop := match t.2 with
  | .fn id dice ps => DefOk gl tbl P w K mg base t.1 id dice ps
  | .const d => ∃ v u, mg t.1 = some u ∧ RelV v u ∧ ∀ F, Rv K0 F v d
  | .exc c => c < 15 ∧ t.1 = excNm c
  | .tell => t.1 = toldN
  | .no => True
theorem all_ok (hT : TabEnv.tabs = tabsL K lm) (G : h.Ns mainGlobals mg) (c : SaysL fa fn lm h K) (TB : ∀ p ∈ csL K lm, LamX.TabB base mg p.1 p.2) : AllP (GvOk P w K mg base) glTab := by
  refine ⟨?_, ?_, ?_, ?_, ?_, ?_, ?_, ?_, ?_, ?_, ?_, ?_, ?_, ?_, ?_, ?_, ?_, ?_, ?_, ?_, ?_, ?_, ?_, ?_, ?_, ?_, ?_, ?_, ?_, ?_, ?_, ?_, ?_, ?_, ?_, ?_, ?_, ?_, ?_, ?_, ?_, ?_, ?_, ?_, ?_, ?_, ?_, ?_, ?_, ?_, ?_, ?_, ?_, ?_, ?_, ?_, trivial⟩
  · exact ok_is_whole hT G c TB
  · exact ok_is_word hT G c TB
  · exact ok_rise hT G c TB
  · exact ok_are_keys hT G c TB
  · exact ok_is_board hT G c TB
  · exact ok_need_board hT G c TB
  · exact ok_are_reaches hT G c TB
  · exact ok_is_good_dust hT G c TB
  · exact ok_need_dust hT G c TB
  · exact ok_need_day hT G c TB
  · exact ok_keys_of hT G c TB
  · exact ok_lets hT G c TB
  · exact ok_touched hT G c TB
  · exact ok_all_barred hT G c TB
  · exact ok_is_there hT G c TB
  · exact ok_need_there hT G c TB
  · exact ok_parts_of hT G c TB
  · exact ok_count_covers hT G c TB
  · exact ok_need_reach hT G c TB
  · exact ok_need_asked hT G c TB
  · exact ok_may_on hT G c TB
  · exact ok_may_have hT G c TB
  · exact ok_sure_on hT G c TB
  · exact ok_surely hT G c TB
  · exact ok_sure_reaches hT G c TB
  · exact ok_days_of hT G c TB
  · exact ok_reach_text hT G c TB
  · exact ok_law_drawn hT G c TB
  · exact ok_law_roll hT G c TB
  · exact ok_law_any_board hT G c TB
  · exact ok_law_missing hT G c TB
  · exact ok_law_any_day hT G c TB
  · exact ok_law_any_play hT G c TB
  · exact ok_law_left hT G c TB
  · exact ok_law_any_dust hT G c TB
  · exact ok_law_parts hT G c TB
  · exact ok_law_is_right hT G c TB
  · exact ok_law_plays hT G c TB
  · obtain ⟨t, e⟩ := He.str_ok c.inn G (c.d.fact 61 (f := .str "SMALL" "abcdefghijklmnopqrstuvwxyz") rfl)
    exact ⟨.str "abcdefghijklmnopqrstuvwxyz", _, e, ⟨_, rfl⟩, fun _ => ⟨.str _, by decide +kernel⟩⟩
  · exact ⟨by decide, by decide +kernel⟩
  · exact ⟨by decide, by decide +kernel⟩
  · exact ⟨by decide, by decide +kernel⟩
  · exact ⟨by decide, by decide +kernel⟩
  · exact ⟨by decide, by decide +kernel⟩
  · exact ⟨by decide, by decide +kernel⟩
  · exact ⟨by decide, by decide +kernel⟩
  · exact ⟨by decide, by decide +kernel⟩
  · exact ⟨by decide, by decide +kernel⟩
  · exact ⟨by decide, by decide +kernel⟩
  · exact ⟨by decide, by decide +kernel⟩
  · exact ⟨by decide, by decide +kernel⟩
  · exact ⟨by decide, by decide +kernel⟩
  · exact ⟨by decide, by decide +kernel⟩
  · exact ⟨by decide, by decide +kernel⟩
  · exact rfl
  · exact trivial
theorem term_ok (G : h.Ns mainGlobals mg) (c : SaysL fa fn lm h K) : TermDef K mg (excAt K) := by
  obtain ⟨fd, F⟩ := c.d.def_ 42 (d := dOf "_law_term" 57) rfl
  refine ⟨_, fd, _, _, _, He.glo_ok c.inn G (c.d.fact 42 (f := .glo "_law_term") rfl), F.kp, F.bindsN (fun _ _ _ _ _ _ us hl => match us, hl with | [_], _ => rfl), F, ⟨by kernel_rfl, by kernel_rfl, by kernel_rfl, by decide +kernel, by decide +kernel, by decide +kernel, by decide +kernel⟩, by decide +kernel, by decide +kernel, by decide +kernel, fun x hx => ?_, excOk_of c.inn G c.e, fun X cc a oe H nx Q T hq => ?_⟩
  · simp only [List.mem_cons, List.not_mem_nil, or_false] at hx
    rcases hx with rfl | rfl | rfl | rfl
    · exact He.free_ok c.inn G (c.d.fact 59 (f := .free "isinstance") rfl)
    · exact He.free_ok c.inn G (c.d.fact 50 (f := .free "sum") rfl)
    · exact He.free_ok c.inn G (c.d.fact 60 (f := .free "ValueError") rfl)
    · exact He.free_ok c.inn G (c.d.fact 54 (f := .free "int") rfl)
  · exact term_body T ⟨by kernel_rfl, by kernel_rfl, by kernel_rfl, by kernel_rfl, by kernel_rfl, by kernel_rfl, ⟨by decide +kernel, by decide +kernel, by kernel_rfl, by decide +kernel, by decide +kernel, by decide +kernel⟩, by kernel_rfl⟩ H nx Q hq
theorem told_ok (G : h.Ns mainGlobals mg) (c : SaysL fa fn lm h K) : ToldDef K mg (excAt K) := by
  obtain ⟨fd, F⟩ := c.d.def_ 41 (d := dOf "_law_told" 58) rfl
  refine ⟨⟨_, fd, _, _, _, _, _, _, _, _, _, _, _, _, He.glo_ok c.inn G (c.d.fact 41 (f := .glo "_law_told") rfl), F.kp, F.bindsN (fun _ _ _ _ _ _ us hl => match us, hl with | [_], _ => rfl), F, ⟨by kernel_rfl, by kernel_rfl, by kernel_rfl, by decide +kernel, by decide +kernel, by decide +kernel, by decide +kernel⟩, by decide +kernel, by decide +kernel, by decide +kernel⟩, dust_of c.inn G c.e, exm_of c.e, term_ok G c⟩
theorem mod_ok (hT : TabEnv.tabs = tabsL K lm) (G : h.Ns mainGlobals mg) (c : SaysL fa fn lm h K) (TB : ∀ p ∈ csL K lm, LamX.TabB base mg p.1 p.2) : ModOk gl tbl (excAt K) P w K mg base := by
  have A := AllP.of (all_ok (P := P) (w := w) hT G c TB)
  refine ⟨fun x id dice ps e => ?_, fun x d e => ?_, fun x d e => ?_, fun x e => ?_, tbl_told, fun x hx _ => ?_⟩
  · exact A _ (look_mem e)
  · exact A _ (look_mem e)
  · obtain ⟨h1, h2⟩ : d < 15 ∧ x = excNm d := A _ (look_mem e)
    obtain ⟨f1, f2, f3, f4⟩ := excFact_of c.e h1
    exact ⟨by rw [h2]; exact (excOk_of c.inn G c.e).at_ d h1, f2, f3, f4, _, _, _, _, PySem.F.excBase_ValueError, f1⟩
  · exact told_ok G c
  · simp only [blNames, List.mem_cons, List.not_mem_nil, or_false] at hx
    rcases hx with rfl | rfl | rfl | rfl | rfl | rfl | rfl | rfl | rfl | rfl | rfl | rfl | rfl | rfl | rfl | rfl | rfl
    · exact He.free_ok c.inn G (c.d.fact 43 (f := .free "range") rfl)
    · exact He.free_ok c.inn G (c.d.fact 44 (f := .free "enumerate") rfl)
    · exact He.free_ok c.inn G (c.d.fact 45 (f := .free "zip") rfl)
    · exact He.free_ok c.inn G (c.d.fact 46 (f := .free "len") rfl)
    · exact He.free_ok c.inn G (c.d.fact 47 (f := .free "tuple") rfl)
    · exact He.free_ok c.inn G (c.d.fact 48 (f := .free "list") rfl)
    · exact He.free_ok c.inn G (c.d.fact 49 (f := .free "sorted") rfl)
    · exact He.free_ok c.inn G (c.d.fact 50 (f := .free "sum") rfl)
    · exact He.free_ok c.inn G (c.d.fact 51 (f := .free "all") rfl)
    · exact He.free_ok c.inn G (c.d.fact 52 (f := .free "any") rfl)
    · exact He.free_ok c.inn G (c.d.fact 53 (f := .free "abs") rfl)
    · exact He.free_ok c.inn G (c.d.fact 54 (f := .free "int") rfl)
    · exact He.free_ok c.inn G (c.d.fact 55 (f := .free "bool") rfl)
    · exact He.free_ok c.inn G (c.d.fact 56 (f := .free "str") rfl)
    · exact He.free_ok c.inn G (c.d.fact 57 (f := .free "min") rfl)
    · exact He.free_ok c.inn G (c.d.fact 58 (f := .free "max") rfl)
    · exact He.free_ok c.inn G (c.d.fact 59 (f := .free "isinstance") rfl)
theorem facts (hT : TabEnv.tabs = tabsL K lm) {f : Addr} (G : h.Ns mainGlobals mg) (hfa : mg ("law" : PySem.Str) = some (.ref f)) (c : SaysL fa fn lm h K) :
    ∃ fd : FuncData, (∀ (s : Shared) (v : Value), BindsTo s fd ⟨[v], []⟩ [("script", v)]) ∧ ∀ base : Heap, K.In base → base.Ns mainGlobals mg → (∀ p ∈ csL K lm, LamX.TabB base mg p.1 p.2) → FnOk P w K mg base CX0 31 f fd ["script"] (spLaw K) := by
  obtain ⟨fdC, FC⟩ := c.d.def_ 38 (d := dOf "_law_cell" 53) rfl
  obtain ⟨fdR, FR⟩ := c.d.def_ 39 (d := dOf "_law_rounds" 56) rfl
  obtain ⟨fd, F⟩ := c.d.def_ 40 (d := dOf "law" 68) rfl
  have gC := He.glo_ok c.inn G (c.d.fact 38 (f := .glo "_law_cell") rfl)
  have gR := He.glo_ok c.inn G (c.d.fact 39 (f := .glo "_law_rounds") rfl)
  have e := hfa.symm.trans (He.glo_ok c.inn G (c.d.fact 40 (f := .glo "law") rfl))
  cases e
  have b := FunD.bindsA (ps := ["script"]) F fun _ _ _ _ _ _ us hl => match us, hl with | [_], _ => rfl
  refine ⟨fd, fun s v => b s [v] rfl, fun base _ _ TB => ?_⟩
  have bC : Binds K fdC ["script", "k"] [] := FC.bindsN fun _ _ _ _ _ _ us hl => match us, hl with | [_, _], _ => rfl
  have bR : Binds K fdR ["script", "high"] [] := FR.bindsN fun _ _ _ _ _ _ us hl => match us, hl with | [_, _], _ => rfl
  have oC : FnOk P w K mg base (L2N.CX P w) 1 _ fdC ["script", "k"] (spCell K) := ok_cell FC ⟨by kernel_rfl, by kernel_rfl, by kernel_rfl, by decide +kernel, by decide +kernel, by decide +kernel, by decide +kernel⟩ (by decide +kernel) (He.free_ok c.inn G (c.d.fact 46 (f := .free "len") rfl))
  have oR : FnOk P w K mg base (L2N.CX P w) 2 _ fdR ["script", "high"] (spRounds K) := ok_rounds FR (roundsSc) (fun x hx => by
    simp only [List.mem_cons, List.not_mem_nil, or_false] at hx
    rcases hx with rfl | rfl | rfl | rfl
    · exact He.free_ok c.inn G (c.d.fact 43 (f := .free "range") rfl)
    · exact He.free_ok c.inn G (c.d.fact 58 (f := .free "max") rfl)
    · exact He.free_ok c.inn G (c.d.fact 57 (f := .free "min") rfl)
    · exact He.free_ok c.inn G (c.d.fact 46 (f := .free "len") rfl)) gC FC.kp bC oC
  exact ok_law (n := 30) (b := b_law) (by decide) (amb_all (mod_ok hT G c TB) 30) (fun _ => lamC_of hT c.nd (by decide +kernel) (c.l _ (by decide +kernel)) TB F) F sc_law rfl (by decide +kernel) (by decide +kernel) gR FR.kp bR oR cp_law law_all
end
end Dk
open PySem PySem.W PySem.Calls PyProof.Rows
theorem PySem.Challenge.cw_dustkeys_k05_whole_surely_and_perhaps_holds : PySem.Challenge.rw_dustkeys_k05_whole_surely_and_perhaps.Holds := by
  w_on; o_law
  refine HandSHeadRun.head_any (r := OpenLaw.row PySem.Challenge.rw_dustkeys_k05_whole_surely_and_perhaps) (q := view (OpenLaw.row PySem.Challenge.rw_dustkeys_k05_whole_surely_and_perhaps).prog [68]) (H := Dk.hk) (ob := Dk.ob) (M := 20000) (loose := Dk.loose) (d := HandSHeadRun.topDef (OpenLaw.row PySem.Challenge.rw_dustkeys_k05_whole_surely_and_perhaps).prog 68) (kwd := []) Dk.ob_eq
    (by kernel_rfl) (fun s => by kernel_rfl) Dk.run (by kernel_rfl) (by kernel_rfl) (by kernel_rfl) (by rfl) (by first | assumption | decide +kernel) (by decide +kernel) ⟨rfl, rfl, rfl, rfl, rfl, by decide +kernel⟩ ?hw ?hc
  case hw => w_witness2
  case hc =>
    refine LamX.walk_ofTsE (l := PySem.Challenge.rw_dustkeys_k05_whole_surely_and_perhaps) (n := 63) (k := 31) (x := "script") (CX := fun _ => L2.CX0) rfl (by decide) (by kernel_rfl) ⟨rfl, by decide, by decide⟩ ?F ?Z
    case F =>
      intro w mg fa h Y G hmg0
      obtain ⟨K, c⟩ := Y
      letI : Dk.TabEnv := ⟨Dk.tabsL K Dk.lm⟩
      have hmg : mg ("law" : PySem.Str) = some (.ref fa) := by
        have e : (HandSHeadRun.topDef (OpenLaw.row PySem.Challenge.rw_dustkeys_k05_whole_surely_and_perhaps).prog 68).name = ("law" : PySem.Str) := by kernel_rfl
        rw [← e]
        exact hmg0
      obtain ⟨fd, hb, hF⟩ := Dk.facts (P := (PySem.Challenge.rw_dustkeys_k05_whole_surely_and_perhaps).prog) (w := w) rfl G hmg c
      refine ⟨K, c.inn, fd, Dk.csL K Dk.lm, Dk.spLaw K, fun p hp => ?_, fun p hp => ?_, fun p hp => ?_, hb, fun H a ns hl _ hH hS => ⟨a, ns, rfl, hS, by omega, Dk.tabsOk_start hH, fun _ => rfl⟩, hF⟩
      · obtain ⟨x, hx, rfl⟩ := List.mem_map.mp hp
        exact (c.l x hx).tb
      · obtain ⟨x, hx, rfl⟩ := List.mem_map.mp hp
        exact (c.l x hx).no
      · obtain ⟨x, hx, rfl⟩ := List.mem_map.mp hp
        exact (c.l x hx).hd
    case Z =>
      intro w H s e s' z
      exact z

