import PyProof.Rows.All
import Wide.All
import OpenK.AllK
import Wide.FinOn
import HandS.ForMost
import HandS.Exc
import HandS.ExcIs
import HandS.ExcField
import HandS.TupAny
import HandS.TupMul
import HandS.TupLe
import HandS.Wide
import HandS.WideBits
import HandS.Gcd
import HandS.SortInts
import HandS.Conv
import HandS.Style
import KE.KTupSum
import HandS.ExcOwn
import HandS.IsInst
import KE.KExcIs
import KE.KExcSuper
import HandS.ExcInit
import HandS.Head0
import HandS.Head1
import HandS.Head2
import HandS.HeadEnd
import HandS.HeadHook1
import HandS.HeadHook2
import HandS.EndBits
import PySem.Challenge.RW_alldays_k01_tables_and_their_labels
set_option Elab.async false
set_option linter.all false
set_option maxRecDepth 100000
set_option maxHeartbeats 4000000
section
set_option linter.all false
set_option maxRecDepth 100000
/-! PyA: a small machine of our own for the part of Python that the program is written in: values, a store, what an expression and a statement do. -/
namespace Py
open PySem

/-- a value: tuples are plain data, every other object stands in the store -/
inductive D where
  | non | bl (b : Bool) | int (i : Int) | str (x : Str) | tup (xs : List D) | ref (n : Nat)
instance : Inhabited D := ⟨.non⟩

inductive Ob where
  | lst (xs : List D) | frz (xs : List D) | dct (kvs : List (L2.Key × D)) | ins (c : Nat) (fs : List (Nat × D)) | exc (c : Nat) (v : D)

abbrev Sto := List Ob
abbrev Sl := List (Option D)

inductive Res (α : Type) where
  | ok (a : α) (S : Sto) | exc (c : Nat) (v : D) (S : Sto) | bad

namespace Res
def bind {α β : Type} (r : Res α) (f : α → Sto → Res β) : Res β :=
  match r with
  | .ok a S => f a S
  | .exc c v S => .exc c v S
  | .bad => .bad
@[simp] theorem bind_ok {α β : Type} (a : α) (S : Sto) (f : α → Sto → Res β) : (Res.ok a S).bind f = f a S := rfl
@[simp] theorem bind_exc {α β : Type} (c : Nat) (v : D) (S : Sto) (f : α → Sto → Res β) : (Res.exc c v S : Res α).bind f = .exc c v S := rfl
@[simp] theorem bind_bad {α β : Type} (f : α → Sto → Res β) : (Res.bad : Res α).bind f = .bad := rfl
end Res
/-- of an option -/
def orBad {α : Type} (o : Option α) (S : Sto) : Res α := match o with
  | some a => .ok a S
  | none => .bad
@[simp] theorem orBad_some {α : Type} (a : α) (S : Sto) : orBad (some a) S = .ok a S := rfl
@[simp] theorem orBad_none {α : Type} (S : Sto) : (orBad none S : Res α) = .bad := rfl

/-! ### references below a bound -/
mutual
def D.bd (n : Nat) : D → Bool
  | .tup xs => D.bdL n xs
  | .ref k => decide (k < n)
  | .non => true
  | .bl _ => true
  | .int _ => true
  | .str _ => true
def D.bdL (n : Nat) : List D → Bool
  | [] => true
  | x :: xs => D.bd n x && D.bdL n xs
end
def bdK (n : Nat) : List (L2.Key × D) → Bool
  | [] => true
  | p :: r => D.bd n p.2 && bdK n r
def bdF (n : Nat) : List (Nat × D) → Bool
  | [] => true
  | p :: r => D.bd n p.2 && bdF n r
def Ob.bd (n : Nat) : Ob → Bool
  | .lst xs => D.bdL n xs
  | .frz xs => D.bdL n xs
  | .dct kvs => bdK n kvs
  | .ins _ fs => bdF n fs
  | .exc _ v => D.bd n v
def bdS (n : Nat) : Sto → Bool
  | [] => true
  | o :: r => o.bd n && bdS n r

/-- what is left of the store behind a call that began at n objects -/
def tidy (n : Nat) (d : D) (S : Sto) : Res D :=
  if bdS n (S.take n) = true then
    if d.bd n = true then .ok d (S.take n)
    else match d with
      | .ref k => match S[k]? with
        | some (.lst xs) => if D.bdL n xs = true then .ok (.ref n) (S.take n ++ [.lst xs]) else .ok d S
        | _ => .ok d S
      | _ => .ok d S
  else .ok d S
def tidyX (n c : Nat) (v : D) (S : Sto) : Res D :=
  if bdS n (S.take n) = true ∧ v.bd n = true then .exc c v (S.take n) else .exc c v S

/-! ### data as the library compares it -/
def consO {β : Type} : Option β → Option (List β) → Option (List β)
  | some a, some b => some (a :: b)
  | _, _ => none
theorem consO_some {β : Type} {o : Option β} {p : Option (List β)} {r : List β} (h : consO o p = some r) : ∃ a b, o = some a ∧ p = some b ∧ r = a :: b := by
  cases o with
  | none => cases h
  | some a =>
    cases p with
    | none => cases h
    | some b => cases h; exact ⟨a, b, rfl, rfl, rfl⟩
def mapO {α β : Type} (f : α → Option β) : List α → Option (List β)
  | [] => some []
  | x :: xs => consO (f x) (mapO f xs)
def toPD (S : Sto) : Nat → D → Option PyData
  | _, .non => some .none
  | _, .bl b => some (.bool b)
  | _, .int i => some (.int i)
  | _, .str x => if PyData.strOk x = true then some (.str x) else none
  | 0, _ => none
  | n + 1, .tup xs => (mapO (toPD S n) xs).map .tuple
  | n + 1, .ref k => match S[k]? with
    | some (.lst xs) => (mapO (toPD S n) xs).map .list
    | _ => none
def eqD (S : Sto) : D → D → Option Bool
  | .str x, .str y => some (decide (x = y))
  | a, b => match toPD S 60 a, toPD S 60 b with
    | some p, some q => some (PyData.eqv p q)
    | _, _ => none

/-! ### operators -/
inductive Bop where
  | add | sub | mul | fdiv | mod | pow
inductive Cop where
  | eq | ne | lt | le | gt | ge | isB | notB | inn | nin

def mulOk (i j : Int) : Bool := (decide (-(2 ^ 64) < i) && decide (i < 2 ^ 64)) || (decide (-(2 ^ 64) < j) && decide (j < 2 ^ 64)) || decide (i.natAbs.log2 + j.natAbs.log2 < 1000000)
def divOk (j : Int) : Bool := decide (0 < j) && decide (j.natAbs.log2 < 9000)
def powOk (i j : Int) : Bool := decide (0 ≤ j) && decide (j ≤ 1000000) && decide (i.natAbs < 2 ^ 64)

def binD (op : Bop) (a b : D) (S : Sto) : Res D :=
  match op with
  | .add => match a, b with
    | .int i, .int j => .ok (.int (i + j)) S
    | .tup xs, .tup ys => if xs.length + ys.length ≤ sizeLine then .ok (.tup (xs ++ ys)) S else .bad
    | .str x, .str y => if x.length + y.length ≤ sizeLine then .ok (.str (x ++ y)) S else .bad
    | .ref m, .ref n => match S[m]?, S[n]? with
      | some (.lst xs), some (.lst ys) => if xs.length + ys.length ≤ sizeLine then .ok (.ref S.length) (S ++ [.lst (xs ++ ys)]) else .bad
      | _, _ => .bad
    | _, _ => .bad
  | .sub => match a, b with
    | .int i, .int j => .ok (.int (i - j)) S
    | _, _ => .bad
  | .mul => match a, b with
    | .int i, .int j => if mulOk i j = true then .ok (.int (i * j)) S else .bad
    | .ref m, .int k => match S[m]? with
      | some (.lst xs) => if -(2 ^ 63) ≤ k ∧ k < 2 ^ 63 ∧ xs.length * k.toNat ≤ sizeLine then .ok (.ref S.length) (S ++ [.lst (List.replicate k.toNat xs).flatten]) else .bad
      | _ => .bad
    | .tup xs, .int k => if xs ≠ [] ∧ xs.length ≤ 1000 ∧ 2 ≤ k ∧ k ≤ 1000 then .ok (.tup (List.replicate k.toNat xs).flatten) S else .bad
    | _, _ => .bad
  | .fdiv => match a, b with
    | .int i, .int j => if divOk j = true then .ok (.int (i / j)) S else .bad
    | _, _ => .bad
  | .mod => match a, b with
    | .int i, .int j => if 0 < j then .ok (.int (i % j)) S else .bad
    | _, _ => .bad
  | .pow => match a, b with
    | .int i, .int j => if powOk i j = true then .ok (.int (i ^ j.toNat)) S else .bad
    | _, _ => .bad

/-- ints of a list of values -/
def intOf : D → Option Int
  | .int i => some i
  | _ => none
def boolOf : D → Option Bool
  | .bl b => some b
  | _ => none
def intsOf (ds : List D) : Option (List Int) := mapO intOf ds
def boolsOf (ds : List D) : Option (List Bool) := mapO boolOf ds
def flatD : D → Bool
  | .non => true
  | .bl _ => true
  | .int _ => true
  | .str _ => true
  | _ => false
def eqFlat : D → D → Bool
  | .non, .non => true
  | .bl a, .bl b => a == b
  | .bl a, .int b => (if a then 1 else 0) == b
  | .int a, .bl b => a == (if b then 1 else 0)
  | .int a, .int b => a == b
  | .str a, .str b => a == b
  | _, _ => false
/-- the items of a list or tuple -/
def itemsOf (S : Sto) : D → Option (List D)
  | .tup xs => some xs
  | .ref n => match S[n]? with
    | some (.lst xs) => some xs
    | some (.frz xs) => some xs
    | _ => none
  | _ => none
def inD (S : Sto) (a b : D) : Option Bool := match itemsOf S b with
  | some xs => if flatD a = true ∧ xs.all flatD = true then some (xs.any fun y => eqFlat y a) else none
  | none => none

/-- two lists of different lengths -/
def lenNe (S : Sto) (a b : D) : Bool := match a, b with
  | .ref m, .ref n => match S[m]?, S[n]? with
    | some (.lst xs), some (.lst ys) => decide (xs.length ≠ ys.length)
    | _, _ => false
  | _, _ => false
def cmpD (op : Cop) (a b : D) (S : Sto) : Res D :=
  match op with
  | .eq => if lenNe S a b = true then .ok (.bl false) S else orBad ((eqD S a b).map .bl) S
  | .ne => orBad ((eqD S a b).map fun k => .bl (!k)) S
  | .lt => match a, b with
    | .int i, .int j => .ok (.bl (decide (i < j))) S
    | .tup xs, .tup ys => match intsOf xs, intsOf ys with
      | some ns, some ms => .ok (.bl (HT.lexLt ns ms)) S
      | _, _ => .bad
    | _, _ => .bad
  | .le => match a, b with
    | .int i, .int j => .ok (.bl (decide (i ≤ j))) S
    | _, _ => .bad
  | .gt => match a, b with
    | .int i, .int j => .ok (.bl (decide (j < i))) S
    | _, _ => .bad
  | .ge => match a, b with
    | .int i, .int j => .ok (.bl (decide (j ≤ i))) S
    | _, _ => .bad
  | .isB => match a, b with
    | .bl i, .bl j => .ok (.bl (decide (i = j))) S
    | _, _ => .bad
  | .notB => match a, b with
    | .bl i, .bl j => .ok (.bl (!decide (i = j))) S
    | _, _ => .bad
  | .inn => orBad ((inD S a b).map .bl) S
  | .nin => orBad ((inD S a b).map fun k => .bl (!k)) S

/-! ### subscripts -/
def cut {α : Type} (xs : List α) (lo hi : Option Int) : List α := (xs.drop (HT.sIx xs.length 0 lo)).take (HT.sIx xs.length xs.length hi - HT.sIx xs.length 0 lo)
def idxD (S : Sto) (a b : D) : Res D := match b with
  | .int i => match itemsOf S a with
    | some xs => orBad (L2.atI xs i) S
    | none => match a with
      | .str z => if z.length ≤ sizeLine then orBad ((L2.atI z.cps.toList i).map fun c => .str ⟨#[c]⟩) S else .bad
      | _ => .bad
  | .str x => match a with
    | .ref n => match S[n]? with
      | some (.dct kvs) => orBad ((kvs.find? fun kv => decide (kv.1 = Sum.inr x)).map (·.2)) S
      | _ => .bad
    | _ => .bad
  | _ => .bad
/-- a list that is made: the end of the store -/
def newL (xs : List D) (S : Sto) : Res D := .ok (.ref S.length) (S ++ [.lst xs])
def partD : Option D → Option (Option Int)
  | none => some none
  | some (.int i) => some (some i)
  | _ => none
def sliD (a : D) (lo hi : Option Int) (S : Sto) : Res D := match a with
  | .tup xs => .ok (.tup (cut xs lo hi)) S
  | .ref n => match S[n]? with
    | some (.lst xs) => newL (cut xs lo hi) S
    | some (.frz xs) => newL (cut xs lo hi) S
    | _ => .bad
  | _ => .bad
def revD (a : D) (S : Sto) : Res D := match a with
  | .tup xs => .ok (.tup xs.reverse) S
  | .ref n => match S[n]? with
    | some (.lst xs) => newL xs.reverse S
    | _ => .bad
  | _ => .bad
def setIx (o i v : D) (S : Sto) : Option Sto := match o, i with
  | .ref n, .int k => match S[n]? with
    | some (.lst xs) => (L2.ixN xs.length k).map fun j => S.set n (.lst (xs.set j v))
    | _ => none
  | _, _ => none

/-! ### fields -/
def getF (f : Nat) : List (Nat × D) → Option D
  | [] => none
  | (g, x) :: r => if g = f then some x else getF f r
def putF (f : Nat) (v : D) : List (Nat × D) → List (Nat × D)
  | [] => [(f, v)]
  | (g, x) :: r => if g = f then (g, v) :: r else (g, x) :: putF f v r

/-! ### built-in functions -/
inductive Bi where
  | abs | int | str | len | repr | divmod | max2 | min2 | gcd | lcm | isqrt
inductive Bl where
  | tuple | list | all | any | sum | max | min | sorted
inductive Ty where
  | int | bool | str | tuple | list | dict | verr | own (c : Nat)

def maxL : List Int → Int
  | [] => 0
  | [x] => x
  | x :: y :: r => let m := maxL (y :: r); if x < m then m else x
def minL : List Int → Int
  | [] => 0
  | [x] => x
  | x :: y :: r => let m := minL (y :: r); if m < x then m else x

def lenD (S : Sto) : D → Option Nat
  | .tup xs => some xs.length
  | .str x => if x.length ≤ sizeLine then some x.length else none
  | .ref n => match S[n]? with
    | some (.lst xs) => some xs.length
    | some (.frz xs) => some xs.length
    | some (.dct kvs) => some kvs.length
    | _ => none
  | _ => none
end Py
end
section
set_option linter.all false
set_option maxRecDepth 100000
/-! PyLr: ranges beyond the machine's words, walked. -/
namespace Py
open PySem PySem.Spec PyProof.Rows
open Sem (wp)
abbrev IsLong (h : Heap) (it : Addr) (x left step : Int) : Prop := h.get? it = some { cls := .type "longrange_iterator", dict := none, data := .fields #[rawInt x, rawInt left, rawInt step], slots := #[] }
theorem slotL_next : Slot "longrange_iterator" "__next__" "longrange_iterator.__next__" := by
  refine .of (owner := "longrange_iterator") (n := "__next__") ?_ ?_ ?_ ?_ ?_ ?_
  · rw [typeLookup_type, builtinLookup_eq_fast]; kernel_rfl
  · decide +kernel
  · decide +kernel
  · decide +kernel
  · first
    | exact .inl (by decide +kernel)
    | exact .inr (by decide +kernel)
  · rw [isSubtype_type]; kernel_rfl
theorem slotL_iter : Slot "longrange_iterator" "__iter__" "longrange_iterator.__iter__" := by
  refine .of (owner := "longrange_iterator") (n := "__iter__") ?_ ?_ ?_ ?_ ?_ ?_
  · rw [typeLookup_type, builtinLookup_eq_fast]; kernel_rfl
  · decide +kernel
  · decide +kernel
  · decide +kernel
  · first
    | exact .inl (by decide +kernel)
    | exact .inr (by decide +kernel)
  · rw [isSubtype_type]; kernel_rfl
theorem entryL_next : entryFor table "longrange_iterator.__next__" = some Builtin.«longrange_iterator.__next__» := entryFor_of_tree (by kernel_rfl)
theorem nextL_1 (it : Addr) (x left step : Int) (hc0 : ¬ left ≤ 0) :
    Meets (Builtin.«longrange_iterator.__next__» ⟨[.ref it], []⟩) (fun _ R s => s.heap.get? it = some { cls := .type "longrange_iterator", dict := none, data := .fields #[rawInt x, rawInt left, rawInt step], slots := #[] } ∧ R (.ok (.ret (Value.int x s.toks))) { s with heap := (s.heap.update it (Obj.mapFields fun x_1 => x_1.setIfInBounds 0 (rawInt (x + step)))).update it (Obj.mapFields fun x => x.setIfInBounds 1 (rawInt (left - 1))), toks := s.toks + 1 }) :=
  .of_wp fun prog w A R s h => by
    obtain ⟨hp, g, d, tk, os⟩ := s
    obtain ⟨hl, h⟩ := h
    wp_walk
    exact ⟨_, rfl, h⟩

theorem argsL_next (a : Value) : argsOk "longrange_iterator.__next__" ⟨[a], []⟩ := by
  unfold argsOk
  kernel_rfl
theorem entryL_iter : entryFor table "longrange_iterator.__iter__" = some Builtin.«dict_keyiterator.__iter__» := by
  refine entryFor_alias (id' := "dict_keyiterator.__iter__") ?_ ?_ ?_ ?_
  · kernel_rfl
  · first
    | rfl
    | decide +kernel
    | (unfold String.splitOn; simp +decide [String.splitOnAux])
  · decide +kernel
  · kernel_rfl
theorem argsL_iter (a : Value) : argsOk "longrange_iterator.__iter__" ⟨[a], []⟩ := by
  unfold argsOk
  kernel_rfl
section
variable {prog : Program} {w : World} {A : Around} {E : Value → Shared → Prop} {s : Shared}
theorem pyIter_long {r : Addr} {a b c : Int} {t u v : Tok} {Q : Value → Shared → Prop} (hr : IsRange s.heap r a b c t u v) (hl : Builtin.Range.small a b c = false)
    (hQ : Q (.ref s.heap.objs.size) { s with heap := s.heap.push { cls := .type "longrange_iterator", data := .fields #[rawInt a, rawInt (Builtin.Range.rangeSize a b c), rawInt c] } }) : wpAny (model prog w) A (pyIter (.ref r)) Q E s := by
  have hT : s.TypeIs (.ref r) "range" := ⟨_, hr, rfl⟩
  unfold Builtin.Range.small at hl
  refine wpAny_pyIter_slot hT F.slot_range_iter (call_meets F.slot_range_iter hT F.entry_range_iter (F.args_range_iter_1 _) (AutoRange.range___iter___range_0 r a b c t u v (by rw [hl]; rfl)) ⟨hr, ?_⟩)
  simp only [hl, Bool.false_eq_true, if_false]
  exact ⟨"longrange_iterator", _, ⟨_, Heap.get?_push_size _ rfl, rfl⟩, slotL_next.lookup, hQ⟩
theorem pyNext_long {it : Addr} {x left step : Int} {Q : Option Value → Shared → Prop} (hit : IsLong s.heap it x left step) (hleft : 0 < left)
    (hQ : ∀ h', IsLong h' it (x + step) (left - 1) step → Heap.SameBut it s.heap h' → Q (some (.int x s.toks)) { s with heap := h', toks := s.toks + 1 }) : wpAny (model prog w) A (pyNext (.ref it)) Q E s := by
  have hT : s.TypeIs (.ref it) "longrange_iterator" := ⟨_, hit, rfl⟩
  unfold pyNext
  refine wpAny_bind (wpAny_attempt (wpAny_callSpecial?_slot (name := Str.ofString "__next__") hT slotL_next (call_meets slotL_next hT entryL_next (argsL_next _) (nextL_1 it x left step (by omega)) ⟨hit, ?_⟩)))
  exact wpAny_pure (hQ _ (Heap.get?_update_self _ (Heap.get?_update_self _ hit rfl) rfl) ((Heap.SameBut.update ..).trans (Heap.SameBut.update ..)))
theorem pyNext_longEnd {it : Addr} {x left step : Int} {Q : Option Value → Shared → Prop} (hh : A.handled = none) (hit : IsLong s.heap it x left step) (hleft : left ≤ 0)
    (hQ : ∀ h', Heap.ExtBut it s.heap h' → Q none { s with heap := h' }) : wpAny (model prog w) A (pyNext (.ref it)) Q E s := by
  have hT : s.TypeIs (.ref it) "longrange_iterator" := ⟨_, hit, rfl⟩
  unfold pyNext
  refine wpAny_bind (wpAny_attempt (wpAny_callSpecial?_slot (name := Str.ofString "__next__") hT slotL_next (wpAny_call_entry slotL_next hT entryL_next ?_ (argsL_next _))))
  show wpAny _ _ ((field (.ref it) 0 >>= _) >>= _) _ _ s
  refine wpAny_bind (wpAny_bind (wpAny_field hit rfl (x := rawInt x) rfl (wpAny_pure ?_)))
  refine wpAny_bind (wpAny_bind (wpAny_field hit rfl (x := rawInt left) rfl (wpAny_pure ?_)))
  refine wpAny_bind (wpAny_bind (wpAny_field hit rfl (x := rawInt step) rfl (wpAny_pure ?_)))
  show wpAny _ _ (if left ≤ 0 then _ else _) _ _ s
  rw [if_pos hleft]
  refine wpAny_bind (wpAny_rule ?_)
  refine wpAny_bind ?_
  show wpAny _ _ (newExc (.type "StopIteration") [] >>= _) _ _ _
  refine wpAny_bind ?_
  simp only [newExc, newTuple]
  refine wpAny_bind (wpAny_newObj_type ?_ (by size_fits))
  refine wpAny_bind (m := firstArgMember _ _) (wpAny_of_eq (a := Value.none) (by first | rfl | (simp only [firstArgMember]; rfl)) ?_)
  refine wpAny_newObj_type ?_ (by size_fits)
  simp only [raiseNew]
  refine wpAny_pure ?_
  refine wpAny_bind (wpAny_bind (wpAny_handled ?_))
  have hh1 : A.in1.handled = none := hh
  rw [hh1]
  refine wpAny_throw ?_
  refine wpAny_bind (wpAny_isInstance (T := "StopIteration") (b := true) ⟨_, Heap.get?_push_size _ rfl, rfl⟩ isSubtype_stop ?_)
  exact wpAny_pure (hQ _ (((Heap.ExtBut.refl it s.heap).push _).push _))
end

open L2
theorem turnL {P : Program} {w : World} {K : PySem.W.Frag} {tg : Expr} (it : Addr) (lo : Int) (n : Nat) : Turn P w K tg (Itr lo n) [it] it (fun i h => IsLong h it (lo + (i : Nat)) ((n : Int) - (i : Nat)) 1) where
  mem := List.mem_singleton.mpr rfl
  obj := fun i h st b hb => by
    obtain rfl := List.mem_singleton.mp hb
    refine ⟨_, st, fun v z => ?_⟩
    have z' : Data.fields _ = Data.cell v := z
    cases z'
  keep := fun i h h' st k => k it (List.mem_singleton.mpr rfl) _ st
  item := by
    intro X hP hw hK hc i pins s σ H E I hf st hg
    subst hP hw hK
    obtain ⟨f0, f1, f2, f3, f4, f5⟩ := hf it (List.mem_singleton.mpr rfl)
    have hlt : i < n := hg
    refine pyNext_long st (by omega) fun h' hit' hs' => ?_
    have I1 : Inv X pins σ H { s with heap := h', toks := s.toks + 1 } := I.turned (fun b o hb e => hs'.extBut b o hb e) f0 f1 f3 f4 f5
    have st' : IsLong h' it (lo + ((i + 1 : Nat) : Int)) ((n : Int) - ((i + 1 : Nat) : Int)) 1 := by
      rw [show lo + ((i + 1 : Nat) : Int) = lo + (i : Nat) + 1 by omega, show (n : Int) - ((i + 1 : Nat) : Int) = (n : Int) - (i : Nat) - 1 by omega]
      exact hit'
    exact ⟨_, rfl, go_of (s := { s with heap := h', toks := s.toks + 1 }) (n := "longrange_iterator") st' rfl rfl (by decide) ⟨.int (lo + i), H, I1, ⟨s.toks, rfl⟩, ⟨rfl, rfl⟩, st', fun b hb => (hf b hb).1⟩⟩
  done := by
    intro X hP hw hK hc i pins s σ H E I hf st hg
    subst hP hw hK
    obtain ⟨f0, f1, f2, f3, f4, f5⟩ := hf it (List.mem_singleton.mpr rfl)
    have hge : n ≤ i := hg
    exact pyNext_longEnd (I.ok.hd hc) st (by omega) fun h' eb => ⟨rfl, I.turned (t' := s.toks) (fun b o hb e => eb b o hb e) f0 f1 f3 f4 f5⟩
  self := fun A i s Q E st h => by
    have hT : s.TypeIs (.ref it) "longrange_iterator" := ⟨_, st, rfl⟩
    refine wpAny_pyIter_slot hT slotL_iter (wpAny_call_entry slotL_iter hT entryL_iter ?_ (argsL_iter _))
    show wpAny _ _ (ret (.ref it)) _ _ s
    exact wpAny_pure ⟨_, rfl, "longrange_iterator", _, hT, slotL_next.lookup, h⟩
section
variable {X : Cx} {tg : Expr}
/-- a range just made, of any whole numbers -/
theorem rng_any {pins : List (Addr × Obj)} {σ : L2.St} {H : Hp} {s : Shared} {R : It → Hp → Prop} {E : Value → Shared → Prop} {lo hi : Int} {t u v : Tok} {tk : Nat} (I : Inv X pins σ H s)
    (q : R (Itr lo (hi - lo).toNat) H) : wpAny (model X.prog X.w) X.A (pyIter (.ref s.heap.objs.size)) (PIE X pins σ tg R) E { s with heap := s.heap.push { cls := .type "range", data := .fields #[.int lo t, .int hi u, .int 1 v] }, toks := tk } := by
  have I1 : Inv X pins σ H { s with heap := s.heap.push { cls := .type "range", data := .fields #[.int lo t, .int hi u, .int 1 v] }, toks := tk } := I.kept fun b o e => Heap.get?_push_of_some _ e
  have cnt : (((hi - lo).toNat : Nat) : Int) = Builtin.Range.rangeSize lo hi 1 := by rw [rangeSize_one]; split <;> omega
  cases hs : Builtin.Range.small lo hi 1 with
  | true =>
    refine wpAny_pyIter_range (IsRange.new ..) hs ?_
    refine ⟨_, [_], _, _, H, rfl, I1.kept (t' := tk) fun b o e => Heap.get?_push_of_some _ e, turn_range _ lo (hi - lo).toNat, ?_, fun b hb => ?_, q⟩
    · show IsRangeIter _ _ (lo + ((0 : Nat) : Int) * 1) ((((hi - lo).toNat : Nat) : Int) - ((0 : Nat) : Int)) 1
      rw [show lo + ((0 : Nat) : Int) * 1 = lo by omega, show (((hi - lo).toNat : Nat) : Int) - ((0 : Nat) : Int) = Builtin.Range.rangeSize lo hi 1 by omega]
      exact Heap.get?_push_size _ rfl
    · obtain rfl := List.mem_singleton.mp hb
      exact I1.fpOk (Nat.le_refl _) (I1.hok.fresh (Nat.le_refl _))
  | false =>
    refine pyIter_long (IsRange.new ..) hs ?_
    refine ⟨_, [_], _, _, H, rfl, I1.kept (t' := tk) fun b o e => Heap.get?_push_of_some _ e, turnL _ lo (hi - lo).toNat, ?_, fun b hb => ?_, q⟩
    · show IsLong _ _ (lo + ((0 : Nat) : Int)) ((((hi - lo).toNat : Nat) : Int) - ((0 : Nat) : Int)) 1
      rw [show lo + ((0 : Nat) : Int) = lo by omega, show (((hi - lo).toNat : Nat) : Int) - ((0 : Nat) : Int) = Builtin.Range.rangeSize lo hi 1 by omega]
      exact Heap.get?_push_size _ rfl
    · obtain rfl := List.mem_singleton.mp hb
      exact I1.fpOk (Nat.le_refl _) (I1.hok.fresh (Nat.le_refl _))
def iAny1 (ta : TA) : TI := fun σ H R => ta σ H fun vs H1 => ∃ j : Int, vs = [.int j] ∧ R (Itr 0 j.toNat) H1
def iAny2 (ta : TA) : TI := fun σ H R => ta σ H fun vs H1 => ∃ i j : Int, vs = [.int i, .int j] ∧ R (Itr i (j - i).toNat) H1
theorem pi_any1 {a : Expr} {ta : TA} {p pos : Pos} (hg : Gl X "range") (hm : X.mg "range" = none) (ha : PA X [a] ta) (hs : starEach [a] X.env = [(false, eval a X.env)]) : PI X tg (.Call (.Name "range" p) [a] [] pos) (iAny1 ta) := by
  refine ⟨fun pins s σ H R I h => Call_ (ld_blt I hg hm boot_range (PyProof.Rows.callWith_type1 (thn (ha.run pos pins s σ H _ I h) fun us s1 ⟨vs, H1, I1, r1, q1⟩ => ?_) hs rfl))⟩
  obtain ⟨j, rfl, q⟩ := q1
  cases r1 with
  | cons r rr =>
    cases rr
    obtain ⟨t, rfl⟩ := r
    exact call_range_1 (rng_any I1 (by rw [Int.sub_zero]; exact q))
theorem pi_any2 {a b : Expr} {ta : TA} {p pos : Pos} (hg : Gl X "range") (hm : X.mg "range" = none) (ha : PA X [a, b] ta) (hs : starEach [a, b] X.env = [(false, eval a X.env), (false, eval b X.env)]) (hs2 : starEach [b] X.env = [(false, eval b X.env)]) :
    PI X tg (.Call (.Name "range" p) [a, b] [] pos) (iAny2 ta) := by
  refine ⟨fun pins s σ H R I h => Call_ (ld_blt I hg hm boot_range (PyProof.Rows.callWith_type1 (thn (ha.run pos pins s σ H _ I h) fun us s1 ⟨vs, H1, I1, r1, q1⟩ => ?_) (by rw [hs, hs2]) (by rw [hs2]; rfl)))⟩
  obtain ⟨i, j, rfl, q⟩ := q1
  cases r1 with
  | cons r rr =>
    cases rr with
    | cons r' rr =>
      cases rr
      obtain ⟨t, rfl⟩ := r
      obtain ⟨t', rfl⟩ := r'
      exact call_range_2 (rng_any I1 q)
end
end Py
end
section
set_option linter.all false
set_option maxRecDepth 100000
/-! PyB: expressions, statements, what they do. -/
namespace Py
open PySem

/-- a target of a for: a name, or names in a row -/
inductive Tg where
  | one (i : Nat) | row (is : List Nat)

mutual
inductive E where
  | var (i : Nat)
  | lit (d : D)
  | gl (g : Nat)
  | tup (es : Es)
  | mk (l : L)
  | bin (op : Bop) (a b : E)
  | neg (a : E)
  | cmp (op : Cop) (a b : E)
  | chn (op op' : Cop) (a b c : E)
  | isn (a : E)
  | nsn (a : E)
  | and_ (a b : E)
  | or_ (a b : E)
  | not_ (a : E)
  | ife (c a b : E)
  | idx (a i : E)
  | sli (a : E) (lo hi : Oe)
  | rev (a : E)
  | call (f : Nat) (es : Es)
  | callK (f : Nat) (es ks : Es) (perm : List Nat)
  | bi (b : Bi) (es : Es)
  | bl (b : Bl) (l : L)
  | isi (a : E) (T : Ty)
  | isT (a : E) (Ts : List Ty)
  | fld (a : E) (f : Nat)
  | meth (c m : Nat) (a : E) (es : Es)
  | make (c : Nat) (es : Es)
  | app (a b : E)
  | ext (a b : E)
  | dct (ks : List L2.Key) (es : Es)
  | exv (c : Nat) (a : E)
inductive Es where
  | nil | cons (e : E) (es : Es)
inductive Oe where
  | no | yes (e : E)
inductive L where
  | disp (es : Es)
  | of (e : E)
  | rng1 (a : E)
  | rng2 (a b : E)
  | comp (own : List Nat) (tg : Tg) (src : L) (ifs : Es) (elt : E)
end

mutual
inductive Sm where
  | expr (e : E)
  | set (i : Nat) (e : E)
  | unp (is : List Nat) (e : E)
  | par (is : List Nat) (es : Es)
  | setI (o i e : E)
  | setF (o : E) (f : Nat) (e : E)
  | aug (i : Nat) (op : Bop) (e : E)
  | ife (c : E) (a b : Ss)
  | whl (c : E) (b : Ss)
  | for_ (tg : Tg) (l : L) (b : Ss)
  | ret (e : E)
  | retN
  | rais (c : Nat) (e : E)
  | try_ (b : Ss) (c i : Nat) (h : Ss)
  | pass
  | brk
  | cnt
inductive Ss where
  | nil | cons (s : Sm) (ss : Ss)
end

/-- what stands around: calls of the program's own functions, the module's constants, ... -/
structure Ev where
  call : Nat → List D → Sto → Res D
  /-- one level deeper, for __init__ -/
  init : Nat → List D → Sto → Res D
  gv : Nat → D
  /-- is class c (an error's) the class d or below it -/
  sub : Nat → Nat → Bool
  /-- turns of a while -/
  fuel : Nat

def varD (i : Nat) (σ : Sl) (S : Sto) : Res D := match σ[i]? with
  | some (some d) => .ok d S
  | _ => .bad
def boolD (d : D) (S : Sto) (f : Bool → Sto → Res D) : Res D := match d with
  | .bl b => f b S
  | _ => .bad
@[simp] theorem boolD_bl (b : Bool) (S : Sto) (f : Bool → Sto → Res D) : boolD (.bl b) S f = f b S := rfl

def wipeD (σ : Sl) : List Nat → Sl
  | [] => σ
  | v :: vs => (wipeD σ vs).set v none
def setAll : List Nat → List D → Sl → Option Sl
  | [], [], σ => some σ
  | i :: is, d :: ds, σ => setAll is ds (σ.set i (some d))
  | _, _, _ => none
def tgD (tg : Tg) (d : D) (σ : Sl) : Option Sl := match tg with
  | .one i => some (σ.set i (some d))
  | .row is => match d with
    | .tup ds => setAll is ds σ
    | _ => none
/-- the list that a loop walks still stands as it did -/
inductive Src where
  | fresh | tuple | range (lo hi : Int) | at (n : Nat) (o : Ob)
noncomputable def Src.still (s : Src) (S : Sto) : Bool := match s with
  | .at n o => @decide (S[n]? = some o) (Classical.propDecidable _)
  | _ => true
def srcD (d : D) (S : Sto) : Res (List D × Src) := match d with
  | .tup xs => .ok (xs, .tuple) S
  | .ref n => match S[n]? with
    | some (.lst xs) => .ok (xs, .at n (.lst xs)) S
    | some (.frz xs) => .ok (xs, .at n (.frz xs)) S
    | _ => .bad
  | _ => .bad
def rngD (a b : Int) : List D := (List.range (b - a).toNat).map fun i => .int (a + (i : Nat))
def rngR (a b : D) (S : Sto) : Res (List D × Src) := match a, b with
  | .int i, .int j => .ok (rngD i j, .range i j) S
  | _, _ => .bad
/-- a range that is made a tuple or a list at once -/
def rngT (i j : Int) : Bool := decide ((j - i).toNat ≤ 2 ^ 24) && decide (-(2 ^ 62) ≤ i) && decide (i < 2 ^ 62) && decide (-(2 ^ 62) ≤ j) && decide (j < 2 ^ 62)
/-- a comprehension's turns: f of an item and the store gives an element, or none -/
noncomputable def compGo (s : Src) (f : D → Sto → Res (Option D)) : List D → List D → Sto → Res (List D)
  | [], acc, S => if s.still S = true then .ok acc S else .bad
  | d :: ds, acc, S => if s.still S = true then (match f d S with
    | .ok none S1 => compGo s f ds acc S1
    | .ok (some y) S1 => if acc.length < sizeLine then compGo s f ds (acc ++ [y]) S1 else .bad
    | _ => .bad) else .bad

def Sto.cls (S : Sto) (n : Nat) : Option Ob := S[n]?
def isiD (V : Ev) (d : D) (T : Ty) (S : Sto) : Option Bool := match d with
  | .non => some false
  | .bl _ => match T with
    | .int => some true
    | .bool => some true
    | _ => some false
  | .int _ => match T with
    | .int => some true
    | _ => some false
  | .str _ => match T with
    | .str => some true
    | _ => some false
  | .tup _ => match T with
    | .tuple => some true
    | _ => some false
  | .ref n => match S[n]? with
    | some (.lst _) => match T with
      | .list => some true
      | _ => some false
    | some (.frz _) => match T with
      | .list => some true
      | _ => some false
    | some (.dct _) => match T with
      | .dict => some true
      | _ => some false
    | some (.exc c _) => match T with
      | .own k => some (V.sub c k)
      | .verr => some true
      | _ => some false
    | _ => none
def isTD (V : Ev) (d : D) (S : Sto) : List Ty → Option Bool
  | [] => some false
  | T :: Ts => match isiD V d T S with
    | some true => some true
    | some false => isTD V d S Ts
    | none => none
def fldD (d : D) (f : Nat) (S : Sto) : Res D := match d with
  | .ref n => match S[n]? with
    | some (.ins _ fs) => orBad (getF f fs) S
    | some (.exc _ v) => if f = 0 then .ok v S else .bad
    | _ => .bad
  | _ => .bad
def lstQ (d : D) (S : Sto) : Bool := match d with
  | .ref n => match S[n]? with
    | some (.lst _) => true
    | _ => false
  | _ => false
def appD (a b : D) (S : Sto) : Res D := match a with
  | .ref n => match S[n]? with
    | some (.lst xs) => if xs.length < sizeLine then .ok .non (S.set n (.lst (xs ++ [b]))) else .bad
    | _ => .bad
  | _ => .bad
def extD (a b : D) (S : Sto) : Res D := match a, b with
  | .ref n, .ref m => match S[n]?, S[m]? with
    | some (.lst xs), some (.lst ys) => if xs.length + ys.length ≤ sizeLine then .ok .non (S.set n (.lst (xs ++ ys))) else .bad
    | _, _ => .bad
  | _, _ => .bad
/-- the keywords' values among the positional ones -/
def permD (ds : List D) : List Nat → Option (List D)
  | [] => some []
  | i :: is => match ds[i]?, permD ds is with
    | some d, some r => some (d :: r)
    | _, _ => none

/-- text of a value, as repr gives it -/
def showOk (p : PyData) : Bool := p.showable && decide (p.shown.length ≤ sizeLine)
def keyPD : L2.Key → PyData
  | .inl i => .int i
  | .inr x => .str x
def pairPR (f : D → Option PyData) (kv : L2.Key × D) : Option (PyData × PyData) := match f kv.2 with
  | some p => some (keyPD kv.1, p)
  | none => none
def toPR (S : Sto) : Nat → D → Option PyData
  | _, .non => some .none
  | _, .bl b => some (.bool b)
  | _, .int i => some (.int i)
  | _, .str x => some (.str x)
  | 0, _ => none
  | n + 1, .tup xs => (mapO (toPR S n) xs).map .tuple
  | n + 1, .ref k => match S[k]? with
    | some (.lst xs) => (mapO (toPR S n) xs).map .list
    | some (.dct kvs) => (mapO (pairPR (toPR S n)) kvs).map .dict
    | _ => none
def reprD (S : Sto) (d : D) : Option Str := match toPR S 60 d with
  | some p => if showOk p = true then some p.shown else none
  | none => none

def biD (b : Bi) (ds : List D) (S : Sto) : Res D := match b, ds with
  | .abs, [.int i] => .ok (.int (if i < 0 then -i else i)) S
  | .int, [.int i] => .ok (.int i) S
  | .int, [.bl k] => .ok (.int (if k then 1 else 0)) S
  | .str, [.int i] => if i.natAbs.log2 < 1920 then .ok (.str (toString i)) S else .bad
  | .len, [d] => orBad ((lenD S d).map fun n => .int (n : Nat)) S
  | .repr, [d] => orBad ((reprD S d).map .str) S
  | .divmod, [.int i, .int j] => if divOk j = true then .ok (.tup [.int (i / j), .int (i % j)]) S else .bad
  | .max2, [.int i, .int j] => .ok (.int (if j > i then j else i)) S
  | .min2, [.int i, .int j] => .ok (.int (if j < i then j else i)) S
  | .gcd, [.int i, .int j] => .ok (.int ((Nat.gcd i.natAbs j.natAbs : Nat) : Int)) S
  | .lcm, [.int i, .int j] => if i.natAbs < 2 ^ 64 ∧ j.natAbs < 2 ^ 64 then .ok (.int ((Nat.lcm i.natAbs j.natAbs : Nat) : Int)) S else .bad
  | .isqrt, [.int i] => if 0 ≤ i ∧ i < 2 ^ 64 then .ok (.int ((Float64.isqrt i.toNat : Nat) : Int)) S else .bad
  | _, _ => .bad
def blD (b : Bl) (ds : List D) (s : Src) (S : Sto) : Res D := match b with
  | .tuple => match s with
    | .range i j => if rngT i j = true then .ok (.tup ds) S else .bad
    | _ => .ok (.tup ds) S
  | .list => match s with
    | .range i j => if rngT i j = true then newL ds S else .bad
    | _ => newL ds S
  | .all => match s with
    | .fresh | .at _ _ => orBad ((boolsOf ds).map fun bs => .bl (bs.all id)) S
    | _ => .bad
  | .any => match s with
    | .fresh | .at _ _ => orBad ((boolsOf ds).map fun bs => .bl (bs.any id)) S
    | _ => .bad
  | .sum => match s with
    | .range _ _ => .bad
    | _ => orBad ((intsOf ds).map fun ns => .int ns.sum) S
  | .max => match s with
    | .fresh | .at _ _ => match ds with
      | [] => .bad
      | _ => orBad ((intsOf ds).map fun ns => .int (maxL ns)) S
    | _ => .bad
  | .min => match s with
    | .fresh | .at _ _ => match ds with
      | [] => .bad
      | _ => orBad ((intsOf ds).map fun ns => .int (minL ns)) S
    | _ => .bad
  | .sorted => match s with
    | .fresh | .at _ _ => match intsOf ds with
      | some ns => newL ((ns.mergeSort (fun a b => decide (a ≤ b))).map .int) S
      | none => .bad
    | _ => .bad

mutual
noncomputable def evE (V : Ev) : E → Sl → Sto → Res D
  | .var i, σ, S => varD i σ S
  | .lit d, _, S => .ok d S
  | .gl g, _, S => .ok (V.gv g) S
  | .tup es, σ, S => (evEs V es σ S).bind fun ds S1 => if ds.length ≤ sizeLine then .ok (.tup ds) S1 else .bad
  | .mk l, σ, S => (evL V l σ S).bind fun p S1 => match p.2 with
    | .fresh => newL p.1 S1
    | _ => .bad
  | .bin op a b, σ, S => (evE V a σ S).bind fun x S1 => (evE V b σ S1).bind fun y S2 => binD op x y S2
  | .neg a, σ, S => (evE V a σ S).bind fun x S1 => match x with
    | .int i => .ok (.int (-i)) S1
    | _ => .bad
  | .cmp op a b, σ, S => (evE V a σ S).bind fun x S1 => (evE V b σ S1).bind fun y S2 => cmpD op x y S2
  | .chn op op' a b c, σ, S => (evE V a σ S).bind fun x S1 => (evE V b σ S1).bind fun y S2 => (cmpD op x y S2).bind fun r S3 => boolD r S3 fun k S4 =>
      if k = true then (evE V c σ S4).bind fun z S5 => cmpD op' y z S5 else .ok (.bl false) S4
  | .isn a, σ, S => (evE V a σ S).bind fun x S1 => match x with
    | .non => .ok (.bl true) S1
    | _ => .ok (.bl false) S1
  | .nsn a, σ, S => (evE V a σ S).bind fun x S1 => match x with
    | .non => .ok (.bl false) S1
    | _ => .ok (.bl true) S1
  | .and_ a b, σ, S => (evE V a σ S).bind fun x S1 => boolD x S1 fun k S2 => if k = true then (evE V b σ S2).bind fun y S3 => boolD y S3 fun k' S4 => .ok (.bl k') S4 else .ok (.bl false) S2
  | .or_ a b, σ, S => (evE V a σ S).bind fun x S1 => boolD x S1 fun k S2 => if k = true then .ok (.bl true) S2 else (evE V b σ S2).bind fun y S3 => boolD y S3 fun k' S4 => .ok (.bl k') S4
  | .not_ a, σ, S => (evE V a σ S).bind fun x S1 => boolD x S1 fun k S2 => .ok (.bl (!k)) S2
  | .ife c a b, σ, S => (evE V c σ S).bind fun x S1 => boolD x S1 fun k S2 => if k = true then evE V a σ S2 else evE V b σ S2
  | .idx a i, σ, S => (evE V a σ S).bind fun x S1 => (evE V i σ S1).bind fun y S2 => idxD S2 x y
  | .sli a lo hi, σ, S => (evE V a σ S).bind fun x S1 => (evO V lo σ S1).bind fun l S2 => (evO V hi σ S2).bind fun h S3 => sliD x l h S3
  | .rev a, σ, S => (evE V a σ S).bind fun x S1 => revD x S1
  | .call f es, σ, S => (evEs V es σ S).bind fun ds S1 => V.call f ds S1
  | .callK f es ks perm, σ, S => (evEs V es σ S).bind fun ds S1 => (evEs V ks σ S1).bind fun ws S2 => (orBad (permD (ds ++ ws) perm) S2).bind fun zs S3 => V.call f zs S3
  | .bi b es, σ, S => (evEs V es σ S).bind fun ds S1 => biD b ds S1
  | .bl b l, σ, S => (evL V l σ S).bind fun p S1 => blD b p.1 p.2 S1
  | .isi a T, σ, S => (evE V a σ S).bind fun x S1 => orBad ((isiD V x T S1).map .bl) S1
  | .isT a Ts, σ, S => (evE V a σ S).bind fun x S1 => orBad ((isTD V x S1 Ts).map .bl) S1
  | .fld a f, σ, S => (evE V a σ S).bind fun x S1 => fldD x f S1
  | .meth c m a es, σ, S => (evE V a σ S).bind fun x S1 => match x with
    | .ref n => match S1[n]? with
      | some (.ins c' fs) => if c' = c then (evEs V es σ S1).bind fun ds S2 => V.call m (.ref n :: ds) S2 else .bad
      | _ => .bad
    | _ => .bad
  | .make c es, σ, S => (evEs V es σ S).bind fun ds S1 => (V.init c (.ref S1.length :: ds) (S1 ++ [.ins c []])).bind fun v S2 => match v with
    | .non => .ok (.ref S1.length) S2
    | _ => .bad
  | .app a b, σ, S => (evE V a σ S).bind fun x S1 => if lstQ x S1 = true then (evE V b σ S1).bind fun y S2 => appD x y S2 else .bad
  | .ext a b, σ, S => (evE V a σ S).bind fun x S1 => if lstQ x S1 = true then (evE V b σ S1).bind fun y S2 => extD x y S2 else .bad
  | .dct ks es, σ, S => (evEs V es σ S).bind fun ds S1 => if ds.length = ks.length ∧ ks.Nodup ∧ ks.length ≤ 15 then .ok (.ref S1.length) (S1 ++ [.dct (ks.zip ds)]) else .bad
  | .exv c a, σ, S => (evE V a σ S).bind fun x S1 => .ok (.ref S1.length) (S1 ++ [.exc c x])
noncomputable def evEs (V : Ev) : Es → Sl → Sto → Res (List D)
  | .nil, _, S => .ok [] S
  | .cons e es, σ, S => (evE V e σ S).bind fun d S1 => (evEs V es σ S1).bind fun ds S2 => .ok (d :: ds) S2
noncomputable def evO (V : Ev) : Oe → Sl → Sto → Res (Option Int)
  | .no, _, S => .ok none S
  | .yes e, σ, S => (evE V e σ S).bind fun d S1 => match d with
    | .int i => .ok (some i) S1
    | _ => .bad
/-- tests of a comprehension, from the left -/
noncomputable def evT (V : Ev) : Es → Sl → Sto → Res Bool
  | .nil, _, S => .ok true S
  | .cons e es, σ, S => (evE V e σ S).bind fun d S1 => match d with
    | .bl true => evT V es σ S1
    | .bl false => .ok false S1
    | _ => .bad
noncomputable def evL (V : Ev) : L → Sl → Sto → Res (List D × Src)
  | .disp es, σ, S => (evEs V es σ S).bind fun ds S1 => if ds.length ≤ sizeLine then .ok (ds, .fresh) S1 else .bad
  | .of e, σ, S => (evE V e σ S).bind fun d S1 => srcD d S1
  | .rng1 a, σ, S => (evE V a σ S).bind fun d S1 => rngR (.int 0) d S1
  | .rng2 a b, σ, S => (evE V a σ S).bind fun d S1 => (evE V b σ S1).bind fun d' S2 => rngR d d' S2
  | .comp own tg src ifs elt, σ, S => (evL V src σ S).bind fun p S1 =>
      (compGo p.2 (fun d S2 => match tgD tg d (wipeD σ own) with
        | none => .bad
        | some σ2 => (evT V ifs σ2 S2).bind fun k S3 => if k = true then (evE V elt σ2 S3).bind fun y S4 => .ok (some y) S4 else .ok none S3) p.1 [] S1).bind fun ds S2 => .ok (ds, .fresh) S2
end

/-- how a statement ends -/
inductive Out where
  | nx (σ : Sl) (S : Sto) | ret (d : D) (S : Sto) | brk (σ : Sl) (S : Sto) | cnt (σ : Sl) (S : Sto) | exc (c : Nat) (v : D) (σ : Sl) (S : Sto) | bad
def Out.then (o : Out) (f : Sl → Sto → Out) : Out := match o with
  | .nx σ S => f σ S
  | .ret d S => .ret d S
  | .brk σ S => .brk σ S
  | .cnt σ S => .cnt σ S
  | .exc c v σ S => .exc c v σ S
  | .bad => .bad
@[simp] theorem Out.then_nx (σ : Sl) (S : Sto) (f : Sl → Sto → Out) : (Out.nx σ S).then f = f σ S := rfl
@[simp] theorem Out.then_ret (d : D) (S : Sto) (f : Sl → Sto → Out) : (Out.ret d S).then f = .ret d S := rfl
@[simp] theorem Out.then_brk (σ : Sl) (S : Sto) (f : Sl → Sto → Out) : (Out.brk σ S).then f = .brk σ S := rfl
@[simp] theorem Out.then_cnt (σ : Sl) (S : Sto) (f : Sl → Sto → Out) : (Out.cnt σ S).then f = .cnt σ S := rfl
@[simp] theorem Out.then_exc (c : Nat) (v : D) (σ : Sl) (S : Sto) (f : Sl → Sto → Out) : (Out.exc c v σ S).then f = .exc c v σ S := rfl
@[simp] theorem Out.then_bad (f : Sl → Sto → Out) : Out.bad.then f = .bad := rfl
/-- an expression's end within a statement -/
def Res.out {α : Type} (r : Res α) (σ : Sl) (f : α → Sto → Out) : Out := match r with
  | .ok a S => f a S
  | .exc c v S => .exc c v σ S
  | .bad => .bad
@[simp] theorem Res.out_ok {α : Type} (a : α) (S : Sto) (σ : Sl) (f : α → Sto → Out) : (Res.ok a S).out σ f = f a S := rfl
@[simp] theorem Res.out_exc {α : Type} (c : Nat) (v : D) (S : Sto) (σ : Sl) (f : α → Sto → Out) : (Res.exc c v S : Res α).out σ f = .exc c v σ S := rfl
@[simp] theorem Res.out_bad {α : Type} (σ : Sl) (f : α → Sto → Out) : (Res.bad : Res α).out σ f = .bad := rfl
def outO {α : Type} (o : Option α) (f : α → Out) : Out := match o with
  | some a => f a
  | none => .bad
@[simp] theorem outO_some {α : Type} (a : α) (f : α → Out) : outO (some a) f = f a := rfl
@[simp] theorem outO_none {α : Type} (f : α → Out) : outO (none : Option α) f = .bad := rfl
def boolO (d : D) (f : Bool → Out) : Out := match d with
  | .bl b => f b
  | _ => .bad
@[simp] theorem boolO_bl (b : Bool) (f : Bool → Out) : boolO (.bl b) f = f b := rfl

noncomputable def forGo (s : Src) (tg : Tg) (f : Sl → Sto → Out) : List D → Sl → Sto → Out
  | [], σ, S => if s.still S = true then .nx σ S else .bad
  | d :: ds, σ, S => if s.still S = true then (match tgD tg d σ with
    | none => .bad
    | some σ1 => match f σ1 S with
      | .nx σ2 S2 => forGo s tg f ds σ2 S2
      | .cnt σ2 S2 => forGo s tg f ds σ2 S2
      | .brk σ2 S2 => .nx σ2 S2
      | .ret d S2 => .ret d S2
      | .exc c v σ2 S2 => .exc c v σ2 S2
      | .bad => .bad) else .bad
def whlGo (t : Sl → Sto → Res D) (f : Sl → Sto → Out) : Nat → Sl → Sto → Out
  | 0, _, _ => .bad
  | n + 1, σ, S => (t σ S).out σ fun d S1 => boolO d fun k => if k = true then (match f σ S1 with
      | .nx σ2 S2 => whlGo t f n σ2 S2
      | .cnt σ2 S2 => whlGo t f n σ2 S2
      | .brk σ2 S2 => .nx σ2 S2
      | .ret d S2 => .ret d S2
      | .exc c v σ2 S2 => .exc c v σ2 S2
      | .bad => .bad) else .nx σ S1
def unpD (d : D) (S : Sto) : Option (List D) := match d with
  | .tup ds => some ds
  | _ => none
def catchD (V : Ev) (c i : Nat) (h : Sl → Sto → Out) (o : Out) : Out := match o with
  | .exc k v σ S => if V.sub k c = true then (match h (σ.set i (some (.ref S.length))) (S ++ [.exc k v]) with
      | .nx σ2 S2 => .nx (σ2.set i none) S2
      | .ret d S2 => .ret d S2
      | .brk σ2 S2 => .brk (σ2.set i none) S2
      | .cnt σ2 S2 => .cnt (σ2.set i none) S2
      | .exc _ _ _ _ => .bad
      | .bad => .bad) else .exc k v σ S
  | o => o

mutual
noncomputable def evS (V : Ev) : Sm → Sl → Sto → Out
  | .expr e, σ, S => (evE V e σ S).out σ fun _ S1 => .nx σ S1
  | .set i e, σ, S => (evE V e σ S).out σ fun d S1 => .nx (σ.set i (some d)) S1
  | .unp is e, σ, S => (evE V e σ S).out σ fun d S1 => outO (unpD d S1) fun ds => outO (setAll is ds σ) fun σ1 => .nx σ1 S1
  | .par is es, σ, S => (evEs V es σ S).out σ fun ds S1 => outO (setAll is ds σ) fun σ1 => .nx σ1 S1
  | .setI o i e, σ, S => (evE V e σ S).out σ fun v S1 => (evE V o σ S1).out σ fun x S2 => (evE V i σ S2).out σ fun y S3 => outO (setIx x y v S3) fun S4 => .nx σ S4
  | .setF o f e, σ, S => (evE V e σ S).out σ fun v S1 => (evE V o σ S1).out σ fun x S2 => match x with
    | .ref n => match S2[n]? with
      | some (.ins c fs) => if fs.length < 1000 then .nx σ (S2.set n (.ins c (putF f v fs))) else .bad
      | _ => .bad
    | _ => .bad
  | .aug i op e, σ, S => (varD i σ S).out σ fun x S1 => (evE V e σ S1).out σ fun y S2 => match x, y with
    | .int a, .int b => match op with
      | .add => .nx (σ.set i (some (.int (a + b)))) S2
      | .sub => .nx (σ.set i (some (.int (a - b)))) S2
      | _ => .bad
    | _, _ => .bad
  | .ife c a b, σ, S => (evE V c σ S).out σ fun d S1 => boolO d fun k => if k = true then evSs V a σ S1 else evSs V b σ S1
  | .whl c b, σ, S => whlGo (evE V c) (evSs V b) V.fuel σ S
  | .for_ tg l b, σ, S => (evL V l σ S).out σ fun p S1 => forGo p.2 tg (evSs V b) p.1 σ S1
  | .ret e, σ, S => (evE V e σ S).out σ fun d S1 => .ret d S1
  | .retN, _, S => .ret .non S
  | .rais c e, σ, S => (evE V e σ S).out σ fun d S1 => .exc c d σ S1
  | .try_ b c i h, σ, S => catchD V c i (evSs V h) (evSs V b σ S)
  | .pass, σ, S => .nx σ S
  | .brk, σ, S => .brk σ S
  | .cnt, σ, S => .cnt σ S
noncomputable def evSs (V : Ev) : Ss → Sl → Sto → Out
  | .nil, σ, S => .nx σ S
  | .cons s ss, σ, S => (evS V s σ S).then (evSs V ss)
end

/-! ### a program -/
structure Fn where
  np : Nat
  ns : Nat
  body : Ss
structure Prog where
  fns : Nat → Option Fn
  gv : Nat → D
  sub : Nat → Nat → Bool
  /-- the __init__ of a plain class -/
  ini : Nat → Nat

def startD (ns : Nat) (ds : List D) : Sl := ds.map some ++ List.replicate (ns - ds.length) none
def endD (n : Nat) (o : Out) : Res D := match o with
  | .ret d S => tidy n d S
  | .nx _ S => tidy n .non S
  | .exc c v _ S => tidyX n c v S
  | _ => .bad
noncomputable def callI (P : Prog) (w : Nat) : Nat → Nat → List D → Sto → Res D
  | 0, _, _, _ => .bad
  | k + 1, f, ds, S => match P.fns f with
    | none => .bad
    | some F => if ds.length = F.np then
        endD S.length (evSs ⟨callI P w k, fun c => (match k with
          | 0 => fun _ _ => .bad
          | k' + 1 => callI P w k' (P.ini c)), P.gv, P.sub, w⟩ F.body (startD F.ns ds) S)
      else .bad
end Py
end
section
set_option linter.all false
set_option maxRecDepth 100000
/-! PyC: how our values and store lie in the library's abstract heap. -/
namespace Py
open PySem PySem.Spec PyProof.Rows L2

/-- the text's tables: the written part, the classes' addresses, the fields' names -/
structure Tb where
  K : PySem.W.Frag
  C : Nat → Addr
  fls : List Str
  /-- how many classes of errors -/
  nx : Nat

/-- what the written part says of a plain class, of an error's class -/
def KC (T : Tb) (c : Nat) : Prop := Cls T.K (T.C c) ∧ (∀ f ∈ T.fls, NoAttr T.K (T.C c) f) ∧ T.fls.Nodup
def KX (T : Tb) (c : Nat) : Prop := c < T.nx ∧ ExcC T.K (T.C c) ∧ PySem.W.findIn T.K (.ref (T.C c)) "value" = some none

mutual
inductive RD (K : PySem.W.Frag) (m : List Addr) (H : Hp) : D → V → Prop
  | non : RD K m H .non .non
  | bl (b : Bool) : RD K m H (.bl b) (.bl b)
  | int (i : Int) : RD K m H (.int i) (.int i)
  | str (x : Str) : RD K m H (.str x) (.str x)
  | ref {n : Nat} {a : Addr} : m[n]? = some a → RD K m H (.ref n) (.ref a)
  | tup {ds : List D} {a : Addr} {vs : List V} : SqT K H a vs → RDs K m H ds vs → RD K m H (.tup ds) (.ref a)
inductive RDs (K : PySem.W.Frag) (m : List Addr) (H : Hp) : List D → List V → Prop
  | nil : RDs K m H [] []
  | cons {d : D} {v : V} {ds : List D} {vs : List V} : RD K m H d v → RDs K m H ds vs → RDs K m H (d :: ds) (v :: vs)
end

/-- an error object of the class at C, its own dict at dx -/
def ExcO (C dx a : Addr) : HO := .ext fun h => ∃ (oe : Obj) (vs : Array Value), h.get? a = some oe ∧ oe.cls = .ref C ∧ oe.dict = some dx ∧ oe.data = .fields vs
def valF (v : V) : List (Str × V) := [("value", v)]

def RKv (K : PySem.W.Frag) (m : List Addr) (H : Hp) : List (Key × D) → List (Key × V) → Prop := Paired fun p q => p.1 = q.1 ∧ RD K m H p.2 q.2
def RFs (T : Tb) (m : List Addr) (H : Hp) : List (Nat × D) → List (Str × V) → Prop := Paired fun p q => T.fls[p.1]? = some q.1 ∧ RD T.K m H p.2 q.2
def RO (T : Tb) (m : List Addr) (H : Hp) (a : Addr) : Ob → Prop
  | .lst xs => ∃ vs, H a = some (.lst vs) ∧ RDs T.K m H xs vs
  | .frz xs => ∃ o vs, H a = some (.frz o (.lst vs)) ∧ RDs T.K m H xs vs
  | .dct kvs => ∃ ws, H a = some (.dK ws) ∧ RKv T.K m H kvs ws
  | .ins c fs => ∃ dx ws, H a = some (.ins (T.C c) dx ws) ∧ RFs T m H fs ws ∧ KC T c
  | .exc c v => ∃ dx w, H a = some (ExcO (T.C c) dx a) ∧ H dx = some (.xd (valF w)) ∧ RD T.K m H v w ∧ dx ∉ m ∧ KX T c
structure RS (T : Tb) (m : List Addr) (S : Sto) (H : Hp) : Prop where
  len : m.length = S.length
  nd : m.Nodup
  ob : ∀ (n : Nat) (o : Ob) (a : Addr), S[n]? = some o → m[n]? = some a → RO T m H a o
def RSl (K : PySem.W.Frag) (m : List Addr) (H : Hp) : Sl → L2.St → Prop := Paired fun o u => ∀ d, o = some d → ∃ v, u = some v ∧ RD K m H d v
/-- the store grows; what is tracked and none of ours stays as it is -/
structure Ext (m : List Addr) (H : Hp) (m' : List Addr) (H' : Hp) : Prop where
  pre : m <+: m'
  fr : ∀ a o, H a = some o → a ∉ m → H' a = some o ∧ a ∉ m'

theorem Ext.refl {m : List Addr} {H : Hp} : Ext m H m H := ⟨List.prefix_refl m, fun _ _ h n => ⟨h, n⟩⟩
theorem Ext.trans {m m1 m2 : List Addr} {H H1 H2 : Hp} (x : Ext m H m1 H1) (y : Ext m1 H1 m2 H2) : Ext m H m2 H2 :=
  ⟨x.pre.trans y.pre, fun a o h n => let ⟨h1, n1⟩ := x.fr a o h n; y.fr a o h1 n1⟩
theorem Ext.get {m m' : List Addr} {H H' : Hp} (x : Ext m H m' H') {n : Nat} {a : Addr} (h : m[n]? = some a) : m'[n]? = some a := by
  obtain ⟨r, e⟩ := x.pre
  subst e
  obtain ⟨hl, _⟩ := List.getElem?_eq_some_iff.mp h
  rw [List.getElem?_append_left hl]
  exact h
/-- a new tracked object that is none of ours -/
theorem Ext.new {m : List Addr} {H : Hp} {p : Addr} {o : HO} (h : H p = none) : Ext m H m (upd H p o) :=
  ⟨List.prefix_refl m, fun a u e n => ⟨by rw [upd_ne (ne_of_none e h)]; exact e, n⟩⟩
/-- a new object of ours -/
theorem Ext.newO {m : List Addr} {H : Hp} {p : Addr} {o : HO} (h : H p = none) : Ext m H (m ++ [p]) (upd H p o) :=
  ⟨List.prefix_append m _, fun a u e n => ⟨by rw [upd_ne (ne_of_none e h)]; exact e, fun z => by
    rcases List.mem_append.mp z with z | z
    · exact n z
    · rw [List.mem_singleton.mp z, h] at e; cases e⟩⟩
/-- an object of ours is changed -/
theorem Ext.set {m : List Addr} {H : Hp} {p : Addr} {o : HO} (h : p ∈ m) : Ext m H m (upd H p o) :=
  ⟨List.prefix_refl m, fun a u e n => ⟨by rw [upd_ne (fun z : a = p => n (by rw [z]; exact h))]; exact e, n⟩⟩

section
variable {T : Tb} {K : PySem.W.Frag} {m m' : List Addr} {S S' : Sto} {H H' : Hp}
theorem RS.mem (r : RS T m S H) {a : Addr} (h : a ∈ m) : ∃ (n : Nat) (o : Ob), S[n]? = some o ∧ m[n]? = some a ∧ RO T m H a o := by
  obtain ⟨n, hn, e⟩ := List.mem_iff_getElem.mp h
  have hs : n < S.length := by rw [← r.len]; exact hn
  have e1 : m[n]? = some a := by rw [List.getElem?_eq_getElem hn, e]
  exact ⟨n, S[n], by simp [hs], e1, r.ob n _ a (by simp [hs]) e1⟩
theorem RS.addr (r : RS T m S H) {n : Nat} {o : Ob} (h : S[n]? = some o) : ∃ a, m[n]? = some a ∧ a ∈ m ∧ RO T m H a o := by
  have hs := (List.getElem?_eq_some_iff.mp h).1
  have hn : n < m.length := by rw [r.len]; exact hs
  have e1 : m[n]? = some m[n] := by simp [hn]
  exact ⟨m[n], e1, List.getElem_mem hn, r.ob n o _ h e1⟩
theorem RO.some {a : Addr} {o : Ob} (r : RO T m H a o) : ∃ u, H a = some u ∧ (∀ xs, u ≠ .tup xs) ∧ (∀ ob xs, u ≠ .frz ob (.tup xs)) := by
  cases o with
  | lst xs => obtain ⟨vs, h, _⟩ := r; exact ⟨_, h, ⟨fun _ z => (nomatch z), fun _ _ z => (nomatch z)⟩⟩
  | frz xs => obtain ⟨o, vs, h, _⟩ := r; exact ⟨_, h, ⟨fun _ z => (nomatch z), fun _ _ z => (nomatch z)⟩⟩
  | dct xs => obtain ⟨vs, h, _⟩ := r; exact ⟨_, h, ⟨fun _ z => (nomatch z), fun _ _ z => (nomatch z)⟩⟩
  | ins c xs => obtain ⟨dx, vs, h, _⟩ := r; exact ⟨_, h, ⟨fun _ z => (nomatch z), fun _ _ z => (nomatch z)⟩⟩
  | exc c v => obtain ⟨dx, vs, h, _⟩ := r; exact ⟨_, h, ⟨fun _ z => (nomatch z), fun _ _ z => (nomatch z)⟩⟩
theorem RS.notup (r : RS T m S H) {a : Addr} {vs : List V} (h : Rd H a (.tup vs)) : a ∉ m := fun hm => by
  obtain ⟨n, o, _, _, ro⟩ := r.mem hm
  obtain ⟨u, e, h1, h2⟩ := ro.some
  rcases h with h | ⟨ob, h⟩
  · rw [e] at h; cases h; exact h1 _ rfl
  · rw [e] at h; cases h; exact h2 _ _ rfl
theorem RS.fresh (r : RS T m S H) {p : Addr} (h : H p = none) : p ∉ m := fun hm => by
  obtain ⟨n, o, _, _, ro⟩ := r.mem hm
  obtain ⟨u, e, _⟩ := ro.some
  rw [h] at e; cases e
theorem sqT_ext (r : RS T m S H) (x : Ext m H m' H') {a : Addr} {vs : List V} (h : SqT K H a vs) : SqT K H' a vs := by
  rcases h with h | h
  · left
    have na := r.notup h
    rcases h with h | ⟨ob, h⟩
    · exact .inl (x.fr _ _ h na).1
    · exact .inr ⟨ob, (x.fr _ _ h na).1⟩
  · exact .inr h
mutual
theorem RD.ext (r : RS T m S H) (x : Ext m H m' H') : ∀ (d : D) (v : V), RD K m H d v → RD K m' H' d v
  | _, _, .non => .non
  | _, _, .bl b => .bl b
  | _, _, .int i => .int i
  | _, _, .str y => .str y
  | _, _, .ref h => .ref (x.get h)
  | .tup ds, _, .tup h hs => .tup (sqT_ext r x h) (RDs.ext r x ds _ hs)
theorem RDs.ext (r : RS T m S H) (x : Ext m H m' H') : ∀ (ds : List D) (vs : List V), RDs K m H ds vs → RDs K m' H' ds vs
  | _, _, .nil => .nil
  | d :: ds, v :: vs, .cons h hs => .cons (RD.ext r x d v h) (RDs.ext r x ds vs hs)
end
theorem RSl.ext (r : RS T m S H) (x : Ext m H m' H') {σI : Sl} {σ : L2.St} (h : RSl K m H σI σ) : RSl K m' H' σI σ :=
  Paired.mapP h fun o u z d e => let ⟨v, e1, q⟩ := z d e; ⟨v, e1, q.ext r x⟩

/-! ### lists of related values -/
theorem RDs.length : ∀ {ds : List D} {vs : List V}, RDs K m H ds vs → ds.length = vs.length
  | _, _, .nil => rfl
  | _, _, .cons _ h => by rw [List.length_cons, List.length_cons, h.length]
theorem RDs.get : ∀ {ds : List D} {vs : List V} {i : Nat} {d : D}, RDs K m H ds vs → ds[i]? = some d → ∃ v, vs[i]? = some v ∧ RD K m H d v
  | _, _, _, _, .nil, e => by simp at e
  | _, _, 0, _, .cons h _, e => by simp at e; subst e; exact ⟨_, rfl, h⟩
  | _, _, i + 1, d, .cons _ h, e => by
    obtain ⟨v, h1, h2⟩ := h.get (i := i) (d := d) (by simpa using e)
    exact ⟨v, by simpa using h1, h2⟩
theorem RDs.getV : ∀ {ds : List D} {vs : List V} {i : Nat} {v : V}, RDs K m H ds vs → vs[i]? = some v → ∃ d, ds[i]? = some d ∧ RD K m H d v
  | _, _, _, _, .nil, e => by simp at e
  | _, _, 0, _, .cons h _, e => by simp at e; subst e; exact ⟨_, rfl, h⟩
  | _, _, i + 1, d, .cons _ h, e => by
    obtain ⟨v, h1, h2⟩ := h.getV (i := i) (v := d) (by simpa using e)
    exact ⟨v, by simpa using h1, h2⟩
theorem RDs.append : ∀ {ds es : List D} {vs ws : List V}, RDs K m H ds vs → RDs K m H es ws → RDs K m H (ds ++ es) (vs ++ ws)
  | _, _, _, _, .nil, s => s
  | _, _, _, _, .cons h t, s => .cons h (t.append s)
theorem RDs.take : ∀ {ds : List D} {vs : List V} (n : Nat), RDs K m H ds vs → RDs K m H (ds.take n) (vs.take n)
  | _, _, 0, _ => .nil
  | _, _, _ + 1, .nil => .nil
  | _, _, n + 1, .cons h t => .cons h (t.take n)
theorem RDs.drop : ∀ {ds : List D} {vs : List V} (n : Nat), RDs K m H ds vs → RDs K m H (ds.drop n) (vs.drop n)
  | _, _, 0, h => h
  | _, _, _ + 1, .nil => .nil
  | _, _, n + 1, .cons _ t => t.drop n
theorem RDs.set {d : D} {v : V} (h : RD K m H d v) : ∀ {ds : List D} {vs : List V} (i : Nat), RDs K m H ds vs → RDs K m H (ds.set i d) (vs.set i v)
  | _, _, _, .nil => .nil
  | _, _, 0, .cons _ t => .cons h t
  | _, _, i + 1, .cons q t => .cons q (RDs.set h i t)
theorem RDs.snoc {ds : List D} {vs : List V} {d : D} {v : V} (h : RDs K m H ds vs) (q : RD K m H d v) : RDs K m H (ds ++ [d]) (vs ++ [v]) := h.append (.cons q .nil)
theorem RDs.rep {ds : List D} {vs : List V} (h : RDs K m H ds vs) : ∀ n : Nat, RDs K m H (List.replicate n ds).flatten (List.replicate n vs).flatten
  | 0 => .nil
  | n + 1 => by
    rw [List.replicate_succ, List.replicate_succ, List.flatten_cons, List.flatten_cons]
    exact h.append (h.rep n)
theorem RDs.rev : ∀ {ds : List D} {vs : List V}, RDs K m H ds vs → RDs K m H ds.reverse vs.reverse
  | _, _, .nil => .nil
  | _, _, .cons h t => by
    rw [List.reverse_cons, List.reverse_cons]
    exact t.rev.snoc h
theorem RDs.at {ds : List D} {vs : List V} {i : Int} {d : D} (h : RDs K m H ds vs) (e : atI ds i = some d) : ∃ v, atI vs i = some v ∧ RD K m H d v := by
  unfold atI at e ⊢
  rw [← h.length]
  cases q : ixN ds.length i with
  | none => rw [q] at e; cases e
  | some j =>
    rw [q] at e
    exact h.get (i := j) e
theorem RDs.cut {ds : List D} {vs : List V} (lo hi : Option Int) (h : RDs K m H ds vs) : RDs K m H (Py.cut ds lo hi) (cutV vs lo hi) := by
  unfold Py.cut cutV
  rw [h.length]
  exact (h.drop _).take _
theorem RDs.ints : ∀ {ds : List D} {vs : List V} {ns : List Int}, RDs K m H ds vs → intsOf ds = some ns → vs = ns.map V.int
  | _, _, ns, .nil, e => by
    have e' : some [] = some ns := e
    cases e'; rfl
  | d :: ds, v :: vs, ns, .cons h t, e => by
    obtain ⟨a, b, e1, e2, rfl⟩ := consO_some (show consO (intOf d) (intsOf ds) = some ns from e)
    cases h with
    | int i =>
      cases e1
      rw [t.ints e2]; rfl
    | non => cases e1
    | bl b => cases e1
    | str b => cases e1
    | ref b => cases e1
    | tup b c => cases e1
theorem RDs.bools : ∀ {ds : List D} {vs : List V} {ns : List Bool}, RDs K m H ds vs → boolsOf ds = some ns → vs = ns.map V.bl
  | _, _, ns, .nil, e => by
    have e' : some [] = some ns := e
    cases e'; rfl
  | d :: ds, v :: vs, ns, .cons h t, e => by
    obtain ⟨a, b, e1, e2, rfl⟩ := consO_some (show consO (boolOf d) (boolsOf ds) = some ns from e)
    cases h with
    | bl i =>
      cases e1
      rw [t.bools e2]; rfl
    | non => cases e1
    | int b => cases e1
    | str b => cases e1
    | ref b => cases e1
    | tup b c => cases e1
theorem RDs.ofInts : ∀ ns : List Int, RDs K m H (ns.map .int) (ns.map V.int)
  | [] => .nil
  | n :: ns => .cons (.int n) (RDs.ofInts ns)
theorem intsOf_map : ∀ ns : List Int, intsOf (ns.map .int) = some ns
  | [] => rfl
  | n :: ns => by
    show consO (intOf (.int n)) (intsOf (ns.map .int)) = _
    rw [intsOf_map ns]; rfl

/-! ### slots -/
theorem RSl.get {σI : Sl} {σ : L2.St} {i : Nat} {d : D} (h : RSl K m H σI σ) (e : σI[i]? = some (some d)) : ∃ v, σ[i]? = some (some v) ∧ RD K m H d v := by
  have go : ∀ {σI : Sl} {σ : L2.St} {i : Nat}, RSl K m H σI σ → σI[i]? = some (some d) → ∃ v, σ[i]? = some (some v) ∧ RD K m H d v := by
    intro σI
    induction σI with
    | nil => intro σ i _ e; simp at e
    | cons o r ih =>
      intro σ i h e
      cases h with
      | cons q t =>
        cases i with
        | zero =>
          simp at e
          obtain ⟨v, e1, q1⟩ := q d e
          exact ⟨v, by simp [e1], q1⟩
        | succ i =>
          obtain ⟨v, e1, q1⟩ := ih t (by simpa using e)
          exact ⟨v, by simpa using e1, q1⟩
  exact go h e
theorem RSl.set {σI : Sl} {σ : L2.St} {i : Nat} {o : Option D} {u : Option V} (h : RSl K m H σI σ) (q : ∀ d, o = some d → ∃ v, u = some v ∧ RD K m H d v) : RSl K m H (σI.set i o) (σ.set i u) := by
  have go : ∀ {σI : Sl} {σ : L2.St} (i : Nat), RSl K m H σI σ → RSl K m H (σI.set i o) (σ.set i u) := by
    intro σI
    induction σI with
    | nil => intro σ i h; cases h; exact .nil
    | cons p r ih =>
      intro σ i h
      cases h with
      | cons z t =>
        cases i with
        | zero => exact .cons q t
        | succ i => exact .cons z (ih i t)
  exact go i h
theorem RSl.setV {σI : Sl} {σ : L2.St} {i : Nat} {d : D} {v : V} (h : RSl K m H σI σ) (q : RD K m H d v) : RSl K m H (σI.set i (some d)) (σ.set i (some v)) := h.set fun d' e => by cases e; exact ⟨v, rfl, q⟩
theorem RSl.wipe {σI : Sl} {σ : L2.St} (h : RSl K m H σI σ) : ∀ vs : List Nat, RSl K m H (wipeD σI vs) (wipe σ vs)
  | [] => h
  | v :: vs => (h.wipe vs).set fun d e => by cases e
theorem RSl.start {ds : List D} {vs : List V} {N : List Str} {n : Nat} (hn : N.length = n) (h : RDs K m H ds vs) : RSl K m H (startD n ds) (L2.start N vs) := by
  unfold startD L2.start
  rw [hn, ← h.length]
  have a : ∀ {ds : List D} {vs : List V}, RDs K m H ds vs → RSl K m H (ds.map some) (vs.map some) := by
    intro ds
    induction ds with
    | nil => intro vs h; cases h; exact .nil
    | cons d ds ih => intro vs h; cases h with | cons q t => exact .cons (fun d' e => by cases e; exact ⟨_, rfl, q⟩) (ih t)
  have b : ∀ k : Nat, RSl K m H (List.replicate k none) (List.replicate k none) := by
    intro k
    induction k with
    | zero => exact .nil
    | succ k ih => exact .cons (fun d e => by cases e) ih
  have c : ∀ {σ1 σ2 : Sl} {τ1 τ2 : L2.St}, RSl K m H σ1 τ1 → RSl K m H σ2 τ2 → RSl K m H (σ1 ++ σ2) (τ1 ++ τ2) := by
    intro σ1
    induction σ1 with
    | nil => intro σ2 τ1 τ2 h1 h2; cases h1; exact h2
    | cons o r ih => intro σ2 τ1 τ2 h1 h2; cases h1 with | cons q t => exact .cons q (ih t h2)
  exact c (a h) (b _)

/-! ### the store -/
theorem RO.ext (r : RS T m S H) (x : Ext m H m' H') {a : Addr} {o : Ob} (ha : H' a = H a) (h : RO T m H a o) : RO T m' H' a o := by
  cases o with
  | lst xs => obtain ⟨vs, h1, h2⟩ := h; exact ⟨vs, ha.trans h1, RDs.ext r x _ _ h2⟩
  | frz xs => obtain ⟨ob, vs, h1, h2⟩ := h; exact ⟨ob, vs, ha.trans h1, RDs.ext r x _ _ h2⟩
  | dct kvs => obtain ⟨ws, h1, h2⟩ := h; exact ⟨ws, ha.trans h1, Paired.mapP h2 fun p q z => ⟨z.1, RD.ext r x _ _ z.2⟩⟩
  | ins c fs => obtain ⟨dx, ws, h1, h2, h3⟩ := h; exact ⟨dx, ws, ha.trans h1, Paired.mapP h2 fun p q z => ⟨z.1, RD.ext r x _ _ z.2⟩, h3⟩
  | exc c v =>
    obtain ⟨dx, w, h1, h2, h3, h4, h7⟩ := h
    obtain ⟨h5, h6⟩ := x.fr dx _ h2 h4
    exact ⟨dx, w, ha.trans h1, h5, RD.ext r x _ _ h3, h6, h7⟩
/-- a new tracked object that is none of ours -/
theorem RS.new (r : RS T m S H) {p : Addr} {o : HO} (h : H p = none) : RS T m S (upd H p o) :=
  ⟨r.len, r.nd, fun n ob a e1 e2 => (r.ob n ob a e1 e2).ext r (Ext.new h) (upd_ne fun z => r.fresh h (z ▸ List.mem_of_getElem? e2))⟩
/-- a new object of ours -/
theorem RS.newO (r : RS T m S H) {p : Addr} {o : HO} {ob : Ob} (h : H p = none) (q : RO T (m ++ [p]) (upd H p o) p ob) : RS T (m ++ [p]) (S ++ [ob]) (upd H p o) := by
  refine ⟨by simp [r.len], ?_, fun n ob' a e1 e2 => ?_⟩
  · refine List.nodup_append.mpr ⟨r.nd, by simp, fun a ha b hb z => ?_⟩
    rw [List.mem_singleton.mp hb] at z
    exact r.fresh h (z ▸ ha)
  · by_cases hn : n < S.length
    · rw [List.getElem?_append_left hn] at e1
      rw [List.getElem?_append_left (by rw [r.len]; exact hn)] at e2
      exact (r.ob n ob' a e1 e2).ext r (Ext.newO h) (upd_ne fun z => r.fresh h (z ▸ List.mem_of_getElem? e2))
    · have h1 : n = S.length := by
        have := (List.getElem?_eq_some_iff.mp e1).1
        simp at this; omega
      subst h1
      rw [List.getElem?_append_right (Nat.le_refl _)] at e1
      rw [List.getElem?_append_right (by rw [r.len]; exact Nat.le_refl _)] at e2
      simp [r.len] at e1 e2
      subst e1 e2
      exact q
/-- an object of ours is changed -/
theorem RS.set (r : RS T m S H) {n : Nat} {p : Addr} {o : HO} {ob : Ob} (h : m[n]? = some p) (q : RO T m (upd H p o) p ob) : RS T m (S.set n ob) (upd H p o) := by
  have hp : p ∈ m := List.mem_of_getElem? h
  refine ⟨by simp [r.len], r.nd, fun k ob' a e1 e2 => ?_⟩
  by_cases hk : k = n
  · subst hk
    rw [h] at e2; cases e2
    have hl : k < S.length := by rw [← r.len]; exact (List.getElem?_eq_some_iff.mp h).1
    rw [List.getElem?_set_self hl] at e1
    cases e1
    exact q
  · rw [List.getElem?_set_ne (Ne.symm hk)] at e1
    refine (r.ob k ob' a e1 e2).ext r (Ext.set hp) (upd_ne fun z => ?_)
    subst z
    obtain ⟨h1, e1'⟩ := List.getElem?_eq_some_iff.mp h
    obtain ⟨h2, e2'⟩ := List.getElem?_eq_some_iff.mp e2
    exact hk ((List.getElem_inj r.nd).mp (e2'.trans e1'.symm))
theorem RS.last (r : RS T m S H) {p : Addr} : (m ++ [p])[S.length]? = some p := by rw [← r.len]; simp
end
end Py
end
section
set_option linter.all false
set_option maxRecDepth 100000
/-! PyD: readings that say «as our machine does»; operators. -/
namespace Py
open PySem PySem.Spec PyProof.Rows L2

/-- what is wanted of errors: class, value, slots, store -/
abbrev Wx := Nat → D → Sl → Sto → Prop
/-- where the code began, and the wish about errors -/
structure Bs where
  T : Tb
  m0 : List Addr
  H0 : Hp
  XW : Wx

structure At (B : Bs) (m : List Addr) (S : Sto) (H : Hp) (σI : Sl) (σ : L2.St) : Prop where
  rs : RS B.T m S H
  sl : RSl B.T.K m H σI σ
  ex : Ext B.m0 B.H0 m H
def Fin {α : Type} (B : Bs) (m : List Addr) (H : Hp) (σI : Sl) (r : Res α) (R : α → Sto → List Addr → Hp → Prop) : Prop :=
  match r with
  | .ok a S' => ∀ m' H', Ext m H m' H' → RS B.T m' S' H' → R a S' m' H'
  | .exc c v S' => ∀ m' H', Ext m H m' H' → RS B.T m' S' H' → B.XW c v σI S'
  | .bad => False

section
variable {B : Bs} {m m1 : List Addr} {S S1 : Sto} {H H1 : Hp} {σI : Sl} {σ : L2.St} {α β : Type}
theorem At.next (A : At B m S H σI σ) (x : Ext m H m1 H1) (r : RS B.T m1 S1 H1) : At B m1 S1 H1 σI σ := ⟨r, A.sl.ext A.rs x, A.ex.trans x⟩
theorem Fin.ext {r : Res α} {R : α → Sto → List Addr → Hp → Prop} (F : Fin B m H σI r R) (x : Ext m H m1 H1) : Fin B m1 H1 σI r R := by
  cases r with
  | ok a S' => exact fun m' H' y rs => F m' H' (x.trans y) rs
  | exc c v S' => exact fun m' H' y rs => F m' H' (x.trans y) rs
  | bad => exact F
theorem Fin.imp {r : Res α} {R R' : α → Sto → List Addr → Hp → Prop} (F : Fin B m H σI r R) (h : ∀ a S' m' H', Ext m H m' H' → RS B.T m' S' H' → R a S' m' H' → R' a S' m' H') : Fin B m H σI r R' := by
  cases r with
  | ok a S' => exact fun m' H' y rs => h a S' m' H' y rs (F m' H' y rs)
  | exc c v S' => exact F
  | bad => exact F
theorem Fin.bind {r : Res α} {g : α → Sto → Res β} {R : β → Sto → List Addr → Hp → Prop} (F : Fin B m H σI (r.bind g) R) :
    Fin B m H σI r fun a S1 m1 H1 => Fin B m1 H1 σI (g a S1) R := by
  cases r with
  | ok a S' => exact fun m' H' y rs => Fin.ext F y
  | exc c v S' => exact F
  | bad => exact F
/-- where nothing is wished for errors -/
theorem Fin.orBad {o : Option α} {R : α → Sto → List Addr → Hp → Prop} (F : Fin B m H σI (orBad o S) R) (rs : RS B.T m S H) : ∃ a, o = some a ∧ R a S m H := by
  cases o with
  | none => exact absurd F (fun z => z)
  | some a => exact ⟨a, rfl, F m H Ext.refl rs⟩
end

/-- an expression read as our machine does it -/
def tE (B : Bs) (f : Sl → Sto → Res D) : TE := fun σ H Q => ∃ m S σI, At B m S H σI σ ∧ Fin B m H σI (f σI S) fun d _ m' H' => ∀ v, RD B.T.K m' H' d v → Q v H'
def tA (B : Bs) (f : Sl → Sto → Res (List D)) : TA := fun σ H Q => ∃ m S σI, At B m S H σI σ ∧ Fin B m H σI (f σI S) fun ds _ m' H' => ∀ vs, RDs B.T.K m' H' ds vs → Q vs H'
/-- a test -/
def tT (B : Bs) (f : Sl → Sto → Res Bool) : TT := fun σ H Q => ∃ m S σI, At B m S H σI σ ∧ Fin B m H σI (f σI S) fun b _ _ H' => Q b H'

theorem PE.imp {X : Cx} {e : Expr} {t t' : TE} (h : PE X e t) (i : ∀ σ H Q, t' σ H Q → t σ H Q) : PE X e t' := ⟨fun pins s σ H Q I q => h.run pins s σ H Q I (i _ _ _ q)⟩
theorem PT.imp {X : Cx} {e : Expr} {t t' : TT} (h : PT X e t) (i : ∀ σ H Q, t' σ H Q → t σ H Q) : PT X e t' := ⟨fun pins s σ H Q I q => h.run pins s σ H Q I (i _ _ _ q)⟩
theorem PA.imp {X : Cx} {e : List Expr} {t t' : TA} (h : PA X e t) (i : ∀ σ H Q, t' σ H Q → t σ H Q) : PA X e t' := ⟨fun pos pins s σ H Q I q => h.run pos pins s σ H Q I (i _ _ _ q)⟩
theorem PS.imp {X : Cx} {e : Stmt} {t t' : TS} (h : PS X e t) (i : ∀ D σ H, t' D σ H → t D σ H) : PS X e t' := ⟨fun pins s σ H D I q => h.run pins s σ H D I (i _ _ _ q)⟩
theorem PSs.imp {X : Cx} {e : List Stmt} {t t' : TS} (h : PSs X e t) (i : ∀ D σ H, t' D σ H → t D σ H) : PSs X e t' := ⟨fun pins s σ H D I q => h.run pins s σ H D I (i _ _ _ q)⟩

/-! ### operators on values -/
section
variable {B : Bs} {m : List Addr} {S : Sto} {H : Hp} {σI : Sl} {d e : D} {v w : V} {Q : VK}
/-- what is wanted of a value -/
abbrev Wv (B : Bs) (Q : VK) : D → Sto → List Addr → Hp → Prop := fun d _ m' H' => ∀ v, RD B.T.K m' H' d v → Q v H'

theorem Fin.now {a : D} (F : Fin B m H σI (.ok a S) (Wv B Q)) (rs : RS B.T m S H) {u : V} (h : RD B.T.K m H a u) : Q u H := F m H Ext.refl rs u h
/-- a new tuple -/
theorem Fin.newT {ds : List D} {vs : List V} (F : Fin B m H σI (.ok (.tup ds) S) (Wv B Q)) (rs : RS B.T m S H) (h : RDs B.T.K m H ds vs) : ∀ p, H p = none → Q (.ref p) (upd H p (.tup vs)) := fun p hp =>
  F m _ (Ext.new hp) (rs.new hp) _ (.tup (SqT.of upd_same) (RDs.ext rs (Ext.new hp) _ _ h))
/-- a new list -/
theorem Fin.newL {ds : List D} {vs : List V} (F : Fin B m H σI (newL ds S) (Wv B Q)) (rs : RS B.T m S H) (h : RDs B.T.K m H ds vs) : ∀ p, H p = none → Q (.ref p) (upd H p (.lst vs)) := fun p hp =>
  F (m ++ [p]) _ (Ext.newO hp) (rs.newO hp ⟨vs, upd_same, RDs.ext rs (Ext.newO hp) _ _ h⟩) _ (.ref rs.last)
theorem RD.lst (rs : RS B.T m S H) {n : Nat} {xs : List D} (h : RD B.T.K m H (.ref n) v) (e : S[n]? = some (.lst xs)) : ∃ a vs, v = .ref a ∧ m[n]? = some a ∧ H a = some (.lst vs) ∧ RDs B.T.K m H xs vs := by
  cases h with
  | ref h =>
    obtain ⟨vs, h1, h2⟩ := rs.ob n _ _ e h
    exact ⟨_, vs, rfl, h, h1, h2⟩
theorem RD.frz (rs : RS B.T m S H) {n : Nat} {xs : List D} (h : RD B.T.K m H (.ref n) v) (e : S[n]? = some (.frz xs)) : ∃ a o vs, v = .ref a ∧ m[n]? = some a ∧ H a = some (.frz o (.lst vs)) ∧ RDs B.T.K m H xs vs := by
  cases h with
  | ref h =>
    obtain ⟨o, vs, h1, h2⟩ := rs.ob n _ _ e h
    exact ⟨_, o, vs, rfl, h, h1, h2⟩
theorem RD.items (rs : RS B.T m S H) {xs : List D} (h : RD B.T.K m H d v) (e : itemsOf S d = some xs) : ∃ a vs, v = .ref a ∧ (SqL B.T.K H a vs ∨ SqT B.T.K H a vs) ∧ RDs B.T.K m H xs vs := by
  cases h with
  | tup h hs => cases e; exact ⟨_, _, rfl, .inr h, hs⟩
  | @ref n a h =>
    unfold itemsOf at e
    dsimp only at e
    split at e
    · next ys hy => cases e; obtain ⟨_, vs, e1, _, e2, e3⟩ := RD.lst rs (.ref h) hy; cases e1; exact ⟨_, vs, rfl, .inl (SqL.of e2), e3⟩
    · next ys hy => cases e; obtain ⟨_, o, vs, e1, _, e2, e3⟩ := RD.frz rs (.ref h) hy; cases e1; exact ⟨_, vs, rfl, .inl (.inl (.inr ⟨o, e2⟩)), e3⟩
    · cases e
  | _ => cases e

def rAddP (K : PySem.W.Frag) : R2 := fun x y H Q => ((rI0 fun i j => .int (i + j)) x y H Q ∨ rCatA K x y H Q) ∨ (rCat x y H Q ∨ ∃ i j, x = .str i ∧ y = .str j ∧ i.length + j.length ≤ sizeLine ∧ Q (.str (i ++ j)) H)
theorem op_addP {X : Cx} : OpR X (binaryOp .Add) (rAddP X.K) := OpR.or (OpR.or op_add op_catA) (OpR.or op_cat op_add_str)
theorem addP_ok (rs : RS B.T m S H) (rv : RD B.T.K m H d v) (rw : RD B.T.K m H e w) (F : Fin B m H σI (binD .add d e S) (Wv B Q)) : rAddP B.T.K v w H Q := by
  cases rv with
  | int i =>
    cases rw with
    | int j => exact .inl (.inl ⟨i, j, rfl, rfl, F.now rs (.int _)⟩)
    | _ => exact absurd F (fun z => z)
  | str x =>
    cases rw with
    | str y =>
      unfold binD at F
      dsimp only at F
      split at F
      · next h => exact .inr (.inr ⟨x, y, rfl, rfl, h, F.now rs (.str _)⟩)
      · exact absurd F (fun z => z)
    | _ => exact absurd F (fun z => z)
  | @tup xs a vs h hs =>
    cases rw with
    | @tup ys b ws k ks =>
      unfold binD at F
      dsimp only at F
      split at F
      · next hz =>
        refine .inl (.inr ⟨a, b, vs, ws, rfl, rfl, h, k, by rw [← hs.length, ← ks.length]; exact hz, fun e0 => ?_, fun n0 e1 => ?_, fun n0 n1 => ?_⟩)
        · subst e0
          cases hs
          exact F.now rs (.tup k ks)
        · subst e1
          cases ks
          rw [List.append_nil] at F
          exact F.now rs (.tup h hs)
        · exact F.newT rs (hs.append ks)
      · exact absurd F (fun z => z)
    | _ => exact absurd F (fun z => z)
  | @ref n a h =>
    cases rw with
    | @ref k b h' =>
      unfold binD at F
      dsimp only at F
      split at F
      · next xs ys hx hy =>
        split at F
        · next hz =>
          obtain ⟨_, vs, e1, _, h1, h2⟩ := RD.lst (B := B) rs (.ref h) hx
          obtain ⟨_, ws, e2, _, h3, h4⟩ := RD.lst (B := B) rs (.ref h') hy
          cases e1; cases e2
          exact .inr (.inl ⟨a, b, vs, ws, rfl, rfl, h1, h3, by rw [← h2.length, ← h4.length]; exact hz, Fin.newL F rs (h2.append h4)⟩)
        · exact absurd F (fun z => z)
      · exact absurd F (fun z => z)
    | _ => exact absurd F (fun z => z)
  | _ => exact absurd F (fun z => z)
theorem subP_ok (rs : RS B.T m S H) (rv : RD B.T.K m H d v) (rw : RD B.T.K m H e w) (F : Fin B m H σI (binD .sub d e S) (Wv B Q)) : (rI0 fun i j => .int (i - j)) v w H Q := by
  cases rv with
  | int i =>
    cases rw with
    | int j => exact ⟨i, j, rfl, rfl, F.now rs (.int _)⟩
    | _ => exact absurd F (fun z => z)
  | _ => exact absurd F (fun z => z)
theorem mulOk_ok {i j : Int} (h : mulOk i j = true) : CMul i j ∨ CMulW i j := by
  unfold mulOk at h
  simp only [Bool.or_eq_true, Bool.and_eq_true, decide_eq_true_eq] at h
  rcases h with (⟨h1, h2⟩ | ⟨h1, h2⟩) | h
  · exact .inl (.inl ⟨h1, h2⟩)
  · exact .inl (.inr ⟨h1, h2⟩)
  · exact .inr h
def rMulP (K : PySem.W.Frag) : R2 := fun x y H Q => ((rI CMul fun i j => .int (i * j)) x y H Q ∨ (rI CMulW fun i j => .int (i * j)) x y H Q) ∨ (rRep x y H Q ∨ rRepT K x y H Q)
theorem op_mulP {X : Cx} : OpR X (binaryOp .Mult) (rMulP X.K) := OpR.or (OpR.or op_mul op_mulW) (OpR.or op_rep op_repT)
theorem mulP_ok (rs : RS B.T m S H) (rv : RD B.T.K m H d v) (rw : RD B.T.K m H e w) (F : Fin B m H σI (binD .mul d e S) (Wv B Q)) : rMulP B.T.K v w H Q := by
  cases rv with
  | int i =>
    cases rw with
    | int j =>
      unfold binD at F
      dsimp only at F
      split at F
      · next h =>
        rcases mulOk_ok h with h | h
        · exact .inl (.inl ⟨i, j, rfl, rfl, h, F.now rs (.int _)⟩)
        · exact .inl (.inr ⟨i, j, rfl, rfl, h, F.now rs (.int _)⟩)
      · exact absurd F (fun z => z)
    | _ => exact absurd F (fun z => z)
  | @tup xs a vs h hs =>
    cases rw with
    | int k =>
      unfold binD at F
      dsimp only at F
      split at F
      · next hz =>
        obtain ⟨z1, z2, z3, z4⟩ := hz
        refine .inr (.inr ⟨a, k, vs, rfl, rfl, h, fun e0 => ?_, z3, z4, by rw [← hs.length]; exact z2, Fin.newT F rs (hs.rep _)⟩)
        subst e0
        cases hs
        exact z1 rfl
      · exact absurd F (fun z => z)
    | _ => exact absurd F (fun z => z)
  | @ref n a h =>
    cases rw with
    | int k =>
      unfold binD at F
      dsimp only at F
      split at F
      · next xs hx =>
        split at F
        · next hz =>
          obtain ⟨_, vs, e1, _, h1, h2⟩ := RD.lst (B := B) rs (.ref h) hx
          cases e1
          exact .inr (.inl ⟨a, k, vs, rfl, rfl, h1, hz.1, hz.2.1, by rw [← h2.length]; exact hz.2.2, Fin.newL F rs (h2.rep _)⟩)
        · exact absurd F (fun z => z)
      · exact absurd F (fun z => z)
    | _ => exact absurd F (fun z => z)
  | _ => exact absurd F (fun z => z)
theorem divP_ok (rs : RS B.T m S H) (rv : RD B.T.K m H d v) (rw : RD B.T.K m H e w) (F : Fin B m H σI (binD .fdiv d e S) (Wv B Q)) : (rI CDivW fun i j => .int (i / j)) v w H Q := by
  cases rv with
  | int i =>
    cases rw with
    | int j =>
      unfold binD at F
      dsimp only at F
      split at F
      · next h =>
        unfold divOk at h
        simp only [Bool.and_eq_true, decide_eq_true_eq] at h
        exact ⟨i, j, rfl, rfl, h, F.now rs (.int _)⟩
      · exact absurd F (fun z => z)
    | _ => exact absurd F (fun z => z)
  | _ => exact absurd F (fun z => z)
theorem modP_ok (rs : RS B.T m S H) (rv : RD B.T.K m H d v) (rw : RD B.T.K m H e w) (F : Fin B m H σI (binD .mod d e S) (Wv B Q)) : (rI (fun _ j => 0 < j) fun i j => .int (i % j)) v w H Q := by
  cases rv with
  | int i =>
    cases rw with
    | int j =>
      unfold binD at F
      dsimp only at F
      split at F
      · next h => exact ⟨i, j, rfl, rfl, h, F.now rs (.int _)⟩
      · exact absurd F (fun z => z)
    | _ => exact absurd F (fun z => z)
  | _ => exact absurd F (fun z => z)
theorem powP_ok (rs : RS B.T m S H) (rv : RD B.T.K m H d v) (rw : RD B.T.K m H e w) (F : Fin B m H σI (binD .pow d e S) (Wv B Q)) : (rI CPow fun i j => .int (i ^ j.toNat)) v w H Q := by
  cases rv with
  | int i =>
    cases rw with
    | int j =>
      unfold binD at F
      dsimp only at F
      split at F
      · next h =>
        unfold powOk at h
        simp only [Bool.and_eq_true, decide_eq_true_eq] at h
        exact ⟨i, j, rfl, rfl, ⟨h.1.1, h.1.2, h.2⟩, F.now rs (.int _)⟩
      · exact absurd F (fun z => z)
    | _ => exact absurd F (fun z => z)
  | _ => exact absurd F (fun z => z)

/-! ### comparisons -/
theorem mapO_some {α β : Type} {f : α → Option β} {x : α} {xs : List α} {r : List β} (h : mapO f (x :: xs) = some r) : ∃ a b, f x = some a ∧ mapO f xs = some b ∧ r = a :: b := consO_some h
theorem pd_ok (rs : RS B.T m S H) : ∀ (n : Nat) (d : D) (v : V) (p : PyData), RD B.T.K m H d v → toPD S n d = some p → Dp B.T.K H v p ∧ p.canLay0 = true ∧ p.depth ≤ n := by
  intro n
  have lists : ∀ n : Nat, (∀ (d : D) (v : V) (p : PyData), RD B.T.K m H d v → toPD S n d = some p → Dp B.T.K H v p ∧ p.canLay0 = true ∧ p.depth ≤ n) →
      ∀ (ds : List D) (vs : List V) (ps : List PyData), RDs B.T.K m H ds vs → mapO (toPD S n) ds = some ps → DpAll B.T.K H vs ps ∧ PyData.canLayAll0 ps = true ∧ PyData.depthAll ps ≤ n := by
    intro n ih ds
    induction ds with
    | nil => intro vs ps h e; cases h; cases e; exact ⟨.nil, by simp only [PyData.canLayAll0], by simp only [PyData.depthAll]; exact Nat.zero_le _⟩
    | cons d ds ihd =>
      intro vs ps h e
      cases h with
      | cons h hs =>
        obtain ⟨a, b, e1, e2, rfl⟩ := mapO_some e
        obtain ⟨q1, q2, q3⟩ := ih d _ a h e1
        obtain ⟨r1, r2, r3⟩ := ihd _ b hs e2
        exact ⟨.cons q1 r1, by simp only [PyData.canLayAll0, q2, r2, Bool.and_self], by simp only [PyData.depthAll]; omega⟩
  have leaf : ∀ (n : Nat) (d : D) (v : V) (p : PyData), (∀ xs, d ≠ .tup xs) → (∀ k, d ≠ .ref k) → RD B.T.K m H d v → toPD S n d = some p → Dp B.T.K H v p ∧ p.canLay0 = true ∧ p.depth ≤ n := by
    intro n d v p n1 n2 h e
    cases h with
    | non => cases n <;> (cases e; exact ⟨.non, by simp only [PyData.canLay0], by simp only [PyData.depth]; exact Nat.zero_le _⟩)
    | bl b => cases n <;> (cases e; exact ⟨.bl b, by simp only [PyData.canLay0], by simp only [PyData.depth]; exact Nat.zero_le _⟩)
    | int b => cases n <;> (cases e; exact ⟨.int b, by simp only [PyData.canLay0], by simp only [PyData.depth]; exact Nat.zero_le _⟩)
    | str x =>
      have e' : (if PyData.strOk x = true then some (PyData.str x) else none) = some p := by cases n <;> exact e
      split at e'
      · next hx => cases e'; exact ⟨.str x, by simp only [PyData.canLay0, hx], by simp only [PyData.depth]; exact Nat.zero_le _⟩
      · cases e'
    | ref h => exact absurd rfl (n2 _)
    | tup h hs => exact absurd rfl (n1 _)
  induction n with
  | zero =>
    intro d v p h e
    cases d with
    | tup xs => cases e
    | ref k => cases e
    | _ => exact leaf 0 _ v p (fun _ z => by cases z) (fun _ z => by cases z) h e
  | succ n ih =>
    intro d v p h e
    cases d with
    | tup xs =>
      cases h with
      | tup h hs =>
        have e' : (mapO (toPD S n) xs).map PyData.tuple = some p := e
        obtain ⟨ps, e1, rfl⟩ := Option.map_eq_some_iff.mp e'
        obtain ⟨q1, q2, q3⟩ := lists n ih _ _ _ hs e1
        exact ⟨.tup h q1, by simp only [PyData.canLay0, q2], by simp only [PyData.depth]; omega⟩
    | ref k =>
      have e' : (match S[k]? with | some (.lst xs) => (mapO (toPD S n) xs).map PyData.list | _ => none) = some p := e
      split at e'
      · next xs hx =>
        obtain ⟨_, vs, rfl, _, h2, h3⟩ := RD.lst (B := B) rs h hx
        obtain ⟨ps, e1, rfl⟩ := Option.map_eq_some_iff.mp e'
        obtain ⟨q1, q2, q3⟩ := lists n ih _ _ _ h3 e1
        exact ⟨.lst (SqL.of h2) q1, by simp only [PyData.canLay0, q2], by simp only [PyData.depth]; omega⟩
      · cases e'
    | _ => exact leaf (n + 1) _ v p (fun _ z => by cases z) (fun _ z => by cases z) h e
theorem pd_shaped (rs : RS B.T m S H) {p : PyData} (h : RD B.T.K m H d v) (e : toPD S 60 d = some p) : Dp B.T.K H v p ∧ SeqAt.shaped p = true := by
  obtain ⟨q1, q2, q3⟩ := pd_ok rs 60 d v p h e
  exact ⟨q1, by unfold SeqAt.shaped; rw [q2, decide_eq_true (by omega)]; rfl⟩
/-- lists of different lengths are not equal -/
def rEqL : R2 := fun x y H Q => ∃ a b xs ys, x = .ref a ∧ y = .ref b ∧ H a = some (.lst xs) ∧ H b = some (.lst ys) ∧ xs.length ≠ ys.length ∧ Q (.bl false) H
theorem op_eqL {X : Cx} (hu : X.A.units + 64 < cLine) : OpR X (compareOp .Eq) rEqL := by
  intro pins s σ H x y v u Q I rx ry h
  obtain ⟨a, b, xs, ys, rfl, rfl, h1, h2, hn, q⟩ := h
  cases rx
  cases ry
  obtain ⟨z, its, n, r, hl, e⟩ := I.lstM h1
  obtain ⟨z2, its2, n2, r2, hl2, e2⟩ := I.lstM h2
  refine PySem.P.eq_list_lengths e e2 ?_ (by omega) ⟨.bl _, H, I, rfl, q⟩
  rw [bne_iff_ne, List.size_toArray, List.size_toArray, ← r.length, ← r2.length]
  exact hn
def rEqP (K : PySem.W.Frag) : R2 := fun x y H Q => (rEq x y H Q ∨ rEqD K x y H Q) ∨ rEqL x y H Q
def rNeP (K : PySem.W.Frag) : R2 := fun x y H Q => rNe x y H Q ∨ rNeD K x y H Q
theorem op_eqP {X : Cx} (hu : X.A.units + 64 < cLine) : OpR X (compareOp .Eq) (rEqP X.K) := OpR.or (OpR.or op_eq (op_eqD hu)) (op_eqL hu)
theorem op_neP {X : Cx} (hu : X.A.units + 64 < cLine) : OpR X (compareOp .NotEq) (rNeP X.K) := OpR.or op_ne (op_neD hu)
theorem eqD_ok (rs : RS B.T m S H) (rv : RD B.T.K m H d v) (rw : RD B.T.K m H e w) {k : Bool} (h : eqD S d e = some k) :
    (∃ x y, v = .str x ∧ w = .str y ∧ k = decide (x = y)) ∨ ∃ p q, Dp B.T.K H v p ∧ Dp B.T.K H w q ∧ SeqAt.shaped p = true ∧ SeqAt.shaped q = true ∧ k = PyData.eqv p q := by
  have main : (match toPD S 60 d, toPD S 60 e with | some p, some q => some (PyData.eqv p q) | _, _ => none) = some k →
      ∃ p q, Dp B.T.K H v p ∧ Dp B.T.K H w q ∧ SeqAt.shaped p = true ∧ SeqAt.shaped q = true ∧ k = PyData.eqv p q := by
    intro h
    split at h
    · next p q e1 e2 =>
      obtain ⟨p1, p2⟩ := pd_shaped rs rv e1
      obtain ⟨q1, q2⟩ := pd_shaped rs rw e2
      exact ⟨p, q, p1, q1, p2, q2, (Option.some.inj h).symm⟩
    · cases h
  cases rv with
  | str x =>
    cases rw with
    | str y => exact .inl ⟨x, y, rfl, rfl, (Option.some.inj h).symm⟩
    | _ => exact .inr (main h)
  | _ => exact .inr (main h)
theorem cmpEq_ok (rs : RS B.T m S H) (rv : RD B.T.K m H d v) (rw : RD B.T.K m H e w) (F : Fin B m H σI (cmpD .eq d e S) (Wv B Q)) : rEqP B.T.K v w H Q := by
  unfold cmpD at F
  dsimp only at F
  split at F
  · next hn =>
    unfold lenNe at hn
    split at hn
    · next k l =>
      split at hn
      · next xs ys h1 h2 =>
        obtain ⟨_, vs, rfl, _, q2, q3⟩ := RD.lst (B := B) rs rv h1
        obtain ⟨_, ws, rfl, _, r2, r3⟩ := RD.lst (B := B) rs rw h2
        refine .inr ⟨_, _, vs, ws, rfl, rfl, q2, r2, ?_, F.now rs (.bl _)⟩
        rw [← q3.length, ← r3.length]
        exact of_decide_eq_true hn
      · cases hn
    · cases hn
  · refine .inl ?_
    obtain ⟨a, e1, q⟩ := Fin.orBad F rs
    obtain ⟨k, e2, rfl⟩ := Option.map_eq_some_iff.mp e1
    have q' := q _ (.bl k)
    rcases eqD_ok rs rv rw e2 with ⟨x, y, rfl, rfl, rfl⟩ | ⟨p, r, h1, h2, h3, h4, rfl⟩
    · exact .inl ⟨rfl, by rw [dec_str, Bool.beq_eq_decide_eq]; exact q'⟩
    · exact .inr ⟨p, r, h1, h2, h3, h4, q'⟩
theorem cmpNe_ok (rs : RS B.T m S H) (rv : RD B.T.K m H d v) (rw : RD B.T.K m H e w) (F : Fin B m H σI (cmpD .ne d e S) (Wv B Q)) : rNeP B.T.K v w H Q := by
  obtain ⟨a, e1, q⟩ := Fin.orBad F rs
  obtain ⟨k, e2, rfl⟩ := Option.map_eq_some_iff.mp e1
  have q' := q _ (.bl (!k))
  rcases eqD_ok rs rv rw e2 with ⟨x, y, rfl, rfl, rfl⟩ | ⟨p, r, h1, h2, h3, h4, rfl⟩
  · exact .inl ⟨rfl, by rw [dec_str, Bool.beq_eq_decide_eq]; exact q'⟩
  · exact .inr ⟨p, r, h1, h2, h3, h4, q'⟩
def rLtP (K : PySem.W.Frag) : R2 := fun x y H Q => (rI0 fun i j => .bl (decide (i < j))) x y H Q ∨ rLtT K x y H Q
theorem op_ltP {X : Cx} (hu : X.A.units < cLine) : OpR X (compareOp .Lt) (rLtP X.K) := OpR.or op_lt (op_ltT hu)
theorem cmpLt_ok (rs : RS B.T m S H) (rv : RD B.T.K m H d v) (rw : RD B.T.K m H e w) (F : Fin B m H σI (cmpD .lt d e S) (Wv B Q)) : rLtP B.T.K v w H Q := by
  cases rv with
  | int i =>
    cases rw with
    | int j => exact .inl ⟨i, j, rfl, rfl, F.now rs (.bl _)⟩
    | _ => exact absurd F (fun z => z)
  | @tup xs a vs h hs =>
    cases rw with
    | @tup ys b ws k ks =>
      unfold cmpD at F
      dsimp only at F
      split at F
      · next ns ms h1 h2 =>
        have e1 := hs.ints h1
        have e2 := ks.ints h2
        subst e1 e2
        exact .inr ⟨a, b, ns, ms, rfl, rfl, h, k, F.now rs (.bl _)⟩
      · exact absurd F (fun z => z)
    | _ => exact absurd F (fun z => z)
  | _ => exact absurd F (fun z => z)
theorem cmpLe_ok (rs : RS B.T m S H) (rv : RD B.T.K m H d v) (rw : RD B.T.K m H e w) (F : Fin B m H σI (cmpD .le d e S) (Wv B Q)) : (rI0 fun i j => .bl (decide (i ≤ j))) v w H Q := by
  cases rv with
  | int i =>
    cases rw with
    | int j => exact ⟨i, j, rfl, rfl, F.now rs (.bl _)⟩
    | _ => exact absurd F (fun z => z)
  | _ => exact absurd F (fun z => z)
theorem cmpGt_ok (rs : RS B.T m S H) (rv : RD B.T.K m H d v) (rw : RD B.T.K m H e w) (F : Fin B m H σI (cmpD .gt d e S) (Wv B Q)) : (rI0 fun i j => .bl (decide (j < i))) v w H Q := by
  cases rv with
  | int i =>
    cases rw with
    | int j => exact ⟨i, j, rfl, rfl, F.now rs (.bl _)⟩
    | _ => exact absurd F (fun z => z)
  | _ => exact absurd F (fun z => z)
theorem cmpGe_ok (rs : RS B.T m S H) (rv : RD B.T.K m H d v) (rw : RD B.T.K m H e w) (F : Fin B m H σI (cmpD .ge d e S) (Wv B Q)) : (rI0 fun i j => .bl (decide (j ≤ i))) v w H Q := by
  cases rv with
  | int i =>
    cases rw with
    | int j => exact ⟨i, j, rfl, rfl, F.now rs (.bl _)⟩
    | _ => exact absurd F (fun z => z)
  | _ => exact absurd F (fun z => z)
def rIsP : R2 := fun x y H Q => ∃ a b, x = .bl a ∧ y = .bl b ∧ Q (.bl (decide (a = b))) H
def rNsP : R2 := fun x y H Q => ∃ a b, x = .bl a ∧ y = .bl b ∧ Q (.bl (!decide (a = b))) H
theorem cmpIs_ok (rs : RS B.T m S H) (rv : RD B.T.K m H d v) (rw : RD B.T.K m H e w) (F : Fin B m H σI (cmpD .isB d e S) (Wv B Q)) : rIsP v w H Q := by
  cases rv with
  | bl i =>
    cases rw with
    | bl j => exact ⟨i, j, rfl, rfl, F.now rs (.bl _)⟩
    | _ => exact absurd F (fun z => z)
  | _ => exact absurd F (fun z => z)
theorem cmpNs_ok (rs : RS B.T m S H) (rv : RD B.T.K m H d v) (rw : RD B.T.K m H e w) (F : Fin B m H σI (cmpD .notB d e S) (Wv B Q)) : rNsP v w H Q := by
  cases rv with
  | bl i =>
    cases rw with
    | bl j => exact ⟨i, j, rfl, rfl, F.now rs (.bl _)⟩
    | _ => exact absurd F (fun z => z)
  | _ => exact absurd F (fun z => z)
theorem flat_ok (h : RD B.T.K m H d v) (f : flatD d = true) : flatV v = true := by
  cases h with
  | tup => cases f
  | ref => cases f
  | _ => rfl
theorem flats_ok : ∀ {ds : List D} {vs : List V}, RDs B.T.K m H ds vs → ds.all flatD = true → vs.all flatV = true
  | _, _, .nil, _ => rfl
  | _, _, .cons h t, f => by
    rw [List.all_cons, Bool.and_eq_true] at f ⊢
    exact ⟨flat_ok h f.1, flats_ok t f.2⟩
theorem eqFlat_ok {d1 d2 : D} {v1 v2 : V} (h1 : RD B.T.K m H d1 v1) (h2 : RD B.T.K m H d2 v2) : eqFlat d1 d2 = eqV v1 v2 := by
  cases h1 <;> cases h2 <;> rfl
theorem any_ok (h : RD B.T.K m H d v) : ∀ {ds : List D} {vs : List V}, RDs B.T.K m H ds vs → (ds.any fun y => eqFlat y d) = inV v vs
  | _, _, .nil => rfl
  | _, _, .cons q t => by
    unfold inV
    rw [List.any_cons, List.any_cons, eqFlat_ok q h]
    congr 1
    exact any_ok h t
theorem inD_ok (rs : RS B.T m S H) (rv : RD B.T.K m H d v) (rw : RD B.T.K m H e w) {k : Bool} (h : inD S d e = some k) :
    ∃ p xs, w = .ref p ∧ (SqL B.T.K H p xs ∨ SqT B.T.K H p xs) ∧ flatV v = true ∧ xs.all flatV = true ∧ k = inV v xs := by
  unfold inD at h
  split at h
  · next xs hx =>
    split at h
    · next hf =>
      obtain ⟨a, vs, rfl, h1, h2⟩ := RD.items rs rw hx
      exact ⟨a, vs, rfl, h1, flat_ok rv hf.1, flats_ok h2 hf.2, by rw [← Option.some.inj h, any_ok rv h2]⟩
    · cases h
  · cases h
theorem cmpIn_ok (rs : RS B.T m S H) (rv : RD B.T.K m H d v) (rw : RD B.T.K m H e w) (F : Fin B m H σI (cmpD .inn d e S) (Wv B Q)) : rIn B.T.K false v w H Q := by
  obtain ⟨a, e1, q⟩ := Fin.orBad F rs
  obtain ⟨k, e2, rfl⟩ := Option.map_eq_some_iff.mp e1
  obtain ⟨p, xs, rfl, h1, h2, h3, rfl⟩ := inD_ok rs rv rw e2
  exact ⟨p, xs, rfl, h1, h2, h3, q _ (.bl _)⟩
theorem cmpNin_ok (rs : RS B.T m S H) (rv : RD B.T.K m H d v) (rw : RD B.T.K m H e w) (F : Fin B m H σI (cmpD .nin d e S) (Wv B Q)) : rIn B.T.K true v w H Q := by
  obtain ⟨a, e1, q⟩ := Fin.orBad F rs
  obtain ⟨k, e2, rfl⟩ := Option.map_eq_some_iff.mp e1
  obtain ⟨p, xs, rfl, h1, h2, h3, rfl⟩ := inD_ok rs rv rw e2
  exact ⟨p, xs, rfl, h1, h2, h3, q _ (.bl _)⟩
end
end Py
end
section
set_option linter.all false
set_option maxRecDepth 100000
/-! PyE: subscripts, slices, built-in functions, by values. -/
namespace Py
open PySem PySem.Spec PyProof.Rows L2
section
variable {B : Bs} {m : List Addr} {S : Sto} {H : Hp} {σI : Sl} {d e : D} {v w : V} {Q : VK}

/-! ### a[i] -/
def rIxD : R2 := fun x y H Q => ∃ a v, x = .ref a ∧ DGet H a y (some v) ∧ Q v H
theorem ix_dct {X : Cx} (hu : X.A.units + 1 < cLine) : IxR X rIxD := by
  intro value slice pins s σ H x y v u Q I rx ry h hs
  obtain ⟨a, z, rfl, g, q⟩ := h
  cases rx
  exact tail_any (dict_typeIs I g) PySem.F.slot_dict_getitem.lookup (d_getItem hu I g ry fun w' s3 I3 rw' => ⟨z, H, I3, rw', q⟩) hs
def rIxP (K : PySem.W.Frag) : R2 := fun x y H Q => rIx K x y H Q ∨ rIxD x y H Q
theorem ix_P {X : Cx} (hu : X.A.units + 1 < cLine) : IxR X (rIxP X.K) := IxR.or ix_seq (ix_dct hu)
theorem rkv_find : ∀ {kvs : List (Key × D)} {ws : List (Key × V)} {k : Key} {d : D}, RKv B.T.K m H kvs ws → (kvs.find? fun kv => decide (kv.1 = k)).map (·.2) = some d → ∃ v, valV ws k = some v ∧ RD B.T.K m H d v
  | [], _, _, _, _, e => by cases e
  | (k1, d1) :: r, _, k, d, h, e => by
    cases h with
    | @cons _ q _ ws z t =>
      obtain ⟨k2, v2⟩ := q
      obtain ⟨z1, z2⟩ := z
      dsimp only at z1 z2
      subst z1
      unfold valV
      rw [List.find?_cons] at e ⊢
      by_cases hk : k1 = k
      · rw [decide_eq_true hk] at e ⊢
        cases e
        exact ⟨v2, rfl, z2⟩
      · rw [decide_eq_false hk] at e ⊢
        exact rkv_find t e
theorem idx_ok (rs : RS B.T m S H) (rv : RD B.T.K m H d v) (rw : RD B.T.K m H e w) (F : Fin B m H σI (idxD S d e) (Wv B Q)) : rIxP B.T.K v w H Q := by
  cases rw with
  | int i =>
    unfold idxD at F
    dsimp only at F
    split at F
    · next xs hx =>
      obtain ⟨a, e1, q⟩ := Fin.orBad F rs
      obtain ⟨p, vs, rfl, h1, h2⟩ := RD.items rs rv hx
      obtain ⟨u, e2, r2⟩ := h2.at e1
      rcases h1 with h1 | h1
      · exact .inl (.inl ⟨p, vs, i, u, rfl, rfl, h1, e2, q _ r2⟩)
      · exact .inl (.inr (.inl ⟨p, vs, i, u, rfl, rfl, h1, e2, q _ r2⟩))
    · cases rv with
      | str z =>
        dsimp only at F
        split at F
        · next hz =>
          obtain ⟨a, e1, q⟩ := Fin.orBad F rs
          obtain ⟨c, e2, rfl⟩ := Option.map_eq_some_iff.mp e1
          exact .inl (.inr (.inr ⟨z, i, c, rfl, rfl, hz, e2, q _ (.str _)⟩))
        · exact absurd F (fun z => z)
      | _ => exact absurd F (fun z => z)
  | str x =>
    unfold idxD at F
    dsimp only at F
    cases rv with
    | @ref n a h =>
      dsimp only at F
      split at F
      · next kvs hk =>
        obtain ⟨r, e1, q⟩ := Fin.orBad F rs
        obtain ⟨ws, h1, h2⟩ := rs.ob n _ _ hk h
        obtain ⟨u, e2, r2⟩ := rkv_find h2 e1
        exact .inr ⟨a, u, rfl, by have g := DGet.k (k := Sum.inr x) h1; rw [e2] at g; exact g, q _ r2⟩
      · exact absurd F (fun z => z)
    | _ => exact absurd F (fun z => z)
  | _ =>
    unfold idxD at F
    exact absurd F (fun z => z)

/-! ### a[lo:hi] -/
def rSlP (K : PySem.W.Frag) : V → Option Int → Option Int → Hp → VK → Prop := fun x lo hi H Q => rSlA K x lo hi H Q ∨ rSlL K x lo hi H Q
theorem sl_P {X : Cx} : SlR X (rSlP X.K) := SlR.or sl_tupA sl_list
theorem cut_whole {α : Type} {xs : List α} {lo hi : Option Int} (h : HT.sIx xs.length 0 lo = 0 ∧ HT.sIx xs.length xs.length hi = xs.length) : Py.cut xs lo hi = xs := by
  unfold Py.cut
  rw [h.1, h.2, List.drop_zero, Nat.sub_zero, List.take_length]
theorem sli_ok {lo hi : Option Int} (rs : RS B.T m S H) (rv : RD B.T.K m H d v) (F : Fin B m H σI (sliD d lo hi S) (Wv B Q)) : rSlP B.T.K v lo hi H Q := by
  cases rv with
  | @tup xs a vs h hs =>
    refine .inl ⟨a, vs, rfl, h, fun hw => ?_, fun _ => Fin.newT F rs (hs.cut lo hi)⟩
    have F' : Fin B m H σI (.ok (.tup (Py.cut xs lo hi)) S) (Wv B Q) := F
    rw [cut_whole (by rw [hs.length]; exact hw)] at F'
    exact F'.now rs (.tup h hs)
  | @ref n a h =>
    unfold sliD at F
    dsimp only at F
    split at F
    · next xs hx =>
      obtain ⟨_, vs, e1, _, h1, h2⟩ := RD.lst (B := B) rs (.ref h) hx
      cases e1
      exact .inr ⟨a, vs, rfl, SqL.of h1, Fin.newL F rs (h2.cut lo hi)⟩
    · next xs hx =>
      obtain ⟨_, o, vs, e1, _, h1, h2⟩ := RD.frz (B := B) rs (.ref h) hx
      cases e1
      exact .inr ⟨a, vs, rfl, .inl (.inr ⟨o, h1⟩), Fin.newL F rs (h2.cut lo hi)⟩
    · exact absurd F (fun z => z)
  | _ => exact absurd F (fun z => z)

/-! ### built-in functions of values -/
theorem len_ok (rs : RS B.T m S H) (rv : RD B.T.K m H d v) {n : Nat} (h : lenD S d = some n) : LenV B.T.K v H n ∨ ∃ a kvs, v = .ref a ∧ H a = some (.dK kvs) ∧ kvs.length = n := by
  cases rv with
  | tup h1 hs => cases h; exact .inl (.inr ⟨_, h1, hs.length⟩)
  | str x =>
    unfold lenD at h
    dsimp only at h
    split at h
    · next hz => cases h; exact .inl ⟨hz, rfl⟩
    · cases h
  | @ref k a h1 =>
    unfold lenD at h
    dsimp only at h
    split at h
    · next xs hx =>
      obtain ⟨_, vs, e1, _, h2, h3⟩ := RD.lst (B := B) rs (.ref h1) hx
      cases e1; cases h
      exact .inl (.inl ⟨_, SqL.of h2, h3.length⟩)
    · next xs hx =>
      obtain ⟨_, o, vs, e1, _, h2, h3⟩ := RD.frz (B := B) rs (.ref h1) hx
      cases e1; cases h
      exact .inl (.inl ⟨_, .inl (.inr ⟨o, h2⟩), h3.length⟩)
    · next kvs hx =>
      obtain ⟨ws, h2, h3⟩ := rs.ob k _ _ hx h1
      cases h
      exact .inr ⟨a, ws, rfl, h2, (Paired.length h3).symm⟩
    · cases h
  | _ => cases h
def rLenP (K : PySem.W.Frag) : List V → Hp → VK → Prop := fun xs H Q => (∃ x n, xs = [x] ∧ LenV K x H n ∧ Q (.int n) H) ∨ ∃ p kvs, xs = [.ref p] ∧ Rd H p (.dK kvs) ∧ Q (.int kvs.length) H
theorem call_lenP {X : Cx} : CallR X (.builtin "len") (rLenP X.K) := by
  intro pins s σ H xs us Q I r h
  rcases h with h | ⟨p, kvs, rfl, h1, q⟩
  · exact call_len pins s σ H xs us Q I r h
  · obtain ⟨u, rfl, ru⟩ := vals1 r
    cases ru
    exact d_len I h1 fun t s' I' => ⟨.int kvs.length, H, I', ⟨t, rfl⟩, q⟩
theorem bi_len (rs : RS B.T m S H) (rv : RDs B.T.K m H [d] [v]) (F : Fin B m H σI (biD .len [d] S) (Wv B Q)) : rLenP B.T.K [v] H Q := by
  cases rv with
  | cons rv _ =>
    obtain ⟨r, e1, q⟩ := Fin.orBad F rs
    obtain ⟨n, e2, rfl⟩ := Option.map_eq_some_iff.mp e1
    rcases len_ok rs rv e2 with h | ⟨a, kvs, rfl, h, rfl⟩
    · exact .inl ⟨v, n, rfl, h, q _ (.int _)⟩
    · exact .inr ⟨a, kvs, rfl, .inl h, q _ (.int _)⟩

/-- a call of a built-in function of values -/
def biOf : Bi → Value
  | .abs => .builtin "abs"
  | .int => .type "int"
  | .str => .type "str"
  | .len => .builtin "len"
  | .repr => .builtin "repr"
  | .divmod => .builtin "divmod"
  | .max2 => .builtin "max"
  | .min2 => .builtin "min"
  | .gcd => .builtin "math.gcd"
  | .lcm => .builtin "math.lcm"
  | .isqrt => .builtin "math.isqrt"
/-- the reading of a built-in function's call -/
def rBi (B : Bs) (b : Bi) : List V → Hp → VK → Prop := fun vs H Q => ∃ m S σI ds, RS B.T m S H ∧ RDs B.T.K m H ds vs ∧ Fin B m H σI (biD b ds S) (Wv B Q)
theorem rds1 {ds : List D} {v : V} (h : RDs B.T.K m H ds [v]) : ∃ d, ds = [d] ∧ RD B.T.K m H d v := by
  cases h with
  | cons h t => cases t; exact ⟨_, rfl, h⟩
theorem rds_1 {vs : List V} (h : RDs B.T.K m H [d] vs) : ∃ v, vs = [v] ∧ RD B.T.K m H d v := by
  cases h with
  | cons h t => cases t; exact ⟨_, rfl, h⟩
theorem rds_2 {vs : List V} (h : RDs B.T.K m H [d, e] vs) : ∃ v w, vs = [v, w] ∧ RD B.T.K m H d v ∧ RD B.T.K m H e w := by
  cases h with
  | cons h t => cases t with | cons h2 t => cases t; exact ⟨_, _, rfl, h, h2⟩
theorem CallR.imp {X : Cx} {f : Value} {r r' : List V → Hp → VK → Prop} (h : CallR X f r) (i : ∀ xs H Q, r' xs H Q → r xs H Q) : CallR X f r' := fun pins s σ H xs us Q I rr q => h pins s σ H xs us Q I rr (i _ _ _ q)
theorem log2_lcm {a b : Nat} (ha : a < 2 ^ 64) (hb : b < 2 ^ 64) : (Nat.lcm a b).log2 < bitsLine := by
  have h1 : Nat.lcm a b < 2 ^ 128 := by
    have h2 : Nat.lcm a b ≤ a * b := by
      rcases Nat.eq_zero_or_pos (a * b) with z | z
      · rcases Nat.mul_eq_zero.mp z with z | z
        · subst z; simp
        · subst z; simp
      · exact Nat.le_of_dvd z (Nat.lcm_dvd_mul a b)
    have h3 : a * b < 2 ^ 64 * 2 ^ 64 := Nat.mul_lt_mul'' ha hb
    omega
  have h2 := PySem.Flt.log2_lt_of (show 0 < 128 by decide) h1
  have e : bitsLine = 134217728 := by decide
  omega
theorem bi_P {X : Cx} (hc : X.calm = true) (hg : X.A.guards = some []) (hu : X.A.units + 64 < cLine) (hK : X.K = B.T.K) : ∀ b : Bi, (∀ _ : b = .repr, CallR X (.builtin "repr") (rBi B .repr)) → CallR X (biOf b) (rBi B b) := by
  intro b hrepr
  cases b with
  | repr => exact hrepr rfl
  | abs =>
    refine CallR.imp call_abs fun xs H Q ⟨m, S, σI, ds, rs, r, F⟩ => ?_
    unfold biD at F
    split at F <;> first | exact absurd F (fun z => z) | skip
    all_goals (rename_i hb; cases hb)
    obtain ⟨v, rfl, h⟩ := rds_1 r
    cases h
    exact ⟨_, rfl, F.now rs (.int _)⟩
  | int =>
    refine CallR.imp call_int1 fun xs H Q ⟨m, S, σI, ds, rs, r, F⟩ => ?_
    unfold biD at F
    split at F <;> first | exact absurd F (fun z => z) | skip
    all_goals (rename_i hb; cases hb)
    · obtain ⟨v, rfl, h⟩ := rds_1 r
      cases h
      exact .inl ⟨_, rfl, F.now rs (.int _)⟩
    · obtain ⟨v, rfl, h⟩ := rds_1 r
      cases h
      exact .inr ⟨_, rfl, F.now rs (.int _)⟩
  | str =>
    refine CallR.imp call_str_int fun xs H Q ⟨m, S, σI, ds, rs, r, F⟩ => ?_
    unfold biD at F
    split at F <;> first | exact absurd F (fun z => z) | skip
    all_goals (rename_i hb; cases hb)
    obtain ⟨v, rfl, h⟩ := rds_1 r
    cases h
    split at F
    · next hi => exact ⟨_, rfl, hi, F.now rs (.str _)⟩
    · exact absurd F (fun z => z)
  | len =>
    refine CallR.imp call_lenP fun xs H Q ⟨m, S, σI, ds, rs, r, F⟩ => ?_
    rw [hK]
    cases ds with
    | nil => exact absurd F (fun z => z)
    | cons d r' =>
      cases r' with
      | nil =>
        obtain ⟨v, rfl, h⟩ := rds_1 r
        exact bi_len rs r F
      | cons _ _ => exact absurd F (fun z => z)
  | divmod =>
    refine CallR.imp call_divmodW fun xs H Q ⟨m, S, σI, ds, rs, r, F⟩ => ?_
    unfold biD at F
    split at F <;> first | exact absurd F (fun z => z) | skip
    all_goals (rename_i hb; cases hb)
    obtain ⟨v, w, rfl, h, k⟩ := rds_2 r
    cases h; cases k
    split at F
    · next hi =>
      unfold divOk at hi
      simp only [Bool.and_eq_true, decide_eq_true_eq] at hi
      exact ⟨_, _, rfl, ⟨hi.1, PyProof.noPylong_of_log2 hi.2⟩, F.newT rs (.cons (.int _) (.cons (.int _) .nil))⟩
    · exact absurd F (fun z => z)
  | max2 =>
    refine CallR.imp (call_max2 hc) fun xs H Q ⟨m, S, σI, ds, rs, r, F⟩ => ?_
    unfold biD at F
    split at F <;> first | exact absurd F (fun z => z) | skip
    all_goals (rename_i hb; cases hb)
    obtain ⟨v, w, rfl, h, k⟩ := rds_2 r
    cases h; cases k
    exact ⟨_, _, rfl, F.now rs (.int _)⟩
  | min2 =>
    refine CallR.imp (call_min2 hc) fun xs H Q ⟨m, S, σI, ds, rs, r, F⟩ => ?_
    unfold biD at F
    split at F <;> first | exact absurd F (fun z => z) | skip
    all_goals (rename_i hb; cases hb)
    obtain ⟨v, w, rfl, h, k⟩ := rds_2 r
    cases h; cases k
    exact ⟨_, _, rfl, F.now rs (.int _)⟩
  | gcd =>
    refine CallR.imp cr_gcd fun xs H Q ⟨m, S, σI, ds, rs, r, F⟩ => ?_
    unfold biD at F
    split at F <;> first | exact absurd F (fun z => z) | skip
    all_goals (rename_i hb; cases hb)
    obtain ⟨v, w, rfl, h, k⟩ := rds_2 r
    cases h; cases k
    exact ⟨_, _, rfl, F.now rs (.int _)⟩
  | lcm =>
    intro pins s σ H xs us Q I rr ⟨m, S, σI, ds, rs, r, F⟩
    unfold biD at F
    split at F <;> first | exact absurd F (fun z => z) | skip
    all_goals (rename_i hb; cases hb)
    obtain ⟨v, w, rfl, h, k⟩ := rds_2 r
    cases h; cases k
    obtain ⟨t, u, rfl⟩ := Vals.int2 rr
    split at F
    · next hi =>
      refine PySem.W.mg_lcm hi.1 hi.2 ?_ ?_
      · rw [Nat.lcm_one_left]; exact log2_lcm hi.1 hi.2
      · rw [Nat.lcm_one_left]
        exact ⟨.int _, H, I.tok _, ⟨_, rfl⟩, F.now rs (.int _)⟩
    · exact absurd F (fun z => z)
  | isqrt =>
    intro pins s σ H xs us Q I rr ⟨m, S, σI, ds, rs, r, F⟩
    unfold biD at F
    split at F <;> first | exact absurd F (fun z => z) | skip
    all_goals (rename_i hb; cases hb)
    obtain ⟨v, rfl, h⟩ := rds_1 r
    cases h
    obtain ⟨u, rfl, ru⟩ := vals1 rr
    obtain ⟨t, rfl⟩ := ru
    split at F
    · next hi => exact PySem.W.mg_isqrt hi.1 hi.2 ⟨.int _, H, I.tok _, ⟨_, rfl⟩, F.now rs (.int _)⟩
    · exact absurd F (fun z => z)

/-! ### built-in functions of a list -/
/-- how what a list-maker gives lies in the heap -/
def RSrc (B : Bs) (m : List Addr) (H : Hp) (ds : List D) (s : Src) (v : V) : Prop :=
  match s with
  | .fresh => ∃ a vs, v = .ref a ∧ H a = some (.lst vs) ∧ a ∉ m ∧ RDs B.T.K m H ds vs
  | .tuple => ∃ a vs, v = .ref a ∧ SqT B.T.K H a vs ∧ RDs B.T.K m H ds vs
  | .at n o => ∃ a vs, v = .ref a ∧ m[n]? = some a ∧ SqL B.T.K H a vs ∧ RDs B.T.K m H ds vs ∧ (o = .lst ds ∨ o = .frz ds)
  | .range _ _ => False
theorem maxL_ok : ∀ {ns : List Int} {x : Int}, x ∈ ns → (∀ y ∈ ns, y ≤ x) → x = maxL ns
  | [], _, h, _ => by cases h
  | [a], x, h, _ => by simpa [maxL] using h
  | a :: b :: r, x, h, k => by
    have main : ∀ (l : List Int) (c : Int), maxL (c :: l) ∈ c :: l ∧ ∀ y ∈ c :: l, y ≤ maxL (c :: l) := by
      intro l
      induction l with
      | nil => intro c; simp [maxL]
      | cons e l ih =>
        intro c
        obtain ⟨i1, i2⟩ := ih e
        unfold maxL
        dsimp only
        split
        · next hl => exact ⟨List.mem_cons_of_mem _ i1, fun y hy => by rcases List.mem_cons.mp hy with rfl | hy; exact Int.le_of_lt hl; exact i2 y hy⟩
        · next hl => exact ⟨List.mem_cons_self, fun y hy => by rcases List.mem_cons.mp hy with rfl | hy; exact Int.le_refl _; exact Int.le_trans (i2 y hy) (by omega)⟩
    obtain ⟨i1, i2⟩ := main (b :: r) a
    exact Int.le_antisymm (i2 x h) (k _ i1)
theorem minL_ok : ∀ {ns : List Int} {x : Int}, x ∈ ns → (∀ y ∈ ns, x ≤ y) → x = minL ns
  | [], _, h, _ => by cases h
  | [a], x, h, _ => by simpa [minL] using h
  | a :: b :: r, x, h, k => by
    have main : ∀ (l : List Int) (c : Int), minL (c :: l) ∈ c :: l ∧ ∀ y ∈ c :: l, minL (c :: l) ≤ y := by
      intro l
      induction l with
      | nil => intro c; simp [minL]
      | cons e l ih =>
        intro c
        obtain ⟨i1, i2⟩ := ih e
        unfold minL
        dsimp only
        split
        · next hl => exact ⟨List.mem_cons_of_mem _ i1, fun y hy => by rcases List.mem_cons.mp hy with rfl | hy; exact Int.le_of_lt hl; exact i2 y hy⟩
        · next hl => exact ⟨List.mem_cons_self, fun y hy => by rcases List.mem_cons.mp hy with rfl | hy; exact Int.le_refl _; exact Int.le_trans (by omega) (i2 y hy)⟩
    obtain ⟨i1, i2⟩ := main (b :: r) a
    exact Int.le_antisymm (k _ i1) (i2 x h)
def blOf : Bl → Value
  | .tuple => .type "tuple"
  | .list => .type "list"
  | .all => .builtin "all"
  | .any => .builtin "any"
  | .sum => .builtin "sum"
  | .max => .builtin "max"
  | .min => .builtin "min"
  | .sorted => .builtin "sorted"
def rBl (B : Bs) (b : Bl) : List V → Hp → VK → Prop := fun vs H Q => ∃ m S σI ds s v, vs = [v] ∧ RS B.T m S H ∧ RSrc B m H ds s v ∧ Fin B m H σI (blD b ds s S) (Wv B Q)
theorem RSrc.sq {ds : List D} {s : Src} (h : RSrc B m H ds s v) : ∃ a vs, v = .ref a ∧ (SqL B.T.K H a vs ∨ SqT B.T.K H a vs) ∧ RDs B.T.K m H ds vs := by
  cases s with
  | fresh => obtain ⟨a, vs, e, h1, _, h2⟩ := h; exact ⟨a, vs, e, .inl (SqL.of h1), h2⟩
  | tuple => obtain ⟨a, vs, e, h1, h2⟩ := h; exact ⟨a, vs, e, .inr h1, h2⟩
  | «at» n o => obtain ⟨a, vs, e, _, h1, h2, _⟩ := h; exact ⟨a, vs, e, .inl h1, h2⟩
  | range i j => exact h.elim
theorem RSrc.sqL {ds : List D} {s : Src} (h : RSrc B m H ds s v) (hs : s = .fresh ∨ ∃ n o, s = .at n o) : ∃ a vs, v = .ref a ∧ SqL B.T.K H a vs ∧ RDs B.T.K m H ds vs := by
  rcases hs with rfl | ⟨n, o, rfl⟩
  · obtain ⟨a, vs, e, h1, _, h2⟩ := h; exact ⟨a, vs, e, SqL.of h1, h2⟩
  · obtain ⟨a, vs, e, _, h1, h2, _⟩ := h; exact ⟨a, vs, e, h1, h2⟩
/-- sum over a tuple -/
theorem cr_sumT {X : Cx} (hc : X.calm = true) : CallR X (.builtin "sum") (fun vs H Q => ∃ (a : Addr) (ns : List Int), vs = [V.ref a] ∧ SqT X.K H a (ns.map V.int) ∧ Q (.int ns.sum) H) := by
  intro pins s σ H xs us Q I r h
  obtain ⟨a, ns, rfl, h1, q⟩ := h
  obtain ⟨u, rfl, ru⟩ := vals1 r
  cases ru
  obtain ⟨its, rv, p, hz⟩ := I.tuple h1
  have hi : IntsAre its ns := intsAre_of rv
  have hl : s.heap.IsTuple a its.toArray := p
  obtain ⟨xs, hx⟩ := hi.allInts.items
  have hn : numsOf its.toArray.toList = ns := by rw [show its.toArray.toList = its from rfl, hi.numsOf]
  rw [hx] at hl hn
  rw [nums_intItems] at hn
  refine PySem.W.ktm_sumG (I.ok.hd hc) hl fun h' tk t' hk => ?_
  rw [preSum_eq, List.take_of_length_le (by simp), hn]
  exact ⟨.int ns.sum, H, I.kept hk, ⟨_, rfl⟩, q⟩
theorem sort_unique {ns ns' : List Int} (p : ns'.Perm ns) (h : ns'.Pairwise (· ≤ ·)) : ns' = ns.mergeSort (fun a b => decide (a ≤ b)) := by
  have h2 : (ns.mergeSort (fun a b => decide (a ≤ b))).Pairwise (· ≤ ·) := by
    have := List.pairwise_mergeSort (le := fun (a b : Int) => decide (a ≤ b)) (fun a b c h1 h2 => by simp at *; omega) (fun a b => by simp; omega) ns
    exact this.imp fun h => by simpa using h
  exact List.Perm.eq_of_pairwise (le := (· ≤ ·)) (fun a b _ _ h1 h2 => Int.le_antisymm h1 h2) h h2 (p.trans (List.mergeSort_perm ns _).symm)
theorem src_not {s : Src} {α : Type} {x : Res α} {R : α → Sto → List Addr → Hp → Prop} (F : Fin B m H σI (match s with | .fresh | .at _ _ => x | _ => .bad) R) : (s = .fresh ∨ ∃ n o, s = .at n o) ∧ Fin B m H σI x R := by
  cases s with
  | fresh => exact ⟨.inl rfl, F⟩
  | «at» n o => exact ⟨.inr ⟨n, o, rfl⟩, F⟩
  | _ => exact absurd F (fun z => z)
theorem bl_P {X : Cx} (hc : X.calm = true) (hK : X.K = B.T.K) : ∀ b : Bl, CallR X (blOf b) (rBl B b) := by
  intro b
  cases b with
  | tuple =>
    refine CallR.imp call_tuple_of fun xs H Q ⟨m, S, σI, ds, s, v, e, rs, r, F⟩ => ?_
    rw [hK]
    subst e
    have F' : Fin B m H σI (.ok (.tup ds) S) (Wv B Q) := by
      cases s with
      | range i j => exact r.elim
      | _ => exact F
    obtain ⟨a, vs, rfl, h1, h2⟩ := r.sq
    rcases h1 with h1 | h1
    · exact ⟨a, vs, rfl, .inl ⟨h1, F'.newT rs h2⟩⟩
    · exact ⟨a, vs, rfl, .inr ⟨h1, F'.now rs (.tup h1 h2)⟩⟩
  | list =>
    refine CallR.imp call_list_of fun xs H Q ⟨m, S, σI, ds, s, v, e, rs, r, F⟩ => ?_
    rw [hK]
    subst e
    have F' : Fin B m H σI (newL ds S) (Wv B Q) := by
      cases s with
      | range i j => exact r.elim
      | _ => exact F
    obtain ⟨a, vs, rfl, h1, h2⟩ := r.sq
    exact ⟨a, vs, rfl, h1, Fin.newL F' rs h2⟩
  | all =>
    refine CallR.imp (cr_all hc) fun xs H Q ⟨m, S, σI, ds, s, v, e, rs, r, F⟩ => ?_
    rw [hK]
    subst e
    obtain ⟨hs, F'⟩ := src_not F
    obtain ⟨a, vs, rfl, h1, h2⟩ := r.sqL hs
    obtain ⟨r1, e1, q⟩ := Fin.orBad F' rs
    obtain ⟨bs, e2, rfl⟩ := Option.map_eq_some_iff.mp e1
    have e3 := h2.bools e2
    subst e3
    exact ⟨a, bs, rfl, h1, q _ (.bl _)⟩
  | any =>
    refine CallR.imp (cr_any hc) fun xs H Q ⟨m, S, σI, ds, s, v, e, rs, r, F⟩ => ?_
    rw [hK]
    subst e
    obtain ⟨hs, F'⟩ := src_not F
    obtain ⟨a, vs, rfl, h1, h2⟩ := r.sqL hs
    obtain ⟨r1, e1, q⟩ := Fin.orBad F' rs
    obtain ⟨bs, e2, rfl⟩ := Option.map_eq_some_iff.mp e1
    have e3 := h2.bools e2
    subst e3
    exact ⟨a, bs, rfl, h1, q _ (.bl _)⟩
  | sum =>
    refine CallR.imp (CallR.or (cr_sum hc) (cr_sumT hc)) fun xs H Q ⟨m, S, σI, ds, s, v, e, rs, r, F⟩ => ?_
    rw [hK]
    subst e
    have F' : Fin B m H σI (orBad ((intsOf ds).map fun ns => .int ns.sum) S) (Wv B Q) := by
      cases s with
      | range i j => exact r.elim
      | _ => exact F
    obtain ⟨a, vs, rfl, h1, h2⟩ := r.sq
    obtain ⟨r1, e1, q⟩ := Fin.orBad F' rs
    obtain ⟨bs, e2, rfl⟩ := Option.map_eq_some_iff.mp e1
    have e3 := h2.ints e2
    subst e3
    rcases h1 with h1 | h1
    · exact .inl ⟨a, bs, rfl, h1, q _ (.int _)⟩
    · exact .inr ⟨a, bs, rfl, h1, q _ (.int _)⟩
  | max =>
    refine CallR.imp (cr_max hc) fun xs H Q ⟨m, S, σI, ds, s, v, e, rs, r, F⟩ => ?_
    rw [hK]
    subst e
    obtain ⟨hs, F'⟩ := src_not F
    obtain ⟨a, vs, rfl, h1, h2⟩ := r.sqL hs
    split at F'
    · exact absurd F' (fun z => z)
    · next hne =>
      obtain ⟨r1, e1, q⟩ := Fin.orBad F' rs
      obtain ⟨bs, e2, rfl⟩ := Option.map_eq_some_iff.mp e1
      have hl : ds.length = bs.length := by rw [h2.length, h2.ints e2, List.length_map]
      have e3 := h2.ints e2
      subst e3
      refine ⟨a, bs, rfl, h1, ?_, fun x hx hy => ?_⟩
      · cases ds with
        | nil => exact absurd rfl hne
        | cons _ _ => rw [← hl]; exact Nat.succ_pos _
      · rw [maxL_ok hx hy]; exact q _ (.int _)
  | min =>
    refine CallR.imp (cr_min hc) fun xs H Q ⟨m, S, σI, ds, s, v, e, rs, r, F⟩ => ?_
    rw [hK]
    subst e
    obtain ⟨hs, F'⟩ := src_not F
    obtain ⟨a, vs, rfl, h1, h2⟩ := r.sqL hs
    split at F'
    · exact absurd F' (fun z => z)
    · next hne =>
      obtain ⟨r1, e1, q⟩ := Fin.orBad F' rs
      obtain ⟨bs, e2, rfl⟩ := Option.map_eq_some_iff.mp e1
      have hl : ds.length = bs.length := by rw [h2.length, h2.ints e2, List.length_map]
      have e3 := h2.ints e2
      subst e3
      refine ⟨a, bs, rfl, h1, ?_, fun x hx hy => ?_⟩
      · cases ds with
        | nil => exact absurd rfl hne
        | cons _ _ => rw [← hl]; exact Nat.succ_pos _
      · rw [minL_ok hx hy]; exact q _ (.int _)
  | sorted =>
    refine CallR.imp cr_sortedI fun xs H Q ⟨m, S, σI, ds, s, v, e, rs, r, F⟩ => ?_
    rw [hK]
    subst e
    obtain ⟨hs, F'⟩ := src_not F
    obtain ⟨a, vs, rfl, h1, h2⟩ := r.sqL hs
    split at F'
    · next ns hns =>
      have e3 := h2.ints hns
      subst e3
      refine ⟨a, ns, rfl, h1, fun ns' p hp hs' hn => ?_⟩
      rw [sort_unique hp hs']
      exact Fin.newL F' rs (RDs.ofInts _) p hn
    · exact absurd F' (fun z => z)
end
end Py
end
section
set_option linter.all false
set_option maxRecDepth 100000
/-! PyF: repr of data. -/
namespace Py
open PySem PySem.Spec PyProof.Rows L2
section
variable {B : Bs} {m : List Addr} {S : Sto} {H : Hp} {σI : Sl} {d e : D} {v w : V} {Q : VK} {X : Cx} {pins : List (Addr × Obj)} {σ : L2.St} {s : Shared}

theorem pairs_reads (I : L2.Inv X pins σ H s) {n : Nat} (f : D → Option PyData)
    (ih : ∀ (d : D) (v : V) (u : Value) (p : PyData), RD B.T.K m H d v → f d = some p → RelV v u → ∃ as, Reads s.heap u p as ∧ sysModules ∉ as ∧ p.depth ≤ n) :
    ∀ (kvs : List (Key × D)) (ws : List (Key × V)) (vs : List (Key × Value)) (es : List DictEntry) (ps : List (PyData × PyData)), RKv B.T.K m H kvs ws → KV ws vs → Pairs (mixKind X.prog X.w) es vs →
      mapO (pairPR f) kvs = some ps →
      (∃ as, ReadsAll s.heap (es.map (·.key)) (ps.map (·.1)) as ∧ sysModules ∉ as) ∧ (∃ bs, ReadsAll s.heap (es.map (·.val)) (ps.map (·.2)) bs ∧ sysModules ∉ bs) ∧ PyData.depthKv ps ≤ n := by
  intro kvs
  induction kvs with
  | nil =>
    intro ws vs es ps h1 h2 h3 h4
    cases h1; cases h2; cases h3; cases h4
    exact ⟨⟨[], .nil, by simp⟩, ⟨[], .nil, by simp⟩, by simp only [PyData.depthKv]; exact Nat.zero_le _⟩
  | cons kv kvs ihk =>
    intro ws vs es ps h1 h2 h3 h4
    obtain ⟨k, d⟩ := kv
    cases h1 with
    | @cons _ q _ ws z t =>
      obtain ⟨k', v⟩ := q
      obtain ⟨z1, z2⟩ := z
      dsimp only at z1 z2
      subst z1
      cases h2 with
      | @cons _ q _ vs y t2 =>
        obtain ⟨k', u⟩ := q
        obtain ⟨y1, y2⟩ := y
        dsimp only at y1 y2
        subst y1
        cases h3 with
        | @cons en _ es _ x1 x2 t3 =>
          obtain ⟨a, b, e1, e2, rfl⟩ := mapO_some h4
          unfold pairPR at e1
          dsimp only at e1
          split at e1
          · next p hp =>
            cases e1
            obtain ⟨as, r1, n1, d1⟩ := ih d v u p z2 hp y2
            obtain ⟨⟨as2, r2, n2⟩, ⟨bs2, r3, n3⟩, d2⟩ := ihk ws vs es b t t2 t3 e2
            have x2' : en.val = u := x2
            have hkey : ∃ as0, Reads s.heap en.key (keyPD k) as0 ∧ sysModules ∉ as0 ∧ (keyPD k).depth = 0 := by
              have x1' : keyIs k en.key = true := x1
              rcases keyIs_shape x1' with ⟨i, t, rfl, e⟩ | ⟨x, t, rfl, e⟩
              · rw [e]; exact ⟨[], .int i t, by simp, by simp only [keyPD, PyData.depth]⟩
              · rw [e]; exact ⟨[], .str x t, by simp, by simp only [keyPD, PyData.depth]⟩
            obtain ⟨as0, r0, n0, d0⟩ := hkey
            refine ⟨⟨as0 ++ as2, .cons r0 r2, by simp [n0, n2]⟩, ⟨as ++ bs2, ?_, by simp [n1, n3]⟩, ?_⟩
            · show ReadsAll s.heap (en.val :: es.map (·.val)) (p :: b.map (·.2)) _
              rw [x2']
              exact .cons r1 r3
            · simp only [PyData.depthKv]
              omega
          · cases e1
theorem pr_ok (hK : X.K = B.T.K) (hsys : ∃ o, X.base.get? sysModules = some o) (I : L2.Inv X pins σ H s) (rs : RS B.T m S H) : ∀ (n : Nat) (d : D) (v : V) (u : Value) (p : PyData), RD B.T.K m H d v → toPR S n d = some p → RelV v u → ∃ as, Reads s.heap u p as ∧ sysModules ∉ as ∧ p.depth ≤ n := by
  have nosys : ∀ a o, H a = some o → a ≠ sysModules := fun a o e z => by
    obtain ⟨ob, hb⟩ := hsys
    have := (I.bs _ _ hb).2
    rw [← z, e] at this
    cases this
  have lists : ∀ n : Nat, (∀ (d : D) (v : V) (u : Value) (p : PyData), RD B.T.K m H d v → toPR S n d = some p → RelV v u → ∃ as, Reads s.heap u p as ∧ sysModules ∉ as ∧ p.depth ≤ n) →
      ∀ (ds : List D) (vs : List V) (us : List Value) (ps : List PyData), RDs B.T.K m H ds vs → mapO (toPR S n) ds = some ps → Vals vs us → ∃ as, ReadsAll s.heap us ps as ∧ sysModules ∉ as ∧ PyData.depthAll ps ≤ n := by
    intro n ih ds
    induction ds with
    | nil => intro vs us ps h e r; cases h; cases e; cases r; exact ⟨[], .nil, by simp, by simp only [PyData.depthAll]; exact Nat.zero_le _⟩
    | cons d ds ihd =>
      intro vs us ps h e r
      cases h with
      | cons h hs =>
        cases r with
        | cons r rr =>
          obtain ⟨a, b, e1, e2, rfl⟩ := mapO_some e
          obtain ⟨as, q1, q2, q3⟩ := ih d _ _ a h e1 r
          obtain ⟨bs, r1, r2, r3⟩ := ihd _ _ b hs e2 rr
          exact ⟨as ++ bs, .cons q1 r1, by simp [q2, r2], by simp only [PyData.depthAll]; omega⟩
  have leaf : ∀ (n : Nat) (d : D) (v : V) (u : Value) (p : PyData), (∀ xs, d ≠ .tup xs) → (∀ k, d ≠ .ref k) → RD B.T.K m H d v → toPR S n d = some p → RelV v u → ∃ as, Reads s.heap u p as ∧ sysModules ∉ as ∧ p.depth ≤ n := by
    intro n d v u p n1 n2 h e r
    cases h with
    | non =>
      cases r
      cases n <;> (cases e; exact ⟨[], .none, by simp, by simp only [PyData.depth]; exact Nat.zero_le _⟩)
    | bl b =>
      cases r
      cases n <;> (cases e; exact ⟨[], .bool b, by simp, by simp only [PyData.depth]; exact Nat.zero_le _⟩)
    | int b =>
      obtain ⟨t, rfl⟩ := r
      cases n <;> (cases e; exact ⟨[], .int b t, by simp, by simp only [PyData.depth]; exact Nat.zero_le _⟩)
    | str x =>
      obtain ⟨t, rfl⟩ := r
      cases n <;> (cases e; exact ⟨[], .str x t, by simp, by simp only [PyData.depth]; exact Nat.zero_le _⟩)
    | ref h => exact absurd rfl (n2 _)
    | tup h hs => exact absurd rfl (n1 _)
  intro n
  induction n with
  | zero =>
    intro d v u p h e r
    cases d with
    | tup xs => cases e
    | ref k => cases e
    | _ => exact leaf 0 _ v u p (fun _ z => by cases z) (fun _ z => by cases z) h e r
  | succ n ih =>
    intro d v u p h e r
    cases d with
    | tup xs =>
      cases h with
      | tup h hs =>
        have e' : (mapO (toPR S n) xs).map PyData.tuple = some p := e
        obtain ⟨ps, e1, rfl⟩ := Option.map_eq_some_iff.mp e'
        cases r
        rw [← hK] at h
        obtain ⟨its, rv, ⟨o, ho, hc, k, hd⟩, _⟩ := I.tuple h
        obtain ⟨as, q1, q2, q3⟩ := lists n ih _ _ _ _ hs e1 rv
        exact ⟨as, .tuple ho hc hd q1, q2, by simp only [PyData.depth]; omega⟩
    | ref k =>
      unfold toPR at e
      split at e
      · next xs hx =>
        obtain ⟨a, vs, rfl, _, h2, h3⟩ := RD.lst (B := B) rs h hx
        obtain ⟨ps, e1, rfl⟩ := Option.map_eq_some_iff.mp e
        cases r
        obtain ⟨its, rv, ⟨o, k, ho, hc, _, hd⟩, _⟩ := I.list (SqL.of h2)
        obtain ⟨as, q1, q2, q3⟩ := lists n ih _ _ _ _ h3 e1 rv
        refine ⟨a :: as, .list ho hc hd q1, ?_, by simp only [PyData.depth]; omega⟩
        simp only [List.mem_cons, not_or]
        exact ⟨fun z => nosys a _ h2 z.symm, q2⟩
      · next kvs hx =>
        cases h with
        | @ref _ a h =>
          obtain ⟨ws, h2, h3⟩ := rs.ob k _ _ hx h
          obtain ⟨ps, e1, rfl⟩ := Option.map_eq_some_iff.mp e
          cases r
          obtain ⟨_, _, vs, rel, o, es, ep, ho, hx2, hd, _, pr, _⟩ := (show ObjOk X.prog X.w H s.heap a (.dK ws) from I.hok a _ h2)
          obtain ⟨⟨as, q1, n1⟩, ⟨bs, q2, n2⟩, q3⟩ := pairs_reads (n := n) I (toPR S n) ih kvs ws vs es.toList ps h3 rel pr e1
          refine ⟨a :: as ++ bs, .dict ho hx2.1 hd q1 q2, ?_, by simp only [PyData.depth]; omega⟩
          simp only [List.cons_append, List.mem_cons, List.mem_append, not_or]
          exact ⟨fun z => nosys a _ h2 z.symm, n1, n2⟩
      · cases e
    | _ => exact leaf (n + 1) _ v u p (fun _ z => by cases z) (fun _ z => by cases z) h e r
theorem repr_P (hg : X.A.guards = some []) (hu : X.A.units + 64 < cLine) (hK : X.K = B.T.K) (hsys : ∃ o, X.base.get? sysModules = some o) : CallR X (.builtin "repr") (rBi B .repr) := by
  intro pins s σ H xs us Q I rr ⟨m, S, σI, ds, rs, r, F⟩
  cases ds with
  | nil => exact absurd F (fun z => z)
  | cons d ds =>
    cases ds with
    | cons _ _ => exact absurd F (fun z => z)
    | nil =>
      obtain ⟨v, rfl, h⟩ := rds_1 r
      obtain ⟨u, rfl, ru⟩ := vals1 rr
      obtain ⟨x, e1, q⟩ := Fin.orBad F rs
      obtain ⟨t, e2, rfl⟩ := Option.map_eq_some_iff.mp e1
      unfold reprD at e2
      split at e2
      · next p hp =>
        split at e2
        · next hs =>
          cases e2
          unfold showOk at hs
          rw [Bool.and_eq_true, decide_eq_true_eq] at hs
          obtain ⟨s1, s2⟩ := hs
          have q' := q _ (.str _)
          obtain ⟨as, hr, hn, hd⟩ := pr_ok hK hsys I rs 60 d v u p h hp ru
          cases h with
          | non => cases ru; cases hp; exact PySem.P.repr_of_none ⟨.str _, H, I.tok _, ⟨_, rfl⟩, q'⟩
          | bl b => cases ru; cases hp; exact PySem.P.repr_of_bool ⟨.str _, H, I.tok _, ⟨_, rfl⟩, by rw [PyData.shown_bool] at q'; exact q'⟩
          | int i =>
            obtain ⟨tk, rfl⟩ := ru
            cases hp
            exact PySem.P.repr_of_int (by simpa [PyData.showable] using s1) ⟨.str _, H, I.tok _, ⟨_, rfl⟩, by rw [PyData.shown_int] at q'; exact q'⟩
          | str y =>
            obtain ⟨tk, rfl⟩ := ru
            cases hp
            rw [PyData.shown_str] at q' s2
            exact PySem.P.repr_of_str (hsz := s2) ⟨.str _, H, I.tok _, ⟨_, rfl⟩, q'⟩
          | ref h' =>
            cases ru
            exact repr_of_reads' hr s1 (fun _ => hn) hg (by omega) (fun _ _ z => z) (fun h' t2 tk hk => ⟨.str _, H, I.kept hk, ⟨_, rfl⟩, q'⟩) s2
          | tup h' hs' =>
            cases ru
            exact repr_of_reads' hr s1 (fun _ => hn) hg (by omega) (fun _ _ z => z) (fun h' t2 tk hk => ⟨.str _, H, I.kept hk, ⟨_, rfl⟩, q'⟩) s2
        · cases e2
      · cases e2
end
end Py
end
section
set_option linter.all false
set_option maxRecDepth 100000
/-! PyG: what a def of the program promises, calls of it. -/
namespace Py
open PySem PySem.Spec PyProof.Rows L2

/-- a def keeps its promise, where no repr runs around -/
structure FnG (P : Program) (w : World) (K : PySem.W.Frag) (mg : Str → Option Value) (base : Heap) (k : Nat) (f : Addr) (fd : FuncData) (ps : List Str) (sp : Sp) : Prop where
  len : ∀ vs H Q E, sp vs H Q E → vs.length = ps.length
  run : ∀ (A : Around) (outer : List Env) (s : Shared) (H : Hp) (args : Args) (us : List Value) (vs : List V) (Q : VK) (E : XK), Room k A → A.guards = some [] → Env0 P w K mg base A outer s H →
    BindsTo s fd args (ps.zip us) → Vals vs us → sp vs H Q E → codeAny (model P w) A (.call (.ref f) args) (CR (CX P w) outer P w H s Q E) s
theorem FnG.mono {P : Program} {w : World} {K : PySem.W.Frag} {mg : Str → Option Value} {base : Heap} {j k : Nat} {f : Addr} {fd : FuncData} {ps : List Str} {sp : Sp} (F : FnG P w K mg base j f fd ps sp) (h : j ≤ k) :
    FnG P w K mg base k f fd ps sp := ⟨F.len, fun A outer s H args us vs Q E hr => F.run A outer s H args us vs Q E (hr.mono h)⟩

theorem fnG_of {P : Program} {w : World} {K : PySem.W.Frag} {mg : Str → Option Value} {base : Heap} {k : Nat} {f : Addr} {name qual : Str} {params : Arguments} {body : List Stmt} {scope : Scope} {dV kV doc pm cdv ct oc : Value} {an od : Option Addr}
    {osl : Array (Option Value)} {N ps : List Str} {sp : Sp} (lk : K.lookup f = some ⟨oc, od, .func (PySem.W.fnOf name qual params body scope dV kV doc pm an cdv ct), osl⟩) (hcd : PySem.W.codeIn K cdv qual = true) (S : FnScope N ps scope)
    (len : ∀ vs H Q E, sp vs H Q E → vs.length = ps.length)
    (hbody : ∀ (A : Around) (outer : List Env) (s : Shared) (H : Hp) (vs : List V) (Q : VK) (E : XK), Room k (A.deeper (envOfC qual scope s.heap.objs.size f cdv)) → (A.deeper (envOfC qual scope s.heap.objs.size f cdv)).guards = some [] → sp vs H Q E →
      ∃ t, PSs (cxOf (CX P w) P w K mg base N qual scope f cdv A outer s H E) body t ∧ t { nx := fun _ H' => Q .non H', rt := Q } (L2.start N vs) H) :
    FnG P w K mg base (k + 1) f (PySem.W.fnOf name qual params body scope dV kV doc pm an cdv ct) ps sp := by
  constructor
  · exact len
  intro A outer s H args us vs Q E hr hgd e0 hb r hsp
  have KX : K.In s.heap := PySem.W.Frag.In.keeps e0.mod.kin fun b o z => (e0.bs b o z).1
  have places : ∀ y ∈ ps.zip us, scope.names.lookup y.1 = some .local ∨ (scope.names.lookup y.1 = some .cell ∧ ((cellsFrom (s.heap.objs.size + 1) scope.names []).lookup y.1).isSome = true) := by
    rintro ⟨n, v⟩ hy
    rcases S.par n (List.of_mem_zip hy).1 with q | q
    · left; exact q
    · right; exact ⟨q, PySem.W.cellsFrom_some _ _ _ (Or.inl q)⟩
  refine codeAny_call_function hr.depth (KX _ _ lk) rfl S.co S.gen rfl (PySem.W.codeRec_of KX hcd) ?_
  refine hb _ _ _ _ ?_
  refine wpAny_newFunctionEnv_cells S.kind places ?_
  rintro env rfl s1 x
  constructor
  · exact (e0.mod.nolimit.keeps fun b o z => (e0.bs b o z).1).keeps x.toInCall.keep
  refine codeAny_func ?_
  obtain ⟨t, ht, hq⟩ := hbody A outer s H vs Q E (hr.deeper _) (by show A.guards = some []; exact hgd) hsp
  have I := inv_start (CX := CX P w) (E := E) S hr.hd e0 (len _ _ _ _ hsp) r x
  refine wpAny_mono (ht.run [] s1 _ H _ I hq) ?_ fun _ _ z => z
  intro fl s' hs
  cases fl with
  | ret u => obtain ⟨v, σ', H', J, rv, q⟩ := hs; exact ⟨v, H', J.os, J.bare, J.base, J.hok, rv, q⟩
  | next => obtain ⟨σ', H', J, q⟩ := hs; exact ⟨V.non, H', J.os, J.bare, J.base, J.hok, rfl, q⟩
  | brk => obtain ⟨_, _, _, q⟩ := hs; cases q
  | cont => obtain ⟨_, _, _, q⟩ := hs; cases q

section
variable {X : Cx} {k : Nat} {f C : Addr} {fd : FuncData} {ps ks : List Str} {sp : Sp} {E : L2.St → XK} {x nm : Str} {p pos apos : Pos} {e o : Expr} {es : List Expr} {ta : TE} {t tk : TA} {kws : List Keyword}
  {pins : List (Addr × Obj)} {σ : L2.St} {H : Hp} {s : Shared} {Q : VK} {us ws : List Value} {vs zs : List V}

/-- the callee runs; its arguments are bound to the parameters in the order of bs -/
theorem run_G {args : Args} {bs : List Value} {cs : List V} (F : FnG X.prog X.w X.K X.mg X.base k f fd ps sp) (hr : Room k X.A) (hgd : X.A.guards = some []) (hx : PassesAt (CX X.prog X.w) X σ (E σ)) (I : L2.Inv X pins σ H s)
    (hb : BindsTo s fd args (ps.zip bs)) (r : Vals cs bs) (h : sp cs H Q (E σ)) : wpAny (model X.prog X.w) X.A (call (.ref f) args.pos args.kw) (EP X pins σ Q) X.xe s := by
  refine wpAny_call (codeAny_mono (F.run X.A X.stack s H args bs cs Q (E σ) hr hgd I.env0 hb r h) ?_)
  intro r s' hq
  cases r with
  | error e => exact hx pins H s e s' I hq
  | ok fl =>
    cases fl with
    | ret u => exact I.after hq
    | next => cases hq
    | brk => cases hq
    | cont => cases hq
theorem no_star : ∀ {es : List Expr}, es.all (fun e => match e with | .Starred _ _ => false | _ => true) = true → ∀ env, starEach es env = es.map fun e => (false, eval e env)
  | [], _, _ => rfl
  | e :: es, h, env => by
    rw [List.all_cons, Bool.and_eq_true] at h
    cases e <;> first
      | exact absurd h.1 Bool.false_ne_true
      | (rw [List.map_cons, ← no_star h.2 env]; rfl)
def plainArgs (es : List Expr) : Bool := es.all fun e => match e with
  | .Starred _ _ => false
  | _ => true
theorem star_cons {e : Expr} {es : List Expr} (h : plainArgs (e :: es) = true) (env : Env) : starEach (e :: es) env = (false, eval e env) :: starEach es env := by
  rw [no_star h env, no_star (es := es) (by unfold plainArgs at h; rw [List.all_cons, Bool.and_eq_true] at h; exact h.2) env]
  rfl
theorem star_back {es : List Expr} (h : plainArgs es = true) (env : Env) (pos : Pos) : (backTo pos (starEach es env)).any (·.1) = false := by
  rw [no_star h env]
  unfold backTo
  rw [List.map_map, List.any_map]
  induction es with
  | nil => rfl
  | cons e es ih =>
    unfold plainArgs at h
    rw [List.all_cons, Bool.and_eq_true] at h
    rw [List.any_cons, ih h.2]
    rfl
def tCallG (sp : Sp) (E : L2.St → XK) (t : TA) : TE := fun σ H Q => t σ H fun vs H1 => sp vs H1 Q (E σ)
/-- f(e, ..) -/
theorem peG_call (F : FnG X.prog X.w X.K X.mg X.base k f fd ps sp) (hr : Room k X.A) (hgd : X.A.guards = some []) (hg : Gl X x) (hm : X.mg x = some (.ref f)) (hk : PySem.W.keepIn X.K (.ref f) = true) (hb : Binds X.K fd ps []) (hx : ∀ σ, PassesAt (CX X.prog X.w) X σ (E σ))
    (hp : plainArgs es = true) (ha : PA X es t) (h0 : es = [] → ∀ σ H Q, t σ H Q → Q [] H) (hdb : (x == ("__debug__" : Str)) = false) : PE X (.Call (.Name x p) es [] pos) (tCallG sp E t) := by
  constructor
  intro pins s σ H Q I h
  refine wpAny_Call_Name_kw (ld_glob I hg hm ?_ hdb)
  have fin : ∀ (us : List Value) (s1 : Shared) (vs : List V) (H1 : Hp), L2.Inv X pins σ H1 s1 → Vals vs us → sp vs H1 Q (E σ) → wpAny (model X.prog X.w) X.A (call (.ref f) us) (EP X pins σ Q) X.xe s1 := by
    intro us s1 vs H1 I1 r q
    have hl : (us ++ []).length = ps.length := by rw [List.append_nil, ← r.length]; exact F.len _ _ _ _ q
    exact run_G (args := ⟨us, []⟩) (bs := us) F hr hgd (hx σ) I1 (by have z := hb s1 us I1.kIn hl; rw [List.append_nil] at z; exact z) r q
  cases es with
  | nil =>
    exact PySem.W.callWith_K0 I.kIn hk (fin [] s [] H I .nil (h0 rfl _ _ _ h))
  | cons e es =>
    refine PySem.W.callWith_K (h₀ := X.base) I.ok.mod.kin hk (thn (ha.run pos pins s σ H _ I h) fun us s1 ⟨vs, H1, I1, r, q⟩ => ⟨I1.kIn, fin us s1 vs H1 I1 r q⟩) (star_cons hp _) (star_back (by unfold plainArgs at hp ⊢; rw [List.all_cons, Bool.and_eq_true] at hp; exact hp.2) _ _)
theorem plain_tail {e : Expr} {es : List Expr} (h : plainArgs (e :: es) = true) : plainArgs es = true := by
  unfold plainArgs at h ⊢
  rw [List.all_cons, Bool.and_eq_true] at h
  exact h.2

/-- how a call with keywords binds: positional values and the keywords' (named ks), put in the parameters' order by perm -/
def KBindG (K : PySem.W.Frag) (fd : FuncData) (ps ks : List Str) (n : Nat) (perm : List Nat) : Prop :=
  ∀ (s : Shared) (us ws : List Value) (bs : List Value), K.In s.heap → us.length = n → ws.length = ks.length → bs.length = ps.length → (∀ (j i : Nat), perm[j]? = some i → bs[j]? = (us ++ ws)[i]?) → BindsTo s fd ⟨us, ks.zip ws⟩ (ps.zip bs)
def permV {α : Type} (vs : List α) : List Nat → Option (List α)
  | [] => some []
  | i :: is => match vs[i]?, permV vs is with
    | some d, some r => some (d :: r)
    | _, _ => none
theorem permV_get {α : Type} {vs : List α} : ∀ {perm : List Nat} {r : List α}, permV vs perm = some r → r.length = perm.length ∧ ∀ (j i : Nat), perm[j]? = some i → r[j]? = vs[i]?
  | [], r, h => by cases h; exact ⟨rfl, fun j i e => by simp at e⟩
  | i :: is, r, h => by
    unfold permV at h
    split at h
    · next d r' e1 e2 =>
      cases h
      obtain ⟨h1, h2⟩ := permV_get e2
      refine ⟨by simp [h1], fun j k e => ?_⟩
      cases j with
      | zero => simp at e; subst e; simpa using e1.symm
      | succ j => simpa using h2 j k (by simpa using e)
    · cases h
theorem vals_perm : ∀ {perm : List Nat} {vs : List V} {us : List Value} {cs : List V}, Vals vs us → permV vs perm = some cs → ∃ bs, permV us perm = some bs ∧ Vals cs bs
  | [], _, _, _, _, h => by cases h; exact ⟨[], rfl, .nil⟩
  | i :: is, vs, us, cs, r, h => by
    unfold permV at h
    split at h
    · next d r' e1 e2 =>
      cases h
      obtain ⟨u, e3, q⟩ := r.get e1
      obtain ⟨bs, e4, q2⟩ := vals_perm r e2
      exact ⟨u :: bs, by unfold permV; rw [e3, e4], .cons q q2⟩
    · cases h
def tCallKG (sp : Sp) (E : L2.St → XK) (n k : Nat) (perm : List Nat) (t tk : TA) : TE := fun σ H Q => t σ H fun vs H1 => tk σ H1 fun zs H2 => vs.length = n ∧ zs.length = k ∧ ∃ cs, permV (vs ++ zs) perm = some cs ∧ sp cs H2 Q (E σ)
theorem run_KG {perm : List Nat} (F : FnG X.prog X.w X.K X.mg X.base k f fd ps sp) (hr : Room k X.A) (hgd : X.A.guards = some []) (hx : PassesAt (CX X.prog X.w) X σ (E σ)) (I : L2.Inv X pins σ H s)
    (hb : KBindG X.K fd ps ks us.length perm) (r : Vals vs us) (rz : Vals zs ws) (hl : zs.length = ks.length) {cs : List V} (hc : permV (vs ++ zs) perm = some cs) (h : sp cs H Q (E σ)) :
    wpAny (model X.prog X.w) X.A (call (.ref f) us (ks.zip ws)) (EP X pins σ Q) X.xe s := by
  obtain ⟨bs, e, rb⟩ := vals_perm (r.append rz) hc
  obtain ⟨_, h2⟩ := permV_get e
  exact run_G (args := ⟨us, ks.zip ws⟩) (bs := bs) F hr hgd hx I (hb s us ws bs I.kIn rfl (by rw [← rz.length]; exact hl) (by rw [← rb.length]; exact F.len _ _ _ _ h) h2) rb h
/-- f(e, .., k = v, ..) -/
theorem peG_callK {perm : List Nat} (F : FnG X.prog X.w X.K X.mg X.base k f fd ps sp) (hr : Room k X.A) (hgd : X.A.guards = some []) (hg : Gl X x) (hm : X.mg x = some (.ref f)) (hk : PySem.W.keepIn X.K (.ref f) = true)
    (hb : KBindG X.K fd ps ks (e :: es).length perm) (hx : ∀ σ, PassesAt (CX X.prog X.w) X σ (E σ)) (hp : plainArgs (e :: es) = true) (ha : PA X (e :: es) t) (hkw : PK X kws tk)
    (hall : (backToKw pos (keywordEach kws X.env)).all (·.1.isSome) = true) (hks : (backToKw pos (keywordEach kws X.env)).filterMap (·.1) = ks) (hnn : (backToKw pos (keywordEach kws X.env)).any (·.1.isNone) = false)
    (hdb : (x == ("__debug__" : Str)) = false) : PE X (.Call (.Name x p) (e :: es) kws pos) (tCallKG sp E (e :: es).length ks.length perm t tk) := by
  constructor
  intro pins s σ H Q I h
  refine wpAny_Call_Name_kw (ld_glob I hg hm ?_ hdb)
  refine PySem.W.callWith_KW (h₀ := X.base) I.ok.mod.kin hk hall (thn (ha.run pos pins s σ H _ I h) fun us s1 ⟨vs, H1, I1, r, q⟩ => ?_) ?_ (star_cons hp _)
  · refine thn (hkw.run pos pins s1 σ H1 _ I1 q) fun ws s2 ⟨zs, H2, I2, rz, h1, h2, cs, hc, q2⟩ => ⟨I2.kIn, ?_⟩
    rw [hks]
    exact run_KG (us := us) (ws := ws) F hr hgd (hx σ) I2 (by rw [← r.length, h1]; exact hb) r rz h2 hc q2
  · rw [hnn, star_back hp]; rfl
/-- f(k = v, ..): keywords alone -/
theorem peG_callK0 {perm : List Nat} (F : FnG X.prog X.w X.K X.mg X.base k f fd ps sp) (hr : Room k X.A) (hgd : X.A.guards = some []) (hg : Gl X x) (hm : X.mg x = some (.ref f)) (hk : PySem.W.keepIn X.K (.ref f) = true)
    (hb : KBindG X.K fd ps ks 0 perm) (hx : ∀ σ, PassesAt (CX X.prog X.w) X σ (E σ)) (hkw : PK X kws tk)
    (hall : (backToKw pos (keywordEach kws X.env)).all (·.1.isSome) = true) (hks : (backToKw pos (keywordEach kws X.env)).filterMap (·.1) = ks) (hnn : (backToKw pos (keywordEach kws X.env)).any (·.1.isNone) = false)
    (hdb : (x == ("__debug__" : Str)) = false) : PE X (.Call (.Name x p) [] kws pos) (tCallKG sp E 0 ks.length perm tNil tk) := by
  constructor
  intro pins s σ H Q I h
  refine wpAny_Call_Name_kw (ld_glob I hg hm ?_ hdb)
  refine PySem.W.callWith_KW0 (h₀ := X.base) I.ok.mod.kin hk hall (thn (hkw.run pos pins s σ H _ I h) fun ws s2 ⟨zs, H2, I2, rz, h1, h2, cs, hc, q2⟩ => ⟨I2.kIn, ?_⟩) (by rw [hnn]; rfl)
  rw [hks]
  exact run_KG (us := []) (ws := ws) (vs := []) F hr hgd (hx σ) I2 hb .nil rz h2 hc q2
end
end Py
end
section
set_option linter.all false
set_option maxRecDepth 100000
/-! PyH: methods, new instances, fields. -/
namespace Py
open PySem PySem.Spec PyProof.Rows L2
/-- no super() -/
def attrPlain : Expr → Bool
  | .Call (.Name _ _) [] [] _ => false
  | _ => true
theorem attr_plain {o : Expr} (h : attrPlain o = true) (attr : Str) (env : Env) (whole : Sem Value) : attributeBase o attr env whole = whole := by
  unfold attributeBase
  split
  · cases h
  · rfl
theorem meth_eq {o : Expr} {m : Str} {apos pos : Pos} {args : List Expr} {env : Env} (ho : attrPlain o = true) (hp : plainArgs args = true) (hn : args.length < 30) (hl : (apos.endLine == pos.line) = true) :
    eval (.Call (.Attribute o m apos) args [] pos) env = (do
      let ov ← eval o env
      standAt apos.atName
      let (f, first) ← holding [ov] (getMethod ov m (do return (← importBound o env).getD true))
      callWith pos f first (backTo pos (starEach args env)) (backToKw pos (keywordEach [] env))) := by
  have hf : methodCallForm (args.length + 0) (backTo pos (starEach args env)) (backToKw pos (keywordEach [] env)) = true := by
    have h1 : (backTo pos (starEach args env)).all (fun x => !x.1) = true := by
      have h2 := star_back hp env pos
      rw [List.all_eq_not_any_not]
      simp only [Bool.not_not]
      rw [h2]; rfl
    unfold methodCallForm
    rw [h1]
    show (true && true && decide (args.length + 0 + 0 < 30)) = true
    rw [decide_eq_true (by omega)]; rfl
  show (do let ov ← attributeBase o m env (eval o env); standAt apos.atName; methodCall o m apos pos env ov (args.length + 0) (backTo pos (starEach args env)) (backToKw pos (keywordEach [] env))) = _
  rw [attr_plain ho]
  unfold methodCall
  rw [hf]
  unfold calleeOf methodCallPos
  simp only [hl, Bool.or_true, if_true]
  rfl
section
variable {X : Cx} {k : Nat} {f C : Addr} {fd : FuncData} {ps ks : List Str} {sp : Sp} {E : L2.St → XK} {x nm m : Str} {p pos apos : Pos} {e o : Expr} {es : List Expr} {ta : TE} {t tk : TA} {kws : List Keyword}
  {pins : List (Addr × Obj)} {σ : L2.St} {H : Hp} {s : Shared} {Q : VK} {us ws : List Value} {vs zs : List V}
def tMethG (C : Addr) (m : Str) (sp : Sp) (E : L2.St → XK) (ta : TE) (t : TA) : TE := fun σ H Q => ta σ H fun x H1 => ∃ a dx fs, x = .ref a ∧ H1 a = some (.ins C dx fs) ∧ fs.lookup m = none ∧ t σ H1 fun vs H2 => sp (x :: vs) H2 Q (E σ)
theorem peG_meth (he : PE X o ta) (c : Cls X.K C) (hm : Meth X.K C m f) (F : FnG X.prog X.w X.K X.mg X.base k f fd ps sp) (hr : Room k X.A) (hgd : X.A.guards = some []) (hb : Binds X.K fd ps []) (hx : ∀ σ, PassesAt (CX X.prog X.w) X σ (E σ))
    (ha : PA X es t) (h0 : es = [] → ∀ σ H Q, t σ H Q → Q [] H) (ho : attrPlain o = true) (hp : plainArgs es = true) (hn : es.length < 30) (hl : (apos.endLine == pos.line) = true) : PE X (.Call (.Attribute o m apos) es [] pos) (tMethG C m sp E ta t) := by
  constructor
  intro pins s σ H Q I h
  refine PySem.W.methodCall_KW (thn (he.run pins s σ H _ I h) fun u s1 ⟨x, H1, I1, rx, a, dx, fs, ex, ea, l, q⟩ => ?_) (meth_eq ho hp hn hl)
  subst ex
  obtain rfl : u = Value.ref a := rx
  refine getmeth_ok I1 ea c hm l ?_
  have fin : ∀ (us : List Value) (s1 : Shared) (vs : List V) (H1 : Hp), L2.Inv X pins σ H1 s1 → Vals vs us → sp (.ref a :: vs) H1 Q (E σ) → wpAny (model X.prog X.w) X.A (call (.ref f) (.ref a :: us)) (EP X pins σ Q) X.xe s1 := by
    intro us s1 vs H1 I1 r q
    have r2 : Vals (V.ref a :: vs) (Value.ref a :: us) := .cons rfl r
    have hl : ((Value.ref a :: us) ++ []).length = ps.length := by rw [List.append_nil, ← r2.length]; exact F.len _ _ _ _ q
    exact run_G (args := ⟨.ref a :: us, []⟩) (bs := .ref a :: us) F hr hgd (hx σ) I1 (by have z := hb s1 _ I1.kIn hl; rw [List.append_nil] at z; exact z) r2 q
  cases es with
  | nil => exact PySem.W.callWith_K0 (first := [.ref a]) I1.kIn hm.kp (fin [] s1 [] H1 I1 .nil (h0 rfl _ _ _ q))
  | cons e es =>
    refine PySem.W.callWith_K (first := [.ref a]) (h₀ := X.base) I.ok.mod.kin hm.kp (thn (ha.run pos pins s1 σ H1 _ I1 q) fun us s2 ⟨vs, H2, I2, r, q2⟩ => ⟨I2.kIn, ?_⟩) (star_cons hp _) (star_back (plain_tail hp) _ _)
    exact fin us s2 vs H2 I2 r q2
def tMakeG (C : Addr) (sp : Sp) (E : L2.St → XK) (t : TA) : TE := fun σ H Q => t σ H fun vs H1 => ∀ x dx, H1 x = none → H1 dx = none → dx ≠ x →
  sp (.ref x :: vs) (upd (upd H1 dx (.own x)) x (.ins C dx [])) (fun v H2 => v = .non ∧ Q (.ref x) H2) (E σ)
theorem peG_make (M : Mk X.K C f) (F : FnG X.prog X.w X.K X.mg X.base k f fd ps sp) (hr : Room (k + 1) X.A) (hgd : X.A.guards = some []) (hg : Gl X x) (hm : X.mg x = some (.ref C)) (hb : Binds X.K fd ps []) (hx : ∀ σ, PassesAt (CX X.prog X.w) X σ (E σ))
    (ha : PA X (e :: es) t) (hp : plainArgs (e :: es) = true) (hdb : (x == ("__debug__" : Str)) = false) : PE X (.Call (.Name x p) (e :: es) [] pos) (tMakeG C sp E t) := by
  constructor
  intro pins s σ H Q I h
  refine wpAny_Call_Name_kw (ld_glob I hg hm ?_ hdb)
  refine PySem.W.callWith_K (h₀ := X.base) I.ok.mod.kin M.kp (thn (ha.run pos pins s σ H _ I h) fun us s1 ⟨vs, H1, I1, r, q⟩ => ⟨I1.kIn, ?_⟩) (star_cons hp _) (star_back (plain_tail hp) _ _)
  show wpAny _ _ (call (.ref C) us) _ _ _
  have hq := q (s1.heap.objs.size + 1) s1.heap.objs.size (I1.hok.fresh (Nat.le_succ _)) (I1.hok.fresh (Nat.le_refl _)) (Nat.ne_of_lt (Nat.lt_succ_self _))
  have I2 := Inv.made (C := C) I1
  have r2 : Vals (V.ref (s1.heap.objs.size + 1) :: vs) (Value.ref (s1.heap.objs.size + 1) :: us) := .cons rfl r
  have hl : ((Value.ref (s1.heap.objs.size + 1) :: us) ++ []).length = ps.length := by rw [List.append_nil, ← r2.length]; exact F.len _ _ _ _ hq
  have hbd := hb { s1 with heap := (s1.heap.push PySem.W.emptyDict).push (PySem.W.instObj C s1.heap.objs.size) } _ I2.kIn hl
  rw [List.append_nil] at hbd
  have hgd2 : (X.A.under (.builtin "type.__call__" ⟨.ref C :: us, []⟩)).guards = some [] := by
    show pushGuards (Code.builtin "type.__call__" ⟨.ref C :: us, []⟩).guards X.A.guards = some []
    rw [hgd]
    have e : (Code.builtin "type.__call__" ⟨.ref C :: us, []⟩).guards = [] := by
      unfold Code.guards
      rw [show (Code.builtin "type.__call__" ⟨.ref C :: us, []⟩).isGuard = false from by simp [Code.isGuard, guardIds]]
      rfl
    rw [e]
    rfl
  refine wpAny_call (make_map (f := f) I1.kIn M.makes M.init (beq_iff_eq.mp M.fn) (codeAny_mono (F.run _ X.stack _ _ ⟨Value.ref (s1.heap.objs.size + 1) :: us, []⟩ _ _ _ (E σ) (hr.make C us []) hgd2
    (I2.env0.make C us []) hbd r2 hq) fun r s' hq' => ?_))
  cases r with
  | error e => exact hx σ pins _ _ e s' I2 hq'
  | ok fl =>
    cases fl with
    | ret u =>
      obtain ⟨v, H', I3, rv, ev, q3⟩ := I2.after hq'
      subst ev
      exact ⟨rv, ⟨V.ref (s1.heap.objs.size + 1), H', I3, rfl, q3⟩⟩
    | next => cases hq'
    | brk => cases hq'
    | cont => cases hq'
end
end Py
end
section
set_option linter.all false
set_option maxRecDepth 100000
/-! PyI: from the text's own form to our expressions and statements. -/
namespace Py
open PySem

/-- a block's names -/
structure Ct where
  N : List Str
  sc : Scope
  fn : Str → Bool
def ixS : List Str → Str → Option Nat
  | [], _ => none
  | y :: r, x => if y = x then some 0 else (ixS r x).map (· + 1)
def Ct.rd (c : Ct) (x : Str) : Option Nat := match c.sc.names.lookup x with
  | some .local => ixS c.N x
  | some .cell => ixS c.N x
  | some .free => ixS c.N x
  | _ => none
def Ct.wr (c : Ct) (x : Str) : Option Nat := match c.sc.names.lookup x with
  | some .local => ixS c.N x
  | some .cell => if c.fn x = true then ixS c.N x else none
  | _ => none
def Ct.gl (c : Ct) (x : Str) : Bool := match c.sc.names.lookup x with
  | some .globalImplicit => true
  | _ => false
/-- names that the language sets apart -/
def odd (x : Str) : Bool := (x == ("__debug__" : Str)) || (x == ("__classdict__" : Str)) || (x == ("__name__" : Str))

/-- the text's own names -/
structure Gt where
  fns : List (Str × Nat)
  par : Nat → List Str
  gcs : List (Str × Nat)
  cls : List (Str × Nat)
  exs : List (Str × Nat)
  mts : List (Str × (Nat × Nat))
  fls : List Str

def biNm : List (Str × Bi) := [("abs", .abs), ("int", .int), ("str", .str), ("len", .len), ("repr", .repr), ("divmod", .divmod), ("max", .max2), ("min", .min2)]
def blNm : List (Str × Bl) := [("tuple", .tuple), ("list", .list), ("all", .all), ("any", .any), ("sum", .sum), ("max", .max), ("min", .min), ("sorted", .sorted)]
def tyNm : List (Str × Ty) := [("int", .int), ("bool", .bool), ("str", .str), ("tuple", .tuple), ("list", .list), ("dict", .dict), ("ValueError", .verr)]

def ownOf (sc : Scope) (N : List Str) : List (Str × NameKind) → Option (List (Str × Nat))
  | [] => some []
  | (x, k) :: r => match k with
    | .local => (match ixS N x with
      | some i => (ownOf sc N r).map ((x, i) :: ·)
      | none => ownOf sc N r)
    | .cell => (match ixS N x with
      | some i => (ownOf sc N r).map ((x, i) :: ·)
      | none => ownOf sc N r)
    | _ => ownOf sc N r
def opT : Operator → Option Bop
  | .Add => some .add
  | .Sub => some .sub
  | .Mult => some .mul
  | .FloorDiv => some .fdiv
  | .Mod => some .mod
  | .Pow => some .pow
  | _ => none
def isNone : Expr → Bool
  | .Constant .none _ _ => true
  | _ => false
def cmT : CmpOp → Option Cop
  | .Eq => some .eq
  | .NotEq => some .ne
  | .Lt => some .lt
  | .LtE => some .le
  | .Gt => some .gt
  | .GtE => some .ge
  | .In => some .inn
  | .NotIn => some .nin
  | .Is => some .isB
  | .IsNot => some .notB
/-- no set display -/
def noSet : Expr → Bool
  | .Set _ _ _ => false
  | _ => true
def noSlice : Expr → Bool
  | .Slice _ _ _ _ => false
  | _ => true
def isComp : Expr → Bool
  | .ListComp _ _ _ _ => true
  | .SetComp _ _ _ _ => true
  | .DictComp _ _ _ _ _ => true
  | _ => false
def kwN : List Keyword → Option (List Str)
  | [] => some []
  | ⟨some x, _, _⟩ :: r => (kwN r).map (x :: ·)
  | ⟨none, _, _⟩ :: _ => none
/-- where a parameter's value stands: among n positional ones, then the keywords ks -/
def permK (n : Nat) (ks : List Str) : Nat → List Str → Option (List Nat)
  | _, [] => some []
  | j, x :: r => if j < n then (permK n ks (j + 1) r).map (j :: ·) else (ixS ks x).bind fun i => (permK n ks (j + 1) r).map ((n + i) :: ·)
def permOf (ps ks : List Str) (n : Nat) : Option (List Nat) := if n + ks.length = ps.length ∧ n ≤ ps.length ∧ ks.Nodup ∧ (ks.all fun x => decide (x ∈ ps.drop n)) = true then permK n ks 0 ps else none
def tyOne (G : Gt) (c : Ct) : Expr → Option Ty
  | .Name x _ => if c.gl x = true ∧ odd x = false then (match tyNm.lookup x with
    | some T => some T
    | none => (G.exs.lookup x).map .own) else none
  | _ => none
def tyAll (G : Gt) (c : Ct) : List Expr → Option (List Ty)
  | [] => some []
  | e :: r => (tyOne G c e).bind fun T => (tyAll G c r).map (T :: ·)
def varN (c : Ct) : Expr → Option Nat
  | .Name x _ => if odd x = true then none else c.wr x
  | _ => none
def varNs (c : Ct) : List Expr → Option (List Nat)
  | [] => some []
  | e :: r => (varN c e).bind fun i => (varNs c r).map (i :: ·)
def tgT (c : Ct) : Expr → Option Tg
  | .Tuple es _ _ => (varNs c es).map .row
  | e => (varN c e).map .one
/-- a target's slots are among these -/
def tgIn (tg : Tg) (vs : List Nat) : Bool := match tg with
  | .one i => decide (i ∈ vs)
  | .row is => is.all fun i => decide (i ∈ vs)
def keyE : Option Expr → Option L2.Key
  | some (.Constant (.int i) _ _) => some (.inl i)
  | some (.Constant (.str x) _ _) => some (.inr x)
  | _ => none
def keysE : List (Option Expr) → Option (List L2.Key)
  | [] => some []
  | k :: r => (keyE k).bind fun a => (keysE r).map (a :: ·)
def isRng (c : Ct) : Expr → Bool
  | .Call (.Name x _) _ _ _ => x == ("range" : Str)
  | _ => false
def minusOne : Expr → Bool
  | .UnaryOp .USub (.Constant (.int 1) _ _) _ => true
  | _ => false
def litE : Const → Option D
  | .none => some .non
  | .bool b => some (.bl b)
  | .int i => some (.int i)
  | .str x => some (.str x)
  | _ => none

mutual
def trE (G : Gt) : Nat → Ct → Expr → Option E
  | 0, _, _ => none
  | n + 1, c, e => match e with
    | .Constant k _ _ => (litE k).map .lit
    | .Name x _ => if odd x = true then none else (match c.rd x with
      | some i => some (.var i)
      | none => if c.gl x = true then (G.gcs.lookup x).map .gl else none)
    | .Tuple es _ _ => if plainArgs es = true then (trEs G n c es).map .tup else none
    | .List es _ => if plainArgs es = true then (trEs G n c es).map fun es' => .mk (.disp es') else none
    | .ListComp _ _ _ _ => (trL G n c e).map .mk
    | .BinOp a op b _ => (opT op).bind fun o => (trE G n c a).bind fun a' => (trE G n c b).map fun b' => .bin o a' b'
    | .UnaryOp .USub a _ => (trE G n c a).map .neg
    | .UnaryOp .Not a _ => (trE G n c a).map .not_
    | .BoolOp op vs pos => (match vs with
      | [] => none
      | [a] => none
      | [a, b] => (trE G n c a).bind fun a' => (trE G n c b).map fun b' => (match op with
        | .And => .and_ a' b'
        | .Or => .or_ a' b')
      | a :: b :: d :: r => (trE G n c a).bind fun a' => (trE G n c (.BoolOp op (b :: d :: r) pos)).map fun b' => (match op with
        | .And => .and_ a' b'
        | .Or => .or_ a' b'))
    | .IfExp t a b _ => (trE G n c t).bind fun t' => (trE G n c a).bind fun a' => (trE G n c b).map fun b' => .ife t' a' b'
    | .Compare a ops cs _ => (match ops, cs with
      | [op], [b] => if isNone b = true then (match op with
          | .Is => (trE G n c a).map .isn
          | .IsNot => (trE G n c a).map .nsn
          | _ => (cmT op).bind fun o => (trE G n c a).bind fun a' => (trE G n c b).map fun b' => .cmp o a' b')
        else if noSet b = true then (cmT op).bind fun o => (trE G n c a).bind fun a' => (trE G n c b).map fun b' => .cmp o a' b' else none
      | [op, op'], [b, d] => if noSet b = true ∧ noSet d = true then (cmT op).bind fun o => (cmT op').bind fun o' => (trE G n c a).bind fun a' => (trE G n c b).bind fun b' => (trE G n c d).map fun d' => .chn o o' a' b' d' else none
      | _, _ => none)
    | .Subscript a i _ => (match i with
      | .Slice lo hi st _ => (match st with
        | none => (trE G n c a).bind fun a' => (trO G n c lo).bind fun l => (trO G n c hi).map fun h => .sli a' l h
        | some m => if minusOne m = true then (match lo, hi with
          | none, none => (trE G n c a).map .rev
          | _, _ => none) else none)
      | i => (trE G n c a).bind fun a' => (trE G n c i).map fun i' => .idx a' i')
    | .Attribute o f _ => if attrPlain o = true then if G.fls[0]? = some ("value" : Str) then (trE G n c o).bind fun o' => (ixS G.fls f).map fun j => .fld o' j else none else none
    | .Dict [] [] _ => some (.dct [] .nil)
    | .Call (.Name x _) args kws _ => if c.gl x = false ∨ odd x = true ∨ plainArgs args = false then none else (match G.fns.lookup x with
      | some f => (match kws with
        | [] => (trEs G n c args).map fun es => .call f es
        | k :: ks => (trEs G n c args).bind fun es => (kwN (k :: ks)).bind fun nm => (trKs G n c (k :: ks)).bind fun ws => (permOf (G.par f) nm args.length).map fun pm => .callK f es ws pm)
      | none => (match kws with
        | _ :: _ => none
        | [] => (match G.cls.lookup x with
          | some k => (match args with
            | [] => none
            | a :: r => (trEs G n c (a :: r)).map fun es => .make k es)
          | none => if x = ("isinstance" : Str) then (match args with
              | [a, T] => (trE G n c a).bind fun a' => (match T with
                | .Tuple ts _ _ => if plainArgs ts = true ∧ ts ≠ [] ∧ ts.length ≤ 1000 then (tyAll G c ts).map fun Ts => .isT a' Ts else none
                | T => (tyOne G c T).map fun T' => .isi a' T')
              | _ => none)
            else (match args with
              | [] => none
              | [a] => (match blNm.lookup x with
                | some b => if noSet a = true ∧ (isRng c a = false ∨ x = ("tuple" : Str) ∨ x = ("list" : Str)) then (trL G n c a).map fun l => .bl b l else none
                | none => (biNm.lookup x).bind fun b => (trEs G n c [a]).map fun es => .bi b es)
              | a :: b :: r => (biNm.lookup x).bind fun q => (trEs G n c (a :: b :: r)).map fun es => .bi q es))))
    | .Call (.Attribute o m ap) args kws pos => if attrPlain o = false ∨ plainArgs args = false ∨ (ap.endLine == pos.line) = false ∨ 30 ≤ args.length then none else (match kws with
      | _ :: _ => none
      | [] => if m = ("append" : Str) then (match args with
          | [a] => (trE G n c o).bind fun o' => (trE G n c a).map fun a' => .app o' a'
          | _ => none)
        else if m = ("extend" : Str) then (match args with
          | [a] => (trE G n c o).bind fun o' => (trE G n c a).map fun a' => .ext o' a'
          | _ => none)
        else (G.mts.lookup m).bind fun q => (trE G n c o).bind fun o' => (trEs G n c args).map fun es => .meth q.1 q.2 o' es)
    | _ => none
def trEs (G : Gt) : Nat → Ct → List Expr → Option Es
  | 0, _, _ => none
  | n + 1, c, es => match es with
    | [] => some .nil
    | e :: r => (trE G n c e).bind fun e' => (trEs G n c r).map fun r' => .cons e' r'
def trKs (G : Gt) : Nat → Ct → List Keyword → Option Es
  | 0, _, _ => none
  | n + 1, c, es => match es with
    | [] => some .nil
    | k :: r => (trE G n c k.value).bind fun e' => (trKs G n c r).map fun r' => .cons e' r'
def trO (G : Gt) : Nat → Ct → Option Expr → Option Oe
  | 0, _, _ => none
  | n + 1, c, o => match o with
    | none => some .no
    | some e => (trE G n c e).map .yes
def trL (G : Gt) : Nat → Ct → Expr → Option L
  | 0, _, _ => none
  | n + 1, c, e => match e with
    | .List es _ => if plainArgs es = true then (trEs G n c es).map .disp else none
    | .ListComp elt gs sc pos => (match gs with
      | [⟨tg, it, ifs, as⟩] => if as = 0 ∧ noSet it = true then (ownOf c.sc c.N sc.names).bind fun own =>
          if L2.blkC c.N c.sc sc own = true then
            (trL G n c it).bind fun src => (tgT ⟨c.N, L2.relS sc c.sc, fun x => sc.names.lookup x == some .cell⟩ tg).bind fun tg' =>
              (trEs G n ⟨c.N, L2.relS sc c.sc, fun x => sc.names.lookup x == some .cell⟩ ifs).bind fun ifs' =>
                if tgIn tg' (own.map (·.2)) = true ∧ plainArgs ifs = true ∧ ifs.length ≤ 1 then (trE G n ⟨c.N, L2.relS sc c.sc, fun x => sc.names.lookup x == some .cell⟩ elt).map fun elt' => .comp (own.map (·.2)) tg' src ifs' elt' else none
          else none
        else none
      | _ => none)
    | .Call (.Name x p) args kws pos => if x = ("range" : Str) then (if c.gl x = true ∧ kws.isEmpty = true ∧ plainArgs args = true then (match args with
        | [a] => (trE G n c a).map .rng1
        | [a, b] => (trE G n c a).bind fun a' => (trE G n c b).map fun b' => .rng2 a' b'
        | _ => none) else none)
      else (trE G n c (.Call (.Name x p) args kws pos)).map .of
    | e => (trE G n c e).map .of
end

/-- tuple targets: what the language makes of the stores; none: not told -/
def swN (c : Ct) (line : Nat) : Expr → Option Str
  | .Name id pos => if c.sc.names.lookup id = some .local ∧ pos.line = line then some id else none
  | _ => none
def tgNames : List Expr → Option (List Str)
  | [] => some []
  | .Name x _ :: r => (tgNames r).map (x :: ·)
  | _ :: _ => none

/-- an except suite: y = e, or y = e.value -/
def trH (G : Gt) (c : Ct) (nm : Str) (i : Nat) : List Stmt → Option Ss
  | [.Assign [.Name y _] e _] => if odd y = true ∨ c.sc.names.lookup y ≠ some .local ∨ y = nm then none else (match e with
    | .Name x _ => if x = nm then (ixS c.N y).map fun j => .cons (.set j (.var i)) .nil else none
    | .Attribute (.Name x _) f _ => if x = nm ∧ f = ("value" : Str) ∧ G.fls[0]? = some ("value" : Str) then (ixS c.N y).map fun j => .cons (.set j (.fld (.var i) 0)) .nil else none
    | _ => none)
  | _ => none

mutual
def trS (G : Gt) : Nat → Ct → Stmt → Option Sm
  | 0, _, _ => none
  | n + 1, c, st => match st with
    | .Expr e _ => if isComp e = true then none else (match e with
      | .Constant (.str _) _ _ => some .pass
      | e => (trE G n c e).map .expr)
    | .Assign [tg] e _ => (match tg with
      | .Name x _ => if odd x = true then none else (c.wr x).bind fun i => (trE G n c e).map fun e' => .set i e'
      | .Tuple ts _ _ => (match e with
        | .Tuple es _ _ => if plainArgs es = true ∧ es.length = ts.length ∧ es.length ≤ 100 ∧ (es.all (foldedForSure 8) = true ∨ es.all (constantsAlone 8) = false) then (varNs c ts).bind fun is => if is.Nodup then (trEs G n c es).map fun es' => .par is es' else none else none
        | e => if isComp e = true then none else (varNs c ts).bind fun is => (trE G n c e).map fun e' => .unp is e')
      | .Subscript o i _ => if noSlice i = true then (trE G n c e).bind fun e' => (trE G n c o).bind fun o' => (trE G n c i).map fun i' => .setI o' i' e' else none
      | .Attribute o f _ => if attrPlain o = true then (trE G n c e).bind fun e' => (trE G n c o).bind fun o' => (ixS G.fls f).map fun j => .setF o' j e' else none
      | _ => none)
    | .AugAssign tg op e _ => (match tg with
      | .Name x _ => if odd x = true then none else (c.wr x).bind fun i => (match op with
        | .Add => (trE G n c e).map fun e' => .aug i .add e'
        | .Sub => (trE G n c e).map fun e' => .aug i .sub e'
        | _ => none)
      | _ => none)
    | .If t a b _ => (trE G n c t).bind fun t' => (trSs G n c a).bind fun a' => (trSs G n c b).map fun b' => .ife t' a' b'
    | .While t b [] _ => (trE G n c t).bind fun t' => (trSs G n c b).map fun b' => .whl t' b'
    | .For tg it b [] _ => if noSet it = true then (tgT c tg).bind fun tg' => (trL G n c it).bind fun l => (trSs G n c b).map fun b' => .for_ tg' l b' else none
    | .Return none _ => some .retN
    | .Return (some e) _ => (trE G n c e).map .ret
    | .Raise (some (.Call (.Name x _) [e] [] _)) none _ => if c.gl x = false ∨ odd x = true ∨ plainArgs [e] = false then none else (G.exs.lookup x).bind fun k => (trE G n c e).map fun e' => .rais k e'
    | .Try b [.ExceptHandler (some (.Name x _)) (some nm) h _] [] [] _ => if c.gl x = false ∨ odd x = true ∨ odd nm = true ∨ c.sc.names.lookup nm ≠ some .local then none else (G.exs.lookup x).bind fun k => (ixS c.N nm).bind fun i => (trSs G n c b).bind fun b' => (trH G c nm i h).map fun h' => .try_ b' k i h'
    | .Pass _ => some .pass
    | .Break _ => some .brk
    | .Continue _ => some .cnt
    | _ => none
def trSs (G : Gt) : Nat → Ct → List Stmt → Option Ss
  | 0, _, _ => none
  | n + 1, c, ss => match ss with
    | [] => some .nil
    | s :: r => (trS G n c s).bind fun s' => (trSs G n c r).map fun r' => .cons s' r'
end
end Py
end
section
set_option linter.all false
set_option maxRecDepth 100000
/-! PyJ: readings of calls, list sources, targets; what a context is to bear. -/
namespace Py
open PySem PySem.Spec PyProof.Rows L2

/-! ### calls -/
def FinC (T : Tb) (m : List Addr) (H : Hp) (r : Res D) (Q : VK) (E : XK) : Prop := match r with
  | .ok d S' => ∀ m' H' v, Ext m H m' H' → RS T m' S' H' → RD T.K m' H' d v → Q v H'
  | .exc c x S' => ∀ m' H' dx w, Ext m H m' H' → RS T m' S' H' → H' dx = some (.xd (valF w)) → RD T.K m' H' x w → dx ∉ m' → KX T c → E (.ref (T.C c)) (some dx) H'
  | .bad => False
def spF (T : Tb) (n : Nat) (call : List D → Sto → Res D) : Sp := fun vs H Q E => vs.length = n ∧ ∃ m S ds, RS T m S H ∧ RDs T.K m H ds vs ∧ FinC T m H (call ds S) Q E
def wxOf (B : Bs) : WX := fun cls d σ H => ∃ m S σI c v dx w, At B m S H σI σ ∧ cls = .ref (B.T.C c) ∧ d = some dx ∧ H dx = some (.xd (valF w)) ∧ RD B.T.K m H v w ∧ dx ∉ m ∧ KX B.T c ∧ B.XW c v σI S
section
variable {B : Bs} {m m1 : List Addr} {S S1 : Sto} {H H1 : Hp} {σI : Sl} {σ : L2.St} {α β : Type} {Q : VK}
theorem fin_c {r : Res D} (A : At B m S H σI σ) (F : Fin B m H σI r (Wv B Q)) : FinC B.T m H r Q (WE (wxOf B) σ) := by
  cases r with
  | ok d S' => exact fun m' H' v x rs rv => F m' H' x rs v rv
  | exc c x S' => exact fun m' H' dx w y rs hd rv nd kx => ⟨m', S', σI, c, x, dx, w, A.next y rs, rfl, rfl, hd, rv, nd, kx, F m' H' y rs⟩
  | bad => exact F
theorem tE_in {f : Sl → Sto → Res D} {g : D → Sto → Res β} {R : β → Sto → List Addr → Hp → Prop} {Q' : VK} (A : At B m S H σI σ) (F : Fin B m H σI ((f σI S).bind g) R)
    (h : ∀ d S1 m1 H1 v, Ext m H m1 H1 → At B m1 S1 H1 σI σ → RD B.T.K m1 H1 d v → Fin B m1 H1 σI (g d S1) R → Q' v H1) : tE B f σ H Q' :=
  ⟨m, S, σI, A, (Fin.bind F).imp fun d S1 m1 H1 x rs F1 v rv => h d S1 m1 H1 v x (A.next x rs) rv F1⟩
theorem tE_in0 {f : Sl → Sto → Res D} {Q' : VK} (A : At B m S H σI σ) (F : Fin B m H σI (f σI S) (Wv B Q')) : tE B f σ H Q' := ⟨m, S, σI, A, F⟩
theorem tA_in {f : Sl → Sto → Res (List D)} {g : List D → Sto → Res β} {R : β → Sto → List Addr → Hp → Prop} {Q' : List V → Hp → Prop} (A : At B m S H σI σ) (F : Fin B m H σI ((f σI S).bind g) R)
    (h : ∀ ds S1 m1 H1 vs, Ext m H m1 H1 → At B m1 S1 H1 σI σ → RDs B.T.K m1 H1 ds vs → Fin B m1 H1 σI (g ds S1) R → Q' vs H1) : tA B f σ H Q' :=
  ⟨m, S, σI, A, (Fin.bind F).imp fun d S1 m1 H1 x rs F1 v rv => h d S1 m1 H1 v x (A.next x rs) rv F1⟩

/-! ### tests -/
def bR (d : D) (S : Sto) : Res Bool := match d with
  | .bl b => .ok b S
  | _ => .bad
/-- a test's reading -/
def tB' (B : Bs) (f : Sl → Sto → Res D) : TT := tT B fun σ S => (f σ S).bind bR
theorem tT_in {f : Sl → Sto → Res D} {g : Bool → Sto → Res β} {R : β → Sto → List Addr → Hp → Prop} {Q' : Bool → Hp → Prop} (A : At B m S H σI σ) (F : Fin B m H σI (((f σI S).bind bR).bind g) R)
    (h : ∀ b S1 m1 H1, Ext m H m1 H1 → At B m1 S1 H1 σI σ → Fin B m1 H1 σI (g b S1) R → Q' b H1) : tB' B f σ H Q' :=
  ⟨m, S, σI, A, (Fin.bind F).imp fun d S1 m1 H1 x rs F1 => h d S1 m1 H1 x (A.next x rs) F1⟩
theorem Res.bind_bind {α β γ : Type} (r : Res α) (f : α → Sto → Res β) (g : β → Sto → Res γ) : (r.bind f).bind g = r.bind fun a S => (f a S).bind g := by cases r <;> rfl
theorem boolD_b {d : D} {S : Sto} {g : Bool → Sto → Res D} : boolD d S g = (bR d S).bind g := by cases d <;> rfl
theorem pt_of {X : Cx} {e : Expr} {f : Sl → Sto → Res D} (h : PE X e (tE B f)) (he : ∀ whole, isTrue e X.env whole = (do let v ← whole; standAt e.pos; holding [v] (truthy v))) : PT X e (tB' B f) := by
  refine PT.imp (pt_val h he) fun σ H Q ⟨m, S, σI, A, F⟩ => ?_
  refine tE_in A F fun d S1 m1 H1 v x A1 rv F1 => ?_
  cases rv with
  | bl b => exact ⟨b, rfl, F1 m1 H1 Ext.refl A1.rs⟩
  | _ => exact absurd F1 (fun z => z)
/-- a comparison's test -/
theorem pt_of' {X : Cx} {e : Expr} {f : Sl → Sto → Res D} {t : TE} (h : PT X e (tTest t)) (i : ∀ σ H Q, tE B f σ H Q → t σ H Q) : PT X e (tB' B f) := by
  refine PT.imp h fun σ H Q ⟨m, S, σI, A, F⟩ => i _ _ _ ?_
  refine tE_in A F fun d S1 m1 H1 v x A1 rv F1 => ?_
  cases rv with
  | bl b => exact ⟨b, rfl, F1 m1 H1 Ext.refl A1.rs⟩
  | _ => exact absurd F1 (fun z => z)

/-! ### parts of a slice -/
def tO (B : Bs) (f : Sl → Sto → Res (Option Int)) : TO := fun σ H Q => ∃ m S σI, At B m S H σI σ ∧ Fin B m H σI (f σI S) fun o _ _ H' => Q o H'
theorem PO.imp {X : Cx} {e : Option Expr} {t t' : TO} (h : PO X e t) (i : ∀ σ H Q, t' σ H Q → t σ H Q) : PO X e t' := ⟨fun pins s σ H Q I q => h.run pins s σ H Q I (i _ _ _ q)⟩

/-! ### what a list-maker gives -/
def tL (B : Bs) (f : Sl → Sto → Res (List D × Src)) : TE := fun σ H Q => ∃ m S σI, At B m S H σI σ ∧ Fin B m H σI (f σI S) fun p _ m' H' => ∀ v, RSrc B m' H' p.1 p.2 v → Q v H'
/-- an iterator walks these -/
def Wk (B : Bs) (J : It) (ds : List D) (s : Src) (m : List Addr) (H : Hp) : Prop := ∀ m' S' H', Ext m H m' H' → RS B.T m' S' H' → s.still S' = true →
  (∀ (i : Nat) (d : D), ds[i]? = some d → J.go i H' ∧ ∀ x H'', J.yld i H' x H'' → H'' = H' ∧ RD B.T.K m' H' d x) ∧ J.stop ds.length H'
def iL (B : Bs) (f : Sl → Sto → Res (List D × Src)) : TI := fun σ H R => ∃ m S σI, At B m S H σI σ ∧ Fin B m H σI (f σI S) fun p _ m' H' => ∀ J, Wk B J p.1 p.2 m' H' → R J H'
theorem PI.imp {X : Cx} {tg e : Expr} {t t' : TI} (h : PI X tg e t) (i : ∀ σ H Q, t' σ H Q → t σ H Q) : PI X tg e t' := ⟨fun pins s σ H Q I q => h.run pins s σ H Q I (i _ _ _ q)⟩
/-- a list or a tuple is walked -/
def iSeq (K : PySem.W.Frag) (tl : TE) : TI := fun σ H R => tl σ H fun x H1 => (∃ a, x = .ref a ∧ (∃ xs, SqL K H1 a xs) ∧ R (Itl K a) H1) ∨ ∃ a, x = .ref a ∧ (∃ xs, SqT K H1 a xs) ∧ R (Itt K a) H1
theorem pi_seq {X : Cx} {tg l : Expr} {tl : TE} (hl : PE X l tl) : PI X tg l (iSeq X.K tl) := by
  constructor
  intro pins s σ H R I h
  refine thn (hl.run pins s σ H _ I h) ?_
  rintro v s1 ⟨x, H1, I1, r1, q1⟩
  have fresh : FpOk X pins H1 s1.heap.objs.size := I1.fpOk (Nat.le_refl _) (I1.hok.fresh (Nat.le_refl _))
  rcases q1 with ⟨a, rfl, ⟨xs, hq⟩, q⟩ | ⟨a, rfl, ⟨xs, hq⟩, q⟩ <;> cases r1
  · obtain ⟨its, -, p, -⟩ := I1.list hq
    exact wpAny_pyIter_list p.isList ⟨s1.heap.objs.size, [s1.heap.objs.size], _, _, H1, rfl, I1.kept (t' := s1.toks) fun _ _ e => Heap.get?_push_of_some _ e, turn_list a _,
      ⟨_, Heap.get?_push_size _ rfl, rfl, rfl⟩, fun b hb => by rw [List.mem_singleton.mp hb]; exact fresh, q⟩
  · obtain ⟨its, -, p, -⟩ := I1.tuple hq
    exact wpAny_pyIter_tuple (show s1.heap.IsTuple a its.toArray from p) ⟨s1.heap.objs.size, [s1.heap.objs.size], _, _, H1, rfl, I1.kept (t' := s1.toks) fun _ _ e => Heap.get?_push_of_some _ e, turn_tuple a _,
      ⟨_, Heap.get?_push_size _ rfl, rfl, rfl⟩, fun b hb => by rw [List.mem_singleton.mp hb]; exact fresh, q⟩

theorem still_at {n : Nat} {o : Ob} {S : Sto} (h : (Src.at n o).still S = true) : S[n]? = some o := by
  unfold Src.still at h
  simpa using h
theorem stop_at {K : PySem.W.Frag} {a : Addr} {vs : List V} {n : Nat} {H : Hp} (h : SqL K H a vs) (e : n = vs.length) : (Itl K a).stop n H := ⟨vs, h, Nat.le_of_eq e.symm⟩
theorem walk_l {ds : List D} {a : Addr} {vs : List V} (h : SqL B.T.K H a vs) (r : RDs B.T.K m H ds vs) : (∀ (i : Nat) (d : D), ds[i]? = some d → (Itl B.T.K a).go i H ∧ ∀ x H'', (Itl B.T.K a).yld i H x H'' → H'' = H ∧ RD B.T.K m H d x) ∧ (Itl B.T.K a).stop ds.length H := by
  refine ⟨fun i d e => ?_, stop_at h r.length⟩
  obtain ⟨v, e1, rv⟩ := r.get e
  exact ⟨⟨vs, v, h, e1⟩, fun x H'' ⟨e2, y⟩ => ⟨e2, by have := y vs h; rw [e1] at this; cases this; exact rv⟩⟩
theorem walk_t {ds : List D} {a : Addr} {vs : List V} (h : SqT B.T.K H a vs) (r : RDs B.T.K m H ds vs) : (∀ (i : Nat) (d : D), ds[i]? = some d → (Itt B.T.K a).go i H ∧ ∀ x H'', (Itt B.T.K a).yld i H x H'' → H'' = H ∧ RD B.T.K m H d x) ∧ (Itt B.T.K a).stop ds.length H := by
  refine ⟨fun i d e => ?_, ⟨vs, h, by rw [r.length]; exact Nat.le_refl _⟩⟩
  obtain ⟨v, e1, rv⟩ := r.get e
  exact ⟨⟨vs, v, h, e1⟩, fun x H'' ⟨e2, y⟩ => ⟨e2, by have := y vs h; rw [e1] at this; cases this; exact rv⟩⟩
/-- a list-maker's object is walked -/
theorem walk_src {ds : List D} {s : Src} {v : V} (rs : RS B.T m S H) (h : RSrc B m H ds s v) :
    (∃ a, v = .ref a ∧ (∃ xs, SqL B.T.K H a xs) ∧ Wk B (Itl B.T.K a) ds s m H) ∨ ∃ a, v = .ref a ∧ (∃ xs, SqT B.T.K H a xs) ∧ Wk B (Itt B.T.K a) ds s m H := by
  cases s with
  | fresh =>
    obtain ⟨a, vs, rfl, h1, h2, h3⟩ := h
    refine .inl ⟨a, rfl, ⟨vs, SqL.of h1⟩, fun m' S' H' x rs' st => ?_⟩
    exact walk_l (SqL.of (x.fr a _ h1 h2).1) (RDs.ext rs x _ _ h3)
  | tuple =>
    obtain ⟨a, vs, rfl, h1, h2⟩ := h
    exact .inr ⟨a, rfl, ⟨vs, h1⟩, fun m' S' H' x rs' st => walk_t (sqT_ext rs x h1) (RDs.ext rs x _ _ h2)⟩
  | range i j => exact h.elim
  | «at» n o =>
    obtain ⟨a, vs, e, hm, h1, h2, h3⟩ := h
    subst e
    refine .inl ⟨a, rfl, ⟨vs, h1⟩, fun m' S' H' x rs' st => ?_⟩
    have ro := rs'.ob n o a (still_at st) (x.get hm)
    rcases h3 with rfl | rfl
    · obtain ⟨ws, e1, e2⟩ := ro
      exact walk_l (SqL.of e1) e2
    · obtain ⟨ob, ws, e1, e2⟩ := ro
      exact walk_l (.inl (.inr ⟨ob, e1⟩)) e2
end
end Py
end
section
set_option linter.all false
set_option maxRecDepth 100000
/-! PyK: operators, isinstance, what a context is to bear. -/
namespace Py
open PySem PySem.Spec PyProof.Rows L2

theorem OpR.imp {X : Cx} {f : Value → Value → Sem Value} {r r' : R2} (h : OpR X f r) (i : ∀ x y H Q, r' x y H Q → r x y H Q) : OpR X f r' := fun pins s σ H x y v u Q I rx ry q => h pins s σ H x y v u Q I rx ry (i _ _ _ _ q)
def rBin (B : Bs) (o : Bop) : R2 := fun x y H Q => ∃ m S σI d e, RS B.T m S H ∧ RD B.T.K m H d x ∧ RD B.T.K m H e y ∧ Fin B m H σI (binD o d e S) (Wv B Q)
def rCmp (B : Bs) (o : Cop) : R2 := fun x y H Q => ∃ m S σI d e, RS B.T m S H ∧ RD B.T.K m H d x ∧ RD B.T.K m H e y ∧ Fin B m H σI (cmpD o d e S) (Wv B Q)
section
variable {X : Cx} {B : Bs}
theorem bin_R (hK : X.K = B.T.K) {op : Operator} {o : Bop} (h : opT op = some o) : OpR X (binaryOp op) (rBin B o) := by
  cases op <;> first | (cases h; done) | skip
  all_goals cases h
  · exact OpR.imp op_addP fun x y H Q ⟨m, S, σI, d, e, rs, rx, ry, F⟩ => by rw [hK]; exact addP_ok rs rx ry F
  · exact OpR.imp op_sub fun x y H Q ⟨m, S, σI, d, e, rs, rx, ry, F⟩ => subP_ok rs rx ry F
  · exact OpR.imp op_mulP fun x y H Q ⟨m, S, σI, d, e, rs, rx, ry, F⟩ => by rw [hK]; exact mulP_ok rs rx ry F
  · exact OpR.imp op_mod fun x y H Q ⟨m, S, σI, d, e, rs, rx, ry, F⟩ => modP_ok rs rx ry F
  · exact OpR.imp op_pow fun x y H Q ⟨m, S, σI, d, e, rs, rx, ry, F⟩ => powP_ok rs rx ry F
  · exact OpR.imp op_fdivW fun x y H Q ⟨m, S, σI, d, e, rs, rx, ry, F⟩ => divP_ok rs rx ry F
theorem cmp_R (hK : X.K = B.T.K) (hu : X.A.units + 64 < cLine) {op : CmpOp} {o : Cop} (h : cmT op = some o) : OpR X (compareOp op) (rCmp B o) := by
  cases op <;> cases h
  · exact OpR.imp (op_eqP hu) fun x y H Q ⟨m, S, σI, d, e, rs, rx, ry, F⟩ => by rw [hK]; exact cmpEq_ok rs rx ry F
  · exact OpR.imp (op_neP hu) fun x y H Q ⟨m, S, σI, d, e, rs, rx, ry, F⟩ => by rw [hK]; exact cmpNe_ok rs rx ry F
  · exact OpR.imp (op_ltP (by omega)) fun x y H Q ⟨m, S, σI, d, e, rs, rx, ry, F⟩ => by rw [hK]; exact cmpLt_ok rs rx ry F
  · exact OpR.imp op_le fun x y H Q ⟨m, S, σI, d, e, rs, rx, ry, F⟩ => cmpLe_ok rs rx ry F
  · exact OpR.imp op_gt fun x y H Q ⟨m, S, σI, d, e, rs, rx, ry, F⟩ => cmpGt_ok rs rx ry F
  · exact OpR.imp op_ge fun x y H Q ⟨m, S, σI, d, e, rs, rx, ry, F⟩ => cmpGe_ok rs rx ry F
  · exact OpR.imp op_isBl fun x y H Q ⟨m, S, σI, d, e, rs, rx, ry, F⟩ => cmpIs_ok rs rx ry F
  · exact OpR.imp op_notBl fun x y H Q ⟨m, S, σI, d, e, rs, rx, ry, F⟩ => cmpNs_ok rs rx ry F
  · exact OpR.imp op_in_seq fun x y H Q ⟨m, S, σI, d, e, rs, rx, ry, F⟩ => by rw [hK]; exact cmpIn_ok rs rx ry F
  · exact OpR.imp op_notIn_seq fun x y H Q ⟨m, S, σI, d, e, rs, rx, ry, F⟩ => by rw [hK]; exact cmpNin_ok rs rx ry F
end

/-! ### kinds of values -/
inductive Kd where
  | non | bl | int | str | tup | lst | dct | exc (c : Nat)
def kdOf (S : Sto) : D → Option Kd
  | .non => some .non
  | .bl _ => some .bl
  | .int _ => some .int
  | .str _ => some .str
  | .tup _ => some .tup
  | .ref n => match S[n]? with
    | some (.lst _) => some .lst
    | some (.frz _) => some .lst
    | some (.dct _) => some .dct
    | some (.exc c _) => some (.exc c)
    | _ => none
def isK (sub : Nat → Nat → Bool) : Kd → Ty → Bool
  | .bl, .int => true
  | .bl, .bool => true
  | .int, .int => true
  | .str, .str => true
  | .tup, .tuple => true
  | .lst, .list => true
  | .dct, .dict => true
  | .exc c, .own k => sub c k
  | .exc _, .verr => true
  | _, _ => false
theorem isiD_kd (V : Ev) (d : D) (ty : Ty) (S : Sto) : isiD V d ty S = (kdOf S d).map fun k => isK V.sub k ty := by
  cases d with
  | ref n =>
    unfold isiD kdOf
    dsimp only
    cases h : S[n]? with
    | none => rfl
    | some o => cases o <;> cases ty <;> rfl
  | _ => cases ty <;> rfl
theorem isTD_kd (V : Ev) (d : D) (S : Sto) (k : Kd) (hk : kdOf S d = some k) : ∀ Ts : List Ty, isTD V d S Ts = some (Ts.any fun ty => isK V.sub k ty)
  | [] => rfl
  | ty :: Ts => by
    unfold isTD
    rw [isiD_kd, hk]
    cases h : isK V.sub k ty with
    | true => simp [h]
    | false => simp [h, isTD_kd V d S k hk Ts]
def tyNmV : Ty → String
  | .int => "int"
  | .bool => "bool"
  | .str => "str"
  | .tuple => "tuple"
  | .list => "list"
  | .dict => "dict"
  | .verr => "ValueError"
  | .own _ => ""
def tyU (T : Tb) : Ty → Value
  | .own c => .ref (T.C c)
  | t => .type (tyNmV t)
def tyW (T : Tb) : Ty → V
  | .own c => .ref (T.C c)
  | t => .ty (tyNmV t)
def kdU (T : Tb) : Kd → Value
  | .non => .type "NoneType"
  | .bl => .type "bool"
  | .int => .type "int"
  | .str => .type "str"
  | .tup => .type "tuple"
  | .lst => .type "list"
  | .dct => .type "dict"
  | .exc c => .ref (T.C c)
theorem tyW_cls (T : Tb) (ty : Ty) : ClsV (tyW T ty) (tyU T ty) := by
  cases ty <;> first | exact .own _ | exact .ty _
/-- the library's isinstance says as we do, of the classes below n and the types that are asked -/
def KitOk (T : Tb) (sub : Nat → Nat → Bool) (ok : Ty → Prop) : Prop := ∀ (k : Kd) (ty : Ty), (∀ c, k = .exc c → c < T.nx) → ok ty → PySem.W.kitOne T.K (kdU T k) (tyU T ty) = some (isK sub k ty)
section
variable {X : Cx} {B : Bs} {m : List Addr} {S : Sto} {H : Hp} {pins : List (Addr × Obj)} {σ : L2.St} {s : Shared} {d : D} {v : V} {u : Value}
theorem ext_of {φ : Heap → Prop} {P : Program} {w : World} {a : Addr} {h : Heap} (x : HOk P w H h) (e : H a = some (.ext φ)) : φ h := (x a _ e).1
/-- what the library's rule asks of a value of ours -/
theorem kit_kd (hK : X.K = B.T.K) (I : L2.Inv X pins σ H s) (rs : RS B.T m S H) (rv : RD B.T.K m H d v) (ru : RelV v u) {k : Kd} (hk : kdOf S d = some k) :
    ∃ P : Heap → Prop, PySem.W.KitX X.K u (kdU B.T k) P ∧ P s.heap ∧ u ≠ .builtin "__main__.__loader__#opaque" ∧ ∀ c, k = .exc c → c < B.T.nx := by
  have main : ∀ {t : Value}, TyX X.K H v t → kdU B.T k = t → (∀ c, k ≠ .exc c) → ∃ P : Heap → Prop, PySem.W.KitX X.K u (kdU B.T k) P ∧ P s.heap ∧ u ≠ .builtin "__main__.__loader__#opaque" ∧ ∀ c, k = .exc c → c < B.T.nx := by
    intro t ty e n
    rw [e]
    obtain ⟨P, h1, h2, h3⟩ := kit_of I ru ty
    exact ⟨P, h1, h2, h3, fun c z => absurd z (n c)⟩
  cases rv with
  | non => cases hk; exact main (.base .non) rfl fun c z => nomatch z
  | bl b => cases hk; exact main (.base (.bl b)) rfl fun c z => nomatch z
  | int i => cases hk; exact main (.base (.int i)) rfl fun c z => nomatch z
  | str x => cases hk; exact main (.base (.str x)) rfl fun c z => nomatch z
  | tup h hs =>
    cases hk
    rcases h with (h | ⟨o, h⟩) | ⟨o, its, n, e, c, _⟩
    · exact main (.base (.tup h)) rfl fun c z => nomatch z
    · exact main (.fTuple h) rfl fun c z => nomatch z
    · exact main (.kTuple (by rw [hK]; exact e) c) rfl fun c z => nomatch z
  | @ref n a h =>
    unfold kdOf at hk
    dsimp only at hk
    split at hk
    · next xs hx => cases hk; obtain ⟨vs, e, _⟩ := rs.ob n _ a hx h; exact main (.base (.lst e)) rfl fun c z => nomatch z
    · next xs hx => cases hk; obtain ⟨o, vs, e, _⟩ := rs.ob n _ a hx h; exact main (.base (.frz e)) rfl fun c z => nomatch z
    · next xs hx => cases hk; obtain ⟨vs, e, _⟩ := rs.ob n _ a hx h; exact main (.base (.dK e)) rfl fun c z => nomatch z
    · next c x hx =>
      cases hk
      obtain ⟨dx, w, e, ed, _, _, nx, K1, _⟩ := rs.ob n _ a hx h
      cases (show u = Value.ref a from ru)
      obtain ⟨oe, vs, e1, e2, e3, e4⟩ := ext_of (φ := fun h => ∃ (oe : Obj) (vs : Array Value), h.get? a = some oe ∧ oe.cls = .ref (B.T.C c) ∧ oe.dict = some dx ∧ oe.data = .fields vs) I.hok e
      obtain ⟨mA, ⟨od, es, ep, hd, _⟩, _⟩ := (show ObjOk X.prog X.w H s.heap dx (.xd (valF w)) from I.hok dx _ ed)
      obtain ⟨oc, odd', oda, osl⟩ := oe
      dsimp only at e2 e3 e4
      subst e2 e3 e4
      have hcl : (PySem.W.clsIn B.T.K (B.T.C c)).isSome = true := by
        obtain ⟨cd, hc, _⟩ := PySem.W.any_some K1.hd
        rw [hc]; rfl
      refine ⟨fun h => PySem.W.InstAt h a { cls := .ref (B.T.C c), dict := some dx, data := .fields vs, slots := osl } (B.T.C c) (some od), ?_, ⟨e1, rfl, rfl, hd⟩, fun z => (nomatch z), fun c' z => by cases z; exact nx⟩
      rw [hK]
      exact PySem.W.kitx_exc hcl K1.hg K1.hk K1.hs K1.ha K1.hn K1.ht K1.hm
    · cases hk
/-- isinstance(x, T) -/
def rIs (B : Bs) (Y : Ev) (ty : Ty) : List V → Hp → VK → Prop := fun xs H Q => ∃ m S σI d v, xs = [v, tyW B.T ty] ∧ RS B.T m S H ∧ RD B.T.K m H d v ∧ Fin B m H σI (orBad ((isiD Y d ty S).map .bl) S) (Wv B Q)
theorem is_R (hK : X.K = B.T.K) {V : Ev} {ok : Ty → Prop} (kk : KitOk B.T V.sub ok) {ty : Ty} (ht : ok ty) : CallR X (.builtin "isinstance") (rIs B V ty) := by
  intro pins s σ H xs us Q I r ⟨m, S, σI, d, v, e, rs, rv, F⟩
  subst e
  obtain ⟨u1, u2, rfl, r1, r2⟩ := vals2 r
  have e2 := (tyW_cls B.T ty).eq r2
  subst e2
  obtain ⟨a, e1, q⟩ := Fin.orBad F rs
  rw [isiD_kd, Option.map_map] at e1
  obtain ⟨k, hk, rfl⟩ := Option.map_eq_some_iff.mp e1
  obtain ⟨P, Z, p, hx, hn⟩ := kit_kd hK I rs rv r1 hk
  exact PySem.W.kia_one Z I.kIn p (by rw [hK]; exact kk k ty hn ht) hx fun tk => ⟨.bl _, H, I.tok tk, rfl, q _ (.bl _)⟩
/-- isinstance(x, (T, ..)), the tuple just laid -/
def rIsM (B : Bs) (Y : Ev) (Ts : List Ty) : List V → Hp → VK → Prop := fun xs H Q => ∃ m S σI d v p, xs = [v, .ref p] ∧ H p = some (.tup (Ts.map (tyW B.T))) ∧ RS B.T m S H ∧ RD B.T.K m H d v ∧ Fin B m H σI (orBad ((isTD Y d S Ts).map .bl) S) (Wv B Q)
theorem cls_pair (T : Tb) : ∀ Ts : List Ty, Paired ClsV (Ts.map (tyW T)) (Ts.map (tyU T))
  | [] => .nil
  | t :: Ts => .cons (tyW_cls T t) (cls_pair T Ts)
theorem kit_any {T : Tb} {sub : Nat → Nat → Bool} {ok : Ty → Prop} (kk : KitOk T sub ok) {k : Kd} (hn : ∀ c, k = .exc c → c < T.nx) : ∀ Ts : List Ty, (∀ t ∈ Ts, ok t) → PySem.W.kitAny T.K (kdU T k) (Ts.map (tyU T)) = some (Ts.any fun ty => isK sub k ty)
  | [], _ => rfl
  | t :: Ts, h => by
    refine kitAny_cons (kk k t hn (h t List.mem_cons_self)) (fun e => ?_) fun e => ?_
    · rw [List.any_cons, e, Bool.false_or]; exact kit_any kk hn Ts fun t' ht => h t' (List.mem_cons_of_mem _ ht)
    · rw [List.any_cons, e, Bool.true_or]
theorem kd_none {V : Ev} : ∀ {Ts : List Ty} {b : Bool}, kdOf S d = none → isTD V d S Ts = some b → Ts = []
  | [], _, _, _ => rfl
  | t :: Ts, b, h, e => by
    unfold isTD at e
    rw [isiD_kd, h] at e
    cases e
theorem isM_R (hK : X.K = B.T.K) {V : Ev} {ok : Ty → Prop} (kk : KitOk B.T V.sub ok) {Ts : List Ty} (ht : ∀ t ∈ Ts, ok t) (h0 : Ts ≠ []) : CallR X (.builtin "isinstance") (rIsM B V Ts) := by
  intro pins s σ H xs us Q I r ⟨m, S, σI, d, v, tp, e, hT, rs, rv, F⟩
  subst e
  obtain ⟨u1, u2, rfl, r1, r2⟩ := vals2 r
  cases (show u2 = Value.ref tp from r2)
  obtain ⟨a, e1, q⟩ := Fin.orBad F rs
  obtain ⟨b, e2, rfl⟩ := Option.map_eq_some_iff.mp e1
  cases hk : kdOf S d with
  | none => exact absurd (kd_none hk e2) h0
  | some k =>
    rw [isTD_kd V d S k hk Ts] at e2
    cases e2
    obtain ⟨P, Z, p, hx, hn⟩ := kit_kd hK I rs rv r1 hk
    obtain ⟨_, its, rv', o, h1, h2, n, h3⟩ := (show ObjOk X.prog X.w H s.heap tp (.tup (Ts.map (tyW B.T))) from I.hok tp _ hT)
    have e3 := ClsV.all (cls_pair B.T Ts) rv'
    subst e3
    obtain ⟨oc, od, dt, sl⟩ := o
    simp only at h2 h3
    subst h2 h3
    exact PySem.W.kia_tup Z I.kIn p h1 (by rw [hK]; exact kit_any kk hn Ts ht) hx fun tk => ⟨.bl _, H, I.tok tk, rfl, q _ (.bl _)⟩
end
end Py
end
section
set_option linter.all false
set_option maxRecDepth 100000
/-! PyKx: what the written part says of errors. -/
namespace Py
open PySem PySem.Spec PyProof.Rows L2 PySem.W
/-- names that the language sets apart, again -/
def oddX (x : Str) : Bool := (x == ("__debug__" : Str)) || (x == ("__classdict__" : Str)) || (x == ("__name__" : Str))
/-- the two statements of such an __init__ -/
def iniB (msg sf pr : Str) (j : Nat) (p0 p1 p2 p3 p4 p5 p6 p7 p8 p9 : Pos) : List Stmt :=
  [.Expr (.Call (.Attribute (.Call (.Name "super" p0) [] [] p1) "__init__" p2) [.Constant (.str msg) j p3] [] p4) p5, .Assign [.Attribute (.Name sf p6) "value" p7] (.Name pr p8) p9]
/-- what the written part says of it; D: the class that it is written in -/
structure IniK (P : Program) (K : Frag) (fI D : Addr) (fd : FuncData) (sf pr : Str) : Prop where
  ex : ∃ (name qual : Str) (params : Arguments) (msg : Str) (j : Nat) (p0 p1 p2 p3 p4 p5 p6 p7 p8 p9 : Pos) (scope : Scope) (dV kV doc pm ct oc : Value) (an od : Option Addr) (osl : Array (Option Value)) (cc cda : Addr) (ar : Arg) (vs : Array Value) (file : Str) (tf : Tok)
      (ccl cl : Value) (cdd cld : Option Addr) (ccs csl : Array (Option Value)) (cdD : ClassData),
    fd = ksFn name qual params (iniB msg sf pr j p0 p1 p2 p3 p4 p5 p6 p7 p8 p9) scope dV kV doc pm an (.ref cda) ct cc ∧
    K.lookup fI = some ⟨oc, od, .func fd, osl⟩ ∧ codeIn K (.ref cda) qual = true ∧
    (params.posonlyargs ++ params.args).head? = some ar ∧ ar.arg = sf ∧ sf ≠ pr ∧ scope.names.lookup sf = some .local ∧ scope.names.lookup pr = some .local ∧ scope.names.lookup ("super" : Str) = some .globalImplicit ∧ scope.names.lookup ("__class__" : Str) = some .free ∧
    scope.kind = .function ∧ scope.isCoroutine = false ∧ scope.isGenerator = false ∧ (∀ x ∈ scope.names, x.2 ≠ .cell) ∧ oddX sf = false ∧ oddX pr = false ∧ (p2.endLine == p4.line) = true ∧
    K.lookup cda = some ⟨ccl, cdd, .fields vs, ccs⟩ ∧ vs[2]? = some (.str file tf) ∧ ((P.main.file : Str) == file) = true ∧ (P.main.scope.names.lookup ("super" : Str)).isSome = false ∧
    K.lookup cc = some ⟨cl, cld, .cell (some (.ref D)), csl⟩ ∧ clsIn K D = some cdD ∧ nsIn K cStatics "thirdparty.any" = some none
/-- .. of the class of the object that is made -/
structure MkX (K : Frag) (D C : Addr) : Prop where
  ox : OexC K C
  no : findIn K (.ref C) "value" = some none
  sub : mroIn K C (.ref D) = some true
  sup : ks_superIn K C D "__init__" = some (some (.builtin "ValueError.__init__"))
  ve : subIn K (.ref C) (.type "ValueError") = some true

end Py
end
section
set_option linter.all false
set_option maxRecDepth 100000
/-! PyL: each form of an expression is read rightly. -/
namespace Py
open PySem PySem.Spec PyProof.Rows L2

def bltNs : List Str := biNm.map (·.1) ++ (blNm.map (·.1) ++ (tyNm.map (·.1) ++ ([("range" : Str), ("isinstance" : Str)] : List Str)))
def okTy (G : Gt) : Ty → Prop
  | .own c => ∃ x, G.exs.lookup x = some c
  | _ => True
structure Pw (G : Gt) (T : Tb) (Y : Ev) (k : Nat) (P : Program) (w : World) (mg : Str → Option Value) (base : Heap) : Prop where
  fls : T.fls = G.fls
  fns : ∀ x f, G.fns.lookup x = some f → ∃ a fd, mg x = some (.ref a) ∧ PySem.W.keepIn T.K (.ref a) = true ∧ Binds T.K fd (G.par f) [] ∧
    (∀ ks n perm, permOf (G.par f) ks n = some perm → KBindG T.K fd (G.par f) ks n perm) ∧ FnG P w T.K mg base k a fd (G.par f) (spF T (G.par f).length (Y.call f))
  gcs : ∀ x g, G.gcs.lookup x = some g → ∃ u v, mg x = some u ∧ RelV v u ∧ ∀ m H, RD T.K m H (Y.gv g) v
  cls : ∀ x c, G.cls.lookup x = some c → mg x = some (.ref (T.C c)) ∧ KC T c ∧ ∃ fI fd ps, Mk T.K (T.C c) fI ∧ Binds T.K fd ps [] ∧
    (∀ ds S, ds.length ≠ ps.length → Y.init c ds S = .bad) ∧ ((∃ k', k = k' + 1 ∧ FnG P w T.K mg base k' fI fd ps (spF T ps.length (Y.init c))) ∨ ∀ ds S, Y.init c ds S = .bad)
  mts : ∀ x c j, G.mts.lookup x = some (c, j) → ∃ f fd, Meth T.K (T.C c) x f ∧ x ∉ T.fls ∧ Binds T.K fd (G.par j) [] ∧ FnG P w T.K mg base k f fd (G.par j) (spF T (G.par j).length (Y.call j))
  exs : ∀ x c, G.exs.lookup x = some c → mg x = some (.ref (T.C c))
  xw : ∀ x c, G.exs.lookup x = some c → KX T c ∧ ∃ fI D' fd sf pr, IniK P T.K fI D' fd sf pr ∧ MkX T.K D' (T.C c) ∧ PySem.W.findIn T.K (.ref (T.C c)) "__init__" = some (some (.ref fI)) ∧ PySem.W.typeIn T.K (.ref fI) = some (.type "function") ∧ Binds T.K fd [sf, pr] [] ∧ mg "super" = none
  sb : ∀ x c c', G.exs.lookup x = some c → c' < T.nx → PySem.W.exmOne T.K (.ref (T.C c')) (.ref (T.C c)) = some (Y.sub c' c)
  cl : ∀ f ds S, ds.length ≠ (G.par f).length → Y.call f ds S = .bad
  bt : ∀ x ∈ bltNs, mg x = none
  kit : KitOk T Y.sub (okTy G)
  sm : ∃ o, base.get? sysModules = some o
structure Gd (G : Gt) (T : Tb) (Y : Ev) (k : Nat) (c : Ct) (X : Cx) : Prop where
  hK : X.K = T.K
  calm : X.calm = true
  hgd : X.A.guards = some []
  hr : Room k X.A
  hn : X.N = c.N
  nd : X.N.Nodup
  sc : X.env.scope = c.sc
  fn : X.fn = c.fn
  pw : Pw G T Y k X.prog X.w X.mg X.base

/-! ### names -/
theorem ixS_some : ∀ {N : List Str} {x : Str} {i : Nat}, ixS N x = some i → N[i]? = some x
  | [], _, _, h => by cases h
  | y :: r, x, i, h => by
    unfold ixS at h
    split at h
    · next e => cases h; rw [e]; rfl
    · obtain ⟨j, e, rfl⟩ := Option.map_eq_some_iff.mp h
      simpa using ixS_some e
theorem odd_not {x : Str} (h : odd x = false) : (x == ("__debug__" : Str)) = false ∧ (x == ("__classdict__" : Str)) = false ∧ x ≠ "__name__" := by
  unfold odd at h
  simp only [Bool.or_eq_false_iff] at h
  exact ⟨h.1.1, h.1.2, fun e => by rw [e] at h; exact absurd h.2 (by decide)⟩
theorem lookup_mem {α : Type} : ∀ {l : List (Str × α)} {x : Str} {b : α}, l.lookup x = some b → (x, b) ∈ l
  | [], _, _, h => by cases h
  | (y, a) :: r, x, b, h => by
    rw [List.lookup_cons] at h
    split at h
    · next e => cases h; rw [beq_iff_eq.mp e]; exact List.mem_cons_self
    · exact List.mem_cons_of_mem _ (lookup_mem h)
theorem lookup_key {α : Type} {l : List (Str × α)} {x : Str} {b : α} (h : l.lookup x = some b) : x ∈ l.map (·.1) := List.mem_map.mpr ⟨_, lookup_mem h, rfl⟩
theorem bi_boot {x : Str} {b : Bi} (h : biNm.lookup x = some b) : bootBuiltins x = some (biOf b) := by
  have m := lookup_mem h
  simp only [biNm, List.mem_cons, List.not_mem_nil, or_false, Prod.mk.injEq] at m
  rcases m with ⟨rfl, rfl⟩ | ⟨rfl, rfl⟩ | ⟨rfl, rfl⟩ | ⟨rfl, rfl⟩ | ⟨rfl, rfl⟩ | ⟨rfl, rfl⟩ | ⟨rfl, rfl⟩ | ⟨rfl, rfl⟩ <;> kernel_rfl
theorem bl_boot {x : Str} {b : Bl} (h : blNm.lookup x = some b) : bootBuiltins x = some (blOf b) := by
  have m := lookup_mem h
  simp only [blNm, List.mem_cons, List.not_mem_nil, or_false, Prod.mk.injEq] at m
  rcases m with ⟨rfl, rfl⟩ | ⟨rfl, rfl⟩ | ⟨rfl, rfl⟩ | ⟨rfl, rfl⟩ | ⟨rfl, rfl⟩ | ⟨rfl, rfl⟩ | ⟨rfl, rfl⟩ | ⟨rfl, rfl⟩ <;> kernel_rfl
theorem ty_boot {x : Str} {b : Ty} (h : tyNm.lookup x = some b) : (∀ c, b ≠ .own c) ∧ bootBuiltins x = some (.type (tyNmV b)) := by
  have m := lookup_mem h
  simp only [tyNm, List.mem_cons, List.not_mem_nil, or_false, Prod.mk.injEq] at m
  rcases m with ⟨rfl, rfl⟩ | ⟨rfl, rfl⟩ | ⟨rfl, rfl⟩ | ⟨rfl, rfl⟩ | ⟨rfl, rfl⟩ | ⟨rfl, rfl⟩ | ⟨rfl, rfl⟩ <;> exact ⟨fun c z => (nomatch z), by kernel_rfl⟩

section
variable {G : Gt} {T : Tb} {Y : Ev} {k : Nat} {c : Ct} {X : Cx} {B : Bs}
theorem Gd.un (g : Gd G T Y k c X) : X.A.units + 64 < cLine := g.hr.units
theorem Gd.kind (g : Gd G T Y k c X) (x : Str) : X.env.kindOf x = c.sc.names.lookup x := by
  show X.env.scope.names.lookup x = _
  rw [g.sc]
theorem Gd.gl (g : Gd G T Y k c X) {x : Str} (h : c.gl x = true) : Gl X x := by
  show X.env.kindOf x = _
  rw [g.kind]
  unfold Ct.gl at h
  split at h
  · next e => exact e
  · cases h
theorem Gd.rd (g : Gd G T Y k c X) {x : Str} {i : Nat} (h : c.rd x = some i) : X.N[i]? = some x ∧ Vis X.env.scope x := by
  unfold Ct.rd at h
  rw [g.hn, g.sc]
  unfold Vis
  split at h
  · next e => exact ⟨ixS_some h, .inl e⟩
  · next e => exact ⟨ixS_some h, .inr (.inl e)⟩
  · next e => exact ⟨ixS_some h, .inr (.inr e)⟩
  · cases h
theorem Gd.wr (g : Gd G T Y k c X) {x : Str} {i : Nat} (h : c.wr x = some i) : X.N[i]? = some x ∧ L2.Loc X.env.scope x ∧ (X.fn x = true ∨ X.env.scope.names.lookup x = some .local) := by
  unfold Ct.wr at h
  rw [g.hn, g.sc, g.fn]
  unfold L2.Loc
  split at h
  · next e => exact ⟨ixS_some h, .inl e, .inr e⟩
  · next e =>
    split at h
    · next hf => exact ⟨ixS_some h, .inr e, .inl hf⟩
    · cases h
  · cases h

/-! ### leaves -/
theorem s_lit {kc : Const} {d : D} {j : Nat} {pos : Pos} (h : litE kc = some d) : PE X (.Constant kc j pos) (tE B (evE Y (.lit d))) := by
  cases kc <;> cases h
  · exact PE.imp pe_non fun σ H Q ⟨m, S, σI, A, F⟩ => Fin.now F A.rs .non
  · exact PE.imp pe_bl fun σ H Q ⟨m, S, σI, A, F⟩ => Fin.now F A.rs (.bl _)
  · exact PE.imp pe_int fun σ H Q ⟨m, S, σI, A, F⟩ => Fin.now F A.rs (.int _)
  · exact PE.imp pe_str fun σ H Q ⟨m, S, σI, A, F⟩ => Fin.now F A.rs (.str _)
theorem s_var (g : Gd G T Y k c X) {x : Str} {i : Nat} {pos : Pos} (ho : odd x = false) (h : c.rd x = some i) : PE X (.Name x pos) (tE B (evE Y (.var i))) := by
  obtain ⟨h1, h2⟩ := g.rd h
  obtain ⟨o1, o2, o3⟩ := odd_not ho
  refine PE.imp (pe_var h1 h2 o1 o2) fun σ H Q ⟨m, S, σI, A, F⟩ => ?_
  have F' : Fin B m H σI (varD i σI S) (Wv B Q) := F
  unfold varD at F'
  split at F'
  · next d e =>
    obtain ⟨v, e1, rv⟩ := A.sl.get e
    exact ⟨v, e1, F'.now A.rs rv⟩
  · exact absurd F' (fun z => z)
theorem s_gl (g : Gd G T Y k c X) (hT : B.T = T) {x : Str} {q : Nat} {pos : Pos} (ho : odd x = false) (hg : c.gl x = true) (h : G.gcs.lookup x = some q) : PE X (.Name x pos) (tE B (evE Y (.gl q))) := by
  obtain ⟨u, v, h1, h2, h3⟩ := g.pw.gcs x q h
  exact PE.imp (pe_glob (g.gl hg) h1 h2 (odd_not ho).1) fun σ H Q ⟨m, S, σI, A, F⟩ => Fin.now F A.rs (by rw [hT]; exact h3 m H)

/-! ### lists of expressions -/
theorem s_nil : PA X [] (tA B (evEs Y .nil)) := PA.imp pa_nil fun σ H Q ⟨m, S, σI, A, F⟩ => F m H Ext.refl A.rs [] .nil
theorem s_cons {e : Expr} {es : List Expr} {e' : E} {es' : Es} (hp : plainArgs (e :: es) = true) (h1 : PE X e (tE B (evE Y e'))) (h2 : PA X es (tA B (evEs Y es'))) : PA X (e :: es) (tA B (evEs Y (.cons e' es'))) := by
  refine PA.imp (pa_cons h1 h2 (star_cons hp _)) fun σ H Q ⟨m, S, σI, A, F⟩ => ?_
  refine tE_in A F fun d S1 m1 H1 v x A1 rv F1 => tA_in A1 F1 fun ds S2 m2 H2 vs x2 A2 rvs F2 => ?_
  exact F2 m2 H2 Ext.refl A2.rs _ (.cons (rv.ext A1.rs x2) rvs)
theorem s_knil : PK X [] (tA B (evEs Y .nil)) := ⟨fun pos pins s σ H Q I ⟨m, S, σI, A, F⟩ => pk_nil.run pos pins s σ H Q I (F m H Ext.refl A.rs [] .nil)⟩
theorem PK.imp {X : Cx} {e : List Keyword} {t t' : TA} (h : PK X e t) (i : ∀ σ H Q, t' σ H Q → t σ H Q) : PK X e t' := ⟨fun pos pins s σ H Q I q => h.run pos pins s σ H Q I (i _ _ _ q)⟩
theorem s_kcons {nm : Option Str} {kp : Pos} {e : Expr} {es : List Keyword} {e' : E} {es' : Es} (h1 : PE X e (tE B (evE Y e'))) (h2 : PK X es (tA B (evEs Y es'))) : PK X (⟨nm, e, kp⟩ :: es) (tA B (evEs Y (.cons e' es'))) := by
  refine PK.imp (pk_cons h1 h2) fun σ H Q ⟨m, S, σI, A, F⟩ => ?_
  refine tE_in A F fun d S1 m1 H1 v x A1 rv F1 => tA_in A1 F1 fun ds S2 m2 H2 vs x2 A2 rvs F2 => ?_
  exact F2 m2 H2 Ext.refl A2.rs _ (.cons (rv.ext A1.rs x2) rvs)
theorem s_tup {es : List Expr} {es' : Es} {j : Nat} {pos : Pos} (h : PA X es (tA B (evEs Y es'))) : PE X (.Tuple es j pos) (tE B (evE Y (.tup es'))) := by
  refine PE.imp (pe_tup h) fun σ H Q ⟨m, S, σI, A, F⟩ => ?_
  refine tA_in A F fun ds S1 m1 H1 vs x A1 rvs F1 => ?_
  split at F1
  · next hl => exact ⟨by rw [← rvs.length]; exact hl, Fin.newT F1 A1.rs rvs⟩
  · exact absurd F1 (fun z => z)

/-! ### operators -/
theorem s_bin (g : Gd G T Y k c X) (hT : B.T = T) {op : Operator} {o : Bop} {a b : Expr} {a' b' : E} {pos : Pos} (ho : opT op = some o) (h1 : PE X a (tE B (evE Y a'))) (h2 : PE X b (tE B (evE Y b'))) : PE X (.BinOp a op b pos) (tE B (evE Y (.bin o a' b'))) := by
  refine PE.imp (pe_op (bin_R (B := B) (by rw [hT]; exact g.hK) ho) h1 h2) fun σ H Q ⟨m, S, σI, A, F⟩ => ?_
  exact tE_in A F fun d S1 m1 H1 v x A1 rv F1 => tE_in A1 F1 fun e S2 m2 H2 w x2 A2 rw F2 => ⟨m2, S2, σI, d, e, A2.rs, rv.ext A1.rs x2, rw, F2⟩
theorem s_neg {a : Expr} {a' : E} {pos : Pos} (h1 : PE X a (tE B (evE Y a'))) : PE X (.UnaryOp .USub a pos) (tE B (evE Y (.neg a'))) := by
  refine PE.imp (pe_un un_neg h1) fun σ H Q ⟨m, S, σI, A, F⟩ => tE_in A F fun d S1 m1 H1 v x A1 rv F1 => ?_
  cases rv with
  | int i => exact ⟨i, rfl, Fin.now F1 A1.rs (.int _)⟩
  | _ => exact absurd F1 (fun z => z)
theorem cmp_read {a b : Expr} {a' b' : E} {o : Cop} (σ : L2.St) (H : Hp) (Q : VK) (h : tE B (evE Y (.cmp o a' b')) σ H Q) : tOp (rCmp B o) (tE B (evE Y a')) (tE B (evE Y b')) σ H Q := by
  obtain ⟨m, S, σI, A, F⟩ := h
  exact tE_in A F fun d S1 m1 H1 v x A1 rv F1 => tE_in A1 F1 fun e S2 m2 H2 w x2 A2 rw F2 => ⟨m2, S2, σI, d, e, A2.rs, rv.ext A1.rs x2, rw, F2⟩
theorem mark_no {op : CmpOp} {b : Expr} (h : noSet b = true) : behindInMarks op b = false := by
  cases b <;> first | rfl | (cases h)
theorem s_cmp (g : Gd G T Y k c X) (hT : B.T = T) {op : CmpOp} {o : Cop} {a b : Expr} {a' b' : E} {pos : Pos} (ho : cmT op = some o) (hb : noSet b = true) (h1 : PE X a (tE B (evE Y a'))) (h2 : PE X b (tE B (evE Y b'))) :
    PE X (.Compare a [op] [b] pos) (tE B (evE Y (.cmp o a' b'))) ∧ PT X (.Compare a [op] [b] pos) (tB' B (evE Y (.cmp o a' b'))) :=
  ⟨PE.imp (pe_cmpR (cmp_R (B := B) (by rw [hT]; exact g.hK) g.un ho) h1 h2 (mark_no hb)) fun σ H Q => cmp_read (a := a) (b := b) σ H Q,
   pt_of' (pt_cmpR (cmp_R (B := B) (by rw [hT]; exact g.hK) g.un ho) h1 h2 (mark_no hb)) fun σ H Q => cmp_read (a := a) (b := b) σ H Q⟩
theorem isn_read {a' : E} {b : Bool} (tn : Nat) (σ : L2.St) (H : Hp) (Q : VK) {j : Nat} {p : Pos} (h : tE B (evE Y (if b then .isn a' else .nsn a')) σ H Q) :
    tE B (evE Y a') σ H fun x H1 => Q (.bl (if b then decide (x = .non) else !decide (x = .non))) H1 := by
  obtain ⟨m, S, σI, A, F⟩ := h
  cases b with
  | true =>
    refine tE_in A (show Fin B m H σI ((evE Y a' σI S).bind fun x S1 => match x with | .non => .ok (.bl true) S1 | _ => .ok (.bl false) S1) (Wv B Q) from F) fun d S1 m1 H1 v x A1 rv F1 => ?_
    cases rv <;> exact Fin.now F1 A1.rs (.bl _)
  | false =>
    refine tE_in A (show Fin B m H σI ((evE Y a' σI S).bind fun x S1 => match x with | .non => .ok (.bl false) S1 | _ => .ok (.bl true) S1) (Wv B Q) from F) fun d S1 m1 H1 v x A1 rv F1 => ?_
    cases rv <;> exact Fin.now F1 A1.rs (.bl _)
theorem s_isn {a : Expr} {a' : E} {b : Bool} {j : Nat} {p pos : Pos} (h1 : PE X a (tE B (evE Y a'))) :
    PE X (.Compare a [if b then .Is else .IsNot] [.Constant .none j p] pos) (tE B (evE Y (if b then .isn a' else .nsn a'))) ∧ PT X (.Compare a [if b then .Is else .IsNot] [.Constant .none j p] pos) (tB' B (evE Y (if b then .isn a' else .nsn a'))) := by
  have rd := fun σ H Q => isn_read (B := B) (Y := Y) (a' := a') (b := b) 0 σ H Q (j := j) (p := p)
  have rn : PE X (.Constant .none j p) (tC .non) := pe_non
  have go : ∀ σ H Q, tE B (evE Y (if b then .isn a' else .nsn a')) σ H Q → tOp (fun x y H Q => y = .non ∧ Q (.bl (if b then decide (x = .non) else !decide (x = .non))) H) (tE B (evE Y a')) (tC .non) σ H Q := fun σ H Q h => by
    obtain ⟨m, S, σI, A, F⟩ := rd σ H Q h
    exact ⟨m, S, σI, A, F.imp fun d S' m' H' x rs q v rv => ⟨rfl, q v rv⟩⟩
  cases b with
  | true => exact ⟨PE.imp (pe_cmpR op_isN h1 rn rfl) go, pt_of' (pt_cmpR op_isN h1 rn rfl) go⟩
  | false => exact ⟨PE.imp (pe_cmpR op_notN h1 rn rfl) go, pt_of' (pt_cmpR op_notN h1 rn rfl) go⟩
theorem chn_read {a' b' d' : E} {o o' : Cop} (σ : L2.St) (H : Hp) (Q : VK) (h : tE B (evE Y (.chn o o' a' b' d')) σ H Q) : tChain (rCmp B o) (rCmp B o') (tE B (evE Y a')) (tE B (evE Y b')) (tE B (evE Y d')) σ H Q := by
  obtain ⟨m, S, σI, A, F⟩ := h
  refine tE_in A F fun d S1 m1 H1 v x A1 rv F1 => tE_in A1 F1 fun e S2 m2 H2 w x2 A2 rw F2 => ⟨m2, S2, σI, d, e, A2.rs, rv.ext A1.rs x2, rw, ?_⟩
  refine (Fin.bind F2).imp fun r S3 m3 H3 x3 rs3 F3 z rz => ?_
  cases rz with
  | bl q =>
    refine ⟨q, rfl, ?_⟩
    have F3' : Fin B m3 H3 σI (if q = true then (evE Y d' σI S3).bind fun z S5 => cmpD o' e z S5 else .ok (.bl false) S3) (Wv B Q) := F3
    have A3 := A2.next x3 rs3
    cases q with
    | true => exact tE_in A3 F3' fun f S4 m4 H4 u x4 A4 ru F4 => ⟨m4, S4, σI, e, f, A4.rs, (rw.ext A2.rs x3).ext A3.rs x4, ru, F4⟩
    | false => exact Fin.now F3' A3.rs (.bl _)
  | _ => exact absurd F3 (fun z => z)
theorem s_chn (g : Gd G T Y k c X) (hT : B.T = T) {op op' : CmpOp} {o o' : Cop} {a b d : Expr} {a' b' d' : E} {pos : Pos} (ho : cmT op = some o) (ho' : cmT op' = some o') (hd : noSet d = true) (h1 : PE X a (tE B (evE Y a'))) (h2 : PE X b (tE B (evE Y b')))
    (h3 : PE X d (tE B (evE Y d'))) : PE X (.Compare a [op, op'] [b, d] pos) (tE B (evE Y (.chn o o' a' b' d'))) ∧ PT X (.Compare a [op, op'] [b, d] pos) (tB' B (evE Y (.chn o o' a' b' d'))) := by
  have hm : lastMarks [op, op'] [b, d] = false := mark_no (op := op') hd
  have hk : X.K = B.T.K := by rw [hT]; exact g.hK
  exact ⟨PE.imp (pe_chain (cmp_R hk g.un ho) (cmp_R hk g.un ho') h1 h2 h3 hm) chn_read, pt_of' (pt_chain (cmp_R hk g.un ho) (cmp_R hk g.un ho') h1 h2 h3 hm) chn_read⟩

/-! ### truth -/
theorem s_not {a : Expr} {a' : E} {pos : Pos} (h1 : PE X a (tE B (evE Y a'))) (h2 : PT X a (tB' B (evE Y a'))) : PE X (.UnaryOp .Not a pos) (tE B (evE Y (.not_ a'))) ∧ PT X (.UnaryOp .Not a pos) (tB' B (evE Y (.not_ a'))) := by
  constructor
  · refine PE.imp (pe_not h1) fun σ H Q ⟨m, S, σI, A, F⟩ => tE_in A F fun d S1 m1 H1 v x A1 rv F1 => ?_
    cases rv with
    | bl q => exact ⟨q, rfl, Fin.now F1 A1.rs (.bl _)⟩
    | _ => exact absurd F1 (fun z => z)
  · refine PT.imp (pt_not h2) fun σ H Q ⟨m, S, σI, A, F⟩ => ?_
    have e : evE Y (.not_ a') σI S = ((evE Y a' σI S).bind bR).bind fun q S2 => .ok (.bl (!q)) S2 := by
      show (evE Y a' σI S).bind _ = _
      rw [Res.bind_bind]
      congr 1
      funext d S1
      exact boolD_b
    have F' : Fin B m H σI ((evE Y (.not_ a') σI S).bind bR) _ := F
    rw [e, Res.bind_bind] at F'
    exact tT_in A F' fun q S1 m1 H1 x A1 F1 => F1 m1 H1 Ext.refl A1.rs
theorem ife_t {t' a' b' : E} (σI : Sl) (S : Sto) : evE Y (.ife t' a' b') σI S = ((evE Y t' σI S).bind bR).bind fun q S2 => if q = true then evE Y a' σI S2 else evE Y b' σI S2 := by
  show (evE Y t' σI S).bind _ = _
  rw [Res.bind_bind]
  congr 1
  funext d S1
  exact boolD_b
theorem s_ife {t a b : Expr} {t' a' b' : E} {pos : Pos} (h0 : PT X t (tB' B (evE Y t'))) (h1 : PE X a (tE B (evE Y a'))) (h2 : PE X b (tE B (evE Y b'))) (q1 : PT X a (tB' B (evE Y a'))) (q2 : PT X b (tB' B (evE Y b'))) :
    PE X (.IfExp t a b pos) (tE B (evE Y (.ife t' a' b'))) ∧ PT X (.IfExp t a b pos) (tB' B (evE Y (.ife t' a' b'))) := by
  constructor
  · refine PE.imp (pe_ifExp h0 h1 h2) fun σ H Q ⟨m, S, σI, A, F⟩ => ?_
    rw [ife_t] at F
    refine tT_in A F fun q S1 m1 H1 x A1 F1 => ?_
    cases q with
    | true => exact ⟨m1, S1, σI, A1, F1⟩
    | false => exact ⟨m1, S1, σI, A1, F1⟩
  · constructor
    intro pins s σ H Q I ⟨m, S, σI, A, F⟩
    have F' : Fin B m H σI ((evE Y (.ife t' a' b') σI S).bind bR) _ := F
    rw [ife_t, Res.bind_bind] at F'
    show wpAny _ _ (isTrue t X.env (eval t X.env) >>= fun q => if q = true then isTrue a X.env (eval a X.env) else isTrue b X.env (eval b X.env)) _ _ _
    refine wpAny_bind (thn (h0.run pins s σ H (fun q H1 => ∃ m1 S1, At B m1 S1 H1 σI σ ∧ Fin B m1 H1 σI ((if q = true then evE Y a' σI S1 else evE Y b' σI S1).bind bR) fun b _ _ H' => Q b H') I (tT_in A F' fun q S1 m1 H1 x A1 F1 => ⟨m1, S1, A1, F1⟩)) ?_)
    rintro q s1 ⟨H1, I1, m1, S1, A1, F1⟩
    cases q with
    | true => exact q1.run pins s1 σ H1 Q I1 ⟨m1, S1, σI, A1, F1⟩
    | false => exact q2.run pins s1 σ H1 Q I1 ⟨m1, S1, σI, A1, F1⟩
/-- and, or -/
theorem and_t {a' b' : E} (σI : Sl) (S : Sto) : evE Y (.and_ a' b') σI S = ((evE Y a' σI S).bind bR).bind fun q S2 => if q = true then ((evE Y b' σI S2).bind bR).bind fun z S3 => .ok (.bl z) S3 else .ok (.bl false) S2 := by
  show (evE Y a' σI S).bind _ = _
  rw [Res.bind_bind]
  congr 1
  funext d S1
  rw [boolD_b]
  congr 1
  funext q S2
  rw [Res.bind_bind]
  congr 1
  congr 1
  funext d2 S3
  exact boolD_b
theorem or_t {a' b' : E} (σI : Sl) (S : Sto) : evE Y (.or_ a' b') σI S = ((evE Y a' σI S).bind bR).bind fun q S2 => if q = true then .ok (.bl true) S2 else ((evE Y b' σI S2).bind bR).bind fun z S3 => .ok (.bl z) S3 := by
  show (evE Y a' σI S).bind _ = _
  rw [Res.bind_bind]
  congr 1
  funext d S1
  rw [boolD_b]
  congr 1
  funext q S2
  rw [Res.bind_bind]
  congr 1
  congr 1
  funext d2 S3
  exact boolD_b
theorem s_and {a b : Expr} {r : List Expr} {a' b' : E} {pos : Pos} (h1 : PE X a (tE B (evE Y a'))) (h2 : PT X a (tB' B (evE Y a'))) (q1 : PE X (.BoolOp .And (b :: r) pos) (tE B (evE Y b'))) (q2 : PW X (.BoolOp .And (b :: r) pos) (tB' B (evE Y b'))) :
    PE X (.BoolOp .And (a :: b :: r) pos) (tE B (evE Y (.and_ a' b'))) ∧ PW X (.BoolOp .And (a :: b :: r) pos) (tB' B (evE Y (.and_ a' b'))) := by
  constructor
  · refine PE.imp (pe_and h1 q1) fun σ H Q ⟨m, S, σI, A, F⟩ => tE_in A F fun d S1 m1 H1 v x A1 rv F1 => ?_
    cases rv with
    | bl q =>
      refine ⟨q, rfl, ?_⟩
      have F1' : Fin B m1 H1 σI (if q = true then (evE Y b' σI S1).bind fun y S3 => boolD y S3 fun k' S4 => .ok (.bl k') S4 else .ok (.bl false) S1) (Wv B Q) := F1
      cases q with
      | true =>
        refine ⟨m1, S1, σI, A1, (Fin.bind F1').imp fun d2 S2 m2 H2 x2 rs2 F2 w rw => ?_⟩
        cases rw with
        | bl z => exact Fin.now F2 rs2 (.bl _)
        | _ => exact absurd F2 (fun z => z)
      | false => exact Fin.now F1' A1.rs (.bl _)
    | _ => exact absurd F1 (fun z => z)
  · refine ⟨fun whole pins s σ H Q I ⟨m, S, σI, A, F⟩ => (pw_and h2 q2).run whole pins s σ H Q I ?_⟩
    have F' : Fin B m H σI ((evE Y (.and_ a' b') σI S).bind bR) _ := F
    rw [and_t, Res.bind_bind] at F'
    refine tT_in A F' fun q S1 m1 H1 x A1 F1 => ?_
    cases q with
    | true =>
      refine ⟨m1, S1, σI, A1, ?_⟩
      have F1' : Fin B m1 H1 σI ((((evE Y b' σI S1).bind bR).bind fun z S3 => .ok (.bl z) S3).bind bR) _ := F1
      rw [Res.bind_bind] at F1'
      exact (Fin.bind F1').imp fun z S2 m2 H2 x2 rs2 F2 => F2 m2 H2 Ext.refl rs2
    | false => exact F1 m1 H1 Ext.refl A1.rs
theorem s_or {a b : Expr} {r : List Expr} {a' b' : E} {pos : Pos} (h1 : PE X a (tE B (evE Y a'))) (h2 : PT X a (tB' B (evE Y a'))) (q1 : PE X (.BoolOp .Or (b :: r) pos) (tE B (evE Y b'))) (q2 : PW X (.BoolOp .Or (b :: r) pos) (tB' B (evE Y b'))) :
    PE X (.BoolOp .Or (a :: b :: r) pos) (tE B (evE Y (.or_ a' b'))) ∧ PW X (.BoolOp .Or (a :: b :: r) pos) (tB' B (evE Y (.or_ a' b'))) := by
  constructor
  · refine PE.imp (pe_or h1 q1) fun σ H Q ⟨m, S, σI, A, F⟩ => tE_in A F fun d S1 m1 H1 v x A1 rv F1 => ?_
    cases rv with
    | bl q =>
      refine ⟨q, rfl, ?_⟩
      have F1' : Fin B m1 H1 σI (if q = true then .ok (.bl true) S1 else (evE Y b' σI S1).bind fun y S3 => boolD y S3 fun k' S4 => .ok (.bl k') S4) (Wv B Q) := F1
      cases q with
      | false =>
        refine ⟨m1, S1, σI, A1, (Fin.bind F1').imp fun d2 S2 m2 H2 x2 rs2 F2 w rw => ?_⟩
        cases rw with
        | bl z => exact Fin.now F2 rs2 (.bl _)
        | _ => exact absurd F2 (fun z => z)
      | true => exact Fin.now F1' A1.rs (.bl _)
    | _ => exact absurd F1 (fun z => z)
  · refine ⟨fun whole pins s σ H Q I ⟨m, S, σI, A, F⟩ => (pw_or h2 q2).run whole pins s σ H Q I ?_⟩
    have F' : Fin B m H σI ((evE Y (.or_ a' b') σI S).bind bR) _ := F
    rw [or_t, Res.bind_bind] at F'
    refine tT_in A F' fun q S1 m1 H1 x A1 F1 => ?_
    cases q with
    | false =>
      refine ⟨m1, S1, σI, A1, ?_⟩
      have F1' : Fin B m1 H1 σI ((((evE Y b' σI S1).bind bR).bind fun z S3 => .ok (.bl z) S3).bind bR) _ := F1
      rw [Res.bind_bind] at F1'
      exact (Fin.bind F1').imp fun z S2 m2 H2 x2 rs2 F2 => F2 m2 H2 Ext.refl rs2
    | true => exact F1 m1 H1 Ext.refl A1.rs
theorem PT.pw {X : Cx} {op : BoolOp} {vs : List Expr} {pos : Pos} {t : TT} (h : PT X (.BoolOp op vs pos) t) : PW X (.BoolOp op vs pos) t := ⟨fun _ pins s σ H Q I q => h.run pins s σ H Q I q⟩
end
end Py
end
section
set_option linter.all false
set_option maxRecDepth 100000
/-! PyM: subscripts, calls, fields, methods, instances, list sources. -/
namespace Py
open PySem PySem.Spec PyProof.Rows L2
section
variable {G : Gt} {T : Tb} {Y : Ev} {k : Nat} {c : Ct} {X : Cx} {B : Bs}

/-! ### subscripts -/
theorem plain_ix {b : Expr} (h : noSlice b = true) : PlainIx b := by
  intro o i
  cases b <;> first | rfl | (cases h)
theorem s_idx (g : Gd G T Y k c X) (hT : B.T = T) {a i : Expr} {a' i' : E} {pos : Pos} (hs : noSlice i = true) (h1 : PE X a (tE B (evE Y a'))) (h2 : PE X i (tE B (evE Y i'))) : PE X (.Subscript a i pos) (tE B (evE Y (.idx a' i'))) := by
  have hu : X.A.units + 1 < cLine := by have := g.un; omega
  refine PE.imp (pe_ix (ix_P hu) h1 h2 (plain_ix hs)) fun σ H Q ⟨m, S, σI, A, F⟩ => ?_
  refine tE_in A F fun d S1 m1 H1 v x A1 rv F1 => tE_in A1 F1 fun e S2 m2 H2 w x2 A2 rw F2 => ?_
  rw [g.hK, ← hT]
  exact idx_ok A2.rs (rv.ext A1.rs x2) rw F2
theorem s_ono : PO X none (tO B (evO Y .no)) := PO.imp po_none fun σ H Q ⟨m, S, σI, A, F⟩ => F m H Ext.refl A.rs
theorem s_oyes {e : Expr} {e' : E} (h : PE X e (tE B (evE Y e'))) : PO X (some e) (tO B (evO Y (.yes e'))) := by
  refine PO.imp (po_some h) fun σ H Q ⟨m, S, σI, A, F⟩ => tE_in A F fun d S1 m1 H1 v x A1 rv F1 => ?_
  cases rv with
  | int i => exact ⟨i, rfl, F1 m1 H1 Ext.refl A1.rs⟩
  | _ => exact absurd F1 (fun z => z)
theorem s_sli (g : Gd G T Y k c X) (hT : B.T = T) {a : Expr} {lo hi : Option Expr} {a' : E} {lo' hi' : Oe} {p2 pos : Pos} (h1 : PE X a (tE B (evE Y a'))) (h2 : PO X lo (tO B (evO Y lo'))) (h3 : PO X hi (tO B (evO Y hi'))) :
    PE X (.Subscript a (.Slice lo hi none p2) pos) (tE B (evE Y (.sli a' lo' hi'))) := by
  refine PE.imp (pe_slice sl_P h1 h2 h3) fun σ H Q ⟨m, S, σI, A, F⟩ => tE_in A F fun d S1 m1 H1 v x A1 rv F1 => ?_
  refine ⟨m1, S1, σI, A1, (Fin.bind F1).imp fun l S2 m2 H2 x2 rs2 F2 => ⟨m2, S2, σI, A1.next x2 rs2, (Fin.bind F2).imp fun h S3 m3 H3 x3 rs3 F3 => ?_⟩⟩
  rw [g.hK, ← hT]
  exact sli_ok rs3 ((rv.ext A1.rs x2).ext rs2 x3) F3

/-! ### calls of the program's functions -/
theorem spF_in {n : Nat} {call : List D → Sto → Res D} {m : List Addr} {S : Sto} {H : Hp} {σI : Sl} {σ : L2.St} {ds : List D} {vs : List V} {Q : VK} (A : At B m S H σI σ) (r : RDs B.T.K m H ds vs) (hl : ∀ ds S, ds.length ≠ n → call ds S = .bad) (F : Fin B m H σI (call ds S) (Wv B Q)) :
    spF B.T n call vs H Q (WE (wxOf B) σ) := by
  refine ⟨?_, m, S, ds, A.rs, r, fin_c A F⟩
  by_cases h : ds.length = n
  · rw [← r.length]; exact h
  · rw [hl _ _ h] at F; exact F.elim
theorem s_call (g : Gd G T Y k c X) (hT : B.T = T) (tk : Takes X (wxOf B)) {x : Str} {f : Nat} {args : List Expr} {es : Es} {p pos : Pos} (hg : c.gl x = true) (ho : odd x = false) (hp : plainArgs args = true) (hf : G.fns.lookup x = some f)
    (ha : PA X args (tA B (evEs Y es))) (hes : args = [] → es = .nil) : PE X (.Call (.Name x p) args [] pos) (tE B (evE Y (.call f es))) := by
  obtain ⟨a, fd, h1, h2, h3, _, h5⟩ := g.pw.fns x f hf
  rw [← g.hK] at h2 h3 h5
  refine PE.imp (peG_call (E := WE (wxOf B)) h5 g.hr g.hgd (g.gl hg) h1 h2 h3 (passAt tk) hp ha (fun e σ H Q q => ?_) (odd_not ho).1) fun σ H Q ⟨m, S, σI, A, F⟩ => ?_
  · obtain ⟨m, S, σI, A, F⟩ := q
    rw [hes e] at F
    exact F m H Ext.refl A.rs [] .nil
  · refine tA_in A F fun ds S1 m1 H1 vs x A1 rvs F1 => ?_
    subst hT
    exact spF_in A1 rvs (g.pw.cl f) F1
theorem kw_ok {env : Env} {pos : Pos} : ∀ {kws : List Keyword} {ks : List Str}, kwN kws = some ks → (backToKw pos (keywordEach kws env)).all (·.1.isSome) = true ∧ (backToKw pos (keywordEach kws env)).filterMap (·.1) = ks ∧ (backToKw pos (keywordEach kws env)).any (·.1.isNone) = false
  | [], ks, h => by cases h; exact ⟨rfl, rfl, rfl⟩
  | ⟨none, e, p⟩ :: r, ks, h => by cases h
  | ⟨some x, e, p⟩ :: r, ks, h => by
    obtain ⟨ks', h1, rfl⟩ := Option.map_eq_some_iff.mp (show (kwN r).map (x :: ·) = some ks from h)
    obtain ⟨q1, q2, q3⟩ := kw_ok (env := env) (pos := pos) h1
    unfold backToKw at q1 q2 q3 ⊢
    exact ⟨by simpa [keywordEach] using q1, by simpa [keywordEach] using q2, by simpa [keywordEach] using q3⟩
theorem perm_rel {K : PySem.W.Frag} {m : List Addr} {H : Hp} : ∀ {perm : List Nat} {ds : List D} {vs : List V} {zs : List D}, RDs K m H ds vs → permD ds perm = some zs → ∃ cs, permV vs perm = some cs ∧ RDs K m H zs cs
  | [], ds, vs, zs, r, h => by cases h; exact ⟨[], rfl, .nil⟩
  | i :: is, ds, vs, zs, r, h => by
    unfold permD at h
    split at h
    · next d r' e1 e2 =>
      cases h
      obtain ⟨v, e3, q⟩ := r.get e1
      obtain ⟨cs, e4, q2⟩ := perm_rel r e2
      exact ⟨v :: cs, by unfold permV; rw [e3, e4], .cons q q2⟩
    · cases h
/-- values, then keywords -/
theorem evEs_len : ∀ {es : Es} {σ : Sl} {S : Sto} {ds : List D} {S' : Sto}, evEs Y es σ S = .ok ds S' → ∀ n, (∀ σ S ds S', evEs Y es σ S = .ok ds S' → ds.length = n) → ds.length = n := fun h n q => q _ _ _ _ h
def Es.len : Es → Nat
  | .nil => 0
  | .cons _ r => r.len + 1
theorem evEs_ln : ∀ {es : Es} {σ : Sl} {S : Sto} {ds : List D} {S' : Sto}, evEs Y es σ S = .ok ds S' → ds.length = es.len
  | .nil, σ, S, ds, S', h => by
    have h' : (Res.ok [] S : Res (List D)) = .ok ds S' := h
    cases h'; rfl
  | .cons e r, σ, S, ds, S', h => by
    have h' : ((evE Y e σ S).bind fun d S1 => (evEs Y r σ S1).bind fun ds S2 => .ok (d :: ds) S2) = .ok ds S' := h
    cases h1 : evE Y e σ S with
    | ok d S1 =>
      rw [h1, Res.bind_ok] at h'
      cases h2 : evEs Y r σ S1 with
      | ok ds2 S2 =>
        rw [h2, Res.bind_ok] at h'
        cases h'
        show ds2.length + 1 = r.len + 1
        rw [evEs_ln h2]
      | exc c v S2 => rw [h2] at h'; cases h'
      | bad => rw [h2] at h'; cases h'
    | exc c v S1 => rw [h1] at h'; cases h'
    | bad => rw [h1] at h'; cases h'
/-- lists of values, with their number -/
theorem tA_len {m : List Addr} {S : Sto} {H : Hp} {σI : Sl} {σ : L2.St} {es : Es} {β : Type} {g : List D → Sto → Res β} {R : β → Sto → List Addr → Hp → Prop} {Q' : List V → Hp → Prop} (A : At B m S H σI σ) (F : Fin B m H σI ((evEs Y es σI S).bind g) R)
    (h : ∀ ds S1 m1 H1 vs, Ext m H m1 H1 → At B m1 S1 H1 σI σ → RDs B.T.K m1 H1 ds vs → ds.length = es.len → Fin B m1 H1 σI (g ds S1) R → Q' vs H1) : tA B (evEs Y es) σ H Q' := by
  refine ⟨m, S, σI, A, ?_⟩
  have F' := Fin.bind F
  cases hev : evEs Y es σI S with
  | ok ds S1 =>
    rw [hev] at F'
    exact fun m' H' x rs vs rvs => h ds S1 m' H' vs x (A.next x rs) rvs (evEs_ln hev) (F' m' H' x rs)
  | exc c v S1 => rw [hev] at F'; exact F'
  | bad => rw [hev] at F'; exact F'
theorem s_callK (g : Gd G T Y k c X) (hT : B.T = T) (tk : Takes X (wxOf B)) {x : Str} {f : Nat} {args : List Expr} {kws : List Keyword} {es ws : Es} {ks : List Str} {pm : List Nat} {p pos : Pos} (hg : c.gl x = true) (ho : odd x = false) (hp : plainArgs args = true) (hf : G.fns.lookup x = some f)
    (ha : PA X args (tA B (evEs Y es))) (hk : PK X kws (tA B (evEs Y ws))) (hkn : kwN kws = some ks) (hpm : permOf (G.par f) ks args.length = some pm) (he : es.len = args.length) (hw : ws.len = ks.length) : PE X (.Call (.Name x p) args kws pos) (tE B (evE Y (.callK f es ws pm))) := by
  obtain ⟨a, fd, h1, h2, _, h4, h5⟩ := g.pw.fns x f hf
  have h4' := h4 _ _ _ hpm
  rw [← g.hK] at h2 h4' h5
  obtain ⟨k1, k2, k3⟩ := kw_ok (env := X.env) (pos := pos) hkn
  have go : ∀ (Q : VK) (σ : L2.St) (ds ws' : List D) (vs zs : List V) (m2 : List Addr) (S2 : Sto) (H2 : Hp) (σI : Sl), At B m2 S2 H2 σI σ → RDs B.T.K m2 H2 ds vs → RDs B.T.K m2 H2 ws' zs → Fin B m2 H2 σI ((orBad (permD (ds ++ ws') pm) S2).bind fun zs S3 => Y.call f zs S3) (Wv B Q) →
      ∃ cs, permV (vs ++ zs) pm = some cs ∧ spF T (G.par f).length (Y.call f) cs H2 Q (WE (wxOf B) σ) := by
    intro Q σ ds ws' vs zs m2 S2 H2 σI A2 r1 r2 F
    obtain ⟨zs', e1, F2⟩ := Fin.orBad (Fin.bind F) A2.rs
    obtain ⟨cs, e2, r3⟩ := perm_rel (r1.append r2) e1
    subst hT
    exact ⟨cs, e2, spF_in A2 r3 (g.pw.cl f) F2⟩
  cases args with
  | nil =>
    refine PE.imp (peG_callK0 (E := WE (wxOf B)) h5 g.hr g.hgd (g.gl hg) h1 h2 h4' (passAt tk) hk k1 k2 k3 (odd_not ho).1) fun σ H Q ⟨m, S, σI, A, F⟩ => ?_
    have hes : es = .nil := by
      cases es with
      | nil => rfl
      | cons _ _ => cases he
    subst hes
    have F' : Fin B m H σI ((evEs Y ws σI S).bind fun ws S2 => (orBad (permD ([] ++ ws) pm) S2).bind fun zs S3 => Y.call f zs S3) (Wv B Q) := F
    refine tA_len A F' fun ws' S2 m2 H2 zs x2 A2 r2 hl F2 => ?_
    exact ⟨rfl, by rw [← r2.length, hl, hw], go Q σ [] ws' [] zs m2 S2 H2 σI A2 .nil r2 F2⟩
  | cons e r =>
    refine PE.imp (peG_callK (E := WE (wxOf B)) h5 g.hr g.hgd (g.gl hg) h1 h2 h4' (passAt tk) hp ha hk k1 k2 k3 (odd_not ho).1) fun σ H Q ⟨m, S, σI, A, F⟩ => ?_
    refine tA_len A F fun ds S1 m1 H1 vs x1 A1 r1 hl1 F1 => tA_len A1 F1 fun ws' S2 m2 H2 zs x2 A2 r2 hl F2 => ?_
    exact ⟨by rw [← r1.length, hl1, he], by rw [← r2.length, hl, hw], go Q σ ds ws' vs zs m2 S2 H2 σI A2 (RDs.ext A1.rs x2 _ _ r1) r2 F2⟩

/-! ### calls of built-in functions -/
theorem pe_cB {X : Cx} {x : Str} {u : Value} {r : List V → Hp → VK → Prop} {e : Expr} {es : List Expr} {t : TA} {p pos : Pos} (hu : (∃ s, u = .builtin s) ∨ ∃ s, u = .type s) (hc : CallR X u r) (hg : Gl X x) (hm : X.mg x = none) (hv : bootBuiltins x = some u) (ho : odd x = false) (ha : PA X (e :: es) t)
    (hp : plainArgs (e :: es) = true) : PE X (.Call (.Name x p) (e :: es) [] pos) (tCB r t) := by
  obtain ⟨o1, _, o3⟩ := odd_not ho
  rcases hu with ⟨s, rfl⟩ | ⟨s, rfl⟩
  · exact pe_callB hc hg hm hv ha o3 o1 (star_cons hp _) (star_back (plain_tail hp) _ _)
  · exact pe_callTy hc hg hm hv ha o3 o1 (star_cons hp _) (star_back (plain_tail hp) _ _)
theorem bi_sort (b : Bi) : (∃ s, biOf b = .builtin s) ∨ ∃ s, biOf b = .type s := by
  cases b <;> first | exact .inl ⟨_, rfl⟩ | exact .inr ⟨_, rfl⟩
theorem bl_sort (b : Bl) : (∃ s, blOf b = .builtin s) ∨ ∃ s, blOf b = .type s := by
  cases b <;> first | exact .inl ⟨_, rfl⟩ | exact .inr ⟨_, rfl⟩
theorem in_blt1 {x : Str} {b : Bi} (h : biNm.lookup x = some b) : x ∈ bltNs := List.mem_append_left _ (lookup_key h)
theorem in_blt2 {x : Str} {b : Bl} (h : blNm.lookup x = some b) : x ∈ bltNs := List.mem_append_right _ (List.mem_append_left _ (lookup_key h))
theorem in_blt3 {x : Str} {b : Ty} (h : tyNm.lookup x = some b) : x ∈ bltNs := List.mem_append_right _ (List.mem_append_right _ (List.mem_append_left _ (lookup_key h)))
theorem in_rng : ("range" : Str) ∈ bltNs := List.mem_append_right _ (List.mem_append_right _ (List.mem_append_right _ (by simp)))
theorem in_isi : ("isinstance" : Str) ∈ bltNs := List.mem_append_right _ (List.mem_append_right _ (List.mem_append_right _ (by simp)))
theorem s_bi (g : Gd G T Y k c X) (hT : B.T = T) {x : Str} {b : Bi} {e : Expr} {args : List Expr} {es : Es} {p pos : Pos} (hg : c.gl x = true) (ho : odd x = false) (hp : plainArgs (e :: args) = true) (hb : biNm.lookup x = some b)
    (ha : PA X (e :: args) (tA B (evEs Y es))) : PE X (.Call (.Name x p) (e :: args) [] pos) (tE B (evE Y (.bi b es))) := by
  have hk : X.K = B.T.K := by rw [hT]; exact g.hK
  have R := bi_P (X := X) (B := B) g.calm g.hgd g.un hk b fun e => repr_P g.hgd g.un hk g.pw.sm
  refine PE.imp (pe_cB (bi_sort b) R (g.gl hg) (g.pw.bt x (in_blt1 hb)) (bi_boot hb) ho ha hp) fun σ H Q ⟨m, S, σI, A, F⟩ => ?_
  exact tA_in A F fun ds S1 m1 H1 vs x A1 rvs F1 => ⟨m1, S1, σI, ds, A1.rs, rvs, F1⟩

/-! ### isinstance -/
theorem ty_one (g : Gd G T Y k c X) (hT : B.T = T) {e : Expr} {ty : Ty} (h : tyOne G c e = some ty) : okTy G ty ∧ PE X e (tC (tyW T ty)) := by
  unfold tyOne at h
  split at h
  · next x p =>
    split at h
    · next hx =>
      obtain ⟨o1, _, o3⟩ := odd_not hx.2
      split at h
      · next ty' hty =>
        cases h
        obtain ⟨h1, h2⟩ := ty_boot hty
        refine ⟨by cases ty <;> first | exact True.intro | exact absurd rfl (h1 _), ?_⟩
        have e1 : tyW T ty = .ty (tyNmV ty) := by cases ty <;> first | rfl | exact absurd rfl (h1 _)
        rw [e1]
        exact pe_bltn (g.gl hx.1) (g.pw.bt x (in_blt3 hty)) h2 rfl o3 o1
      · obtain ⟨q, hq, rfl⟩ := Option.map_eq_some_iff.mp h
        exact ⟨⟨x, hq⟩, pe_glob (g.gl hx.1) (g.pw.exs x q hq) rfl o1⟩
    · cases h
  · cases h
theorem s_isi (g : Gd G T Y k c X) (hT : B.T = T) {a t : Expr} {a' : E} {ty : Ty} {p pos : Pos} (hg : c.gl "isinstance" = true) (hp : plainArgs [a, t] = true) (h1 : PE X a (tE B (evE Y a'))) (h2 : tyOne G c t = some ty) :
    PE X (.Call (.Name "isinstance" p) [a, t] [] pos) (tE B (evE Y (.isi a' ty))) := by
  obtain ⟨q1, q2⟩ := ty_one g hT h2
  have hk : X.K = B.T.K := by rw [hT]; exact g.hK
  refine PE.imp (pe_cB (.inl ⟨_, rfl⟩) (is_R (B := B) hk (by rw [hT]; exact g.pw.kit) q1) (g.gl hg) (g.pw.bt _ in_isi) (by kernel_rfl) (by decide) (pa_cons h1 (pa_cons q2 pa_nil (star_cons (plain_tail hp) _)) (star_cons hp _)) hp) fun σ H Q ⟨m, S, σI, A, F⟩ => ?_
  exact tE_in A F fun d S1 m1 H1 v x A1 rv F1 => ⟨m1, S1, σI, d, v, by rw [hT], A1.rs, rv, F1⟩
theorem ty_all (g : Gd G T Y k c X) (hT : B.T = T) : ∀ {es : List Expr} {Ts : List Ty}, tyAll G c es = some Ts → plainArgs es = true → (∀ t ∈ Ts, okTy G t) ∧ PA X es (fun _ H Q => Q (Ts.map (tyW T)) H)
  | [], Ts, h, _ => by cases h; exact ⟨fun t z => absurd z (by simp), PA.imp pa_nil fun σ H Q q => q⟩
  | e :: r, Ts, h, hp => by
    obtain ⟨t, h1, h2⟩ := Option.bind_eq_some_iff.mp (show (tyOne G c e).bind _ = some Ts from h)
    obtain ⟨Ts', h3, rfl⟩ := Option.map_eq_some_iff.mp h2
    obtain ⟨q1, q2⟩ := ty_one g hT h1
    obtain ⟨q3, q4⟩ := ty_all g hT h3 (plain_tail hp)
    exact ⟨fun t' z => by rcases List.mem_cons.mp z with rfl | z; exact q1; exact q3 _ z, PA.imp (pa_cons q2 q4 (star_cons hp _)) fun σ H Q q => q⟩
theorem s_isT (g : Gd G T Y k c X) (hT : B.T = T) {a : Expr} {ts : List Expr} {a' : E} {Ts : List Ty} {j : Nat} {p p2 pos : Pos} (hg : c.gl "isinstance" = true) (hp : plainArgs [a, .Tuple ts j p2] = true) (hpt : plainArgs ts = true) (h1 : PE X a (tE B (evE Y a'))) (h2 : tyAll G c ts = some Ts) (h0 : Ts ≠ []) (h30 : Ts.length ≤ 1000) :
    PE X (.Call (.Name "isinstance" p) [a, .Tuple ts j p2] [] pos) (tE B (evE Y (.isT a' Ts))) := by
  obtain ⟨q1, q2⟩ := ty_all g hT h2 hpt
  have hk : X.K = B.T.K := by rw [hT]; exact g.hK
  refine PE.imp (pe_cB (.inl ⟨_, rfl⟩) (isM_R (B := B) hk (by rw [hT]; exact g.pw.kit) q1 h0) (g.gl hg) (g.pw.bt _ in_isi) (by kernel_rfl) (by decide) (pa_cons h1 (pa_cons (pe_tup q2) pa_nil (star_cons (plain_tail hp) _)) (star_cons hp _)) hp) fun σ H Q ⟨m, S, σI, A, F⟩ => ?_
  refine tE_in A F fun d S1 m1 H1 v x A1 rv F1 => ⟨by rw [List.length_map, sizeLine_eq]; omega, fun tp hn => ?_⟩
  have x2 : Ext m1 H1 m1 (upd H1 tp (.tup (Ts.map (tyW T)))) := Ext.new hn
  exact ⟨m1, S1, σI, d, v, tp, rfl, by rw [hT]; exact upd_same, A1.rs.new hn, rv.ext A1.rs x2, Fin.ext F1 x2⟩
end
end Py
end
section
set_option linter.all false
set_option maxRecDepth 100000
/-! PyN: reversed slices, fields, methods, new instances, append, extend. -/
namespace Py
open PySem PySem.Spec PyProof.Rows L2

/-! ### t[::-1] of a tuple -/
section
variable {prog : Program} {w : World} {A : Around} {E : Value → Shared → Prop} {s : Shared}
theorem adjust_rev (n : Nat) : Builtin.Slice.sliceAdjust none none (-1) (n : Int) = ((n : Int) - 1, -1) := rfl
theorem places_rev (n : Nat) : Builtin.Slice.slicePlaces ((n : Int) - 1) (-1) (-1) = n := by
  unfold Builtin.Slice.slicePlaces
  rw [if_neg (by decide)]
  by_cases h : n = 0
  · subst h; rfl
  · rw [if_pos (by omega), show (-(-1) : Int) = 1 from rfl, Int.ediv_one]
    omega
theorem applied_rev {sl : Addr} {vs : Value} {n : Nat} {Q : Int × Int × Nat → Shared → Prop} (hs : s.heap.IsSliceOf sl .none .none vs) (ps : IsPart vs (some (-1))) (h : Q ((n : Int) - 1, -1, n) s) :
    wpAny (model prog w) A (Builtin.Slice.sliceApplied (.ref sl) (pure (n : Int))) Q E s := by
  obtain ⟨os, hos, hcs, hds⟩ := id hs
  unfold Builtin.Slice.sliceApplied Builtin.Slice.sliceFields
  refine wpAny_bind (wpAny_bind (wpAny_field hos hds (x := .none) rfl (wpAny_bind (wpAny_field hos hds (x := .none) rfl (wpAny_bind (wpAny_field hos hds (x := vs) rfl (wpAny_pure ?_)))))))
  refine wpAny_bind (HT.slicePart_ ps ?_)
  show wpAny _ _ (if ((-1 : Int) == 0) = true then _ else _) _ _ s
  rw [if_neg (by decide)]
  refine wpAny_bind (HT.slicePart_ .none (wpAny_bind (HT.slicePart_ .none (wpAny_bind (wpAny_pure ?_)))))
  show wpAny _ _ (match Builtin.Slice.sliceAdjust none none (-1) (n : Int) with | (lo, hi) => pure (lo, (-1 : Int), Builtin.Slice.slicePlaces lo hi (-1))) _ _ s
  rw [adjust_rev]
  show wpAny _ _ (pure ((n : Int) - 1, (-1 : Int), Builtin.Slice.slicePlaces ((n : Int) - 1) (-1) (-1))) _ _ s
  rw [places_rev]
  exact wpAny_pure h
theorem pick_rev (xs : Array Value) : ((List.range xs.size).filterMap fun (k : Nat) => xs[((xs.size : Int) - 1 + (k : Int) * -1).toNat]?).toArray = xs.toList.reverse.toArray := by
  congr 1
  obtain ⟨l⟩ := xs
  show (List.range l.length).filterMap (fun (k : Nat) => l.toArray[((l.length : Int) - 1 + (k : Int) * -1).toNat]?) = l.reverse
  have e1 : (List.range l.length).filterMap (fun (k : Nat) => l.toArray[((l.length : Int) - 1 + (k : Int) * -1).toNat]?) = (List.range l.length).filterMap fun (k : Nat) => l.reverse[k]? := by
    have cong : ∀ (ks : List Nat) (f g : Nat → Option Value), (∀ k ∈ ks, f k = g k) → ks.filterMap f = ks.filterMap g := by
      intro ks f g h
      induction ks with
      | nil => rfl
      | cons a r ih => rw [List.filterMap_cons, List.filterMap_cons, h a List.mem_cons_self, ih fun k hk => h k (List.mem_cons_of_mem _ hk)]
    refine cong _ _ _ fun k hk => ?_
    have hk' := List.mem_range.mp hk
    rw [List.getElem?_reverse hk']
    have : ((l.length : Int) - 1 + (k : Int) * -1).toNat = l.length - 1 - k := by omega
    rw [this]
    simp
  rw [e1]
  have all : ∀ (m : List Value), (List.range m.length).filterMap (fun k => m[k]?) = m := by
    intro m
    induction m with
    | nil => rfl
    | cons a m ih =>
      rw [List.length_cons, List.range_succ_eq_map, List.filterMap_cons, List.filterMap_map]
      simp only [List.getElem?_cons_zero]
      congr 1
  have := all l.reverse
  rw [List.length_reverse] at this
  exact this
theorem tuple_rev {t sl : Addr} {items : Array Value} {vs : Value} {Q : Value → Shared → Prop} (ht : IsTup s.heap t items) (hs : s.heap.IsSliceOf sl .none .none vs) (ps : IsPart vs (some (-1)))
    (h : Q (.ref s.heap.objs.size) { s with heap := s.heap.push { cls := .type "tuple", data := .seq items.toList.reverse.toArray } }) (hsz : items.size ≤ sizeLine) : wpAny (model prog w) A (getItem (.ref t) (.ref sl)) Q E s := by
  have hsz2 : sizeOk (.seq items.toList.reverse.toArray) := by
    show items.toList.reverse.toArray.size ≤ sizeLine
    simpa using hsz
  obtain ⟨os, hos, hcs, hds⟩ := id hs
  have hTs : s.TypeIs (.ref sl) "slice" := ⟨os, hos, hcs⟩
  unfold getItem
  try with_reducible refine wpAny_holding ?_
  first | refine wpAny_bind (wpAny_pure ?_) | skip
  refine wpAny_bind (wpAny_sequenceKey ht.typeIs (by decide) (wpAny_bind (wpAny_callSpecial?_slot (name := Str.ofString "__getitem__") ht.typeIs PyProof.Rows.slot_tuple_getitem
    (wpAny_call_entry PyProof.Rows.slot_tuple_getitem ht.typeIs entry_tuple_getitem ?_ (args_tuple_getitem _ _)))))
  show wpAny _ _ (Builtin.Tuple.tupleItemsOf (.ref t) >>= _) _ _ s
  refine wpAny_bind (PyProof.Rows.tupleItemsOf_ ht (wpAny_bind (wpAny_typeOf hTs ?_)))
  rw [if_pos (by decide)]
  refine wpAny_bind (applied_rev hs ps ?_)
  show wpAny _ _ (if ((items.size : Int) - 1 == 0 && (-1 : Int) == 1 && items.size == items.size) = true then _ else _) _ _ s
  rw [if_neg (by rw [show ((-1 : Int) == 1) = false from rfl, Bool.and_false, Bool.false_and]; exact Bool.false_ne_true), pick_rev]
  first
    | exact wpAny_bind (m := Builtin.Tuple.tupleExact _) (wpAny_newObj_type (wpAny_pure ⟨_, rfl, wpAny_pure h⟩) hsz2)
    | exact wpAny_bind (wpAny_bind (m := Builtin.Tuple.tupleExact _) (wpAny_newObj_type (wpAny_pure (wpAny_pure ⟨_, rfl, wpAny_pure h⟩)) hsz2))
end
def tRevP (K : PySem.W.Frag) (te : TE) : TE := fun σ H Q => te σ H fun x H1 => ∃ a xs, x = .ref a ∧ ((SqL K H1 a xs ∧ ∀ p, H1 p = none → Q (.ref p) (upd H1 p (.lst xs.reverse))) ∨ (SqT K H1 a xs ∧ ∀ p, H1 p = none → Q (.ref p) (upd H1 p (.tup xs.reverse))))
theorem pe_revP {X : Cx} {e : Expr} {te : TE} {k : Nat} {p1 p2 p3 pos : Pos} (he : PE X e te) : PE X (.Subscript e (.Slice none none (some (.UnaryOp .USub (.Constant (.int 1) k p1) p2)) p3) pos) (tRevP X.K te) := by
  constructor
  intro pins s σ H Q I h
  refine Subscript_ (thn (he.run pins s σ H _ I h) ?_)
  rintro v s1 ⟨x, H1, I1, r1, a, xs, rfl, q1⟩
  cases r1
  have step : PO X (some (.UnaryOp .USub (.Constant (.int 1) k p1) p2)) (tPart (tUn (rU fun i => .int (-i)) (tC (.int 1)))) := po_some (pe_un un_neg pe_int)
  refine wpAny_Slice (thn (po_none.run pins s1 σ H1 (fun o H2 => o = none ∧ H2 = H1) I1 ⟨rfl, rfl⟩) ?_)
  rintro vl s2 ⟨l, H2, I2, pl, rfl, rfl⟩
  refine thn (po_none.run pins s2 σ H2 (fun o H3 => o = none ∧ H3 = H2) I2 ⟨rfl, rfl⟩) ?_
  rintro vu s3 ⟨u, H3, I3, pu, rfl, rfl⟩
  refine thn (step.run pins s3 σ H3 (fun o H4 => o = some (-1) ∧ H4 = H3) I3 ⟨1, rfl, -1, rfl, rfl, rfl⟩) ?_
  rintro vs s4 ⟨o, H4, I4, ps, rfl, rfl⟩
  cases pl
  cases pu
  have I5 : L2.Inv X pins σ H4 { s4 with heap := s4.heap.push { cls := .type "slice", data := .fields #[.none, .none, vs] } } := I4.kept (t' := s4.toks) fun _ _ q => Heap.get?_push_of_some _ q
  show wpAny (model X.prog X.w) X.A (subscriptTail e (.Slice none none (some (.UnaryOp .USub (.Constant (.int 1) k p1) p2)) p3) (.ref a) (.ref s4.heap.objs.size)) (EP X pins σ Q) X.xe { s4 with heap := s4.heap.push { cls := .type "slice", data := .fields #[.none, .none, vs] } }
  rcases q1 with ⟨hx, q⟩ | ⟨hx, q⟩
  · obtain ⟨its, r, ht, hz⟩ := I5.list hx
    have hlen := r.length
    refine tail_any (ops := [.ref a, .ref s4.heap.objs.size]) ht.isList.typeIs PySem.slot_list_getitem.lookup ?_ (by with_unfolding_all rfl)
    refine wpAny_getItem_list_slice ht.isList (Heap.IsSliceOf.new _ .none .none vs) .none .none ps (by decide) ?_ (by rw [List.size_toArray]; omega)
    rw [PySem.W.krv_pick]
    exact ⟨.ref _, _, I5.laid (t' := s4.toks) (o := .lst xs.reverse) (fun _ _ q => Heap.get?_push_of_some _ q) (Nat.le_refl _) ⟨by rw [List.length_reverse]; exact hz, _, 0, r.reverse, Heap.get?_push_size _ rfl⟩, rfl, q _ (I5.hok.fresh (Nat.le_refl _))⟩
  · obtain ⟨its, r, ht, hz⟩ := I5.tuple hx
    have hlen := r.length
    refine tail_any (ops := [.ref a, .ref s4.heap.objs.size]) ht.typeIs PyProof.Rows.slot_tuple_getitem.lookup ?_ (by with_unfolding_all rfl)
    refine tuple_rev ht (Heap.IsSliceOf.new _ .none .none vs) ps ?_ (by rw [List.size_toArray]; omega)
    exact ⟨.ref _, _, I5.laid (t' := s4.toks) (o := .tup xs.reverse) (fun _ _ q => Heap.get?_push_of_some _ q) (Nat.le_refl _) ⟨by rw [List.length_reverse]; exact hz, _, r.reverse, IsTup.new _ _⟩, rfl, q _ (I5.hok.fresh (Nat.le_refl _))⟩
section
variable {G : Gt} {T : Tb} {Y : Ev} {k : Nat} {c : Ct} {X : Cx} {B : Bs}
theorem minus_is {m : Expr} (h : minusOne m = true) : ∃ j p1 p2, m = .UnaryOp .USub (.Constant (.int 1) j p1) p2 := by
  unfold minusOne at h
  split at h
  · exact ⟨_, _, _, rfl⟩
  · cases h
theorem s_rev (g : Gd G T Y k c X) (hT : B.T = T) {a m : Expr} {a' : E} {p3 pos : Pos} (hm : minusOne m = true) (h1 : PE X a (tE B (evE Y a'))) : PE X (.Subscript a (.Slice none none (some m) p3) pos) (tE B (evE Y (.rev a'))) := by
  obtain ⟨j, p1, p2, rfl⟩ := minus_is hm
  refine PE.imp (pe_revP h1) fun σ H Q ⟨m, S, σI, A, F⟩ => tE_in A F fun d S1 m1 H1 v x A1 rv F1 => ?_
  rw [g.hK, ← hT]
  have F1' : Fin B m1 H1 σI (revD d S1) (Wv B Q) := F1
  cases rv with
  | @tup xs a vs h hs => exact ⟨a, vs, rfl, .inr ⟨h, Fin.newT F1' A1.rs hs.rev⟩⟩
  | @ref n a h =>
    unfold revD at F1'
    dsimp only at F1'
    split at F1'
    · next xs hx =>
      obtain ⟨_, vs, e1, _, q1, q2⟩ := RD.lst (B := B) A1.rs (.ref h) hx
      cases e1
      exact ⟨a, vs, rfl, .inl ⟨SqL.of q1, Fin.newL F1' A1.rs q2.rev⟩⟩
    · exact absurd F1' (fun z => z)
  | _ => exact absurd F1' (fun z => z)

/-! ### fields -/
theorem get_fld {m : List Addr} {H : Hp} {f : Nat} {nm : Str} (hf : T.fls[f]? = some nm) (nd : T.fls.Nodup) : ∀ {fs : List (Nat × D)} {ws : List (Str × V)} {d : D}, RFs T m H fs ws → getF f fs = some d → ∃ v, ws.lookup nm = some v ∧ RD T.K m H d v
  | [], _, _, _, e => by cases e
  | (q, x) :: r, _, d, h, e => by
    cases h with
    | @cons _ p _ ws z t =>
      obtain ⟨nm2, v⟩ := p
      obtain ⟨z1, z2⟩ := z
      dsimp only at z1 z2
      unfold getF at e
      split at e
      · next hq =>
        cases e
        subst hq
        rw [hf] at z1
        cases z1
        exact ⟨v, by rw [List.lookup_cons]; simp, z2⟩
      · next hq =>
        obtain ⟨v2, e1, e2⟩ := get_fld hf nd t e
        refine ⟨v2, ?_, e2⟩
        rw [List.lookup_cons]
        have hne : nm ≠ nm2 := fun z => by
          subst z
          obtain ⟨i1, i2⟩ := List.getElem?_eq_some_iff.mp hf
          obtain ⟨j1, j2⟩ := List.getElem?_eq_some_iff.mp z1
          exact hq ((List.getElem_inj nd).mp (j2.trans i2.symm))
        rw [show (nm == nm2) = false from by simpa using hne]
        exact e1
theorem put_fld {m : List Addr} {H : Hp} {f : Nat} {nm : Str} {d : D} {v : V} (hf : T.fls[f]? = some nm) (nd : T.fls.Nodup) (r : RD T.K m H d v) : ∀ {fs : List (Nat × D)} {ws : List (Str × V)}, RFs T m H fs ws → RFs T m H (Py.putF f d fs) (L2.putF nm v ws)
  | [], _, h => by cases h; exact .cons ⟨hf, r⟩ .nil
  | (q, x) :: l, _, h => by
    cases h with
    | @cons _ p _ ws z t =>
      obtain ⟨nm2, u⟩ := p
      obtain ⟨z1, z2⟩ := z
      dsimp only at z1 z2
      unfold Py.putF L2.putF
      by_cases hq : q = f
      · subst hq
        rw [hf] at z1
        cases z1
        rw [if_pos rfl, if_pos rfl]
        exact .cons ⟨hf, r⟩ t
      · have hne : ¬ nm2 = nm := fun z => by
          subst z
          obtain ⟨i1, i2⟩ := List.getElem?_eq_some_iff.mp hf
          obtain ⟨j1, j2⟩ := List.getElem?_eq_some_iff.mp z1
          exact hq ((List.getElem_inj nd).mp (j2.trans i2.symm))
        rw [if_neg hq, if_neg hne]
        exact .cons ⟨z1, z2⟩ (put_fld hf nd r t)
theorem fls_none {m : List Addr} {H : Hp} {x : Str} (hx : x ∉ T.fls) : ∀ {fs : List (Nat × D)} {ws : List (Str × V)}, RFs T m H fs ws → ws.lookup x = none
  | [], _, h => by cases h; rfl
  | (q, y) :: l, _, h => by
    cases h with
    | @cons _ p _ ws z t =>
      obtain ⟨nm2, u⟩ := p
      obtain ⟨z1, z2⟩ := z
      dsimp only at z1 z2
      rw [List.lookup_cons]
      have hne : x ≠ nm2 := fun z => hx (by rw [z]; exact List.mem_of_getElem? z1)
      rw [show (x == nm2) = false from by simpa using hne]
      exact fls_none hx t
theorem rf_len {m : List Addr} {H : Hp} {fs : List (Nat × D)} {ws : List (Str × V)} (h : RFs T m H fs ws) : fs.length = ws.length := Paired.length h

/-- a field of an instance, the value of an error -/
def tFldP (K : PySem.W.Frag) (ta : TE) (f : Str) : TE := fun σ H Q => ta σ H fun x H1 => (∃ a C dx fs v, x = .ref a ∧ H1 a = some (.ins C dx fs) ∧ Cls K C ∧ NoAttr K C f ∧ fs.lookup f = some v ∧ Q v H1) ∨
  ∃ a C dx ws v, x = .ref a ∧ H1 a = some (ExcO C dx a) ∧ H1 dx = some (.xd ws) ∧ ExcC K C ∧ PySem.W.findIn K (.ref C) f = some none ∧ ws.lookup f = some v ∧ Q v H1
theorem pe_fldP {e : Expr} {ta : TE} {f : Str} {pos : Pos} (he : PE X e ta) (hb : attributeBase e f X.env (eval e X.env) = eval e X.env) : PE X (.Attribute e f pos) (tFldP X.K ta f) := by
  constructor
  intro pins s σ H Q I h
  refine attr_of hb (thn (he.run pins s σ H _ I h) ?_)
  rintro u s1 ⟨x, H1, I1, r1, q1⟩
  rcases q1 with ⟨a, C, dx, fs, v, rfl, e1, c1, n1, l1, q⟩ | ⟨a, C, dx, ws, v, rfl, e1, e2, c1, n1, l1, q⟩
  · cases r1
    exact getattr_ok I1 e1 c1 n1 l1 fun u s' I' r' => ⟨v, H1, I', r', q⟩
  · cases r1
    obtain ⟨oe, vs, g1, g2, g3, g4⟩ := ext_of (φ := fun h => ∃ (oe : Obj) (vs : Array Value), h.get? a = some oe ∧ oe.cls = .ref C ∧ oe.dict = some dx ∧ oe.data = .fields vs) I1.hok e1
    obtain ⟨mA, hns, hr⟩ := (show ObjOk X.prog X.w H1 s1.heap dx (.xd ws) from I1.hok dx _ e2)
    obtain ⟨od, hd, hl⟩ := lookIn_ns hns
    have hv := hr f
    rw [l1] at hv
    obtain ⟨u, hu, ru⟩ := RelO.some_of hv
    obtain ⟨oc, odd', oda, osl⟩ := oe
    dsimp only at g2 g3 g4
    subst g2 g3 g4
    have J : PySem.W.InstAt s1.heap a { cls := .ref C, dict := some dx, data := .fields vs, slots := osl } C (some od) := ⟨g1, rfl, rfl, hd⟩
    refine PySem.HandSPX.exc_get (gt := none) I1.kIn J c1.hg c1.hk c1.hs (v := u) (PySem.W.findObj_own c1.hd n1 rfl (by rw [hl, hu])) (handed_of ru) ⟨v, H1, I1.tok _, ru, q⟩
theorem s_fldG (hK : X.K = B.T.K) {o : Expr} {o' : E} {f : Str} {j : Nat} {pos : Pos} (ho : attrPlain o = true) (hf' : B.T.fls[j]? = some f) (h0 : B.T.fls[0]? = some ("value" : Str)) (h1 : PE X o (tE B (evE Y o'))) : PE X (.Attribute o f pos) (tE B (evE Y (.fld o' j))) := by
  refine PE.imp (pe_fldP h1 (attr_plain ho f X.env _)) fun σ H Q ⟨m, S, σI, A, F⟩ => tE_in A F fun d S1 m1 H1 v x A1 rv F1 => ?_
  have F1' : Fin B m1 H1 σI (fldD d j S1) (Wv B Q) := F1
  rw [hK]
  cases rv with
  | @ref n a h =>
    unfold fldD at F1'
    dsimp only at F1'
    split at F1'
    · next c' fs hx =>
      obtain ⟨dx, ws, e1, r1, kc⟩ := A1.rs.ob n _ a hx h
      obtain ⟨z, e2, q⟩ := Fin.orBad F1' A1.rs
      obtain ⟨u, e3, r3⟩ := get_fld hf' kc.2.2 r1 e2
      exact .inl ⟨a, _, dx, ws, u, rfl, e1, kc.1, kc.2.1 f (List.mem_of_getElem? hf'), e3, q u r3⟩
    · next c' z hx =>
      split at F1'
      · next hj =>
        subst hj
        have hfe : f = ("value" : Str) := by rw [h0] at hf'; exact (Option.some.inj hf').symm
        subst hfe
        obtain ⟨dx, w, e1, e2, r1, nm, kx⟩ := A1.rs.ob n _ a hx h
        exact .inr ⟨a, _, dx, valF w, w, rfl, e1, e2, kx.2.1, kx.2.2, by simp [valF], F1'.now A1.rs r1⟩
      · exact absurd F1' (fun z => z)
    · exact absurd F1' (fun z => z)
  | _ => exact absurd F1' (fun z => z)
theorem s_fld (g : Gd G T Y k c X) (hT : B.T = T) {o : Expr} {o' : E} {f : Str} {j : Nat} {pos : Pos} (ho : attrPlain o = true) (hf : ixS G.fls f = some j) (h0 : G.fls[0]? = some ("value" : Str)) (h1 : PE X o (tE B (evE Y o'))) : PE X (.Attribute o f pos) (tE B (evE Y (.fld o' j))) := by
  subst hT
  exact s_fldG g.hK ho (by rw [g.pw.fls]; exact ixS_some hf) (by rw [g.pw.fls]; exact h0) h1
end
end Py
end
section
set_option linter.all false
set_option maxRecDepth 100000
/-! PyO: methods, new instances, append, extend, list sources, ranges. -/
namespace Py
open PySem PySem.Spec PyProof.Rows L2
section
variable {G : Gt} {T : Tb} {Y : Ev} {k : Nat} {c : Ct} {X : Cx} {B : Bs}
/-! ### methods, new instances -/
theorem s_meth (g : Gd G T Y k c X) (hT : B.T = T) (tk : Takes X (wxOf B)) {o : Expr} {o' : E} {nm : Str} {q : Nat × Nat} {args : List Expr} {es : Es} {ap pos : Pos} (ho : attrPlain o = true) (hp : plainArgs args = true) (hn : args.length < 30) (hl : (ap.endLine == pos.line) = true)
    (hm : G.mts.lookup nm = some q) (h1 : PE X o (tE B (evE Y o'))) (ha : PA X args (tA B (evEs Y es))) (hes : args = [] → es = .nil) : PE X (.Call (.Attribute o nm ap) args [] pos) (tE B (evE Y (.meth q.1 q.2 o' es))) := by
  subst hT
  obtain ⟨qc, qj⟩ := q
  obtain ⟨f, fd, hM, hnf, hb, hF⟩ := g.pw.mts nm qc qj hm
  have hk := g.hK
  have meth : ∀ (σ : L2.St) (H : Hp) (Q : VK), tE B (evE Y (.meth qc qj o' es)) σ H Q → tE B (evE Y o') σ H fun x H1 => Cls X.K (B.T.C qc) ∧ ∃ a dx fs, x = .ref a ∧ H1 a = some (.ins (B.T.C qc) dx fs) ∧ fs.lookup nm = none ∧
      tA B (evEs Y es) σ H1 fun vs H2 => spF B.T (G.par qj).length (Y.call qj) (x :: vs) H2 Q (WE (wxOf B) σ) := by
    rintro σ H Q ⟨m, S, σI, A, F⟩
    refine tE_in A F fun d S1 m1 H1 v x A1 rv F1 => ?_
    cases rv with
    | @ref n a h =>
      have F1' : Fin B m1 H1 σI (match S1[n]? with
        | some (.ins c' fs) => if c' = qc then (evEs Y es σI S1).bind fun ds S2 => Y.call qj (.ref n :: ds) S2 else .bad
        | _ => .bad) (Wv B Q) := F1
      split at F1'
      · next c' fs hx =>
        split at F1'
        · next hc =>
          subst hc
          obtain ⟨dx, ws, e1, r1, kc⟩ := A1.rs.ob n _ a hx h
          refine ⟨by rw [hk]; exact kc.1, a, dx, ws, rfl, e1, fls_none hnf r1, ?_⟩
          refine tA_in A1 F1' fun ds S2 m2 H2 vs x2 A2 rvs F2 => ?_
          exact spF_in A2 (.cons (.ref (x2.get h)) rvs) (g.pw.cl qj) F2
        · exact absurd F1' (fun z => z)
      · exact absurd F1' (fun z => z)
    | _ => exact absurd F1 (fun z => z)
  -- the class is known only where the object is: run with it
  constructor
  intro pins s σ H Q I h
  by_cases kc : Cls X.K (B.T.C qc)
  · rw [← hk] at hM hb hF
    refine (peG_meth (E := WE (wxOf B)) h1 kc hM hF g.hr g.hgd hb (passAt tk) ha (fun e σ H Q q => ?_) ho hp hn hl).run pins s σ H Q I ?_
    · obtain ⟨m, S, σI, A, F⟩ := q
      rw [hes e] at F
      exact F m H Ext.refl A.rs [] .nil
    · obtain ⟨m, S, σI, A, F⟩ := meth σ H Q h
      exact ⟨m, S, σI, A, F.imp fun d S' m' H' x rs q v rv => (q v rv).2⟩
  · refine PySem.W.methodCall_KW (thn (h1.run pins s σ H _ I (meth σ H Q h)) fun u s1 ⟨x, H1, I1, rx, z, _⟩ => absurd z kc) (meth_eq ho hp hn hl)
theorem s_make (g : Gd G T Y k c X) (hT : B.T = T) (tk : Takes X (wxOf B)) {x : Str} {q : Nat} {e : Expr} {args : List Expr} {es : Es} {p pos : Pos} (hg : c.gl x = true) (ho : odd x = false) (hp : plainArgs (e :: args) = true) (hf : G.cls.lookup x = some q)
    (ha : PA X (e :: args) (tA B (evEs Y es))) : PE X (.Call (.Name x p) (e :: args) [] pos) (tE B (evE Y (.make q es))) := by
  subst hT
  obtain ⟨h1, kc, fI, fd, ps, M, hb, hl, hF⟩ := g.pw.cls x q hf
  rcases hF with ⟨k', rfl, hF⟩ | hbad
  · have hk := g.hK
    rw [← hk] at M hb hF
    refine PE.imp (peG_make (E := WE (wxOf B)) M hF g.hr g.hgd (g.gl hg) h1 hb (passAt tk) ha hp (odd_not ho).1) fun σ H Q ⟨m, S, σI, A, F⟩ => ?_
    refine tA_in A F fun ds S1 m1 H1 vs x1 A1 rvs F1 => fun a dx na nd ne => ?_
    have x2 : Ext m1 H1 m1 (upd H1 dx (.own a)) := Ext.new nd
    have rs2 := A1.rs.new (o := .own a) nd
    have na2 : upd H1 dx (.own a) a = none := by rw [upd_ne (Ne.symm ne)]; exact na
    have x3 : Ext m1 (upd H1 dx (.own a)) (m1 ++ [a]) (upd (upd H1 dx (.own a)) a (.ins (B.T.C q) dx [])) := Ext.newO na2
    have rs3 : RS B.T (m1 ++ [a]) (S1 ++ [.ins q []]) (upd (upd H1 dx (.own a)) a (.ins (B.T.C q) dx [])) := rs2.newO na2 ⟨dx, [], upd_same, .nil, kc⟩
    have A3 := (A1.next x2 rs2).next x3 rs3
    have rv : RD B.T.K (m1 ++ [a]) (upd (upd H1 dx (.own a)) a (.ins (B.T.C q) dx [])) (.ref S1.length) (.ref a) := .ref A1.rs.last
    refine spF_in A3 (.cons rv (RDs.ext rs2 x3 _ _ (RDs.ext A1.rs x2 _ _ rvs))) hl ?_
    refine ((Fin.bind F1).ext (x2.trans x3)).imp fun v S2 m2 H2 x4 rs4 F4 u ru => ?_
    have F4' : Fin B m2 H2 σI (match v with | .non => .ok (.ref S1.length) S2 | _ => .bad) (Wv B Q) := F4
    cases ru with
    | non => exact ⟨rfl, F4'.now rs4 (rv.ext rs3 x4)⟩
    | _ => exact absurd F4' (fun z => z)
  · constructor
    intro pins s σ H Q I ⟨m, S, σI, A, F⟩
    refine wpAny_Call_Name_kw (ld_glob I (g.gl hg) h1 ?_ (odd_not ho).1)
    rw [← g.hK] at M
    refine PySem.W.callWith_K (h₀ := X.base) I.ok.mod.kin M.kp (thn (ha.run pos pins s σ H (fun _ _ => False) I (tA_in A F fun ds S1 m1 H1 vs x1 A1 rvs F1 => ?_)) fun us s1 ⟨_, _, _, _, z⟩ => z.elim) (star_cons hp _) (star_back (plain_tail hp) _ _)
    rw [hbad] at F1
    exact F1

/-! ### a.append(x), a.extend(b) -/
theorem few_one {e : Expr} {env : Env} {pos : Pos} (hp : plainArgs [e] = true) : ((backTo pos (starEach [e] env)).all (fun x => !x.1) && (backToKw pos (keywordEach [] env)).all (fun x => x.1.isSome)
      && decide ([e].length + ([] : List Keyword).length + (if ([] : List Keyword).isEmpty then 0 else 1) < 30)) = true := by
  rw [star_cons hp]
  rfl
theorem lst_type {m : List Addr} {S : Sto} {H : Hp} {d : D} {v : V} (rs : RS B.T m S H) (rv : RD B.T.K m H d v) (h : lstQ d S = true) : tyV B.T.K "list" v H := by
  cases rv with
  | @ref n a h' =>
    unfold lstQ at h
    dsimp only at h
    split at h
    · next xs hx =>
      obtain ⟨vs, e1, _⟩ := rs.ob n _ a hx h'
      exact .inl ⟨rfl, vs, SqL.of e1⟩
    · cases h
  | _ => cases h
theorem s_app (g : Gd G T Y k c X) (hT : B.T = T) {o a : Expr} {o' a' : E} {ap pos : Pos} (ho : attrPlain o = true) (hp : plainArgs [a] = true) (hl : (ap.endLine == pos.line) = true) (h1 : PE X o (tE B (evE Y o'))) (h2 : PE X a (tE B (evE Y a'))) :
    PE X (.Call (.Attribute o "append" ap) [a] [] pos) (tE B (evE Y (.app o' a'))) := by
  refine PE.imp (pe_bm PySem.F.plainAttrs_list PySem.F.slot_list_append PySem.F.type_list_append mt_append h1 (pa_cons h2 pa_nil (star_cons hp _)) (attr_plain ho _ X.env _) (few_one hp) hl (star_cons hp _) rfl) fun σ H Q ⟨m, S, σI, A, F⟩ => ?_
  rw [g.hK, ← hT]
  refine tE_in A F fun d S1 m1 H1 v x A1 rv F1 => ?_
  split at F1
  · next hq =>
    refine ⟨lst_type A1.rs rv hq, tE_in A1 F1 fun e S2 m2 H2 w x2 A2 rw F2 => ?_⟩
    have F2' : Fin B m2 H2 σI (appD d e S2) (Wv B Q) := F2
    cases rv with
    | @ref n a h =>
      unfold appD at F2'
      dsimp only at F2'
      split at F2'
      · next xs hx =>
        split at F2'
        · next hz =>
          obtain ⟨vs, e1, r1⟩ := A2.rs.ob n _ a hx (x2.get h)
          have hm : a ∈ m2 := List.mem_of_getElem? (x2.get h)
          refine ⟨a, vs, w, rfl, rfl, e1, by rw [← r1.length]; exact hz, ?_⟩
          have x3 : Ext m2 H2 m2 (upd H2 a (.lst (vs ++ [w]))) := Ext.set hm
          exact F2' m2 _ x3 (A2.rs.set (x2.get h) ⟨_, upd_same, RDs.ext A2.rs x3 _ _ (r1.snoc rw)⟩) _ .non
        · exact absurd F2' (fun z => z)
      · exact absurd F2' (fun z => z)
    | _ => exact absurd F2' (fun z => z)
  · exact absurd F1 (fun z => z)
theorem s_ext (g : Gd G T Y k c X) (hT : B.T = T) {o a : Expr} {o' a' : E} {ap pos : Pos} (ho : attrPlain o = true) (hp : plainArgs [a] = true) (hl : (ap.endLine == pos.line) = true) (h1 : PE X o (tE B (evE Y o'))) (h2 : PE X a (tE B (evE Y a'))) :
    PE X (.Call (.Attribute o "extend" ap) [a] [] pos) (tE B (evE Y (.ext o' a'))) := by
  refine PE.imp (pe_bm PySem.F.plainAttrs_list PySem.F.slot_list_extend PySem.F.type_list_extend mt_extend h1 (pa_cons h2 pa_nil (star_cons hp _)) (attr_plain ho _ X.env _) (few_one hp) hl (star_cons hp _) rfl) fun σ H Q ⟨m, S, σI, A, F⟩ => ?_
  rw [g.hK, ← hT]
  refine tE_in A F fun d S1 m1 H1 v x A1 rv F1 => ?_
  split at F1
  · next hq =>
    refine ⟨lst_type A1.rs rv hq, tE_in A1 F1 fun e S2 m2 H2 w x2 A2 rw F2 => ?_⟩
    have F2' : Fin B m2 H2 σI (extD d e S2) (Wv B Q) := F2
    cases rv with
    | @ref n a h =>
      cases rw with
      | @ref n' b h' =>
        unfold extD at F2'
        dsimp only at F2'
        split at F2'
        · next xs ys hx hy =>
          split at F2'
          · next hz =>
            obtain ⟨vs, e1, r1⟩ := A2.rs.ob n _ a hx (x2.get h)
            obtain ⟨ws, e2, r2⟩ := A2.rs.ob n' _ b hy h'
            have hm : a ∈ m2 := List.mem_of_getElem? (x2.get h)
            refine ⟨a, b, vs, ws, rfl, rfl, e1, e2, by rw [← r1.length, ← r2.length]; exact hz, ?_⟩
            have x3 : Ext m2 H2 m2 (upd H2 a (.lst (vs ++ ws))) := Ext.set hm
            exact F2' m2 _ x3 (A2.rs.set (x2.get h) ⟨_, upd_same, RDs.ext A2.rs x3 _ _ (r1.append r2)⟩) _ .non
          · exact absurd F2' (fun z => z)
        · exact absurd F2' (fun z => z)
      | _ => exact absurd F2' (fun z => z)
    | _ => exact absurd F2' (fun z => z)
  · exact absurd F1 (fun z => z)
/-- {} -/
theorem s_dct0 {pos : Pos} : PE X (.Dict [] [] pos) (tE B (evE Y (.dct [] .nil))) := by
  refine PE.imp pe_dnewK fun σ H Q ⟨m, S, σI, A, F⟩ p hp => ?_
  have F' : Fin B m H σI (.ok (.ref S.length) (S ++ [.dct []])) (Wv B Q) := F
  exact F' _ _ (Ext.newO hp) (A.rs.newO hp ⟨[], upd_same, .nil⟩) _ (.ref A.rs.last)

/-! ### list sources -/
theorem src_of {m : List Addr} {S : Sto} {H : Hp} {σI : Sl} {d : D} {v : V} {R : (List D × Src) → Sto → List Addr → Hp → Prop} (rs : RS B.T m S H) (rv : RD B.T.K m H d v) (F : Fin B m H σI (srcD d S) R) : ∃ ds s, RSrc B m H ds s v ∧ R (ds, s) S m H := by
  cases rv with
  | @tup xs a vs h hs => exact ⟨xs, .tuple, ⟨a, vs, rfl, h, hs⟩, F m H Ext.refl rs⟩
  | @ref n a h =>
    unfold srcD at F
    dsimp only at F
    split at F
    · next xs hx =>
      obtain ⟨vs, e1, r1⟩ := rs.ob n _ a hx h
      exact ⟨xs, .at n (.lst xs), ⟨a, vs, rfl, h, SqL.of e1, r1, .inl rfl⟩, F m H Ext.refl rs⟩
    · next xs hx =>
      obtain ⟨o, vs, e1, r1⟩ := rs.ob n _ a hx h
      exact ⟨xs, .at n (.frz xs), ⟨a, vs, rfl, h, .inl (.inr ⟨o, e1⟩), r1, .inr rfl⟩, F m H Ext.refl rs⟩
    · exact absurd F (fun z => z)
  | _ => exact absurd F (fun z => z)
theorem l_of {e : Expr} {e' : E} (h : PE X e (tE B (evE Y e'))) : PE X e (tL B (evL Y (.of e'))) := by
  refine PE.imp h fun σ H Q ⟨m, S, σI, A, F⟩ => tE_in A F fun d S1 m1 H1 v x A1 rv F1 => ?_
  obtain ⟨ds, s, r, q⟩ := src_of A1.rs rv F1
  exact q v r
theorem l_disp {es : List Expr} {es' : Es} {pos : Pos} (h : PA X es (tA B (evEs Y es'))) : PE X (.List es pos) (tL B (evL Y (.disp es'))) := by
  refine PE.imp (pe_lst h) fun σ H Q ⟨m, S, σI, A, F⟩ => tA_in A F fun ds S1 m1 H1 vs x A1 rvs F1 => ?_
  split at F1
  · next hz =>
    refine ⟨by rw [← rvs.length]; exact hz, fun p hp => ?_⟩
    have x2 : Ext m1 H1 m1 (upd H1 p (.lst vs)) := Ext.new hp
    exact F1 m1 _ x2 (A1.rs.new hp) _ ⟨p, vs, rfl, upd_same, A1.rs.fresh hp, RDs.ext A1.rs x2 _ _ rvs⟩
  · exact absurd F1 (fun z => z)
/-- [e, ..] -/
theorem s_disp {es : List Expr} {es' : Es} {pos : Pos} (h : PA X es (tA B (evEs Y es'))) : PE X (.List es pos) (tE B (evE Y (.mk (.disp es')))) := by
  refine PE.imp (pe_lst h) fun σ H Q ⟨m, S, σI, A, F⟩ => ?_
  have F' : Fin B m H σI (((evEs Y es' σI S).bind fun ds S1 => if ds.length ≤ sizeLine then (Res.ok (ds, Src.fresh) S1 : Res (List D × Src)) else .bad).bind fun p S1 => match p.2 with
    | .fresh => newL p.1 S1
    | _ => .bad) (Wv B Q) := F
  rw [Res.bind_bind] at F'
  refine tA_in A F' fun ds S1 m1 H1 vs x A1 rvs F1 => ?_
  split at F1
  · next hz => exact ⟨by rw [← rvs.length]; exact hz, Fin.newL F1 A1.rs rvs⟩
  · exact absurd F1 (fun z => z)
/-- a range -/
theorem rg_rel {K : PySem.W.Frag} {m : List Addr} {H : Hp} (a b : Int) : RDs K m H (rngD a b) (rgV a b) := by
  unfold rngD rgV
  have go : ∀ l : List Nat, RDs K m H (l.map fun i => D.int (a + (i : Nat))) (l.map fun i => V.int (a + (i : Nat))) := by
    intro l
    induction l with
    | nil => exact .nil
    | cons x r ih => exact .cons (.int _) ih
  exact go _
theorem walk_rng (m : List Addr) (H : Hp) (a b : Int) : Wk B (Itr a (b - a).toNat) (rngD a b) (.range a b) m H := by
  intro m' S' H' x rs st
  have hl : (rngD a b).length = (b - a).toNat := by unfold rngD; rw [List.length_map, List.length_range]
  refine ⟨fun i d e => ?_, by rw [hl]; exact Nat.le_refl _⟩
  have hi : i < (b - a).toNat := by rw [← hl]; exact (List.getElem?_eq_some_iff.mp e).1
  refine ⟨hi, fun x H'' ⟨e1, e2⟩ => ⟨e1, ?_⟩⟩
  have ed : d = .int (a + (i : Nat)) := by
    unfold rngD at e
    rw [List.getElem?_map, List.getElem?_range hi] at e
    exact (Option.some.inj e).symm
  rw [ed, e2]
  exact .int _
theorem rng_ok {i j : Int} {S : Sto} {m : List Addr} {H : Hp} {σI : Sl} {R : (List D × Src) → Sto → List Addr → Hp → Prop} (rs : RS B.T m S H) (F : Fin B m H σI (rngR (.int i) (.int j) S) R) : R (rngD i j, .range i j) S m H := F m H Ext.refl rs
theorem i_rng1 (g : Gd G T Y k c X) {tg a : Expr} {a' : E} {p pos : Pos} (hg : c.gl "range" = true) (hp : plainArgs [a] = true) (h1 : PE X a (tE B (evE Y a'))) : PI X tg (.Call (.Name "range" p) [a] [] pos) (iL B (evL Y (.rng1 a'))) := by
  refine PI.imp (pi_any1 (g.gl hg) (g.pw.bt _ in_rng) (pa_cons h1 pa_nil (star_cons hp _)) (star_cons hp _)) fun σ H R ⟨m, S, σI, A, F⟩ => tE_in A F fun d S1 m1 H1 v x A1 rv F1 => ?_
  cases rv with
  | int j =>
    have q := rng_ok A1.rs F1
    refine ⟨j, rfl, q _ ?_⟩
    have := walk_rng (B := B) m1 H1 0 j
    rw [Int.sub_zero] at this
    exact this
  | _ => exact absurd F1 (fun z => z)
theorem i_rng2 (g : Gd G T Y k c X) {tg a b : Expr} {a' b' : E} {p pos : Pos} (hg : c.gl "range" = true) (hp : plainArgs [a, b] = true) (h1 : PE X a (tE B (evE Y a'))) (h2 : PE X b (tE B (evE Y b'))) : PI X tg (.Call (.Name "range" p) [a, b] [] pos) (iL B (evL Y (.rng2 a' b'))) := by
  have s2 := star_cons (plain_tail hp) X.env
  refine PI.imp (pi_any2 (g.gl hg) (g.pw.bt _ in_rng) (pa_cons h1 (pa_cons h2 pa_nil s2) (star_cons hp _)) (by rw [star_cons hp, s2]; rfl) s2) fun σ H R ⟨m, S, σI, A, F⟩ => tE_in A F fun d S1 m1 H1 v x A1 rv F1 => tE_in A1 F1 fun d' S2 m2 H2 v' x2 A2 rv' F2 => ?_
  cases rv with
  | int i =>
    cases rv' with
    | int j =>
      have q := rng_ok A2.rs F2
      exact ⟨i, j, rfl, q _ (walk_rng m2 H2 i j)⟩
    | _ => exact absurd F2 (fun z => z)
  | _ => exact absurd F2 (fun z => by cases rv' <;> exact z)
theorem rgOk_of {i j : Int} (h : rngT i j = true) : RgOk i j := by
  unfold rngT at h
  simp only [Bool.and_eq_true, decide_eq_true_eq] at h
  exact ⟨h.1.1.1.2, h.1.1.2, h.1.2, h.2, h.1.1.1.1⟩
/-- tuple(range(..)), list(range(..)) -/
theorem rgT_ok {i j : Int} {m : List Addr} {S : Sto} {H : Hp} {σI : Sl} {Q : VK} (rs : RS B.T m S H) (F : Fin B m H σI (blD .tuple (rngD i j) (.range i j) S) (Wv B Q)) :
    RgOk i j ∧ ∀ q, H q = none → Q (.ref q) (upd H q (.tup (rgV i j))) := by
  unfold blD at F
  dsimp only at F
  split at F
  · next h => exact ⟨rgOk_of h, Fin.newT F rs (rg_rel i j)⟩
  · exact absurd F (fun z => z)
theorem rgL_ok {i j : Int} {m : List Addr} {S : Sto} {H : Hp} {σI : Sl} {Q : VK} (rs : RS B.T m S H) (F : Fin B m H σI (blD .list (rngD i j) (.range i j) S) (Wv B Q)) :
    RgOk i j ∧ ∀ q, H q = none → Q (.ref q) (upd H q (.lst (rgV i j))) := by
  unfold blD at F
  dsimp only at F
  split at F
  · next h => exact ⟨rgOk_of h, Fin.newL F rs (rg_rel i j)⟩
  · exact absurd F (fun z => z)
theorem rng_fin {d d' : D} {v v' : V} {m : List Addr} {S : Sto} {H : Hp} {σI : Sl} {β : Type} {gg : (List D × Src) → Sto → Res β} {R : β → Sto → List Addr → Hp → Prop} (rs : RS B.T m S H) (r1 : RD B.T.K m H d v) (r2 : RD B.T.K m H d' v') (F : Fin B m H σI ((rngR d d' S).bind gg) R) :
    ∃ i j, v = .int i ∧ v' = .int j ∧ Fin B m H σI (gg (rngD i j, .range i j) S) R := by
  cases r1 with
  | int i =>
    cases r2 with
    | int j =>
      exact ⟨i, j, rfl, rfl, F⟩
    | _ => exact absurd F (fun z => z)
  | _ => exact absurd F (fun z => by cases r2 <;> exact z)
theorem lst_or {x : Str} {b : Bl} (hb : blNm.lookup x = some b) (hx : x = ("tuple" : Str) ∨ x = ("list" : Str)) : (x = "tuple" ∧ b = .tuple) ∨ (x = "list" ∧ b = .list) := by
  rcases hx with rfl | rfl
  · have : blNm.lookup ("tuple" : Str) = some .tuple := by kernel_rfl
    rw [this] at hb; exact .inl ⟨rfl, (Option.some.inj hb).symm⟩
  · have : blNm.lookup ("list" : Str) = some .list := by kernel_rfl
    rw [this] at hb; exact .inr ⟨rfl, (Option.some.inj hb).symm⟩
theorem bl_rng1 (g : Gd G T Y k c X) {a : Expr} {a' : E} {x : Str} {b : Bl} {p p2 pos pos2 : Pos} (hg : c.gl x = true) (hr : c.gl "range" = true) (hb : blNm.lookup x = some b) (hx : x = ("tuple" : Str) ∨ x = ("list" : Str)) (hp : plainArgs [.Call (.Name "range" p2) [a] [] pos2] = true) (hp2 : plainArgs [a] = true)
    (h1 : PE X a (tE B (evE Y a'))) : PE X (.Call (.Name x p) [.Call (.Name "range" p2) [a] [] pos2] [] pos) (tE B (evE Y (.bl b (.rng1 a')))) := by
  have pr := prg_1 (X := X) (p := p2) (pos := pos2) (g.gl hr) (g.pw.bt _ in_rng) h1 (star_cons hp2 _)
  rcases lst_or hb hx with ⟨rfl, rfl⟩ | ⟨rfl, rfl⟩
  · refine PE.imp (pe_tupRg g.calm (g.gl hg) (g.pw.bt _ (in_blt2 hb)) pr (star_cons hp _)) fun σ H Q ⟨m, S, σI, A, F⟩ => ?_
    have F' : Fin B m H σI (((evE Y a' σI S).bind fun d S1 => rngR (.int 0) d S1).bind fun q S1 => blD .tuple q.1 q.2 S1) (Wv B Q) := F
    rw [Res.bind_bind] at F'
    refine tE_in A F' fun d S1 m1 H1 v x A1 rv F1 => ?_
    obtain ⟨i, j, e1, e2, F2⟩ := rng_fin A1.rs (.int 0) rv F1
    cases e1
    exact ⟨j, e2, rgT_ok A1.rs F2⟩
  · refine PE.imp (pe_listRg g.calm (g.gl hg) (g.pw.bt _ (in_blt2 hb)) pr (star_cons hp _)) fun σ H Q ⟨m, S, σI, A, F⟩ => ?_
    have F' : Fin B m H σI (((evE Y a' σI S).bind fun d S1 => rngR (.int 0) d S1).bind fun q S1 => blD .list q.1 q.2 S1) (Wv B Q) := F
    rw [Res.bind_bind] at F'
    refine tE_in A F' fun d S1 m1 H1 v x A1 rv F1 => ?_
    obtain ⟨i, j, e1, e2, F2⟩ := rng_fin A1.rs (.int 0) rv F1
    cases e1
    exact ⟨j, e2, rgL_ok A1.rs F2⟩
theorem bl_rng2 (g : Gd G T Y k c X) {a a2 : Expr} {a' a2' : E} {x : Str} {b : Bl} {p p2 pos pos2 : Pos} (hg : c.gl x = true) (hr : c.gl "range" = true) (hb : blNm.lookup x = some b) (hx : x = ("tuple" : Str) ∨ x = ("list" : Str)) (hp : plainArgs [.Call (.Name "range" p2) [a, a2] [] pos2] = true) (hp2 : plainArgs [a, a2] = true)
    (h1 : PE X a (tE B (evE Y a'))) (h2 : PE X a2 (tE B (evE Y a2'))) : PE X (.Call (.Name x p) [.Call (.Name "range" p2) [a, a2] [] pos2] [] pos) (tE B (evE Y (.bl b (.rng2 a' a2')))) := by
  have pr := prg_2 (X := X) (p := p2) (pos := pos2) (g.gl hr) (g.pw.bt _ in_rng) h1 h2 (star_cons hp2 _) (star_cons (plain_tail hp2) _) (star_back (plain_tail hp2) _ _)
  rcases lst_or hb hx with ⟨rfl, rfl⟩ | ⟨rfl, rfl⟩
  · refine PE.imp (pe_tupRg g.calm (g.gl hg) (g.pw.bt _ (in_blt2 hb)) pr (star_cons hp _)) fun σ H Q ⟨m, S, σI, A, F⟩ => ?_
    have F' : Fin B m H σI (((evE Y a' σI S).bind fun d S1 => (evE Y a2' σI S1).bind fun d' S2 => rngR d d' S2).bind fun q S1 => blD .tuple q.1 q.2 S1) (Wv B Q) := F
    rw [Res.bind_bind] at F'
    refine tE_in A F' fun d S1 m1 H1 v x A1 rv F1 => ?_
    rw [Res.bind_bind] at F1
    refine tE_in A1 F1 fun d' S2 m2 H2 v' x2 A2 rv' F2 => ?_
    obtain ⟨i, j, e1, e2, F3⟩ := rng_fin A2.rs (rv.ext A1.rs x2) rv' F2
    exact ⟨i, j, e1, e2, rgT_ok A2.rs F3⟩
  · refine PE.imp (pe_listRg g.calm (g.gl hg) (g.pw.bt _ (in_blt2 hb)) pr (star_cons hp _)) fun σ H Q ⟨m, S, σI, A, F⟩ => ?_
    have F' : Fin B m H σI (((evE Y a' σI S).bind fun d S1 => (evE Y a2' σI S1).bind fun d' S2 => rngR d d' S2).bind fun q S1 => blD .list q.1 q.2 S1) (Wv B Q) := F
    rw [Res.bind_bind] at F'
    refine tE_in A F' fun d S1 m1 H1 v x A1 rv F1 => ?_
    rw [Res.bind_bind] at F1
    refine tE_in A1 F1 fun d' S2 m2 H2 v' x2 A2 rv' F2 => ?_
    obtain ⟨i, j, e1, e2, F3⟩ := rng_fin A2.rs (rv.ext A1.rs x2) rv' F2
    exact ⟨i, j, e1, e2, rgL_ok A2.rs F3⟩
/-- any list source under a built-in function -/
theorem bl_src (g : Gd G T Y k c X) (hT : B.T = T) {e : Expr} {l : L} {x : Str} {b : Bl} {p pos : Pos} (hg : c.gl x = true) (ho : odd x = false) (hb : blNm.lookup x = some b) (hp : plainArgs [e] = true) (h : PE X e (tL B (evL Y l))) : PE X (.Call (.Name x p) [e] [] pos) (tE B (evE Y (.bl b l))) := by
  have hk : X.K = B.T.K := by rw [hT]; exact g.hK
  refine PE.imp (pe_cB (bl_sort b) (bl_P (X := X) (B := B) g.calm hk b) (g.gl hg) (g.pw.bt x (in_blt2 hb)) (bl_boot hb) ho (pa_cons h pa_nil (star_cons hp _)) hp) fun σ H Q ⟨m, S, σI, A, F⟩ => ?_
  refine ⟨m, S, σI, A, (Fin.bind F).imp fun q S1 m1 H1 x rs F1 v rv => ⟨m1, S1, σI, q.1, q.2, v, rfl, rs, rv, F1⟩⟩
/-- a list source is walked -/
theorem i_src (g : Gd G T Y k c X) (hT : B.T = T) {tg e : Expr} {l : L} (h : PE X e (tL B (evL Y l))) : PI X tg e (iL B (evL Y l)) := by
  refine PI.imp (pi_seq h) fun σ H R ⟨m, S, σI, A, F⟩ => ⟨m, S, σI, A, F.imp fun q S1 m1 H1 x rs q1 v rv => ?_⟩
  rw [show X.K = B.T.K by rw [hT]; exact g.hK]
  rcases walk_src rs rv with ⟨a, e1, e2, w⟩ | ⟨a, e1, e2, w⟩
  · exact .inl ⟨a, e1, e2, q1 _ w⟩
  · exact .inr ⟨a, e1, e2, q1 _ w⟩
end
end Py
end
section
set_option linter.all false
set_option maxRecDepth 100000
/-! PyP: targets, comprehensions. -/
namespace Py
open PySem PySem.Spec PyProof.Rows L2

/-! ### a tracked list that is none of ours is changed -/
section
variable {T : Tb} {K : PySem.W.Frag} {m : List Addr} {S : Sto} {H : Hp} {p : Addr} {o o' : HO}
def mutO : HO → Bool
  | .lst _ => true
  | .dK _ => true
  | _ => false
theorem sqT_upd (e : H p = some o) (ho : mutO o = true) {a : Addr} {vs : List V} (h : SqT K H a vs) : SqT K (upd H p o') a vs := by
  have ne : ∀ {u : HO}, H a = some u → mutO u = false → a ≠ p := fun {u} q n z => by
    subst z
    rw [e] at q; cases q
    rw [ho] at n; cases n
  rcases h with (h | ⟨ob, h⟩) | h
  · exact .inl (.inl (by rw [upd_ne (ne h rfl)]; exact h))
  · exact .inl (.inr ⟨ob, by rw [upd_ne (ne h rfl)]; exact h⟩)
  · exact .inr h
mutual
theorem RD.updN (e : H p = some o) (ho : mutO o = true) : ∀ (d : D) (v : V), RD K m H d v → RD K m (upd H p o') d v
  | _, _, .non => .non
  | _, _, .bl b => .bl b
  | _, _, .int i => .int i
  | _, _, .str y => .str y
  | _, _, .ref h => .ref h
  | .tup ds, _, .tup h hs => .tup (sqT_upd e ho h) (RDs.updN e ho ds _ hs)
theorem RDs.updN (e : H p = some o) (ho : mutO o = true) : ∀ (ds : List D) (vs : List V), RDs K m H ds vs → RDs K m (upd H p o') ds vs
  | _, _, .nil => .nil
  | d :: ds, v :: vs, .cons h hs => .cons (RD.updN e ho d v h) (RDs.updN e ho ds vs hs)
end
theorem RS.updN (r : RS T m S H) (e : H p = some o) (ho : mutO o = true) (n : p ∉ m) : RS T m S (upd H p o') := by
  refine ⟨r.len, r.nd, fun k ob a e1 e2 => ?_⟩
  have hne : a ≠ p := fun z => n (z ▸ List.mem_of_getElem? e2)
  have q := r.ob k ob a e1 e2
  cases ob with
  | lst xs => obtain ⟨vs, h1, h2⟩ := q; exact ⟨vs, by rw [upd_ne hne]; exact h1, RDs.updN e ho _ _ h2⟩
  | frz xs => obtain ⟨ob, vs, h1, h2⟩ := q; exact ⟨ob, vs, by rw [upd_ne hne]; exact h1, RDs.updN e ho _ _ h2⟩
  | dct xs => obtain ⟨ws, h1, h2⟩ := q; exact ⟨ws, by rw [upd_ne hne]; exact h1, Paired.mapP h2 fun p q z => ⟨z.1, RD.updN e ho _ _ z.2⟩⟩
  | ins c xs => obtain ⟨dx, ws, h1, h2, h3⟩ := q; exact ⟨dx, ws, by rw [upd_ne hne]; exact h1, Paired.mapP h2 fun p q z => ⟨z.1, RD.updN e ho _ _ z.2⟩, h3⟩
  | exc c v =>
    obtain ⟨dx, w, h1, h2, h3, h4, h5⟩ := q
    have hd : dx ≠ p := fun z => by
      subst z
      rw [e] at h2; cases h2
      cases ho
    exact ⟨dx, w, by rw [upd_ne hne]; exact h1, by rw [upd_ne hd]; exact h2, RD.updN e ho _ _ h3, h4, h5⟩
theorem Ext.updN {m0 : List Addr} {H0 : Hp} (x : Ext m0 H0 m H) (n : H0 p = none) : Ext m0 H0 m (upd H p o') :=
  ⟨x.pre, fun a u e na => by
    obtain ⟨h1, h2⟩ := x.fr a u e na
    exact ⟨by rw [upd_ne (ne_of_none e n)]; exact h1, h2⟩⟩
/-- .. and is taken as ours -/
theorem Ext.takeN {m0 : List Addr} {H0 : Hp} (x : Ext m0 H0 m H) (n : H0 p = none) : Ext m0 H0 (m ++ [p]) H :=
  ⟨x.pre.trans (List.prefix_append m _), fun a u e na => by
    obtain ⟨h1, h2⟩ := x.fr a u e na
    exact ⟨h1, fun z => by
      rcases List.mem_append.mp z with z | z
      · exact h2 z
      · rw [List.mem_singleton.mp z, n] at e; cases e⟩⟩
theorem pre_get {m m' : List Addr} (h : m <+: m') {n : Nat} {a : Addr} (e : m[n]? = some a) : m'[n]? = some a := by
  obtain ⟨r, rfl⟩ := h
  rw [List.getElem?_append_left (List.getElem?_eq_some_iff.mp e).1]
  exact e
mutual
theorem RD.more {m' : List Addr} (h : m <+: m') : ∀ (d : D) (v : V), RD K m H d v → RD K m' H d v
  | _, _, .non => .non
  | _, _, .bl b => .bl b
  | _, _, .int i => .int i
  | _, _, .str y => .str y
  | _, _, .ref q => .ref (pre_get h q)
  | .tup ds, _, .tup q hs => .tup q (RDs.more h ds _ hs)
theorem RDs.more {m' : List Addr} (h : m <+: m') : ∀ (ds : List D) (vs : List V), RDs K m H ds vs → RDs K m' H ds vs
  | _, _, .nil => .nil
  | d :: ds, v :: vs, .cons q hs => .cons (RD.more h d v q) (RDs.more h ds vs hs)
end
theorem RS.takeN (r : RS T m S H) {vs : List V} {ds : List D} (n : p ∉ m) (e : H p = some (.lst vs)) (q : RDs T.K m H ds vs) : RS T (m ++ [p]) (S ++ [.lst ds]) H := by
  have pre : m <+: m ++ [p] := List.prefix_append m _
  refine ⟨by simp [r.len], List.nodup_append.mpr ⟨r.nd, by simp, fun a ha b hb z => n (by rw [List.mem_singleton.mp hb] at z; exact z ▸ ha)⟩, fun k ob a e1 e2 => ?_⟩
  by_cases hk : k < S.length
  · rw [List.getElem?_append_left hk] at e1
    rw [List.getElem?_append_left (by rw [r.len]; exact hk)] at e2
    have z := r.ob k ob a e1 e2
    cases ob with
    | lst xs => obtain ⟨vs, h1, h2⟩ := z; exact ⟨vs, h1, RDs.more pre _ _ h2⟩
    | frz xs => obtain ⟨ob, vs, h1, h2⟩ := z; exact ⟨ob, vs, h1, RDs.more pre _ _ h2⟩
    | dct xs => obtain ⟨ws, h1, h2⟩ := z; exact ⟨ws, h1, Paired.mapP h2 fun p q z => ⟨z.1, RD.more pre _ _ z.2⟩⟩
    | ins c xs => obtain ⟨dx, ws, h1, h2, h3⟩ := z; exact ⟨dx, ws, h1, Paired.mapP h2 fun p q z => ⟨z.1, RD.more pre _ _ z.2⟩, h3⟩
    | exc c v =>
      obtain ⟨dx, w, h1, h2, h3, h4, h5⟩ := z
      refine ⟨dx, w, h1, h2, RD.more pre _ _ h3, fun z => ?_, h5⟩
      rcases List.mem_append.mp z with z | z
      · exact h4 z
      · rw [List.mem_singleton.mp z, e] at h2; cases h2
  · have h1 : k = S.length := by
      have := (List.getElem?_eq_some_iff.mp e1).1
      simp at this; omega
    subst h1
    rw [List.getElem?_append_right (Nat.le_refl _)] at e1
    rw [List.getElem?_append_right (by rw [r.len]; exact Nat.le_refl _)] at e2
    simp [r.len] at e1 e2
    subst e1 e2
    exact ⟨vs, e, RDs.more pre _ _ q⟩
end

/-! ### targets -/
def setsV : L2.St → List Nat → List V → L2.St
  | σ, i :: is, v :: vs => setsV (σ.set i (some v)) is vs
  | σ, _, _ => σ
theorem setAll_rel {K : PySem.W.Frag} {m : List Addr} {H : Hp} : ∀ {is : List Nat} {ds : List D} {vs : List V} {σI σI' : Sl} {σ : L2.St}, setAll is ds σI = some σI' → RDs K m H ds vs → RSl K m H σI σ → RSl K m H σI' (setsV σ is vs) ∧ vs.length = is.length
  | [], [], vs, σI, σI', σ, h, r, s => by cases h; cases r; exact ⟨s, rfl⟩
  | [], d :: ds, vs, σI, σI', σ, h, r, s => by cases h
  | i :: is, [], vs, σI, σI', σ, h, r, s => by cases h
  | i :: is, d :: ds, vs, σI, σI', σ, h, r, s => by
    cases r with
    | cons r rs =>
      obtain ⟨h1, h2⟩ := setAll_rel (σI := σI.set i (some d)) h rs (s.setV r)
      exact ⟨h1, by rw [List.length_cons, List.length_cons, h2]⟩
theorem wipe_set {σ : L2.St} {i : Nat} {o : Option V} : ∀ {vs : List Nat}, wipe (σ.set i o) vs = if i ∈ vs then wipe σ vs else (wipe σ vs).set i o
  | [] => by simp [wipe]
  | v :: vs => by
    unfold wipe
    rw [wipe_set (vs := vs)]
    by_cases h : i ∈ vs
    · rw [if_pos h, if_pos (List.mem_cons_of_mem _ h)]
    · rw [if_neg h]
      by_cases e : i = v
      · subst e
        rw [if_pos List.mem_cons_self, List.set_set]
      · rw [if_neg (by simp [e, h]), List.set_comm _ _ e]
theorem wipe_sets {vs : List Nat} : ∀ {is : List Nat} {σ : L2.St} {ws : List V}, (is.all fun i => decide (i ∈ vs)) = true → wipe (setsV σ is ws) vs = wipe σ vs
  | [], σ, ws, h => by cases ws <;> rfl
  | i :: is, σ, [], h => rfl
  | i :: is, σ, w :: ws, h => by
    rw [List.all_cons, Bool.and_eq_true] at h
    show wipe (setsV (σ.set i (some w)) is ws) vs = _
    rw [wipe_sets h.2, wipe_set, if_pos (of_decide_eq_true h.1)]
/-- a target's reading -/
def gT (B : Bs) (tg : Tg) : TG := fun v σ H Q => ∃ m S σI d σI', At B m S H σI σ ∧ RD B.T.K m H d v ∧ tgD tg d σI = some σI' ∧ ∀ σ', RSl B.T.K m H σI' σ' → (∀ vs, tgIn tg vs = true → wipe σ' vs = wipe σ vs) → Q σ' H
theorem PG.imp {X : Cx} {e : Expr} {t t' : TG} (h : PG X e t) (i : ∀ v σ H Q, t' v σ H Q → t v σ H Q) : PG X e t' := ⟨fun pins s σ H v u Q I r q => h.run pins s σ H v u Q I r (i _ _ _ _ q)⟩
theorem PGs.imp {X : Cx} {e : List Expr} {t t' : TGs} (h : PGs X e t) (i : ∀ v σ H Q, t' v σ H Q → t v σ H Q) : PGs X e t' := ⟨fun pins s σ H v u Q I r q => h.run pins s σ H v u Q I r (i _ _ _ _ q)⟩
section
variable {G : Gt} {T : Tb} {Y : Ev} {k : Nat} {c : Ct} {X : Cx} {B : Bs}
theorem var_n {e : Expr} {i : Nat} (h : varN c e = some i) : ∃ x p, e = .Name x p ∧ odd x = false ∧ c.wr x = some i := by
  unfold varN at h
  split at h
  · next x p =>
    split at h
    · cases h
    · next ho => exact ⟨x, p, rfl, by simpa using ho, h⟩
  · cases h
theorem g_name (g : Gd G T Y k c X) {x : Str} {p : Pos} {i : Nat} (h : c.wr x = some i) : PG X (.Name x p) (gName i) := by
  obtain ⟨h1, h2, h3⟩ := g.wr h
  exact pg_name g.nd h1 h2 h3
theorem g_names (g : Gd G T Y k c X) : ∀ {es : List Expr} {is : List Nat}, varNs c es = some is → PGs X es (fun vs σ H Q => vs.length = is.length ∧ Q (setsV σ is vs) H) ∧ is.length = es.length ∧ (assignEach es X.env).length = es.length ∧ (assignEach es X.env).findIdx? (·.1) = none
  | [], is, h => by
    cases h
    exact ⟨PGs.imp pgs_nil fun v σ H Q ⟨q1, q2⟩ => ⟨List.eq_nil_of_length_eq_zero q1, by cases v with | nil => exact q2 | cons _ _ => cases q1⟩, rfl, rfl, rfl⟩
  | e :: es, is, h => by
    obtain ⟨i, h1, h2⟩ := Option.bind_eq_some_iff.mp (show (varN c e).bind _ = some is from h)
    obtain ⟨is', h3, rfl⟩ := Option.map_eq_some_iff.mp h2
    obtain ⟨q1, q2, q3, q4⟩ := g_names g h3
    obtain ⟨x, p, rfl, ho, hw⟩ := var_n h1
    refine ⟨PGs.imp (pgs_cons (g_name g hw) q1 rfl) fun v σ H Q ⟨z1, z2⟩ => ?_, by rw [List.length_cons, List.length_cons, q2], ?_, ?_⟩
    · cases v with
      | nil => cases z1
      | cons v vs => exact ⟨v, vs, rfl, by simpa using z1, z2⟩
    · show (_ :: assignEach es X.env).length = _
      rw [List.length_cons, q3, List.length_cons]
    · show List.findIdx? _ ((false, _) :: assignEach es X.env) = none
      rw [List.findIdx?_cons, q4]
      rfl
theorem g_tg (g : Gd G T Y k c X) (hT : B.T = T) {e : Expr} {tg : Tg} (h : tgT c e = some tg) : PG X e (gT B tg) := by
  unfold tgT at h
  split at h
  · next es j p =>
    obtain ⟨is, h1, rfl⟩ := Option.map_eq_some_iff.mp h
    obtain ⟨q1, q2, q3, q4⟩ := g_names g h1
    refine PG.imp (pg_tup g.calm q1 q3 q4) fun v σ H Q ⟨m, S, σI, d, σI', A, rv, e1, q⟩ => ?_
    cases rv with
    | @tup ds a vs h hs =>
      obtain ⟨r1, r2⟩ := setAll_rel (show setAll is ds σI = some σI' from e1) hs A.sl
      exact ⟨a, vs, rfl, by rw [g.hK, ← hT]; exact h, by rw [r2, q2], r2, q _ r1 fun ws hw => wipe_sets hw⟩
    | _ => cases e1
  · obtain ⟨i, h1, rfl⟩ := Option.map_eq_some_iff.mp h
    obtain ⟨x, p, rfl, ho, hw⟩ := var_n h1
    refine PG.imp (g_name g hw) fun v σ H Q ⟨m, S, σI, d, σI', A, rv, e1, q⟩ => ?_
    have e1' : some (σI.set i (some d)) = some σI' := e1
    cases e1'
    exact q _ (A.sl.setV rv) fun ws hw => by rw [wipe_set, if_pos (of_decide_eq_true hw)]
end
end Py
end
section
set_option linter.all false
set_option maxRecDepth 100000
/-! PyQ: comprehensions. -/
namespace Py
open PySem PySem.Spec PyProof.Rows L2
/-- where nothing is wished for errors -/
abbrev Bs.nox (B : Bs) : Bs := { B with XW := fun _ _ _ _ => False }
section
variable {G : Gt} {T : Tb} {Y : Ev} {k : Nat} {c : Ct} {X : Cx} {B : Bs}
theorem takes_blk {s : Shared} {H : Hp} {scope : Scope} {cenv : Env} {fp : List Addr} : Takes (X.blk s H scope cenv fp) (wxOf B.nox) := by
  rintro u s' ⟨a, B', sI, pins, σ, H', cls, d, _, _, _, _, _, _, _, _, m, S, σI, c, v, dx, w, _, _, _, _, _, _, _, z⟩
  exact z
def Ct.blk (c : Ct) (sc : Scope) : Ct := ⟨c.N, relS sc c.sc, fun x => sc.names.lookup x == some .cell⟩
theorem Gd.blk (g : Gd G T Y k c X) (s : Shared) (H : Hp) (scope : Scope) (cl : List (Str × Addr)) (C : Addr) (fp : List Addr) : Gd G T Y k (c.blk scope) (X.blk s H scope (compEnvC scope cl C X.env) fp) :=
  ⟨g.hK, g.calm, g.hgd, g.hr, g.hn, g.nd, by show relabel scope X.env = relS scope c.sc; rw [← g.sc]; rfl, rfl, g.pw⟩

noncomputable def compF (Y : Ev) (own : List Nat) (tg : Tg) (ifs : Es) (elt : E) (σ : Sl) (d : D) (S : Sto) : Res (Option D) := match tgD tg d (wipeD σ own) with
  | none => .bad
  | some σ2 => (evT Y ifs σ2 S).bind fun k S3 => if k = true then (evE Y elt σ2 S3).bind fun y S4 => .ok (some y) S4 else .ok none S3
theorem compGo_nil {s : Src} {f : D → Sto → Res (Option D)} {acc ys : List D} {S S' : Sto} (h : compGo s f [] acc S = .ok ys S') : s.still S = true ∧ ys = acc ∧ S' = S := by
  unfold compGo at h
  split at h
  · next q => cases h; exact ⟨q, rfl, rfl⟩
  · cases h
theorem compGo_cons {s : Src} {f : D → Sto → Res (Option D)} {d : D} {ds acc ys : List D} {S S' : Sto} (h : compGo s f (d :: ds) acc S = .ok ys S') :
    s.still S = true ∧ ((∃ S1, f d S = .ok none S1 ∧ compGo s f ds acc S1 = .ok ys S') ∨ ∃ y S1, f d S = .ok (some y) S1 ∧ acc.length < sizeLine ∧ compGo s f ds (acc ++ [y]) S1 = .ok ys S') := by
  unfold compGo at h
  split at h
  · next q =>
    refine ⟨q, ?_⟩
    split at h
    · next S1 e => exact .inl ⟨S1, e, h⟩
    · next y S1 e =>
      split at h
      · next hl => exact .inr ⟨y, S1, e, hl, h⟩
      · cases h
    · cases h
  · cases h
theorem wipe_wipe {σ : L2.St} (vs : List Nat) : ∀ us : List Nat, (∀ i ∈ us, i ∈ vs) → wipe (wipe σ us) vs = wipe σ vs
  | [], _ => rfl
  | u :: us, h => by
    show wipe ((wipe σ us).set u none) vs = _
    rw [wipe_set, if_pos (h u List.mem_cons_self), wipe_wipe vs us fun i hi => h i (List.mem_cons_of_mem _ hi)]
/-- the loop of a comprehension -/
theorem comp_loop {tg : Tg} {ifs : Es} {elt : E} {own : List Nat} {s : Src} {ds : List D} {J : It} {m1 : List Addr} {S1 : Sto} {H1 : Hp} {σI : Sl} {σ : L2.St} {ys : List D} {S' : Sto} {Qd : Addr → Hp → Prop} (A1 : At B m1 S1 H1 σI σ) (hw : Wk B J ds s m1 H1) (hin : tgIn tg own = true)
    (hgo : compGo s (compF Y own tg ifs elt σI) ds [] S1 = .ok ys S')
    (hQ : ∀ D mf Hf vs, Ext m1 H1 mf Hf → RS B.T mf S' Hf → H1 D = none → Hf D = some (.lst vs) → D ∉ mf → RDs B.T.K mf Hf ys vs → Qd D Hf) (L0 : Addr) (hD : H1 L0 = none) :
    ∃ W : Nat → Nat → Hp → Prop, (∃ m, W 0 m (upd H1 L0 (.lst []))) ∧ ∀ i m H, W i m H → (J.stop i H ∧ Qd L0 H) ∨ (J.go i H ∧ ∃ Nx : Hp → Prop, (∀ H', Nx H' → ∃ m', m' < m ∧ W (i + 1) m' H') ∧
      ∀ x H', J.yld i H x H' → gT B.nox tg x (wipe σ own) H' fun σ2 H2 => wipe σ2 own = wipe σ own ∧ tT B.nox (evT Y ifs) σ2 H2 fun b H3 =>
        if b = true then tE B.nox (evE Y elt) σ2 H3 fun y H4 => ∃ acc, H4 L0 = some (.lst acc) ∧ acc.length < sizeLine ∧ Nx (upd H4 L0 (.lst (acc ++ [y]))) else Nx H3) := by
  refine ⟨fun i n H => n = ds.length - i ∧ i ≤ ds.length ∧ ∃ m S acc vs, Ext m1 H1 m H ∧ RS B.T m S H ∧ H L0 = some (.lst vs) ∧ L0 ∉ m ∧ RDs B.T.K m H acc vs ∧ compGo s (compF Y own tg ifs elt σI) (ds.drop i) acc S = .ok ys S', ?_, ?_⟩
  · refine ⟨_, rfl, Nat.zero_le _, m1, S1, [], [], Ext.new hD, A1.rs.new hD, upd_same, A1.rs.fresh hD, .nil, hgo⟩
  rintro i n H ⟨rfl, hi, m, S, acc, vs, x, rs, hH, nD, racc, hg⟩
  by_cases hlt : i < ds.length
  · rw [List.drop_eq_getElem_cons hlt] at hg
    obtain ⟨st, hstep⟩ := compGo_cons hg
    obtain ⟨go, yld⟩ := (hw m S H x rs st).1 i ds[i] (by simp [hlt])
    refine .inr ⟨go, fun H' => ∃ m S acc vs, Ext m1 H1 m H' ∧ RS B.T m S H' ∧ H' L0 = some (.lst vs) ∧ L0 ∉ m ∧ RDs B.T.K m H' acc vs ∧ compGo s (compF Y own tg ifs elt σI) (ds.drop (i + 1)) acc S = .ok ys S',
      fun H' h => ⟨ds.length - (i + 1), by omega, rfl, hlt, h⟩, fun y H' hy => ?_⟩
    obtain ⟨rfl, ry⟩ := yld y H' hy
    have hf : ∃ o S2, compF Y own tg ifs elt σI ds[i] S = .ok o S2 := by
      rcases hstep with ⟨S2, e, _⟩ | ⟨z, S2, e, _⟩
      · exact ⟨_, _, e⟩
      · exact ⟨_, _, e⟩
    obtain ⟨o, S2, hf⟩ := hf
    have hf' := hf
    unfold compF at hf'
    split at hf'
    · cases hf'
    · next σ2I e2 =>
      have At1 : At B.nox m S H' (wipeD σI own) (wipe σ own) := ⟨rs, (A1.sl.ext A1.rs x).wipe own, A1.ex.trans x⟩
      refine ⟨m, S, _, ds[i], σ2I, At1, ry, e2, fun σ2 rsl hwp => ⟨(hwp own hin).trans (wipe_wipe own own fun _ h => h), m, S, σ2I, ⟨rs, rsl, A1.ex.trans x⟩, ?_⟩⟩
      cases e3 : evT Y ifs σ2I S with
      | exc q v S3 => rw [e3] at hf'; cases hf'
      | bad => rw [e3] at hf'; cases hf'
      | ok q S3 =>
        rw [e3, Res.bind_ok] at hf'
        refine fun m3 H3 x3 rs3 => ?_
        have hD3 := x3.fr L0 _ hH nD
        cases q with
        | false =>
          have e4 : (Res.ok none S3 : Res (Option D)) = .ok o S2 := hf'
          cases e4
          rcases hstep with ⟨S4, e5, hrest⟩ | ⟨z, S4, e5, _⟩
          · rw [hf] at e5; cases e5
            exact ⟨m3, S2, acc, vs, x.trans x3, rs3, hD3.1, hD3.2, RDs.ext rs x3 _ _ racc, hrest⟩
          · rw [hf] at e5; cases e5
        | true =>
          show tE B.nox (evE Y elt) σ2 H3 _
          have e4 : ((evE Y elt σ2I S3).bind fun y S4 => (Res.ok (some y) S4 : Res (Option D))) = .ok o S2 := hf'
          cases e6 : evE Y elt σ2I S3 with
          | exc q v S4 => rw [e6] at e4; cases e4
          | bad => rw [e6] at e4; cases e4
          | ok z S4 =>
            rw [e6, Res.bind_ok] at e4
            cases e4
            refine ⟨m3, S3, σ2I, ⟨rs3, rsl.ext rs x3, (A1.ex.trans x).trans x3⟩, ?_⟩
            rw [e6]
            refine fun m4 H4 x4 rs4 u ru => ?_
            have hD4 := x4.fr L0 _ hD3.1 hD3.2
            rcases hstep with ⟨S5, e5, _⟩ | ⟨z', S5, e5, hl, hrest⟩
            · rw [hf] at e5; cases e5
            · rw [hf] at e5; cases e5
              have r4 := RDs.ext rs3 x4 _ _ (RDs.ext rs x3 _ _ racc)
              refine ⟨vs, hD4.1, by rw [← racc.length]; exact hl, m4, S2, acc ++ [z], vs ++ [u], ((x.trans x3).trans x4).updN hD, rs4.updN hD4.1 rfl hD4.2, upd_same, hD4.2, RDs.updN hD4.1 rfl _ _ (r4.snoc ru), hrest⟩
  · have e : i = ds.length := by omega
    subst e
    rw [List.drop_length] at hg
    obtain ⟨st, rfl, rfl⟩ := compGo_nil hg
    exact .inl ⟨(hw m S' H x rs st).2, hQ L0 m H vs x rs hD hH nD racc⟩

/-- a comprehension's tests -/
theorem s_if0 : PTs X [] (tT B (evT Y .nil)) := ⟨fun pins s σ H Q I ⟨m, S, σI, A, F⟩ => pts_nil.run pins s σ H Q I (F m H Ext.refl A.rs)⟩
theorem s_if1 {e : Expr} {e' : E} (h : PT X e (tB' B (evE Y e'))) : PTs X [e] (tT B (evT Y (.cons e' .nil))) := by
  refine ⟨fun pins s σ H Q I ⟨m, S, σI, A, F⟩ => (pts_one h).run pins s σ H Q I ⟨m, S, σI, A, ?_⟩⟩
  have ev : evT Y (.cons e' .nil) σI S = (evE Y e' σI S).bind bR := by
    show (evE Y e' σI S).bind _ = _
    congr 1
    funext d S1
    cases d with
    | bl b => cases b <;> rfl
    | _ => rfl
  rw [ev] at F
  exact F

/-- a comprehension gives D at the end -/
def tComp (B : Bs) (Y : Ev) (own : List Nat) (tg : Tg) (src : L) (ifs : Es) (elt : E) : TE := fun σ H Q => ∃ m S σI, At B m S H σI σ ∧ Fin B m H σI (evL Y src σI S) fun p S1 m1 H1 =>
  ∃ ys S', compGo p.2 (compF Y own tg ifs elt σI) p.1 [] S1 = .ok ys S' ∧ ∀ D mf Hf vs, Ext m1 H1 mf Hf → RS B.T mf S' Hf → H1 D = none → Hf D = some (.lst vs) → D ∉ mf → RDs B.T.K mf Hf ys vs → Q (.ref D) Hf
theorem comp_read {own : List Nat} {tg : Tg} {src : L} {ifs : Es} {elt : E} (hin : tgIn tg own = true) (σ : L2.St) (H : Hp) (Q : VK) (h : tComp B Y own tg src ifs elt σ H Q) :
    tLc (iL B (evL Y src)) (gT B.nox tg) (tT B.nox (evT Y ifs)) (tE B.nox (evE Y elt)) own σ H Q := by
  obtain ⟨m, S, σI, A, F⟩ := h
  refine ⟨m, S, σI, A, F.imp fun p S1 m1 H1 x rs ⟨ys, S', hgo, hQ⟩ J hw D hD => ?_⟩
  exact comp_loop (Qd := fun D H => Q (.ref D) H) (A.next x rs) hw hin hgo (fun D mf Hf vs => hQ D mf Hf vs) D hD
theorem evL_comp {own : List Nat} {tg : Tg} {src : L} {ifs : Es} {elt : E} (σI : Sl) (S : Sto) : evL Y (.comp own tg src ifs elt) σI S = (evL Y src σI S).bind fun p S1 => (compGo p.2 (compF Y own tg ifs elt σI) p.1 [] S1).bind fun ds S2 => .ok (ds, .fresh) S2 := rfl
theorem compGo_exc {s : Src} {f : D → Sto → Res (Option D)} {q : Nat} {v : D} {S' : Sto} : ∀ {ds acc : List D} {S : Sto}, compGo s f ds acc S ≠ .exc q v S'
  | [], acc, S => by
    unfold compGo
    split <;> exact fun z => nomatch z
  | d :: ds, acc, S => by
    unfold compGo
    split
    · split
      · exact compGo_exc
      · split
        · exact compGo_exc
        · exact fun z => nomatch z
      · exact fun z => nomatch z
    · exact fun z => nomatch z
/-- as a list source -/
theorem comp_l {own : List Nat} {tg : Tg} {src : L} {ifs : Es} {elt : E} (σ : L2.St) (H : Hp) (Q : VK) (h : tL B (evL Y (.comp own tg src ifs elt)) σ H Q) : tComp B Y own tg src ifs elt σ H Q := by
  obtain ⟨m, S, σI, A, F⟩ := h
  rw [evL_comp] at F
  refine ⟨m, S, σI, A, (Fin.bind F).imp fun p S1 m1 H1 x rs F1 => ?_⟩
  cases hgo : compGo p.2 (compF Y own tg ifs elt σI) p.1 [] S1 with
  | ok ys S' =>
    rw [hgo] at F1
    refine ⟨ys, S', rfl, fun D mf Hf vs xf rf hD hf nD rv => F1 mf Hf xf rf _ ⟨D, vs, rfl, hf, nD, rv⟩⟩
  | exc q v S' => exact absurd hgo compGo_exc
  | bad => rw [hgo] at F1; exact F1.elim
/-- as a new list -/
theorem comp_e {own : List Nat} {tg : Tg} {src : L} {ifs : Es} {elt : E} (σ : L2.St) (H : Hp) (Q : VK) (h : tE B (evE Y (.mk (.comp own tg src ifs elt))) σ H Q) : tComp B Y own tg src ifs elt σ H Q := by
  obtain ⟨m, S, σI, A, F⟩ := h
  have F' : Fin B m H σI (((evL Y src σI S).bind fun p S1 => (compGo p.2 (compF Y own tg ifs elt σI) p.1 [] S1).bind fun ds S2 => (Res.ok (ds, Src.fresh) S2 : Res (List D × Src))).bind fun p S1 => match p.2 with
    | .fresh => newL p.1 S1
    | _ => .bad) (Wv B Q) := F
  rw [Res.bind_bind] at F'
  refine ⟨m, S, σI, A, (Fin.bind F').imp fun p S1 m1 H1 x rs F1 => ?_⟩
  rw [Res.bind_bind] at F1
  cases hgo : compGo p.2 (compF Y own tg ifs elt σI) p.1 [] S1 with
  | ok ys S' =>
    rw [hgo] at F1
    refine ⟨ys, S', rfl, fun D mf Hf vs xf rf hD hf nD rv => ?_⟩
    exact F1 (mf ++ [D]) Hf (xf.takeN hD) (rf.takeN nD hf rv) _ (.ref rf.last)
  | exc q v S' => exact absurd hgo compGo_exc
  | bad => rw [hgo] at F1; exact F1.elim
/-- a comprehension -/
theorem pe_comp (g : Gd G T Y k c X) (hT : B.T = T) {elt tg it : Expr} {ifs : List Expr} {scope : Scope} {own : List (Str × Nat)} {pos : Pos} {tg' : Tg} {src : L} {ifs' : Es} {elt' : E} (hs : noSet it = true) (hb : blkC c.N c.sc scope own = true) (hin : tgIn tg' (own.map (·.2)) = true)
    (hi : ∀ tg, PI X tg it (iL B (evL Y src))) (hg : tgT (c.blk scope) tg = some tg')
    (ht : ∀ X', Gd G T Y k (c.blk scope) X' → Takes X' (wxOf B.nox) → PTs X' ifs (tT B.nox (evT Y ifs'))) (he : ∀ X', Gd G T Y k (c.blk scope) X' → Takes X' (wxOf B.nox) → PE X' elt (tE B.nox (evE Y elt'))) :
    PE X (.ListComp elt [⟨tg, it, ifs, 0⟩] scope pos) (tComp B Y (own.map (·.2)) tg' src ifs' elt') := by
  refine PE.imp (pe_lc g.calm g.nd (hi tg) (by rw [g.hn, g.sc]; exact blkOk_by hb) (fun s H C cl fp => g_tg (g.blk s H scope cl C fp) (B := B.nox) hT hg) (fun s H C cl fp => ht _ (g.blk s H scope cl C fp) takes_blk)
    (fun s H C cl fp => he _ (g.blk s H scope cl C fp) takes_blk) (fun x => by cases it <;> first | rfl | (cases hs))) fun σ H Q h => ?_
  exact comp_read hin σ H Q h
end
end Py
end
section
set_option linter.all false
set_option maxRecDepth 100000
/-! PyR: every expression that is turned into ours is read rightly. -/
namespace Py
open PySem PySem.Spec PyProof.Rows L2

/-- a comprehension's facts -/
def LcOk (G : Gt) (T : Tb) (Y : Ev) (k : Nat) (c : Ct) (X : Cx) (B : Bs) (e : Expr) (l : L) : Prop :=
  ∃ own tg' src ifs' elt', l = .comp own tg' src ifs' elt' ∧ PE X e (tComp B Y own tg' src ifs' elt') ∧
    ∀ (i : Nat) (y : Str) (py spos : Pos), X.N[i]? = some y → X.env.scope.names.lookup y = some .local → swapsWith e (some (.Name y py)) spos.line X.env = pure true → PS X (.Assign [.Name y py] e spos) (tAsg (tComp B Y own tg' src ifs' elt') (gName i))
structure Sd (G : Gt) (T : Tb) (Y : Ev) (k : Nat) (n : Nat) : Prop where
  qE : ∀ (c : Ct) (X : Cx) (e : Expr) (e' : E) (B : Bs), Gd G T Y k c X → B.T = T → Takes X (wxOf B) → trE G n c e = some e' → PE X e (tE B (evE Y e')) ∧ PT X e (tB' B (evE Y e'))
  qEs : ∀ (c : Ct) (X : Cx) (es : List Expr) (es' : Es) (B : Bs), Gd G T Y k c X → B.T = T → Takes X (wxOf B) → trEs G n c es = some es' → (plainArgs es = true → PA X es (tA B (evEs Y es'))) ∧ es'.len = es.length ∧ (es.length ≤ 1 → PTs X es (tT B (evT Y es')))
  qKs : ∀ (c : Ct) (X : Cx) (es : List Keyword) (es' : Es) (B : Bs), Gd G T Y k c X → B.T = T → Takes X (wxOf B) → trKs G n c es = some es' → PK X es (tA B (evEs Y es')) ∧ es'.len = es.length
  qO : ∀ (c : Ct) (X : Cx) (o : Option Expr) (o' : Oe) (B : Bs), Gd G T Y k c X → B.T = T → Takes X (wxOf B) → trO G n c o = some o' → PO X o (tO B (evO Y o'))
  qL : ∀ (c : Ct) (X : Cx) (e : Expr) (l : L) (B : Bs), Gd G T Y k c X → B.T = T → Takes X (wxOf B) → trL G n c e = some l → noSet e = true →
    (∀ tg, PI X tg e (iL B (evL Y l))) ∧ (isComp e = true → LcOk G T Y k c X B e l) ∧
    (∀ (x : Str) (b : Bl) (p pos : Pos), c.gl x = true → odd x = false → blNm.lookup x = some b → plainArgs [e] = true → (isRng c e = false ∨ x = ("tuple" : Str) ∨ x = ("list" : Str)) → PE X (.Call (.Name x p) [e] [] pos) (tE B (evE Y (.bl b l))))

section
variable {G : Gt} {T : Tb} {Y : Ev} {k n : Nat}
theorem len_nil {es : Es} {args : List Expr} (h : es.len = args.length) : args = [] → es = .nil := fun e => by
  subst e
  cases es with
  | nil => rfl
  | cons _ _ => cases h
theorem kw_len : ∀ {kws : List Keyword} {ks : List Str}, kwN kws = some ks → kws.length = ks.length
  | [], ks, h => by cases h; rfl
  | ⟨none, e, p⟩ :: r, ks, h => by cases h
  | ⟨some x, e, p⟩ :: r, ks, h => by
    obtain ⟨ks', h1, rfl⟩ := Option.map_eq_some_iff.mp (show (kwN r).map (x :: ·) = some ks from h)
    rw [List.length_cons, List.length_cons, kw_len h1]
theorem ty_len {c : Ct} : ∀ {ts : List Expr} {Ts : List Ty}, tyAll G c ts = some Ts → Ts.length = ts.length
  | [], Ts, h => by cases h; rfl
  | e :: r, Ts, h => by
    obtain ⟨t, h1, h2⟩ := Option.bind_eq_some_iff.mp (show (tyOne G c e).bind _ = some Ts from h)
    obtain ⟨Ts', h3, rfl⟩ := Option.map_eq_some_iff.mp h2
    rw [List.length_cons, List.length_cons, ty_len h3]

theorem sdE (ih : Sd G T Y k n) (c : Ct) (X : Cx) (e : Expr) (e' : E) (B : Bs) (g : Gd G T Y k c X) (hT : B.T = T) (tk : Takes X (wxOf B)) (h : trE G (n + 1) c e = some e') : PE X e (tE B (evE Y e')) ∧ PT X e (tB' B (evE Y e')) := by
  have pt : PE X e (tE B (evE Y e')) → (∀ whole, isTrue e X.env whole = (do let v ← whole; standAt e.pos; holding [v] (truthy v))) → PE X e (tE B (evE Y e')) ∧ PT X e (tB' B (evE Y e')) := fun p q => ⟨p, pt_of p q⟩
  cases e with
  | Constant kc j pos =>
    simp only [trE, Option.map_eq_some_iff] at h
    obtain ⟨d, h1, rfl⟩ := h
    exact pt (s_lit h1) fun _ => rfl
  | Name x pos =>
    simp only [trE] at h
    split at h
    · cases h
    · next ho =>
      have ho' : odd x = false := by simpa using ho
      split at h
      · next i hi => cases h; exact pt (s_var g ho' hi) fun _ => rfl
      · split at h
        · next hg =>
          obtain ⟨q, h1, rfl⟩ := Option.map_eq_some_iff.mp h
          exact pt (s_gl g hT ho' hg h1) fun _ => rfl
        · cases h
  | Tuple es j pos =>
    simp only [trE] at h
    split at h
    · next hp =>
      obtain ⟨es', h1, rfl⟩ := Option.map_eq_some_iff.mp h
      exact pt (s_tup ((ih.qEs c X es es' B g hT tk h1).1 hp)) fun _ => rfl
    · cases h
  | List es pos =>
    simp only [trE] at h
    split at h
    · next hp =>
      obtain ⟨es', h1, rfl⟩ := Option.map_eq_some_iff.mp h
      exact pt (s_disp ((ih.qEs c X es es' B g hT tk h1).1 hp)) fun _ => rfl
    · cases h
  | ListComp elt gs sc pos =>
    simp only [trE, Option.map_eq_some_iff] at h
    obtain ⟨l, h1, rfl⟩ := h
    obtain ⟨own, tg', src, ifs', elt', rfl, hP, _⟩ := (ih.qL c X _ l B g hT tk h1 rfl).2.1 rfl
    exact pt (PE.imp hP fun σ H Q q => comp_e σ H Q q) fun _ => rfl
  | BinOp a op b pos =>
    simp only [trE, Option.bind_eq_some_iff, Option.map_eq_some_iff] at h
    obtain ⟨o, h1, a', h2, b', h3, rfl⟩ := h
    exact pt (s_bin g hT h1 (ih.qE c X a a' B g hT tk h2).1 (ih.qE c X b b' B g hT tk h3).1) fun _ => rfl
  | UnaryOp op a pos =>
    cases op with
    | USub =>
      simp only [trE, Option.map_eq_some_iff] at h
      obtain ⟨a', h1, rfl⟩ := h
      exact pt (s_neg (ih.qE c X a a' B g hT tk h1).1) fun _ => rfl
    | Not =>
      simp only [trE, Option.map_eq_some_iff] at h
      obtain ⟨a', h1, rfl⟩ := h
      obtain ⟨q1, q2⟩ := ih.qE c X a a' B g hT tk h1
      exact s_not q1 q2
    | _ => simp only [trE] at h; cases h
  | BoolOp op vs pos =>
    simp only [trE] at h
    split at h
    · cases h
    · cases h
    · next a b =>
      simp only [Option.bind_eq_some_iff, Option.map_eq_some_iff] at h
      obtain ⟨a', h1, b', h2, h3⟩ := h
      obtain ⟨p1, p2⟩ := ih.qE c X a a' B g hT tk h1
      obtain ⟨q1, q2⟩ := ih.qE c X b b' B g hT tk h2
      cases op with
      | And => subst h3; exact ⟨(s_and p1 p2 (pe_one q1) (pw_and1 q2)).1, (s_and p1 p2 (pe_one q1) (pw_and1 q2)).2.pt⟩
      | Or => subst h3; exact ⟨(s_or p1 p2 (pe_one q1) (pw_or1 q2)).1, (s_or p1 p2 (pe_one q1) (pw_or1 q2)).2.pt⟩
    · next a b d r =>
      simp only [Option.bind_eq_some_iff, Option.map_eq_some_iff] at h
      obtain ⟨a', h1, b', h2, h3⟩ := h
      obtain ⟨p1, p2⟩ := ih.qE c X a a' B g hT tk h1
      obtain ⟨q1, q2⟩ := ih.qE c X _ b' B g hT tk h2
      cases op with
      | And => subst h3; exact ⟨(s_and p1 p2 q1 (Py.PT.pw q2)).1, (s_and p1 p2 q1 (Py.PT.pw q2)).2.pt⟩
      | Or => subst h3; exact ⟨(s_or p1 p2 q1 (Py.PT.pw q2)).1, (s_or p1 p2 q1 (Py.PT.pw q2)).2.pt⟩
  | IfExp t a b pos =>
    simp only [trE, Option.bind_eq_some_iff, Option.map_eq_some_iff] at h
    obtain ⟨t', h0, a', h1, b', h2, rfl⟩ := h
    obtain ⟨p1, p2⟩ := ih.qE c X a a' B g hT tk h1
    obtain ⟨q1, q2⟩ := ih.qE c X b b' B g hT tk h2
    exact s_ife (ih.qE c X t t' B g hT tk h0).2 p1 q1 p2 q2
  | Compare a ops cs pos =>
    simp only [trE] at h
    split at h
    · next op b =>
      split at h
      · next hn =>
        have cmp : ∀ {o : Cop}, cmT op = some o → ((trE G n c a).bind fun a' => (trE G n c b).map fun b' => E.cmp o a' b') = some e' → PE X (.Compare a [op] [b] pos) (tE B (evE Y e')) ∧ PT X (.Compare a [op] [b] pos) (tB' B (evE Y e')) := by
          intro o ho h
          simp only [Option.bind_eq_some_iff, Option.map_eq_some_iff] at h
          obtain ⟨a', h1, b', h2, rfl⟩ := h
          have hb : noSet b = true := by
            cases b <;> first | rfl | (cases hn)
          exact s_cmp g hT ho hb (ih.qE c X a a' B g hT tk h1).1 (ih.qE c X b b' B g hT tk h2).1
        have isb : ∃ j p, b = .Constant .none j p := by
          unfold isNone at hn
          split at hn
          · exact ⟨_, _, rfl⟩
          · cases hn
        obtain ⟨j, p, rfl⟩ := isb
        cases op with
        | Is =>
          obtain ⟨a', h1, rfl⟩ := Option.map_eq_some_iff.mp h
          exact s_isn (b := true) (ih.qE c X a a' B g hT tk h1).1
        | IsNot =>
          obtain ⟨a', h1, rfl⟩ := Option.map_eq_some_iff.mp h
          exact s_isn (b := false) (ih.qE c X a a' B g hT tk h1).1
        | _ => exact cmp rfl h
      · split at h
        · next hb =>
          simp only [Option.bind_eq_some_iff, Option.map_eq_some_iff] at h
          obtain ⟨o, ho, a', h1, b', h2, rfl⟩ := h
          exact s_cmp g hT ho hb (ih.qE c X a a' B g hT tk h1).1 (ih.qE c X b b' B g hT tk h2).1
        · cases h
    · next op op' b d =>
      split at h
      · next hb =>
        simp only [Option.bind_eq_some_iff, Option.map_eq_some_iff] at h
        obtain ⟨o, ho, o', ho', a', h1, b', h2, d', h3, rfl⟩ := h
        exact s_chn g hT ho ho' hb.2 (ih.qE c X a a' B g hT tk h1).1 (ih.qE c X b b' B g hT tk h2).1 (ih.qE c X d d' B g hT tk h3).1
      · cases h
    · cases h
  | Subscript a i pos =>
    simp only [trE] at h
    split at h
    · next lo hi st p2 =>
      split at h
      · simp only [Option.bind_eq_some_iff, Option.map_eq_some_iff] at h
        obtain ⟨a', h1, lo', h2, hi', h3, rfl⟩ := h
        exact pt (s_sli g hT (ih.qE c X a a' B g hT tk h1).1 (ih.qO c X lo lo' B g hT tk h2) (ih.qO c X hi hi' B g hT tk h3)) fun _ => rfl
      · next m =>
        split at h
        · next hm =>
          split at h
          · obtain ⟨a', h1, rfl⟩ := Option.map_eq_some_iff.mp h
            exact pt (s_rev g hT hm (ih.qE c X a a' B g hT tk h1).1) fun _ => rfl
          · cases h
        · cases h
    · next hns =>
      simp only [Option.bind_eq_some_iff, Option.map_eq_some_iff] at h
      obtain ⟨a', h1, i', h2, rfl⟩ := h
      have hs : noSlice i = true := by
        cases i <;> first | rfl | exact absurd rfl (hns _ _ _ _)
      exact pt (s_idx g hT hs (ih.qE c X a a' B g hT tk h1).1 (ih.qE c X i i' B g hT tk h2).1) fun _ => rfl
  | Attribute o f pos =>
    simp only [trE] at h
    split at h
    · next ho =>
      split at h
      · next h0 =>
        simp only [Option.bind_eq_some_iff, Option.map_eq_some_iff] at h
        obtain ⟨o', h1, j, h2, rfl⟩ := h
        exact pt (s_fld g hT ho h2 h0 (ih.qE c X o o' B g hT tk h1).1) fun _ => rfl
      · cases h
    · cases h
  | Dict ks vs pos =>
    cases ks with
    | cons _ _ => simp only [trE] at h; cases h
    | nil =>
      cases vs with
      | cons _ _ => simp only [trE] at h; cases h
      | nil =>
        simp only [trE] at h
        cases h
        exact pt s_dct0 fun _ => rfl
  | Call f args kws pos =>
    refine pt ?_ fun _ => rfl
    cases f with
    | Name x p =>
      simp only [trE] at h
      split at h
      · cases h
      · next hc =>
        have hg : c.gl x = true := by
          cases q : c.gl x with
          | true => rfl
          | false => exact absurd (.inl q) hc
        have ho : odd x = false := by
          cases q : odd x with
          | false => rfl
          | true => exact absurd (.inr (.inl q)) hc
        have hp : plainArgs args = true := by
          cases q : plainArgs args with
          | true => rfl
          | false => exact absurd (.inr (.inr q)) hc
        split at h
        · next f hf =>
          split at h
          · obtain ⟨es, h1, rfl⟩ := Option.map_eq_some_iff.mp h
            obtain ⟨q1, q2, _⟩ := ih.qEs c X args es B g hT tk h1
            exact s_call g hT tk hg ho hp hf (q1 hp) (len_nil q2)
          · next kw kws =>
            simp only [Option.bind_eq_some_iff, Option.map_eq_some_iff] at h
            obtain ⟨es, h1, nm, h2, ws, h3, pm, h4, rfl⟩ := h
            obtain ⟨q1, q2, _⟩ := ih.qEs c X args es B g hT tk h1
            obtain ⟨q3, q4⟩ := ih.qKs c X _ ws B g hT tk h3
            exact s_callK g hT tk hg ho hp hf (q1 hp) q3 h2 h4 q2 (by rw [q4, kw_len h2])
        · next hf =>
          split at h
          · cases h
          · split at h
            · next q hq =>
              split at h
              · cases h
              · next a r =>
                obtain ⟨es, h1, rfl⟩ := Option.map_eq_some_iff.mp h
                exact s_make g hT tk hg ho hp hq ((ih.qEs c X _ es B g hT tk h1).1 hp)
            · next hq =>
              split at h
              · next hx =>
                subst hx
                split at h
                · next a T' =>
                  simp only [Option.bind_eq_some_iff] at h
                  obtain ⟨a', h1, h2⟩ := h
                  have p1 := (ih.qE c X a a' B g hT tk h1).1
                  split at h2
                  · next ts j p2 =>
                    split at h2
                    · next hts =>
                      obtain ⟨Ts, h3, rfl⟩ := Option.map_eq_some_iff.mp h2
                      have hl := ty_len h3
                      exact s_isT g hT hg hp hts.1 p1 h3 (fun e => hts.2.1 (List.eq_nil_of_length_eq_zero (by rw [← hl, e]; rfl))) (by rw [hl]; exact hts.2.2)
                    · cases h2
                  · obtain ⟨ty, h3, rfl⟩ := Option.map_eq_some_iff.mp h2
                    exact s_isi g hT hg hp p1 h3
                · cases h
              · split at h
                · cases h
                · next a =>
                  split at h
                  · next b hb =>
                    split at h
                    · next hs =>
                      obtain ⟨l, h1, rfl⟩ := Option.map_eq_some_iff.mp h
                      exact (ih.qL c X a l B g hT tk h1 hs.1).2.2 x b p pos hg ho hb hp hs.2
                    · cases h
                  · simp only [Option.bind_eq_some_iff, Option.map_eq_some_iff] at h
                    obtain ⟨b, hb, es, h1, rfl⟩ := h
                    exact s_bi g hT hg ho hp hb ((ih.qEs c X _ es B g hT tk h1).1 hp)
                · next a b' r =>
                  simp only [Option.bind_eq_some_iff, Option.map_eq_some_iff] at h
                  obtain ⟨b, hb, es, h1, rfl⟩ := h
                  exact s_bi g hT hg ho hp hb ((ih.qEs c X _ es B g hT tk h1).1 hp)
    | Attribute o m ap =>
      simp only [trE] at h
      split at h
      · cases h
      · next hc =>
        have ho : attrPlain o = true := by
          cases q : attrPlain o with
          | true => rfl
          | false => exact absurd (.inl q) hc
        have hp : plainArgs args = true := by
          cases q : plainArgs args with
          | true => rfl
          | false => exact absurd (.inr (.inl q)) hc
        have hl : (ap.endLine == pos.line) = true := by
          cases q : (ap.endLine == pos.line) with
          | true => rfl
          | false => exact absurd (.inr (.inr (.inl q))) hc
        have hn : args.length < 30 := by
          refine Nat.lt_of_not_le fun q => hc (.inr (.inr (.inr q)))
        split at h
        · cases h
        · split at h
          · next hm =>
            subst hm
            split at h
            · next a =>
              simp only [Option.bind_eq_some_iff, Option.map_eq_some_iff] at h
              obtain ⟨o', h1, a', h2, rfl⟩ := h
              exact s_app g hT ho hp hl (ih.qE c X o o' B g hT tk h1).1 (ih.qE c X a a' B g hT tk h2).1
            · cases h
          · split at h
            · next hm =>
              subst hm
              split at h
              · next a =>
                simp only [Option.bind_eq_some_iff, Option.map_eq_some_iff] at h
                obtain ⟨o', h1, a', h2, rfl⟩ := h
                exact s_ext g hT ho hp hl (ih.qE c X o o' B g hT tk h1).1 (ih.qE c X a a' B g hT tk h2).1
              · cases h
            · simp only [Option.bind_eq_some_iff, Option.map_eq_some_iff] at h
              obtain ⟨q, h0, o', h1, es, h2, rfl⟩ := h
              obtain ⟨q1, q2, _⟩ := ih.qEs c X args es B g hT tk h2
              exact s_meth g hT tk ho hp hn hl h0 (ih.qE c X o o' B g hT tk h1).1 (q1 hp) (len_nil q2)
    | _ => simp only [trE] at h; cases h
  | _ => simp only [trE] at h; cases h

theorem sdL (ih : Sd G T Y k n) (c : Ct) (X : Cx) (e : Expr) (l : L) (B : Bs) (g : Gd G T Y k c X) (hT : B.T = T) (tk : Takes X (wxOf B)) (h : trL G (n + 1) c e = some l) (hs : noSet e = true) :
    (∀ tg, PI X tg e (iL B (evL Y l))) ∧ (isComp e = true → LcOk G T Y k c X B e l) ∧
    (∀ (x : Str) (b : Bl) (p pos : Pos), c.gl x = true → odd x = false → blNm.lookup x = some b → plainArgs [e] = true → (isRng c e = false ∨ x = ("tuple" : Str) ∨ x = ("list" : Str)) → PE X (.Call (.Name x p) [e] [] pos) (tE B (evE Y (.bl b l)))) := by
  have src : PE X e (tL B (evL Y l)) → (isComp e = true → LcOk G T Y k c X B e l) → (∀ tg, PI X tg e (iL B (evL Y l))) ∧ (isComp e = true → LcOk G T Y k c X B e l) ∧
    (∀ (x : Str) (b : Bl) (p pos : Pos), c.gl x = true → odd x = false → blNm.lookup x = some b → plainArgs [e] = true → (isRng c e = false ∨ x = ("tuple" : Str) ∨ x = ("list" : Str)) → PE X (.Call (.Name x p) [e] [] pos) (tE B (evE Y (.bl b l)))) :=
    fun q q2 => ⟨fun tg => i_src g hT q, q2, fun x b p pos hg ho hb hp _ => bl_src g hT hg ho hb hp q⟩
  have of : (trE G n c e).map L.of = some l → isComp e = false → (∀ tg, PI X tg e (iL B (evL Y l))) ∧ (isComp e = true → LcOk G T Y k c X B e l) ∧
    (∀ (x : Str) (b : Bl) (p pos : Pos), c.gl x = true → odd x = false → blNm.lookup x = some b → plainArgs [e] = true → (isRng c e = false ∨ x = ("tuple" : Str) ∨ x = ("list" : Str)) → PE X (.Call (.Name x p) [e] [] pos) (tE B (evE Y (.bl b l)))) := by
    intro h hc
    obtain ⟨e', h1, rfl⟩ := Option.map_eq_some_iff.mp h
    exact src (l_of (ih.qE c X e e' B g hT tk h1).1) fun z => by rw [hc] at z; cases z
  have no : isComp e = false → trL G (n + 1) c e = (trE G n c e).map L.of → (∀ tg, PI X tg e (iL B (evL Y l))) ∧ (isComp e = true → LcOk G T Y k c X B e l) ∧
    (∀ (x : Str) (b : Bl) (p pos : Pos), c.gl x = true → odd x = false → blNm.lookup x = some b → plainArgs [e] = true → (isRng c e = false ∨ x = ("tuple" : Str) ∨ x = ("list" : Str)) → PE X (.Call (.Name x p) [e] [] pos) (tE B (evE Y (.bl b l)))) := fun hc q => of (by rw [← q]; exact h) hc
  cases e with
  | List es pos =>
    simp only [trL] at h
    split at h
    · next hp =>
      obtain ⟨es', h1, rfl⟩ := Option.map_eq_some_iff.mp h
      exact src (l_disp ((ih.qEs c X es es' B g hT tk h1).1 hp)) fun z => by cases z
    · cases h
  | ListComp elt gs sc pos =>
    simp only [trL] at h
    split at h
    · next tg it ifs as =>
      split at h
      · next has =>
        obtain ⟨has, hsi⟩ := has
        subst has
        simp only [Option.bind_eq_some_iff] at h
        obtain ⟨own, _, h⟩ := h
        split at h
        · next hb =>
          simp only [Option.bind_eq_some_iff] at h
          obtain ⟨src', h1, tg', h2, ifs', h3, h⟩ := h
          split at h
          · next hin =>
            obtain ⟨elt', h4, rfl⟩ := Option.map_eq_some_iff.mp h
            have hi := (ih.qL c X it src' B g hT tk h1 hsi).1
            have ht : ∀ X', Gd G T Y k (c.blk sc) X' → Takes X' (wxOf B.nox) → PTs X' ifs (tT B.nox (evT Y ifs')) := fun X' g' tk' => (ih.qEs (c.blk sc) X' ifs ifs' B.nox g' hT tk' h3).2.2 hin.2.2
            have he : ∀ X', Gd G T Y k (c.blk sc) X' → Takes X' (wxOf B.nox) → PE X' elt (tE B.nox (evE Y elt')) := fun X' g' tk' => (ih.qE (c.blk sc) X' elt elt' B.nox g' hT tk' h4).1
            have hP := pe_comp (pos := pos) g hT hsi hb hin.1 hi h2 ht he
            have hL : LcOk G T Y k c X B (.ListComp elt [⟨tg, it, ifs, 0⟩] sc pos) (.comp (own.map (·.2)) tg' src' ifs' elt') := by
              refine ⟨_, tg', src', ifs', elt', rfl, hP, fun i y py spos hy hyl hsw => ?_⟩
              refine PS.imp (ps_setLc g.calm g.nd hy hyl hsw (hi tg) (by rw [g.hn, g.sc]; exact blkOk_by hb) (fun s H C cl fp => g_tg (g.blk s H sc cl C fp) (B := B.nox) hT h2) (fun s H C cl fp => ht _ (g.blk s H sc cl C fp) takes_blk)
                (fun s H C cl fp => he _ (g.blk s H sc cl C fp) takes_blk) (fun x => by cases it <;> first | rfl | (cases hsi))) fun D σ H q => ?_
              exact comp_read hin.1 σ H _ q
            exact src (PE.imp hP fun σ H Q q => comp_l σ H Q q) fun _ => hL
          · cases h
        · cases h
      · cases h
    · cases h
  | Call f args kws pos =>
    cases f with
    | Name x p =>
      simp only [trL] at h
      split at h
      · next hx =>
        subst hx
        split at h
        · next hc =>
          obtain ⟨hg, hk, hp⟩ := hc
          cases kws with
          | cons _ _ => cases hk
          | nil =>
            split at h
            · next a =>
              obtain ⟨a', h1, rfl⟩ := Option.map_eq_some_iff.mp h
              have q := (ih.qE c X a a' B g hT tk h1).1
              refine ⟨fun tg => i_rng1 g hg hp q, fun z => (by cases z), fun x b p pos hg2 ho hb hp2 hr => bl_rng1 g hg2 hg hb ?_ hp2 hp q⟩
              rcases hr with hr | hr
              · have : isRng c (.Call (.Name "range" p) [a] [] pos) = true := by unfold isRng; simp
                exact absurd hr (by unfold isRng; simp)
              · exact hr
            · next a b =>
              simp only [Option.bind_eq_some_iff, Option.map_eq_some_iff] at h
              obtain ⟨a', h1, b', h2, rfl⟩ := h
              have q := (ih.qE c X a a' B g hT tk h1).1
              have q2 := (ih.qE c X b b' B g hT tk h2).1
              refine ⟨fun tg => i_rng2 g hg hp q q2, fun z => (by cases z), fun x b p pos hg2 ho hb hp2 hr => bl_rng2 g hg2 hg hb ?_ hp2 hp q q2⟩
              rcases hr with hr | hr
              · exact absurd hr (by unfold isRng; simp)
              · exact hr
            · cases h
        · cases h
      · exact of h rfl
    | _ => exact no rfl rfl
  | SetComp _ _ _ _ =>
    simp only [trL] at h
    obtain ⟨e', h1, rfl⟩ := Option.map_eq_some_iff.mp h
    cases n <;> (simp only [trE] at h1; cases h1)
  | DictComp _ _ _ _ _ =>
    simp only [trL] at h
    obtain ⟨e', h1, rfl⟩ := Option.map_eq_some_iff.mp h
    cases n <;> (simp only [trE] at h1; cases h1)
  | _ => exact no rfl rfl
theorem sd : ∀ n, Sd G T Y k n
  | 0 => ⟨fun c X e e' B g hT tk h => (by simp only [trE] at h; cases h), fun c X e e' B g hT tk h => (by simp only [trEs] at h; cases h), fun c X e e' B g hT tk h => (by simp only [trKs] at h; cases h),
      fun c X e e' B g hT tk h => (by simp only [trO] at h; cases h), fun c X e e' B g hT tk h => (by simp only [trL] at h; cases h)⟩
  | n + 1 => by
    have ih := sd n
    refine ⟨sdE ih, fun c X es es' B g hT tk h => ?_, fun c X es es' B g hT tk h => ?_, fun c X o o' B g hT tk h => ?_, sdL ih⟩
    · simp only [trEs] at h
      split at h
      · cases h
        exact ⟨fun _ => s_nil, rfl, fun _ => s_if0⟩
      · next e r =>
        simp only [Option.bind_eq_some_iff, Option.map_eq_some_iff] at h
        obtain ⟨e', h1, r', h2, rfl⟩ := h
        obtain ⟨p1, p2⟩ := ih.qE c X e e' B g hT tk h1
        obtain ⟨q1, q2, q3⟩ := ih.qEs c X r r' B g hT tk h2
        refine ⟨fun hp => s_cons hp p1 (q1 (plain_tail hp)), by show r'.len + 1 = r.length + 1; rw [q2], fun hl => ?_⟩
        cases r with
        | cons _ _ => exact absurd hl (by simp)
        | nil =>
          cases r' with
          | cons _ _ => cases q2
          | nil => exact s_if1 p2
    · simp only [trKs] at h
      split at h
      · cases h
        exact ⟨s_knil, rfl⟩
      · next kw r =>
        simp only [Option.bind_eq_some_iff, Option.map_eq_some_iff] at h
        obtain ⟨e', h1, r', h2, rfl⟩ := h
        obtain ⟨nm, ke, kp⟩ := kw
        obtain ⟨p1, p2⟩ := ih.qE c X ke e' B g hT tk h1
        obtain ⟨q1, q2⟩ := ih.qKs c X r r' B g hT tk h2
        exact ⟨s_kcons p1 q1, by show r'.len + 1 = r.length + 1; rw [q2]⟩
    · simp only [trO] at h
      split at h
      · cases h; exact s_ono
      · next e =>
        obtain ⟨e', h1, rfl⟩ := Option.map_eq_some_iff.mp h
        exact s_oyes (ih.qE c X e e' B g hT tk h1).1
end
end Py
end
section
set_option linter.all false
set_option maxRecDepth 100000
/-! PyS: statements. -/
namespace Py
open PySem PySem.Spec PyProof.Rows L2

/-- a statement's end -/
def FinS (B : Bs) (m : List Addr) (H : Hp) (Z : Ends) (o : Out) : Prop := match o with
  | .nx σI S' => ∀ m' H' σ', Ext m H m' H' → RS B.T m' S' H' → RSl B.T.K m' H' σI σ' → Z.nx σ' H'
  | .ret d S' => ∀ m' H' v, Ext m H m' H' → RS B.T m' S' H' → RD B.T.K m' H' d v → Z.rt v H'
  | .brk σI S' => ∀ m' H' σ', Ext m H m' H' → RS B.T m' S' H' → RSl B.T.K m' H' σI σ' → Z.bk σ' H'
  | .cnt σI S' => ∀ m' H' σ', Ext m H m' H' → RS B.T m' S' H' → RSl B.T.K m' H' σI σ' → Z.ct σ' H'
  | .exc c v σI S' => ∀ m' H', Ext m H m' H' → RS B.T m' S' H' → B.XW c v σI S'
  | .bad => False
def tS (B : Bs) (f : Sl → Sto → Out) : TS := fun D σ H => ∃ m S σI, At B m S H σI σ ∧ FinS B m H D (f σI S)
section
variable {B : Bs} {m m1 : List Addr} {S : Sto} {H H1 : Hp} {Z : Ends} {σI : Sl} {σ : L2.St} {α : Type}
theorem FinS.ext {o : Out} (F : FinS B m H Z o) (x : Ext m H m1 H1) : FinS B m1 H1 Z o := by
  cases o with
  | nx σI S' => exact fun m' H' σ' y => F m' H' σ' (x.trans y)
  | ret d S' => exact fun m' H' σ' y => F m' H' σ' (x.trans y)
  | brk σI S' => exact fun m' H' σ' y => F m' H' σ' (x.trans y)
  | cnt σI S' => exact fun m' H' σ' y => F m' H' σ' (x.trans y)
  | exc c v σI S' => exact fun m' H' y => F m' H' (x.trans y)
  | bad => exact F
theorem FinS.out {r : Res α} {f : α → Sto → Out} (F : FinS B m H Z (r.out σI f)) : Fin B m H σI r fun a S1 m1 H1 => FinS B m1 H1 Z (f a S1) := by
  cases r with
  | ok a S' => exact fun m' H' y rs => FinS.ext F y
  | exc c v S' => exact F
  | bad => exact F
theorem tE_out {f : Sl → Sto → Res D} {g : D → Sto → Out} {E : Ends} {Q : VK} (A : At B m S H σI σ) (F : FinS B m H E ((f σI S).out σI g))
    (h : ∀ d S1 m1 H1 v, Ext m H m1 H1 → At B m1 S1 H1 σI σ → RD B.T.K m1 H1 d v → FinS B m1 H1 E (g d S1) → Q v H1) : tE B f σ H Q :=
  ⟨m, S, σI, A, (FinS.out F).imp fun d S1 m1 H1 x rs F1 v rv => h d S1 m1 H1 v x (A.next x rs) rv F1⟩
theorem FinS.nx {σI' : Sl} {σ' : L2.St} {S' : Sto} (F : FinS B m H Z (.nx σI' S')) (rs : RS B.T m S' H) (sl : RSl B.T.K m H σI' σ') : Z.nx σ' H := F m H σ' Ext.refl rs sl
theorem out_bool {r : Res D} {g : Bool → Sto → Out} : (r.out σI fun d S1 => boolO d fun k => g k S1) = (r.bind bR).out σI g := by
  cases r with
  | ok d S1 => cases d <;> rfl
  | _ => rfl
theorem tT_out {f : Sl → Sto → Res D} {E : Ends} {Q : Bool → Hp → Prop} {g : Bool → Sto → Out} (A : At B m S H σI σ) (F : FinS B m H E ((f σI S).out σI fun d S1 => boolO d fun k => g k S1))
    (h : ∀ b S1 m1 H1, Ext m H m1 H1 → At B m1 S1 H1 σI σ → FinS B m1 H1 E (g b S1) → Q b H1) : tB' B f σ H Q := by
  rw [out_bool] at F
  exact ⟨m, S, σI, A, (FinS.out F).imp fun b S1 m1 H1 x rs F1 => h b S1 m1 H1 x (A.next x rs) F1⟩
theorem FinS.outO {o : Option α} {f : α → Out} (F : FinS B m H Z (Py.outO o f)) : ∃ a, o = some a ∧ FinS B m H Z (f a) := by
  cases o with
  | none => exact absurd F (fun z => z)
  | some a => exact ⟨a, rfl, F⟩
theorem FinS.then {o : Out} {f : Sl → Sto → Out} (A : At B m S H σI σ) (F : FinS B m H Z (o.then f)) : FinS B m H { Z with nx := tS B f Z } o := by
  cases o with
  | nx σI' S' => exact fun m' H' σ' x rs sl => ⟨m', S', σI', ⟨rs, sl, A.ex.trans x⟩, FinS.ext F x⟩
  | ret d S' => exact F
  | brk σI' S' => exact F
  | cnt σI' S' => exact F
  | exc c v σI' S' => exact F
  | bad => exact F
end

/-- what else a body's context is to bear -/
structure Gs (X : Cx) : Prop where
  po : PassesOwn (model X.prog X.w) X.A X.env X.xe
  bk : X.env.blockKind = .function
  hs : X.stack = X.env :: X.outer
  hf : X.env.frame = some X.env.locals
  ex : X.ex = []

section
variable {G : Gt} {T : Tb} {Y : Ev} {k n : Nat} {c : Ct} {X : Cx} {B : Bs}
theorem z_nil : PSs X [] (tS B (evSs Y .nil)) := PSs.imp pss_nil fun Z σ H ⟨m, S, σI, A, F⟩ => FinS.nx F A.rs A.sl
theorem z_cons {s : Stmt} {ss : List Stmt} {s' : Sm} {ss' : Ss} (h1 : PS X s (tS B (evS Y s'))) (h2 : PSs X ss (tS B (evSs Y ss'))) : PSs X (s :: ss) (tS B (evSs Y (.cons s' ss'))) :=
  PSs.imp (pss_cons h1 h2) fun Z σ H ⟨m, S, σI, A, F⟩ => ⟨m, S, σI, A, FinS.then A F⟩
theorem z_pass {pos : Pos} : PS X (.Pass pos) (tS B (evS Y .pass)) := PS.imp ps_pass fun Z σ H ⟨m, S, σI, A, F⟩ => FinS.nx F A.rs A.sl
theorem z_doc {x : Str} {j : Nat} {p pos : Pos} : PS X (.Expr (.Constant (.str x) j p) pos) (tS B (evS Y .pass)) := PS.imp ps_doc fun Z σ H ⟨m, S, σI, A, F⟩ => FinS.nx F A.rs A.sl
theorem z_brk {pos : Pos} : PS X (.Break pos) (tS B (evS Y .brk)) := PS.imp ps_break fun Z σ H ⟨m, S, σI, A, F⟩ => F m H σ Ext.refl A.rs A.sl
theorem z_cnt {pos : Pos} : PS X (.Continue pos) (tS B (evS Y .cnt)) := PS.imp ps_continue fun Z σ H ⟨m, S, σI, A, F⟩ => F m H σ Ext.refl A.rs A.sl
theorem z_expr {e : Expr} {e' : E} {pos : Pos} (hc : isComp e = false) (h : PE X e (tE B (evE Y e'))) : PS X (.Expr e pos) (tS B (evS Y (.expr e'))) := by
  refine PS.imp (ps_expr h (by cases e <;> first | rfl | (cases hc))) fun Z σ H ⟨m, S, σI, A, F⟩ => ?_
  exact tE_out A F fun d S1 m1 H1 v x A1 rv F1 => FinS.nx F1 A1.rs A1.sl
theorem z_ret {e : Expr} {e' : E} {pos : Pos} (h : PE X e (tE B (evE Y e'))) : PS X (.Return (some e) pos) (tS B (evS Y (.ret e'))) :=
  PS.imp (ps_ret h) fun Z σ H ⟨m, S, σI, A, F⟩ => tE_out A F fun d S1 m1 H1 v x A1 rv F1 => F1 m1 H1 v Ext.refl A1.rs rv
theorem z_retN {pos : Pos} : PS X (.Return none pos) (tS B (evS Y .retN)) := PS.imp ps_retN fun Z σ H ⟨m, S, σI, A, F⟩ => F m H .non Ext.refl A.rs .non
/-- x = e -/
theorem asg_read {e' : E} {i : Nat} (Z : Ends) (σ : L2.St) (H : Hp) (h : tS B (evS Y (.set i e')) Z σ H) : tE B (evE Y e') σ H fun x H1 => gName i x σ H1 Z.nx := by
  obtain ⟨m, S, σI, A, F⟩ := h
  exact tE_out A F fun d S1 m1 H1 v x A1 rv F1 => FinS.nx F1 A1.rs (A1.sl.setV rv)
theorem z_set (g : Gd G T Y k c X) (gs : Gs X) (hT : B.T = T) (tk : Takes X (wxOf B)) {x : Str} {e : Expr} {e' : E} {i : Nat} {px pos : Pos} (hw : c.wr x = some i) (he : trE G n c e = some e') : PS X (.Assign [.Name x px] e pos) (tS B (evS Y (.set i e'))) := by
  obtain ⟨h1, h2, h3⟩ := g.wr hw
  have hP := ((sd (G := G) (T := T) (Y := Y) (k := k) n).qE c X e e' B g hT tk he).1
  have plain : swapsWith e (some (.Name x px)) pos.line X.env = pure false → PS X (.Assign [.Name x px] e pos) (tS B (evS Y (.set i e'))) := fun hs => PS.imp (ps_set g.nd h1 h2 hP hs h3) fun Z σ H h => asg_read Z σ H h
  cases hc : isComp e with
  | false => exact plain (by cases e <;> first | rfl | (cases hc))
  | true =>
    cases n with
    | zero => simp only [trE] at he; cases he
    | succ n =>
      cases e with
      | ListComp elt gs' sc p =>
        have sw : swapsWith (.ListComp elt gs' sc p) (some (.Name x px)) pos.line X.env = pure (X.env.blockKind == .function && X.env.kindOf x == some .local && px.line == p.line && !(sc.names.any fun (n, k) => n == x && (k == .local || k == .cell))) := rfl
        cases hb : (X.env.blockKind == .function && X.env.kindOf x == some .local && px.line == p.line && !(sc.names.any fun (n, k) => n == x && (k == .local || k == .cell))) with
        | false => exact plain (by rw [sw, hb])
        | true =>
          simp only [trE, Option.map_eq_some_iff] at he
          obtain ⟨l, hl, rfl⟩ := he
          obtain ⟨own, tg', src, ifs', elt', rfl, _, hA⟩ := ((sd (G := G) (T := T) (Y := Y) (k := k) n).qL c X _ l B g hT tk hl rfl).2.1 rfl
          have hy : X.env.scope.names.lookup x = some .local := by
            simp only [Bool.and_eq_true] at hb
            exact beq_iff_eq.mp hb.1.1.2
          exact PS.imp (hA i x px pos h1 hy (by rw [sw, hb])) fun Z σ H h => comp_e σ H _ (asg_read Z σ H h)
      | SetComp _ _ _ _ => simp only [trE] at he; cases he
      | DictComp _ _ _ _ _ => simp only [trE] at he; cases he
      | _ => cases hc
/-- x, y = e -/
theorem z_unp (g : Gd G T Y k c X) (hT : B.T = T) {ts : List Expr} {e : Expr} {e' : E} {is : List Nat} {j : Nat} {pt pos : Pos} (hc : isComp e = false) (ht : ∀ es k p, e ≠ .Tuple es k p) (hv : varNs c ts = some is) (h : PE X e (tE B (evE Y e'))) :
    PS X (.Assign [.Tuple ts j pt] e pos) (tS B (evS Y (.unp is e'))) := by
  obtain ⟨q1, q2, q3, q4⟩ := g_names g hv
  refine PS.imp (ps_asg h (pg_tup g.calm q1 q3 q4) (by cases e <;> first | rfl | (cases hc)) (by cases e <;> first | rfl | exact absurd rfl (ht _ _ _)) rfl) fun Z σ H ⟨m, S, σI, A, F⟩ => ?_
  refine tE_out A F fun d S1 m1 H1 v x A1 rv F1 => ?_
  obtain ⟨ds, e1, F2⟩ := FinS.outO F1
  obtain ⟨σI', e2, F3⟩ := FinS.outO F2
  cases rv with
  | @tup xs a vs h hs =>
    cases e1
    obtain ⟨r1, r2⟩ := setAll_rel e2 hs A1.sl
    exact ⟨a, vs, rfl, by rw [g.hK, ← hT]; exact h, by rw [r2, q2], r2, FinS.nx F3 A1.rs r1⟩
  | _ => cases e1
/-- a[i] = e -/
theorem z_setI (g : Gd G T Y k c X) (hT : B.T = T) {o i e : Expr} {o' i' e' : E} {p pos : Pos} (hi : noSlice i = true) (h1 : PE X e (tE B (evE Y e'))) (h2 : PE X o (tE B (evE Y o'))) (h3 : PE X i (tE B (evE Y i'))) :
    PS X (.Assign [.Subscript o i p] e pos) (tS B (evS Y (.setI o' i' e'))) := by
  refine PS.imp (ps_asg h1 (pg_sub h2 h3 set_list (by intro _; cases i <;> first | rfl | (cases hi))) (by cases e <;> rfl) (by cases e <;> rfl) rfl) fun Z σ H ⟨m, S, σI, A, F⟩ => ?_
  refine tE_out A F fun d S1 m1 H1 v x A1 rv F1 => tE_out A1 F1 fun d2 S2 m2 H2 v2 x2 A2 rv2 F2 => tE_out A2 F2 fun d3 S3 m3 H3 v3 x3 A3 rv3 F3 => ?_
  obtain ⟨S4, e1, F4⟩ := FinS.outO F3
  have rv2' := rv2.ext A2.rs x3
  have rv' := (rv.ext A1.rs x2).ext A2.rs x3
  cases rv2' with
  | @ref q a h =>
    cases rv3 with
    | int z =>
      unfold setIx at e1
      dsimp only at e1
      split at e1
      · next xs hx =>
        obtain ⟨j, e2, rfl⟩ := Option.map_eq_some_iff.mp e1
        obtain ⟨vs, e3, r3⟩ := A3.rs.ob q _ a hx h
        have x4 : Ext m3 H3 m3 (upd H3 a (.lst (vs.set j v))) := Ext.set (List.mem_of_getElem? h)
        refine ⟨a, vs, z, j, rfl, rfl, e3, by rw [← r3.length]; exact e2, ?_⟩
        exact FinS.nx (FinS.ext F4 x4) (A3.rs.set h ⟨_, upd_same, RDs.ext A3.rs x4 _ _ (RDs.set rv' j r3)⟩) (A3.sl.ext A3.rs x4)
      · cases e1
    | _ => cases e1
  | _ => cases e1
/-- a.f = e -/
theorem z_setF (g : Gd G T Y k c X) (hT : B.T = T) {o e : Expr} {o' e' : E} {f : Str} {j : Nat} {p pos : Pos} (ho : attrPlain o = true) (hf : ixS G.fls f = some j) (h1 : PE X e (tE B (evE Y e'))) (h2 : PE X o (tE B (evE Y o'))) :
    PS X (.Assign [.Attribute o f p] e pos) (tS B (evS Y (.setF o' j e'))) := by
  subst hT
  have hf' : B.T.fls[j]? = some f := by rw [g.pw.fls]; exact ixS_some hf
  refine PS.imp (ps_fld h2 h1 (by cases e <;> rfl)) fun Z σ H ⟨m, S, σI, A, F⟩ => ?_
  refine tE_out A F fun d S1 m1 H1 v x A1 rv F1 => tE_out A1 F1 fun d2 S2 m2 H2 v2 x2 A2 rv2 F2 => ?_
  rw [g.hK]
  cases rv2 with
  | @ref q a h =>
    have F2' : FinS B m2 H2 Z (match S2[q]? with
      | some (.ins c fs) => if fs.length < 1000 then .nx σI (S2.set q (.ins c (Py.putF j d fs))) else .bad
      | _ => .bad) := F2
    split at F2'
    · next c' fs hx =>
      split at F2'
      · next hl =>
        obtain ⟨dx, ws, e1, r1, kc⟩ := A2.rs.ob q _ a hx h
        have x3 : Ext m2 H2 m2 (upd H2 a (.ins (B.T.C c') dx (L2.putF f v ws))) := Ext.set (List.mem_of_getElem? h)
        refine ⟨a, _, dx, ws, rfl, e1, kc.1, kc.2.1 f (List.mem_of_getElem? hf'), by rw [← rf_len r1]; exact hl, ?_⟩
        have r2 := put_fld hf' kc.2.2 (rv.ext A1.rs x2) r1
        exact FinS.nx (FinS.ext F2' x3) (A2.rs.set h ⟨dx, _, upd_same, Paired.mapP r2 fun p q z => ⟨z.1, RD.ext A2.rs x3 _ _ z.2⟩, kc⟩) (A2.sl.ext A2.rs x3)
      · exact absurd F2' (fun z => z)
    · exact absurd F2' (fun z => z)
  | _ => exact absurd F2 (fun z => z)
/-- x += e, x -= e -/
theorem z_aug (g : Gd G T Y k c X) {x : Str} {e : Expr} {e' : E} {i : Nat} {op : Operator} {o : Bop} {px pos : Pos} (hw : c.wr x = some i) (ho : (op = .Add ∧ o = .add) ∨ (op = .Sub ∧ o = .sub)) (h : PE X e (tE B (evE Y e'))) : PS X (.AugAssign (.Name x px) op e pos) (tS B (evS Y (.aug i o e'))) := by
  obtain ⟨h1, h2, h3⟩ := g.wr hw
  have rd : ∀ (gg : Int → Int → Int), (∀ (σI : Sl) (S : Sto), evS Y (.aug i o e') σI S = (varD i σI S).out σI fun x S1 => (evE Y e' σI S1).out σI fun y S2 => match x, y with
      | .int a, .int b => .nx (σI.set i (some (.int (gg a b)))) S2
      | _, _ => .bad) → ∀ (Z : Ends) σ H, tS B (evS Y (.aug i o e')) Z σ H → tAug i (tE B (evE Y e')) (rI0 fun a b => .int (gg a b)) Z σ H := by
    intro gg hgg Z σ H ⟨m, S, σI, A, F⟩
    rw [hgg] at F
    have F0 := FinS.out F
    unfold varD at F0
    split at F0
    · next d e1 =>
      obtain ⟨v, e2, rv⟩ := A.sl.get e1
      have F1 := F0 m H Ext.refl A.rs
      refine ⟨v, e2, tE_out A F1 fun d2 S2 m2 H2 w x2 A2 rw F2 => ?_⟩
      have rv2 := rv.ext A.rs x2
      cases rv2 with
      | int a =>
        cases rw with
        | int b => exact ⟨a, b, rfl, rfl, FinS.nx F2 A2.rs (A2.sl.setV (.int _))⟩
        | _ => exact absurd F2 (fun z => z)
      | _ => exact absurd F2 (fun z => by cases rw <;> exact z)
    · exact absurd F0 (fun z => z)
  rcases ho with ⟨rfl, rfl⟩ | ⟨rfl, rfl⟩
  · refine PS.imp (ps_aug g.nd h1 h2 h iop_add h3) (rd (fun a b => a + b) fun σI S => ?_)
    rfl
  · refine PS.imp (ps_aug g.nd h1 h2 h iop_sub h3) (rd (fun a b => a - b) fun σI S => ?_)
    rfl
theorem z_ife {t : Expr} {a b : List Stmt} {t' : E} {a' b' : Ss} {pos : Pos} (h0 : PT X t (tB' B (evE Y t'))) (h1 : PSs X a (tS B (evSs Y a'))) (h2 : PSs X b (tS B (evSs Y b'))) : PS X (.If t a b pos) (tS B (evS Y (.ife t' a' b'))) := by
  refine PS.imp (ps_if h0 h1 h2) fun Z σ H ⟨m, S, σI, A, F⟩ => ?_
  refine tT_out (g := fun q S1 => if q = true then evSs Y a' σI S1 else evSs Y b' σI S1) A F fun q S1 m1 H1 x A1 F1 => ?_
  cases q with
  | true => exact ⟨m1, S1, σI, A1, F1⟩
  | false => exact ⟨m1, S1, σI, A1, F1⟩
theorem z_whl (gs : Gs X) {t : Expr} {b : List Stmt} {t' : E} {b' : Ss} {pos : Pos} (h0 : PT X t (tB' B (evE Y t'))) (h1 : PSs X b (tS B (evSs Y b'))) : PS X (.While t b [] pos) (tS B (evS Y (.whl t' b'))) := by
  refine PS.imp (ps_while gs.po h0 h1) fun Z σ H ⟨m, S, σI, A, F⟩ => ?_
  refine ⟨fun n σ H => ∃ m S σI, At B m S H σI σ ∧ FinS B m H Z (whlGo (evE Y t') (evSs Y b') n σI S), ⟨Y.fuel, m, S, σI, A, F⟩, ?_⟩
  rintro n σ H ⟨m, S, σI, A, F⟩
  cases n with
  | zero => exact absurd F (fun z => z)
  | succ n =>
    refine tT_out (g := fun q S1 => if q = true then (match evSs Y b' σI S1 with
      | .nx σ2 S2 => whlGo (evE Y t') (evSs Y b') n σ2 S2
      | .cnt σ2 S2 => whlGo (evE Y t') (evSs Y b') n σ2 S2
      | .brk σ2 S2 => .nx σ2 S2
      | .ret d S2 => .ret d S2
      | .exc c v σ2 S2 => .exc c v σ2 S2
      | .bad => .bad) else .nx σI S1) A F fun q S1 m1 H1 x A1 F1 => ?_
    cases q with
    | false => exact FinS.nx (show FinS B m1 H1 Z (.nx σI S1) from F1) A1.rs A1.sl
    | true =>
      refine ⟨fun σ' H' => ∃ m S σI, At B m S H' σI σ' ∧ FinS B m H' Z (whlGo (evE Y t') (evSs Y b') n σI S), fun σ' H' h => ⟨n, Nat.lt_succ_self n, h⟩, m1, S1, σI, A1, ?_⟩
      have F1' : FinS B m1 H1 Z (match evSs Y b' σI S1 with
        | .nx σ2 S2 => whlGo (evE Y t') (evSs Y b') n σ2 S2
        | .cnt σ2 S2 => whlGo (evE Y t') (evSs Y b') n σ2 S2
        | .brk σ2 S2 => .nx σ2 S2
        | .ret d S2 => .ret d S2
        | .exc c v σ2 S2 => .exc c v σ2 S2
        | .bad => .bad) := F1
      cases hb : evSs Y b' σI S1 with
      | nx σ2 S2 => rw [hb] at F1'; exact fun m' H' σ' x2 rs sl => ⟨m', S2, σ2, ⟨rs, sl, A1.ex.trans x2⟩, FinS.ext F1' x2⟩
      | cnt σ2 S2 => rw [hb] at F1'; exact fun m' H' σ' x2 rs sl => ⟨m', S2, σ2, ⟨rs, sl, A1.ex.trans x2⟩, FinS.ext F1' x2⟩
      | brk σ2 S2 => rw [hb] at F1'; exact F1'
      | ret d S2 => rw [hb] at F1'; exact F1'
      | exc c v σ2 S2 => rw [hb] at F1'; exact F1'
      | bad => rw [hb] at F1'; exact F1'
theorem z_for (g : Gd G T Y k c X) (gs : Gs X) {tg it : Expr} {b : List Stmt} {tg' : Tg} {l : L} {b' : Ss} {pos : Pos} (hs : noSet it = true) (h0 : PI X tg it (iL B (evL Y l))) (hg : PG X tg (gT B tg')) (h1 : PSs X b (tS B (evSs Y b'))) : PS X (.For tg it b [] pos) (tS B (evS Y (.for_ tg' l b'))) := by
  refine PS.imp (ps_for gs.po g.calm h0 hg h1 (fun x => by cases it <;> first | rfl | (cases hs))) fun Z σ H ⟨m, S, σI, A, F⟩ => ?_
  have F0 := FinS.out (show FinS B m H Z ((evL Y l σI S).out σI fun p S1 => forGo p.2 tg' (evSs Y b') p.1 σI S1) from F)
  refine ⟨m, S, σI, A, F0.imp fun p S1 m1 H1 x rs F1 J hw => ?_⟩
  obtain ⟨ds, s⟩ := p
  have A1 := A.next x rs
  refine ⟨fun i n σ H => n = ds.length - i ∧ i ≤ ds.length ∧ ∃ m S σI, At B m S H σI σ ∧ Ext m1 H1 m H ∧ FinS B m H Z (forGo s tg' (evSs Y b') (ds.drop i) σI S), ⟨_, rfl, Nat.zero_le _, m1, S1, σI, A1, Ext.refl, F1⟩, ?_⟩
  rintro i n σ H ⟨rfl, hi, m, S, σI, A, x, F⟩
  by_cases hlt : i < ds.length
  · rw [List.drop_eq_getElem_cons hlt] at F
    unfold forGo at F
    split at F
    · next st =>
      obtain ⟨go, yld⟩ := (hw m S H x A.rs st).1 i ds[i] (by simp [hlt])
      refine .inr ⟨go, fun σ' H' => ∃ m S σI, At B m S H' σI σ' ∧ Ext m1 H1 m H' ∧ FinS B m H' Z (forGo s tg' (evSs Y b') (ds.drop (i + 1)) σI S), fun σ' H' h => ⟨ds.length - (i + 1), by omega, rfl, hlt, h⟩, fun y H' hy => ?_⟩
      obtain ⟨rfl, ry⟩ := yld y H' hy
      split at F
      · exact absurd F (fun z => z)
      · next σ1I e1 =>
        refine ⟨m, S, σI, ds[i], σ1I, A, ry, e1, fun σ1 sl1 _ => ⟨m, S, σ1I, ⟨A.rs, sl1, A.ex⟩, ?_⟩⟩
        have again : ∀ σ2 S2, FinS B m H' Z (forGo s tg' (evSs Y b') (ds.drop (i + 1)) σ2 S2) → ∀ m' H2 σ', Ext m H' m' H2 → RS B.T m' S2 H2 → RSl B.T.K m' H2 σ2 σ' → ∃ m S σI, At B m S H2 σI σ' ∧ Ext m1 H1 m H2 ∧ FinS B m H2 Z (forGo s tg' (evSs Y b') (ds.drop (i + 1)) σI S) :=
          fun σ2 S2 Fz m' H2 σ' xz rz sz => ⟨m', S2, σ2, ⟨rz, sz, A.ex.trans xz⟩, x.trans xz, FinS.ext Fz xz⟩
        cases hb : evSs Y b' σ1I S with
        | nx σ2 S2 => rw [hb] at F; exact again σ2 S2 F
        | cnt σ2 S2 => rw [hb] at F; exact again σ2 S2 F
        | brk σ2 S2 => rw [hb] at F; exact F
        | ret d S2 => rw [hb] at F; exact F
        | exc c v σ2 S2 => rw [hb] at F; exact F
        | bad => rw [hb] at F; exact F
    · exact absurd F (fun z => z)
  · have e : i = ds.length := by omega
    subst e
    rw [List.drop_length] at F
    unfold forGo at F
    split at F
    · next st => exact .inl ⟨(hw m S H x A.rs st).2, FinS.nx F A.rs A.sl⟩
    · exact absurd F (fun z => z)
end
end Py
end
section
set_option linter.all false
set_option maxRecDepth 100000
/-! PyT: tuples to names, the induction over statements. -/
namespace Py
open PySem PySem.Spec PyProof.Rows L2
section
variable {G : Gt} {T : Tb} {Y : Ev} {k n : Nat} {c : Ct} {X : Cx} {B : Bs}
theorem filt_len {α β : Type} (f : α → Option β) : ∀ {l : List α}, (l.filterMap f).length = l.length → Paired (fun e x => f e = some x) l (l.filterMap f)
  | [], _ => .nil
  | a :: l, h => by
    rw [List.filterMap_cons] at h ⊢
    cases q : f a with
    | none =>
      rw [q] at h
      have : (l.filterMap f).length ≤ l.length := List.length_filterMap_le _ _
      simp only [List.length_cons] at h
      omega
    | some x =>
      rw [q] at h
      simp only [List.length_cons, Nat.add_right_cancel_iff] at h
      exact .cons q (filt_len f h)
/-- what the language makes of the stores -/
theorem sw_of {ts es : List Expr} {j j2 : Nat} {p p2 : Pos} {env : Env} (hc : es.all (foldedForSure 8) = true ∨ es.all (constantsAlone 8) = false) :
    swappedStores [.Tuple ts j p] (.Tuple es j2 p2) env = pure none ∨ ∃ names, swappedStores [.Tuple ts j p] (.Tuple es j2 p2) env = pure (some names) ∧ (ts.length = 2 ∨ ts.length = 3) ∧ Paired (fun e x => ∃ q, e = .Name x q ∧ env.kindOf x = some .local) ts names := by
  unfold swappedStores
  dsimp only
  split
  · exact .inl rfl
  · next h1 =>
    split
    · exact .inl rfl
    · split
      · exact .inl rfl
      · next h3 =>
        split
        · exact .inl rfl
        · next h4 =>
          split
          · next h5 =>
            rcases hc with hc | hc
            · exact absurd hc h4
            · rw [hc] at h5; cases h5
          · refine .inr ⟨_, rfl, ?_, ?_⟩
            · simp only [Bool.or_eq_true, Bool.not_eq_true', not_or, beq_iff_eq, Bool.or_eq_false_iff, Bool.not_eq_true, bne_iff_ne] at h1
              by_cases h2 : ts.length = 2
              · exact .inl h2
              · by_cases h3 : ts.length = 3
                · exact .inr h3
                · exact absurd h1.1.1 (by simp [h2, h3])
            · have hl : (ts.filterMap fun e => match e with
                  | .Name id pos => if (env.kindOf id == some .local && pos.line == (ts.head?.map (·.pos.line)).getD 0) = true then some id else none
                  | _ => none).length = ts.length := by
                simp only [Bool.or_eq_true, not_or, bne_iff_ne, ne_eq, Decidable.not_not] at h3
                exact h3.1
              refine Paired.mapP (filt_len _ hl) fun e x hx => ?_
              split at hx
              · next id pos =>
                split at hx
                · next hk =>
                  cases hx
                  simp only [Bool.and_eq_true] at hk
                  exact ⟨pos, rfl, beq_iff_eq.mp hk.1⟩
                · cases hx
              · cases hx
theorem tA_out {m : List Addr} {S : Sto} {H : Hp} {σI : Sl} {σ : L2.St} {es : Es} {g : List D → Sto → Out} {E : Ends} {Q : List V → Hp → Prop} (A : At B m S H σI σ) (F : FinS B m H E ((evEs Y es σI S).out σI g))
    (h : ∀ ds S1 m1 H1 vs, Ext m H m1 H1 → At B m1 S1 H1 σI σ → RDs B.T.K m1 H1 ds vs → FinS B m1 H1 E (g ds S1) → Q vs H1) : tA B (evEs Y es) σ H Q :=
  ⟨m, S, σI, A, (FinS.out F).imp fun d S1 m1 H1 x rs F1 v rv => h d S1 m1 H1 v x (A.next x rs) rv F1⟩
/-- x, y = e1, e2 -/
theorem z_par (g : Gd G T Y k c X) (gs : Gs X) (hT : B.T = T) {ts es : List Expr} {es' : Es} {is : List Nat} {j j2 : Nat} {pt p2 pos : Pos} (hl : es.length = ts.length) (h100 : es.length ≤ 100) (hc : es.all (foldedForSure 8) = true ∨ es.all (constantsAlone 8) = false) (hv : varNs c ts = some is) (nd : is.Nodup)
    (ha : PA X es (tA B (evEs Y es'))) : PS X (.Assign [.Tuple ts j pt] (.Tuple es j2 p2) pos) (tS B (evS Y (.par is es'))) := by
  obtain ⟨q1, q2, q3, q4⟩ := g_names g hv
  have rd : ∀ (Z : Ends) σ H, tS B (evS Y (.par is es')) Z σ H → tA B (evEs Y es') σ H fun vs H1 => vs.length = is.length ∧ Z.nx (setsV σ is vs) H1 ∧ ∀ p, H1 p = none → Z.nx (setsV σ is vs) (upd H1 p (.tup vs)) := by
    rintro Z σ H ⟨m, S, σI, A, F⟩
    refine tA_out A F fun ds S1 m1 H1 vs x A1 rvs F1 => ?_
    obtain ⟨σI', e1, F2⟩ := FinS.outO F1
    obtain ⟨r1, r2⟩ := setAll_rel e1 rvs A1.sl
    refine ⟨r2, FinS.nx F2 A1.rs r1, fun p hp => ?_⟩
    have x2 : Ext m1 H1 m1 (upd H1 p (.tup vs)) := Ext.new hp
    exact FinS.nx (FinS.ext F2 x2) (A1.rs.new hp) (r1.ext A1.rs x2)
  rcases sw_of (env := X.env) (p := pt) (j := j) (j2 := j2) (p2 := p2) hc with hw | ⟨names, hw, hlen, hnm⟩
  · refine PS.imp (ps_asg (pe_tup ha) (pg_tup g.calm q1 q3 q4) rfl hw rfl) fun Z σ H h => ?_
    obtain ⟨m, S, σI, A, F⟩ := rd Z σ H h
    refine ⟨m, S, σI, A, F.imp fun ds S1 m1 H1 x rs q vs rv => ?_⟩
    obtain ⟨h1, h2, h3⟩ := q vs rv
    exact ⟨by rw [h1, q2, ← hl, sizeLine_eq]; omega, fun p hp => ⟨p, vs, rfl, SqT.of upd_same, by rw [h1, q2], h1, h3 p hp⟩⟩
  · have look : ∀ {e : Expr} {x : Str}, (∃ q, e = .Name x q ∧ X.env.kindOf x = some .local) → ∀ {i : Nat}, varN c e = some i → X.N[i]? = some x ∧ X.env.scope.names.lookup x = some .local ∧ ∃ q, e = .Name x q := by
      rintro e x ⟨q, rfl, hk⟩ i hi
      obtain ⟨x', p', e1, _, hwr⟩ := var_n hi
      cases e1
      exact ⟨(g.wr hwr).1, hk, q, rfl⟩
    cases ts with
    | nil => rcases hlen with h | h <;> cases h
    | cons t1 ts =>
      obtain ⟨i1, v1, u1⟩ := Option.bind_eq_some_iff.mp (show (varN c t1).bind _ = some is from hv)
      obtain ⟨is1, y1, rfl⟩ := Option.map_eq_some_iff.mp u1
      cases ts with
      | nil => rcases hlen with h | h <;> cases h
      | cons t2 ts =>
        obtain ⟨i2, v2, u2⟩ := Option.bind_eq_some_iff.mp (show (varN c t2).bind _ = some is1 from y1)
        obtain ⟨is2, y2, rfl⟩ := Option.map_eq_some_iff.mp u2
        cases hnm with
        | @cons _ x1 _ r1 n1 hnm =>
          cases hnm with
          | @cons _ x2 _ r2 n2 hnm =>
            obtain ⟨a1, b1, p1, rfl⟩ := look n1 v1
            obtain ⟨a2, b2, p2', rfl⟩ := look n2 v2
            have ne12 : i1 ≠ i2 := fun z => by
              rw [List.nodup_cons] at nd
              exact nd.1 (by rw [z]; exact List.mem_cons_self)
            cases ts with
            | nil =>
              cases y2
              cases hnm
              match es, hl with
              | [e1, e2], _ =>
                refine PS.imp (ps_par g.calm g.nd a1 a2 ne12 b1 b2 ha hw rfl) fun Z σ H h => ?_
                obtain ⟨m, S, σI, A, F⟩ := rd Z σ H h
                refine ⟨m, S, σI, A, F.imp fun ds S1 m1 H1 x rs q vs rv => ?_⟩
                obtain ⟨h1, h2, _⟩ := q vs rv
                match vs, h1 with
                | [w1, w2], _ => exact ⟨w1, w2, rfl, h2⟩
            | cons t3 ts =>
              obtain ⟨i3, v3, u3⟩ := Option.bind_eq_some_iff.mp (show (varN c t3).bind _ = some is2 from y2)
              obtain ⟨is3, y3, rfl⟩ := Option.map_eq_some_iff.mp u3
              cases ts with
              | cons _ _ => rcases hlen with h | h <;> simp at h
              | nil =>
                cases y3
                cases hnm with
                | @cons _ x3 _ r3 n3 hnm =>
                  cases hnm
                  obtain ⟨a3, b3, p3, rfl⟩ := look n3 v3
                  have ne13 : i1 ≠ i3 := fun z => by
                    rw [List.nodup_cons] at nd
                    exact nd.1 (by rw [z]; simp)
                  have ne23 : i2 ≠ i3 := fun z => by
                    rw [List.nodup_cons, List.nodup_cons] at nd
                    exact nd.2.1 (by rw [z]; simp)
                  match es, hl with
                  | [e1, e2, e3], _ =>
                    refine PS.imp (ps_par3 g.calm g.nd a1 a2 a3 ne12 ne13 ne23 b1 b2 b3 ha hw rfl) fun Z σ H h => ?_
                    obtain ⟨m, S, σI, A, F⟩ := rd Z σ H h
                    refine ⟨m, S, σI, A, F.imp fun ds S1 m1 H1 x rs q vs rv => ?_⟩
                    obtain ⟨h1, h2, _⟩ := q vs rv
                    match vs, h1 with
                    | [w1, w2, w3], _ => exact ⟨w1, w2, w3, rfl, h2⟩

/-! ### raise, try: asked for -/
def RaiseOk (G : Gt) (T : Tb) (Y : Ev) (k : Nat) : Prop := ∀ (c : Ct) (X : Cx) (B : Bs), Gd G T Y k c X → B.T = T → Takes X (wxOf B) → ∀ (x : Str) (q : Nat) (e : Expr) (e' : E) (p pos pos2 : Pos), c.gl x = true → odd x = false → plainArgs [e] = true → G.exs.lookup x = some q → PE X e (tE B (evE Y e')) →
  PS X (.Raise (some (.Call (.Name x p) [e] [] pos)) none pos2) (tS B (evS Y (.rais q e')))
def TryOk (G : Gt) (T : Tb) (Y : Ev) (k : Nat) : Prop := ∀ (c : Ct) (X : Cx) (B : Bs), Gd G T Y k c X → Gs X → B.T = T → Takes X (wxOf B) → ∀ (x nm : Str) (q i : Nat) (b h : List Stmt) (b' h' : Ss) (np pos pos' : Pos), c.gl x = true → odd x = false → odd nm = false → c.sc.names.lookup nm = some .local →
  G.exs.lookup x = some q → ixS c.N nm = some i → (∀ (X' : Cx) (B' : Bs), Gd G T Y k c X' → Gs X' → B'.T = T → Takes X' (wxOf B') → PSs X' b (tS B' (evSs Y b'))) → trH G c nm i h = some h' →
  PS X (.Try b [.ExceptHandler (some (.Name x np)) (some nm) h pos'] [] [] pos) (tS B (evS Y (.try_ b' q i h')))

structure Zd (G : Gt) (T : Tb) (Y : Ev) (k n : Nat) : Prop where
  zS : ∀ (c : Ct) (X : Cx) (s : Stmt) (s' : Sm) (B : Bs), Gd G T Y k c X → Gs X → B.T = T → Takes X (wxOf B) → trS G n c s = some s' → PS X s (tS B (evS Y s'))
  zSs : ∀ (c : Ct) (X : Cx) (s : List Stmt) (s' : Ss) (B : Bs), Gd G T Y k c X → Gs X → B.T = T → Takes X (wxOf B) → trSs G n c s = some s' → PSs X s (tS B (evSs Y s'))
theorem zdS (hR : RaiseOk G T Y k) (hY : TryOk G T Y k) (ih : Zd G T Y k n) (c : Ct) (X : Cx) (s : Stmt) (s' : Sm) (B : Bs) (g : Gd G T Y k c X) (gs : Gs X) (hT : B.T = T) (tk : Takes X (wxOf B)) (h : trS G (n + 1) c s = some s') : PS X s (tS B (evS Y s')) := by
  have ie := sd (G := G) (T := T) (Y := Y) (k := k) n
  unfold trS at h
  split at h
  · -- Expr
    next e pos =>
    split at h
    · cases h
    · next hc =>
      have hc' : isComp e = false := by simpa using hc
      split at h
      · cases h; exact z_doc
      · obtain ⟨e', h1, rfl⟩ := Option.map_eq_some_iff.mp h
        exact z_expr hc' (ie.qE c X _ e' B g hT tk h1).1
  · -- Assign
    next tg e pos =>
    split at h
    · split at h
      · cases h
      · simp only [Option.bind_eq_some_iff, Option.map_eq_some_iff] at h
        obtain ⟨i, h1, e', h2, rfl⟩ := h
        exact z_set g gs hT tk h1 h2
    · split at h
      · split at h
        · next hc =>
          simp only [Option.bind_eq_some_iff] at h
          obtain ⟨is, h1, h2⟩ := h
          split at h2
          · next nd =>
            obtain ⟨es', h3, rfl⟩ := Option.map_eq_some_iff.mp h2
            exact z_par g gs hT hc.2.1 hc.2.2.1 hc.2.2.2 h1 nd ((ie.qEs c X _ es' B g hT tk h3).1 hc.1)
          · cases h2
        · cases h
      · next ht =>
        split at h
        · cases h
        · next hc =>
          have hc' : isComp e = false := by simpa using hc
          simp only [Option.bind_eq_some_iff, Option.map_eq_some_iff] at h
          obtain ⟨is, h1, e', h2, rfl⟩ := h
          exact z_unp g hT hc' (fun es k p z => ht es k p z) h1 (ie.qE c X _ e' B g hT tk h2).1
    · split at h
      · next hs =>
        simp only [Option.bind_eq_some_iff, Option.map_eq_some_iff] at h
        obtain ⟨e', h1, o', h2, i', h3, rfl⟩ := h
        exact z_setI g hT hs (ie.qE c X _ e' B g hT tk h1).1 (ie.qE c X _ o' B g hT tk h2).1 (ie.qE c X _ i' B g hT tk h3).1
      · cases h
    · split at h
      · next hs =>
        simp only [Option.bind_eq_some_iff, Option.map_eq_some_iff] at h
        obtain ⟨e', h1, o', h2, j, h3, rfl⟩ := h
        exact z_setF g hT hs h3 (ie.qE c X _ e' B g hT tk h1).1 (ie.qE c X _ o' B g hT tk h2).1
      · cases h
    · cases h
  · -- AugAssign
    split at h
    · split at h
      · cases h
      · simp only [Option.bind_eq_some_iff] at h
        obtain ⟨i, h1, h2⟩ := h
        split at h2
        · obtain ⟨e', h3, rfl⟩ := Option.map_eq_some_iff.mp h2
          exact z_aug g h1 (.inl ⟨rfl, rfl⟩) (ie.qE c X _ e' B g hT tk h3).1
        · obtain ⟨e', h3, rfl⟩ := Option.map_eq_some_iff.mp h2
          exact z_aug g h1 (.inr ⟨rfl, rfl⟩) (ie.qE c X _ e' B g hT tk h3).1
        · cases h2
    · cases h
  · simp only [Option.bind_eq_some_iff, Option.map_eq_some_iff] at h
    obtain ⟨t', h1, a', h2, b', h3, rfl⟩ := h
    exact z_ife (ie.qE c X _ t' B g hT tk h1).2 (ih.zSs c X _ a' B g gs hT tk h2) (ih.zSs c X _ b' B g gs hT tk h3)
  · simp only [Option.bind_eq_some_iff, Option.map_eq_some_iff] at h
    obtain ⟨t', h1, b', h3, rfl⟩ := h
    exact z_whl gs (ie.qE c X _ t' B g hT tk h1).2 (ih.zSs c X _ b' B g gs hT tk h3)
  · split at h
    · next hs =>
      simp only [Option.bind_eq_some_iff, Option.map_eq_some_iff] at h
      obtain ⟨tg', h1, l, h2, b', h3, rfl⟩ := h
      exact z_for g gs hs ((ie.qL c X _ l B g hT tk h2 hs).1 _) (g_tg g hT h1) (ih.zSs c X _ b' B g gs hT tk h3)
    · cases h
  · cases h; exact z_retN
  · obtain ⟨e', h1, rfl⟩ := Option.map_eq_some_iff.mp h
    exact z_ret (ie.qE c X _ e' B g hT tk h1).1
  · next x p e pos pos2 =>
    split at h
    · cases h
    · next hc =>
      simp only [Option.bind_eq_some_iff, Option.map_eq_some_iff] at h
      obtain ⟨q, h1, e', h2, rfl⟩ := h
      have hg : c.gl x = true := by
        cases q : c.gl x with
        | true => rfl
        | false => exact absurd (.inl q) hc
      have ho : odd x = false := by
        cases q : odd x with
        | false => rfl
        | true => exact absurd (.inr (.inl q)) hc
      have hp : plainArgs [e] = true := by
        cases q : plainArgs [e] with
        | true => rfl
        | false => exact absurd (.inr (.inr q)) hc
      exact hR c X B g hT tk x q e e' p pos pos2 hg ho hp h1 (ie.qE c X e e' B g hT tk h2).1
  · next b x np nm h0 pos' pos =>
    split at h
    · cases h
    · next hc =>
      simp only [Option.bind_eq_some_iff, Option.map_eq_some_iff] at h
      obtain ⟨q, h1, i, h2, b', h3, h', h4, rfl⟩ := h
      have hg : c.gl x = true := by
        cases q : c.gl x with
        | true => rfl
        | false => exact absurd (.inl q) hc
      have ho : odd x = false := by
        cases q : odd x with
        | false => rfl
        | true => exact absurd (.inr (.inl q)) hc
      have ho2 : odd nm = false := by
        cases q : odd nm with
        | false => rfl
        | true => exact absurd (.inr (.inr (.inl q))) hc
      have hl : c.sc.names.lookup nm = some .local := by
        refine Classical.byContradiction fun z => hc (.inr (.inr (.inr z)))
      exact hY c X B g gs hT tk x nm q i b h0 b' h' np pos pos' hg ho ho2 hl h1 h2 (fun X' B' g' gs' hT' tk' => ih.zSs c X' b b' B' g' gs' hT' tk' h3) h4
  · cases h; exact z_pass
  · cases h; exact z_brk
  · cases h; exact z_cnt
  · cases h
theorem zd (hR : RaiseOk G T Y k) (hY : TryOk G T Y k) : ∀ n, Zd G T Y k n
  | 0 => ⟨fun c X s s' B g gs hT tk h => (by simp only [trS] at h; cases h), fun c X s s' B g gs hT tk h => (by simp only [trSs] at h; cases h)⟩
  | n + 1 => by
    have ih := zd hR hY n
    refine ⟨zdS hR hY ih, fun c X ss ss' B g gs hT tk h => ?_⟩
    simp only [trSs] at h
    split at h
    · cases h; exact z_nil
    · next s r =>
      simp only [Option.bind_eq_some_iff, Option.map_eq_some_iff] at h
      obtain ⟨s', h1, r', h2, rfl⟩ := h
      exact z_cons (ih.zS c X s s' B g gs hT tk h1) (ih.zSs c X r r' B g gs hT tk h2)
end
end Py
end
section
set_option linter.all false
set_option maxRecDepth 100000
/-! PyU: an error's own __init__ (super().__init__(text), self.value = value) runs. -/
namespace Py
open PySem PySem.Spec PyProof.Rows L2 PySem.W

section
variable {P : Program} {w : World} {K : Frag} {A : Around} {s : Shared} {fI D C a : Addr} {fd : FuncData} {sf pr : Str} {args : Args} {u : Value} {R : Result → Shared → Prop}
theorem meth_eqB {o : Expr} {m : Str} {apos pos : Pos} {args : List Expr} {env : Env} (hp : plainArgs args = true) (hn : args.length < 30) (hl : (apos.endLine == pos.line) = true) :
    eval (.Call (.Attribute o m apos) args [] pos) env = (do
      let ov ← attributeBase o m env (eval o env)
      standAt apos.atName
      let (f, first) ← holding [ov] (getMethod ov m (do return (← importBound o env).getD true))
      callWith pos f first (backTo pos (starEach args env)) (backToKw pos (keywordEach [] env))) := by
  have all : (backTo pos (starEach args env)).all (fun x => !x.1) = true := by
    have h2 := star_back hp env pos
    rw [List.all_eq_not_any_not]
    simp only [Bool.not_not]
    rw [h2]; rfl
  have form : methodCallForm (args.length + 0) (backTo pos (starEach args env)) (backToKw pos (keywordEach [] env)) = true := by
    unfold methodCallForm
    rw [all]
    show (true && true && decide (args.length + 0 + 0 < 30)) = true
    rw [decide_eq_true (by omega)]; rfl
  show (do let ov ← attributeBase o m env (eval o env); standAt apos.atName; methodCall o m apos pos env ov (args.length + 0) (backTo pos (starEach args env)) (backToKw pos (keywordEach [] env))) = _
  unfold methodCall
  rw [form]
  unfold calleeOf methodCallPos
  simp only [hl, Bool.or_true, if_true]
  rfl
theorem init_run (I : IniK P K fI D fd sf pr) (MX : MkX K D C) (X : K.In s.heap) (hlim : s.heap.NoLimit) (hroom : A.depth < recursionLimit)
    (hg : ∃ mg, s.heap.Ns mainGlobals mg ∧ mg "super" = none) (hb : ∃ mb, s.heap.Ns builtinsNs mb ∧ ∀ x : Str, x ≠ "__name__" → mb x = bootBuiltins x)
    (hbind : BindsTo s fd args [(sf, .ref a), (pr, u)]) (hKa : K.lookup a = none) {t1 : Addr} (ha : s.heap.get? a = some (HandSPX.excO C t1))
    (hR : ∀ h' tk' dx t2, (∀ b o, b ≠ a → s.heap.get? b = some o → h'.get? b = some o) → s.heap.objs.size ≤ dx → dx ≠ a → h'.get? a = some { cls := .ref C, dict := some dx, data := .fields #[.ref t2, .none, .none, .none, .bool false, .none] } →
      h'.Ns1 dx (fun y => if y = "value" then some u else none) → R (.ok (.ret .none)) ⟨h', s.gens, s.drawn, tk', s.os⟩) :
    codeAny (model P w) A (.call (.ref fI) args) R s := by
  obtain ⟨name, qual, params, msg, j, p0, p1, p2, p3, p4, p5, p6, p7, p8, p9, scope, dV, kV, doc, pm, ct, oc, an, od, osl, cc, cda, ar, vs, file, tf, ccl, cl, cdd, cld, ccs, csl, cdD, rfl, lk, hcd, har, hars, hne, hls, hlp, hsu, hcl, hk, hco, hgen, hcell, os1, os2, hln, lcda, hvs, hfile, htop, lcc, hcD, hop⟩ := I.ex
  obtain ⟨nm, q, N, bs, bm, sn, sub, ab, col, dd, k0, k1, k2, k3, k5, hC, hbm⟩ := MX.ox.cls
  have hcl' : clsIn K C = some { name := nm, bases := bs, mro := .ref C :: bm, ns := N, qualname := q, hasDict := true, slotNames := sn, subclasses := sub, abstract := ab, collection := col, hasDel := false } := by unfold clsIn; rw [hC] <;> rfl
  obtain ⟨mg, hgn, hgm⟩ := hg
  obtain ⟨mb, hbn, hbm'⟩ := hb
  obtain ⟨hp, gg, dr, tk, os⟩ := s
  refine ks_codeAny_call_defAt (binds := [(sf, .ref a), (pr, u)]) hroom (X _ _ lk) rfl hlim (codeRec_of X hcd) rfl hbind hcell (fun x hx => ?_) (fun h₀ hns hk₁ => ?_) hco hgen hk
  · rcases List.mem_cons.mp hx with rfl | hx
    · exact hls
    · rw [List.mem_singleton.mp hx]; exact hlp
  have mself : ([(sf, Value.ref a), (pr, u)] : List (Str × Value)).reverse.lookup sf = some (.ref a) := by
    show List.lookup sf [(pr, u), (sf, Value.ref a)] = _
    rw [List.lookup_cons, show (sf == pr) = false from by simpa using hne, List.lookup_cons, beq_self_eq_true]
  have mval : ([(sf, Value.ref a), (pr, u)] : List (Str × Value)).reverse.lookup pr = some u := by
    show List.lookup pr [(pr, u), (sf, Value.ref a)] = _
    rw [List.lookup_cons, beq_self_eq_true]
  have X0 : K.In h₀ := X.keeps hk₁
  have ha0 := hk₁ _ _ ha
  -- super().__init__(text)
  have FBV := F.excBase_ValueError
  refine ks_wpAt_execs_cons (ks_wpAt_Expr_any (ks_wpAt_MethodCall ?_ (meth_eqB rfl (show 1 < 30 by decide) hln)) (by show (scope.kind == ScopeKind.module && _) = false; rw [hk]; rfl) rfl)
  refine ks_wpAt_super_base (f := fI) (cc := cda) (vs := vs) (file := file) (tf := tf) (ar := ar) hsu hcl (by decide) rfl (X0 _ _ lk) rfl har rfl (X0 _ _ lcda) rfl hvs hfile htop ?_
  refine ks_loadName_global hk hsu (PySem.Calls.loadGlobal_builtin (mg := mg) (mb := mb) (v := .type "super") (hgn.keeps hk₁) hgm (hbn.keeps hk₁) ((hbm' "super" (by decide)).trans (by kernel_rfl)) ⟨rfl, ?_⟩)
  refine wpAny_loadName_free (c := cc) hk hcl rfl ⟨_, X0 _ _ lcc, rfl⟩ ?_
  refine wpAny_loadName_local (v := .ref a) hk (by rw [hars]; exact hls) hns (by rw [hars]; exact mself) ?_
  obtain ⟨oD, hD1, hD2⟩ : ∃ oD, h₀.get? D = some oD ∧ oD.data = .cls cdD := by
    unfold clsIn at hcD
    split at hcD
    · rename_i ho
      cases hcD
      exact ⟨_, X0 _ _ ho, rfl⟩
    · cases hcD
  refine ks_wpAny_isType_cls hD1 hD2 ⟨rfl, ?_⟩
  refine ks_wpAny_call_super hD1 hD2 ha0 rfl (fun c e => by cases e) (looks_mroIn X0 MX.sub) (fun h1 hso k1' => ?_)
  have k1 : ∀ b o, hp.get? b = some o → h1.get? b = some o := fun b o e => k1' b o (hk₁ b o e)
  have X1 : K.In h1 := X.keeps k1
  have ha1 := k1 _ _ ha
  have J1 : InstAt h1 a (HandSPX.excO C t1) C none := ⟨ha1, rfl, rfl, trivial⟩
  refine kxs_getMethod (K := K) (l₀ := .ref C :: bm) kxs_ValueError hso (looks_opaque X1 hop) ?_ rfl X1 ?_ (J1.type.andThen (looks_subIn X1 MX.ve)) (ks_ne X1 J1 hcl') (by decide) ?_
  · exact fun A Q E s k q => wpAny_bind ((looks_clsIn X1 hcl') A _ E s k (wpAny_pure q))
  · have e := MX.sup
    unfold ks_superIn at e
    rw [hcl'] at e
    exact e
  refine kxs_callWith (i := "ValueError.__init__") (x := a) rfl ?_
  refine PySem.Calls.evalArgs_plain (PySem.Calls.spliced_cons ?_)
  refine PySem.Calls.Constant_str (x := msg) (k := j) (pos := p3) (PySem.Calls.spliced_nil ⟨Heap.get?_push_size _ rfl, ?_⟩)
  have k2 : ∀ b o, hp.get? b = some o → (h1.push (kxs_mw "ValueError.__init__" a)).get? b = some o := fun b o e => Heap.get?_push_of_some _ (k1 b o e)
  have ha2 := k2 _ _ ha
  refine wpAny_call (codeAny_of_tree ?_)
  show wpAny _ _ (callAny (.ref h1.objs.size) ⟨[.str msg _], []⟩) _ _ _
  simp only [callAny]
  refine wpAny_bind (wpAny_load (Heap.get?_push_size _ rfl) ?_)
  simp only [kxs_mw, show (Value.type "method-wrapper" == Value.type "method" || Value.type "method-wrapper" == Value.type "builtin_function_or_method" || Value.type "method-wrapper" == Value.type "method-wrapper") = true by decide, if_true]
  refine KFB.if_so (by decide) ?_
  refine wpAny_bind (check_bound_init FBV.toExcCallFacts (k2 _ _ (X _ _ hC)) ha2 rfl ?_)
  refine wpAny_bind (wpAny_pure (wpAny_pure ?_))
  refine ⟨plainId_quiet FBV.init.plain _, codeAny_builtin FBV.initEntry ?_⟩
  refine exc_init_tree (cls := .ref C) (t0 := t1) (dv := none) (c2 := .none) (c3 := .none) (b4 := .bool false) ha2 (by show 1 ≤ sizeLine; decide) (fun h3 k3 ha3 _ => ?_)
  have k3' : ∀ b o, b ≠ a → hp.get? b = some o → h3.get? b = some o := fun b o n e => k3 b o n (k2 b o e)
  have hCa : ∀ b o, K.lookup b = some o → b ≠ a := fun b o e z => by
    subst z
    rw [hKa] at e; cases e
  have X3 : K.In h3 := fun b o e => k3' b o (hCa b o e) (X b o e)
  have hLa : hp.objs.size ≠ a := Nat.ne_of_gt (Heap.lt_size ha)
  have ns3 : h3.Ns hp.objs.size (fun x => ([(sf, Value.ref a), (pr, u)] : List (Str × Value)).reverse.lookup x) := by
    obtain ⟨o, es, ep, ho, r⟩ := hns
    exact ⟨o, es, ep, k3 _ _ hLa (Heap.get?_push_of_some _ (k1' _ _ ho)), r⟩
  refine ks_wpAt_execs_cons (wpAt_of_wpAny ?_)
  refine plainObj_wpAny_Assign_Attribute (wpAny_Name (wpAny_loadName_local hk hlp ns3 mval ?_) (odd_not (show odd pr = false from os2)).1) rfl
  refine wpAny_Name (wpAny_loadName_local hk hls ns3 mself ?_) (odd_not (show odd sf = false from os1)).1
  refine set_plain X3 (ox := { cls := .ref C, dict := none, data := .fields #[.ref (h1.push (kxs_mw "ValueError.__init__" a)).objs.size, .none, .none, .none, .bool false, .none] }) (od := none) ⟨ha3, rfl, rfl, trivial⟩ MX.ox.sa ?_
  refine HandSPX.exc_osa X3 ha3 hcl' (show HandSPX.refsVE (.ref C :: bm) = true from hbm) rfl MX.no (fun h4 tk4 dx k4 dn dne ha4 hn4 => ?_)
  refine wpAt_of_wpAny (wpAny_execs_nil ?_)
  refine hR h4 tk4 dx _ (fun b o n e => k4 b o n (k3' b o n e)) (Nat.le_trans (Nat.le_of_lt ns3.lt) dn) dne ha4 hn4
end
end Py
end
section
set_option linter.all false
set_option maxRecDepth 100000
/-! PyV: raise X(v). -/
namespace Py
open PySem PySem.Spec PyProof.Rows L2
section
variable {G : Gt} {T : Tb} {Y : Ev} {k : Nat} {c : Ct} {X : Cx} {B : Bs}
/-- X(v) of an error's class, as a raise wants it -/
theorem pmk_day {x : Str} {C fI D : Addr} {fd : FuncData} {sf pr : Str} {e : Expr} {te : TE} {p pos : Pos} {k : Nat} (IK : IniK X.prog X.K fI D fd sf pr) (MX : MkX X.K D C) (iC : PySem.W.findIn X.K (.ref C) "__init__" = some (some (.ref fI))) (tI : PySem.W.typeIn X.K (.ref fI) = some (.type "function"))
    (hb : Binds X.K fd [sf, pr] []) (hsup : X.mg "super" = none) (hr : Room k X.A) (hg : Gl X x) (hm : X.mg x = some (.ref C)) (he : PE X e te) (hp : plainArgs [e] = true) (hdb : (x == ("__debug__" : Str)) = false) :
    PMk X (.Call (.Name x p) [e] [] pos) (fun σ H Q => te σ H fun v H1 => ∀ d, H1 d = none → Q (.ref C) (some d) (upd H1 d (.xd (valF v)))) := by
  intro pins s σ H Q I h
  obtain ⟨nm, q, N, bs, bm, sn, sub, ab, col, dd, k0, k1, k2, k3, k5, hC, hbm⟩ := MX.ox.cls
  refine wpAny_Call_Name_kw (ld_glob I hg hm ?_ hdb)
  refine PySem.W.callWith_K (h₀ := X.base) I.ok.mod.kin MX.ox.kC (thn ((pa_cons he pa_nil (star_cons hp _)).run pos pins s σ H (fun vs H1 => match vs with | [v] => ∀ d, H1 d = none → Q (.ref C) (some d) (upd H1 d (.xd (valF v))) | _ => False) I ?_) fun us s1 hh => ?_) (star_cons hp _) rfl
  · exact h
  obtain ⟨vs, H1, I1, r1, q1⟩ := hh
  refine ⟨I1.kIn, ?_⟩
  cases vs with
  | nil => exact q1.elim
  | cons v vs' =>
  cases vs' with
  | cons _ _ => exact q1.elim
  | nil =>
  obtain ⟨u, rfl, ru⟩ := vals1 r1
  show wpAny _ _ (call (.ref C) [u]) _ _ _
  obtain ⟨hp', g, dr, tk, os⟩ := s1
  have kk : ∀ b o, hp'.get? b = some o → ((hp'.push (PySem.W.kdv_tup [u])).push (PySem.HandSPX.excO C hp'.objs.size)).get? b = some o := fun b o e => Heap.get?_push_of_some _ (Heap.get?_push_of_some _ e)
  have hget : ((hp'.push (PySem.W.kdv_tup [u])).push (PySem.HandSPX.excO C hp'.objs.size)).get? (hp'.objs.size + 1) = some (PySem.HandSPX.excO C hp'.objs.size) := by heap_get
  have old : ∀ b o, hp'.get? b = some o → b ≠ hp'.objs.size + 1 := fun b o e z => by
    exact absurd (Heap.lt_size e) (by rw [z]; exact Nat.not_lt.mpr (Nat.le_succ _))
  have hKa : X.K.lookup (hp'.objs.size + 1) = none := by
    cases z : X.K.lookup (hp'.objs.size + 1) with
    | none => rfl
    | some o => exact absurd rfl (old _ _ (I1.kIn _ _ z))
  have m := I1.ok.mod
  obtain ⟨mb, hb1, hb2⟩ := m.blt
  have kb : ∀ b o, X.base.get? b = some o → ((hp'.push (PySem.W.kdv_tup [u])).push (PySem.HandSPX.excO C hp'.objs.size)).get? b = some o := fun b o e => kk b o (I1.bk b o e)
  refine wpAny_call (PySem.HandSPX.call_own F.excBase_ValueError (fun Z => PySem.HandSPX.refsVE_contains Z bm hbm) (I1.kIn _ _ hC) (PySem.W.looks_findIn I1.kIn iC) (fun self => PySem.W.bind_fn I1.kIn self tI) (by show 1 ≤ sizeLine; decide) ?_)
  refine init_run (s := ⟨_, g, dr, tk, os⟩) (u := u) IK MX (I1.kIn.keeps kk) (I1.nolimit.keeps kk) (by have := hr.dp; rw [make_depth]; omega) ⟨X.mg, m.glob.keeps kb, hsup⟩ ⟨mb, hb1.keeps kb, hb2⟩
    (hb _ [.ref (hp'.objs.size + 1), u] (I1.kIn.keeps kk) rfl) hKa hget (fun h' tk' dx t2 k' hdx dne hx hn => ?_)
  refine ⟨rfl, ?_⟩
  obtain ⟨G', g1, g2⟩ := restrict h' fun b => decide (b ≠ hp'.objs.size + 1)
  have gk : ∀ b, b ≠ hp'.objs.size + 1 → G'.get? b = h'.get? b := fun b hb => g1 b (decide_eq_true hb)
  have ge : G'.get? (hp'.objs.size + 1) = none := g2 _ (by simp)
  have hd1 : hp'.objs.size ≤ dx := Nat.le_trans (Nat.le_of_lt (Nat.lt_of_succ_lt (Heap.lt_size hget))) hdx
  have J : L2.Inv X pins σ (upd H1 dx (.xd (valF v))) ⟨G', g, dr, tk', os⟩ := by
    refine I1.laid (h' := G') (t' := tk') (fun b o e => ?_) hd1 ?_
    · rw [gk b (old b o e)]; exact k' b o (old b o e) (kk b o e)
    · refine ⟨_, hn.at fun o y => (gk dx dne).trans y, fun f => ?_⟩
      unfold valF
      by_cases hf : f = ("value" : Str)
      · subst hf
        rw [List.lookup_cons, beq_self_eq_true, if_pos rfl]
        exact ru
      · rw [List.lookup_cons, show (f == ("value" : Str)) = false from by simpa using hf, if_neg hf]
        exact True.intro
  refine ⟨hp'.objs.size + 1, _, _, ⟨G', g, dr, tk', os⟩, _, .ref C, some dx, rfl, J, fun b o z => ?_, ge, hx, ⟨rfl, rfl⟩, rfl, rfl, ?_, rfl, I1.bare, raises_own MX.ox.exC MX.ox.tyC, q1 dx (I1.hok.fresh hd1)⟩
  · by_cases hba : b = hp'.objs.size + 1
    · rw [hba, ge] at z; cases z
    · exact (gk b hba).symm.trans z
  · rw [upd_ne (Ne.symm dne)]
    exact I1.hok.fresh (Nat.le_succ _)
theorem raise_ok : RaiseOk G T Y k := by
  intro c X B g hT tk x q e e' p pos pos2 hg ho hp hx he
  subst hT
  obtain ⟨kx, fI, D', fd, sf, pr, IK, MX, iC, tI, hb, hs⟩ := g.pw.xw x q hx
  have hk := g.hK
  rw [← hk] at IK MX iC tI hb
  have PM := pmk_day (p := p) (pos := pos) IK MX iC tI hb hs g.hr (g.gl hg) (g.pw.exs x q hx) he hp (odd_not ho).1
  refine PS.imp (ps_raise g.calm tk PM) fun Z σ H ⟨m, S, σI, A, F⟩ => ?_
  refine tE_out A F fun d S1 m1 H1 v x1 A1 rv F1 dx hdx => ?_
  have x2 : Ext m1 H1 m1 (upd H1 dx (.xd (valF v))) := Ext.new hdx
  have A2 := A1.next x2 (A1.rs.new hdx)
  exact ⟨m1, S1, σI, q, d, dx, v, A2, rfl, rfl, upd_same, rv.ext A1.rs x2, A1.rs.fresh hdx, kx, F1 m1 _ x2 A2.rs⟩
end
end Py
end
section
set_option linter.all false
set_option maxRecDepth 100000
/-! PyW: try: .. except X as n: y = n (or y = n.value); the error that is caught is kept as an object. -/
namespace Py
open PySem PySem.Spec PyProof.Rows L2

section
variable {X : Cx} {pins : List (Addr × Obj)} {σ : L2.St} {H : Hp} {s : Shared} {a : Addr} {o : HO}
/-- an object that stands untracked, made since the entry, is tracked -/
theorem Inv.adopt (I : L2.Inv X pins σ H s) (hn : H a = none) (h0 : X.s_0.heap.get? a = none) (nL : a ≠ X.env.locals) (nC : ∀ x c, X.env.cells.lookup x = some c → c ≠ a) (nP : ∀ p ∈ X.pn ++ pins, p.1 ≠ a)
    (new : ObjOk X.prog X.w (upd H a o) s.heap a o) : L2.Inv X pins σ (upd H a o) s where
  ok := I.ok
  os := I.os
  bare := I.bare
  base := {
    keep := I.base.keep
    slot := I.base.slot
    free := fun b ob e n hx => by
      rw [upd_ne (fun z : b = a => by rw [z, h0] at e; cases e)]
      exact I.base.free b ob e n hx
    there := I.base.there
    tups := fun b xs e => by
      have q := I.base.tups b xs e
      rw [upd_ne (ne_of_none q hn)]; exact q
    frzs := fun b ob xs e => by
      have q := I.base.frzs b ob xs e
      rw [upd_ne (ne_of_none q hn)]; exact q
    tbls := fun b ps e => by
      obtain ⟨more, q⟩ := I.base.tbls b ps e
      exact ⟨more, by rw [upd_ne (ne_of_none q hn)]; exact q⟩ }
  loc := I.loc
  cell := I.cell
  free := by rw [upd_ne (Ne.symm nL)]; exact I.free
  freeC := fun x c e => by rw [upd_ne (nC x c e)]; exact I.freeC x c e
  pin := fun p hp => by
    obtain ⟨e, n, r⟩ := I.pin p hp
    exact ⟨e, by rw [upd_ne (nP p hp)]; exact n, r⟩
  hok := fun b u e => by
    by_cases hb : b = a
    · subst hb
      rw [upd_same] at e
      cases e
      exact new
    · rw [upd_ne hb] at e
      exact (I.hok b u e).stay (fun _ _ _ q => q) (fun c q => by rw [upd_ne (ne_of_none q hn)]; exact q) fun c xs q => by rw [upd_ne (ne_of_none q hn)]; exact q
  len := I.len
end

/-- the context of an except suite, the error tracked -/
abbrev stX (X : Cx) (a : Addr) : Cx := { X with A := X.A.mark (some (.ref a)), calm := false, xe := fun _ _ => False }
section
variable {X : Cx} {pins : List (Addr × Obj)} {σ : L2.St} {H : Hp} {s : Shared} {a : Addr}
theorem okSt (ok : X.Ok) (a : Addr) : (stX X a).Ok :=
  ⟨ok.mod, ok.kind, ok.glob, ok.blt, ok.above, ok.inj, ok.has, ok.cab, (fun z => absurd (show false = true from z) Bool.false_ne_true), ok.frames, ok.stk, ok.exf, ok.bs, ok.bsz, ok.noex, ok.exfs, ok.funs, ok.frf⟩
theorem inSt (I : L2.Inv X pins σ H s) (a : Addr) : L2.Inv (stX X a) pins σ H s := ⟨okSt I.ok a, I.os, I.bare, I.base, I.loc, I.cell, I.free, I.freeC, I.pin, I.hok, I.len⟩
theorem outSt (I : L2.Inv (stX X a) pins σ H s) (ok : X.Ok) : L2.Inv X pins σ H s := ⟨ok, I.os, I.bare, I.base, I.loc, I.cell, I.free, I.freeC, I.pin, I.hok, I.len⟩
end
/-- the wish about errors of a try's body -/
def wTry (K : PySem.W.Frag) (cv : Value) (i : Nat) (ts : TS) (Wout : WX) (Z : Ends) : WX := fun cls d σ H =>
  ∃ b, PySem.W.exmOne K cls cv = some b ∧ (b = true → ∀ a, H a = none → ∃ C dx, cls = .ref C ∧ d = some dx ∧
    ts { nx := fun σ' H' => Z.nx (σ'.set i none) H', rt := Z.rt, bk := fun σ' H' => Z.bk (σ'.set i none) H', ct := fun σ' H' => Z.ct (σ'.set i none) H' } (σ.set i (some (.ref a))) (upd H a (ExcO C dx a))) ∧ (b = false → Wout cls d σ H)
section
variable {X : Cx} {x n : Str} {cv : Value} {i : Nat} {body suite : List Stmt} {b₀ : Stmt} {np pos pos' : Pos} {tb : WX → TS} {ts : TS} {Wout : WX}
theorem ps_tryP (hex : X.ex = []) (hs : X.stack = X.env :: X.outer) (hf : X.env.frame = some X.env.locals) (hN : X.N.Nodup) (hi : X.N[i]? = some n) (hln : X.env.kindOf n = some .local) (hc : Names X x cv) (tk : Takes X Wout)
    (hb : ∀ (W : WX) (pn : List (Addr × Obj)) (xe : Value → Shared → Prop), Takes (X.tr pn xe) W → PassesOwn (model X.prog X.w) X.A X.env xe → PSs (X.tr pn xe) body (tb W))
    (hsu : ∀ a : Addr, PSs (stX X a) (b₀ :: suite) ts) :
    PS X (.Try body [.ExceptHandler (some (.Name x np)) (some n) (b₀ :: suite) pos'] [] [] pos) (fun Z σ H => tb (wTry X.K cv i ts Wout Z) Z σ H) := by
  constructor
  intro pins s σ H Z I h
  have ok := I.ok
  have hfr : X.A.frames = some (X.env :: X.outer) := by rw [ok.frames, hs]
  refine wpAny_Try_except (wpAny_mono ((hb (wTry X.K cv i ts Wout Z) (X.pn ++ pins) (fun e s₁ => wpAny (model X.prog X.w) X.A (noteFrame e X.env) (fun _ s₂ => wpAny (model X.prog X.w) X.A (setFlight e none) (fun _ s₃ =>
    wpAny (model X.prog X.w) X.A (handleBy e X.env [.ExceptHandler (some (.Name x np)) (some n) (b₀ :: suite) pos']) (SP X pins Z) X.xe s₃) X.xe s₂) X.xe s₁) ?_ PassesOwn.looking).run [] s σ H Z (I.toTry _) h) ?_ fun _ _ he => he)
  · -- an error of the body
    rintro u s' ⟨a, Bh, sI, pins', σ', H', cls, d, rfl, J', nb, up, sky, na, os, ag, b, hb1, hyes, hno⟩
    have J : L2.Inv X pins σ' H' sI := J'.ofTry ok
    have sky2 : Sky Bh (X.env :: X.outer) a (Zc cls d) X.env.locals s'.heap := by rw [← hs]; exact sky
    show wpAny (model X.prog X.w) X.A (noteFrame (.ref a) X.env) _ _ _
    refine Sky.land Zc.steady hfr hf sky2 fun h3 fl3 up3 => ?_
    have J3 : L2.Inv X pins σ' H' { s' with heap := h3 } := J.landed nb fl3.1 (up.trans up3) os ag
    obtain ⟨oe3, vs3, he3, hz3, hd3⟩ := fl3.there
    have notIn : a ∉ frs (X.env :: X.outer) := fun hm => by
      obtain ⟨_, o', e', hnf⟩ := fl3.2.2.1.mem hm
      rw [he3] at e'
      cases e'
      exact hnf _ hd3
    have nL : a ≠ X.env.locals := fun z => notIn (List.mem_filterMap.mpr ⟨X.env, List.mem_cons_self, by rw [hf, z]⟩)
    have nF : a ∉ X.fs := fun hm => by
      obtain ⟨e, he, q⟩ := List.mem_filterMap.mp hm
      exact notIn (List.mem_filterMap.mpr ⟨e, List.mem_cons_of_mem _ he, q⟩)
    -- the error was made since the entry
    have gone : ∀ o, sI.heap.get? a ≠ some o := fun o e => by
      have z := nb a o e (by rw [hs]; exact notIn)
      rw [fl3.2.1] at z
      cases z
    have h0 : X.s_0.heap.get? a = none := by
      cases e : X.s_0.heap.get? a with
      | none => rfl
      | some o =>
        obtain ⟨o', q⟩ := J.base.there a o e (by rw [hex]; simp)
        exact absurd q (gone o')
    have nP : ∀ p ∈ X.pn ++ pins, p.1 ≠ a := fun p hp z => by
      obtain ⟨e, _⟩ := J.pin p hp
      rw [z] at e
      exact gone _ e
    have nC : ∀ y c, X.env.cells.lookup y = some c → c ≠ a := fun y c e z => by
      obtain ⟨v, ob, ho, hd⟩ := J.cell y c e
      rw [z] at ho
      exact gone _ ho
    refine wpAny_handleBy_cons (codeAny_handlers_test ?_) (by intro q; cases q)
    have LT : PySem.W.Looks (model X.prog X.w) h3 (typeOf (.ref a)) cls := fun A Q E s k q => wpAny_typeOf_ref (k _ _ he3) (by rw [hz3.1]; exact q)
    have LM := PySem.W.exm_one (M := model X.prog X.w) J3.kIn LT hb1
    have test : ∀ {Q : Value → Shared → Prop} {E : Value → Shared → Prop}, Q cv { s' with heap := h3 } → wpAny (model X.prog X.w) (X.A.mark (some (.ref a))) (eval (.Name x np) X.env) Q E { s' with heap := h3 } := fun {Q E} q => by
      obtain ⟨hg, hdbg, hm | ⟨hm, hv, hnn⟩⟩ := hc
      · exact ld_glob (X := stX X a) (inSt J3 a) hg hm q hdbg
      · exact ld_blt (X := stX X a) (inSt J3 a) hg hm hv q hnn hdbg
    refine test (LM.here ?_)
    cases b with
    | true =>
      refine codeAny_handlers_suite_as (HandSPX.lands_againZ fl3 fun h4 fl4 up4 => ?_)
      have J4 : L2.Inv X pins σ' H' { s' with heap := h4 } := J.landed nb fl4.1 ((up.trans up3).trans up4) os ag
      obtain ⟨oe4, vs4, he4, hz4, hd4⟩ := fl4.there
      obtain ⟨C, dx, rfl, rfl, hts⟩ := hyes rfl a na
      have new : ObjOk X.prog X.w (upd H' a (ExcO C dx a)) h4 a (ExcO C dx a) := ⟨⟨oe4, vs4, he4, hz4.1, hz4.2, hd4⟩, ⟨_, he4⟩, fun h1 h2 q k => by
        obtain ⟨oe, vs, e1, e2, e3, e4⟩ := q
        exact ⟨oe, vs, k _ e1, e2, e3, e4⟩⟩
      have J5 : L2.Inv X pins σ' (upd H' a (ExcO C dx a)) { s' with heap := h4 } := Inv.adopt J4 na h0 nL nC nP new
      refine store_ok (X := stX X a) (v := .ref a) (inSt J5 a) hN hi (.inl hln) rfl (fun s5 S5 => ?_) (.inr hln)
      refine wpAny_mono ((hsu a).run pins s5 _ _ _ S5 hts) (fun f s6 hsp => ?_) fun _ _ z => False.elim z
      have fin : ∀ {σ6 : L2.St} {H6 : Hp} {Q : Shared → Prop}, L2.Inv (stX X a) pins σ6 H6 s6 → (∀ s7, L2.Inv X pins (σ6.set i none) H6 s7 → Q s7) →
          wpAny (model X.prog X.w) X.A (do bindName X.env n .none; unbindBehindTheSuite X.env n pos') (fun _ s7 => Q s7) X.xe s6 := fun {σ6 H6 Q} S6 hq => gone_ok (outSt S6 ok) hN hi hln hq
      cases f with
      | next => obtain ⟨σ6, H6, S6, q6⟩ := hsp; exact fin S6 fun s7 J7 => ⟨_, _, J7, q6⟩
      | brk => obtain ⟨σ6, H6, S6, q6⟩ := hsp; exact fin S6 fun s7 J7 => ⟨_, _, J7, q6⟩
      | cont => obtain ⟨σ6, H6, S6, q6⟩ := hsp; exact fin S6 fun s7 J7 => ⟨_, _, J7, q6⟩
      | ret u => obtain ⟨v6, σ6, H6, S6, r6, q6⟩ := hsp; exact fin S6 fun s7 J7 => ⟨_, _, _, J7, r6, q6⟩
    | false =>
      show wpAny _ X.A (handleBy (.ref a) X.env []) _ _ _
      refine wpAny_handleBy_nil ?_
      obtain ⟨k1, k2, k3, oe, vs, Tb, oT, ts', he, hz, hd, h1, hr⟩ := id fl3
      unfold PySem.passOn
      refine wpAny_bind (wpAny_field he hd h1 ?_)
      rw [if_neg (show ¬ ((Value.ref Tb == Value.none) = true) from by simp)]
      have on : wpAny (model X.prog X.w) X.A (setFlight (.ref a) X.env.frame) (fun _ s4 => wpAny (model X.prog X.w) X.A (throw (.ref a) : Sem Flow) (SP X pins Z) X.xe s4) X.xe { s' with heap := h3 } := by
        rw [hf]
        exact HandSPX.setFlight_upZ fl3 fun h4 hh4 up4 => wpAny_throw (tk _ _ ⟨a, Bh, sI, pins, σ', H', cls, d, rfl, J, nb, (up.trans up3).trans up4, .inr (.inr (by rw [hs]; exact hh4)), na, os, ag, hno rfl⟩)
      first
        | exact wpAny_bind (wpAny_pure (wpAny_bind on))
        | exact wpAny_bind on
  · intro f s1 hsp
    cases f with
    | next => obtain ⟨σ', H', J', q⟩ := hsp; exact wpAny_execs_nil ⟨σ', H', J'.ofTry ok, q⟩
    | brk => obtain ⟨σ', H', J', q⟩ := hsp; exact ⟨σ', H', J'.ofTry ok, q⟩
    | cont => obtain ⟨σ', H', J', q⟩ := hsp; exact ⟨σ', H', J'.ofTry ok, q⟩
    | ret u => obtain ⟨v, σ', H', J', r, q⟩ := hsp; exact ⟨v, σ', H', J'.ofTry ok, r, q⟩
end
section
variable {G : Gt} {T : Tb} {Y : Ev} {k : Nat} {c : Ct} {X : Cx} {B : Bs}
theorem XE.mono {W W' : WX} (i : ∀ cls d σ H, W cls d σ H → W' cls d σ H) {u : Value} {s' : Shared} (x : XE X W u s') : XE X W' u s' := by
  obtain ⟨a, B, sI, pins, σ, H, cls, d, h1, h2, h3, h4, h5, h6, h7, h8, h9⟩ := x
  exact ⟨a, B, sI, pins, σ, H, cls, d, h1, h2, h3, h4, h5, h6, h7, h8, i _ _ _ _ h9⟩
theorem Gd.tr (g : Gd G T Y k c X) (pn : List (Addr × Obj)) (xe : Value → Shared → Prop) : Gd G T Y k c (X.tr pn xe) := ⟨g.hK, g.calm, g.hgd, g.hr, g.hn, g.nd, g.sc, g.fn, g.pw⟩
theorem Gs.tr (g : Gs X) {pn : List (Addr × Obj)} {xe : Value → Shared → Prop} (po : PassesOwn (model X.prog X.w) X.A X.env xe) : Gs (X.tr pn xe) := ⟨po, g.bk, g.hs, g.hf, g.ex⟩
theorem e_var {x : Str} {i : Nat} {pos : Pos} (h1 : X.N[i]? = some x) (h2 : Vis X.env.scope x) (ho : odd x = false) : PE X (.Name x pos) (tE B (evE Y (.var i))) := by
  obtain ⟨o1, o2, o3⟩ := odd_not ho
  refine PE.imp (pe_var h1 h2 o1 o2) fun σ H Q ⟨m, S, σI, A, F⟩ => ?_
  have F' : Fin B m H σI (varD i σI S) (Wv B Q) := F
  unfold varD at F'
  split at F'
  · next d e =>
    obtain ⟨v, e1, rv⟩ := A.sl.get e
    exact ⟨v, e1, F'.now A.rs rv⟩
  · exact absurd F' (fun z => z)
/-- the slots hold the error that is caught in i -/
theorem st_set {a : Addr} {y : Str} {j : Nat} {e : Expr} {e' : E} {py pos : Pos} (nd : X.N.Nodup) (h1 : X.N[j]? = some y) (h2 : X.env.scope.names.lookup y = some .local) (hc : isComp e = false) (he : PE (stX X a) e (tE B (evE Y e'))) :
    PSs (stX X a) [.Assign [.Name y py] e pos] (tS B (evSs Y (.cons (.set j e') .nil))) := by
  refine PSs.imp (pss_one (ps_set (X := stX X a) nd h1 (.inl h2) he (by cases e <;> first | rfl | (cases hc)) (.inr h2))) fun Z σ H ⟨m, S, σI, A, F⟩ => ?_
  refine asg_read Z σ H ⟨m, S, σI, A, ?_⟩
  have F' : FinS B m H Z ((evS Y (.set j e') σI S).then (evSs Y .nil)) := F
  cases hev : evS Y (.set j e') σI S with
  | nx σ2 S2 => rw [hev] at F'; exact F'
  | ret d S2 => rw [hev] at F'; exact F'
  | brk σ2 S2 => rw [hev] at F'; exact F'
  | cnt σ2 S2 => rw [hev] at F'; exact F'
  | exc q v σ2 S2 => rw [hev] at F'; exact F'
  | bad => rw [hev] at F'; exact F'
/-- the suite's statement -/
theorem h_suite (g : Gd G T Y k c X) (hT : B.T = T) {nm : Str} {i : Nat} {h : List Stmt} {h' : Ss} (ho : odd nm = false) (hl : c.sc.names.lookup nm = some .local) (hi : ixS c.N nm = some i) (hh : trH G c nm i h = some h') :
    (∃ st, h = [st]) ∧ ∀ a : Addr, PSs (stX X a) h (tS B (evSs Y h')) := by
  have vis : X.N[i]? = some nm ∧ Vis X.env.scope nm := ⟨by rw [g.hn]; exact ixS_some hi, .inl (by rw [g.sc]; exact hl)⟩
  unfold trH at hh
  split at hh
  · next y py e pos =>
    refine ⟨⟨_, rfl⟩, fun a => ?_⟩
    split at hh
    · cases hh
    · next hc =>
      have hy : c.sc.names.lookup y = some .local := Classical.byContradiction fun z => hc (.inr (.inl z))
      have hyX : X.env.scope.names.lookup y = some .local := by rw [g.sc]; exact hy
      split at hh
      · next x p =>
        split at hh
        · next hx =>
          subst hx
          obtain ⟨j, hj, rfl⟩ := Option.map_eq_some_iff.mp hh
          exact st_set g.nd (by rw [g.hn]; exact ixS_some hj) hyX rfl (e_var (X := stX X a) vis.1 vis.2 ho)
        · cases hh
      · next x p f p2 =>
        split at hh
        · next hx =>
          obtain ⟨rfl, rfl, h0⟩ := hx
          obtain ⟨j, hj, rfl⟩ := Option.map_eq_some_iff.mp hh
          have h0' : B.T.fls[0]? = some ("value" : Str) := by rw [hT, g.pw.fls]; exact h0
          exact st_set g.nd (by rw [g.hn]; exact ixS_some hj) hyX rfl (s_fldG (X := stX X a) (by rw [hT]; exact g.hK) rfl h0' h0' (e_var (X := stX X a) vis.1 vis.2 ho))
        · cases hh
      · cases hh
  · cases hh
theorem try_ok : TryOk G T Y k := by
  intro c X B g gs hT tk x nm q i b h b' h' np pos pos' hg ho ho2 hl hx hi hb hh
  subst hT
  obtain ⟨⟨st, rfl⟩, hsu⟩ := h_suite (B := B) g rfl ho2 hl hi hh
  have hlX : X.env.kindOf nm = some .local := by rw [g.kind]; exact hl
  have names : Names X x (.ref (B.T.C q)) := ⟨g.gl hg, (odd_not ho).1, .inl (g.pw.exs x q hx)⟩
  refine PS.imp (ps_tryP (ts := tS B (evSs Y h')) (tb := fun W Z σ H => ∃ B' : Bs, B'.T = B.T ∧ (∀ cls d σ H, wxOf B' cls d σ H → W cls d σ H) ∧ tS B' (evSs Y b') Z σ H) gs.ex gs.hs gs.hf g.nd (by rw [g.hn]; exact ixS_some hi) hlX names tk (fun W pn xe tkW po => ?_) hsu) fun Z σ H ⟨m, S, σI, A, F⟩ => ?_
  · constructor
    rintro pins s σ H D I ⟨B', hT', hW, hts⟩
    exact (hb (X.tr pn xe) B' (g.tr pn xe) (gs.tr po) hT' (fun u s' y => tkW u s' (XE.mono hW y))).run pins s σ H D I hts
  · have F0 : FinS B m H Z (catchD Y q i (evSs Y h') (evSs Y b' σI S)) := F
    refine ⟨⟨B.T, m, H, fun kc v σ2 S2 => ∀ m' H', Ext m H m' H' → FinS B m' H' Z (catchD Y q i (evSs Y h') (.exc kc v σ2 S2))⟩, rfl, ?_, m, S, σI, ⟨A.rs, A.sl, Ext.refl⟩, ?_⟩
    · rintro cls d σ' H' ⟨m', S', σI', kc, v, dx, w, A', rfl, rfl, hd, rv, nd, kx, hxw⟩
      have F1 := hxw m' H' A'.ex
      refine ⟨Y.sub kc q, by rw [g.hK]; exact g.pw.sb x q kc hx kx.1, fun hsb a ha => ⟨_, dx, rfl, rfl, ?_⟩, fun hsb => ?_⟩
      · have F2 : FinS B m' H' Z (match evSs Y h' (σI'.set i (some (.ref S'.length))) (S' ++ [.exc kc v]) with
          | .nx σ2 S2 => .nx (σ2.set i none) S2
          | .ret d S2 => .ret d S2
          | .brk σ2 S2 => .brk (σ2.set i none) S2
          | .cnt σ2 S2 => .cnt (σ2.set i none) S2
          | .exc _ _ _ _ => .bad
          | .bad => .bad) := by
          have z := F1
          unfold catchD at z
          dsimp only at z
          rw [if_pos hsb] at z
          exact z
        have xN : Ext m' H' (m' ++ [a]) (upd H' a (ExcO (B.T.C kc) dx a)) := Ext.newO ha
        have hda : dx ≠ a := fun z => by rw [z, ha] at hd; cases hd
        have rsN : RS B.T (m' ++ [a]) (S' ++ [.exc kc v]) (upd H' a (ExcO (B.T.C kc) dx a)) := A'.rs.newO ha ⟨dx, w, upd_same, by rw [upd_ne hda]; exact hd, rv.ext A'.rs xN, fun z => by
          rcases List.mem_append.mp z with z | z
          · exact nd z
          · exact hda (List.mem_singleton.mp z), kx⟩
        refine ⟨m' ++ [a], S' ++ [.exc kc v], σI'.set i (some (.ref S'.length)), ⟨rsN, (A'.sl.ext A'.rs xN).setV (.ref A'.rs.last), (A.ex.trans A'.ex).trans xN⟩, ?_⟩
        have F3 := FinS.ext F2 xN
        cases hev : evSs Y h' (σI'.set i (some (.ref S'.length))) (S' ++ [.exc kc v]) with
        | nx σ2 S2 => rw [hev] at F3; exact fun m4 H4 σ4 x4 rs4 sl4 => F3 m4 H4 _ x4 rs4 (sl4.set fun d e => by cases e)
        | brk σ2 S2 => rw [hev] at F3; exact fun m4 H4 σ4 x4 rs4 sl4 => F3 m4 H4 _ x4 rs4 (sl4.set fun d e => by cases e)
        | cnt σ2 S2 => rw [hev] at F3; exact fun m4 H4 σ4 x4 rs4 sl4 => F3 m4 H4 _ x4 rs4 (sl4.set fun d e => by cases e)
        | ret d S2 => rw [hev] at F3; exact F3
        | exc _ _ _ _ => rw [hev] at F3; exact F3.elim
        | bad => rw [hev] at F3; exact F3.elim
      · have F2 : FinS B m' H' Z (.exc kc v σI' S') := by
          have z := F1
          unfold catchD at z
          dsimp only at z
          rw [if_neg (by rw [hsb]; exact Bool.false_ne_true)] at z
          exact z
        exact ⟨m', S', σI', kc, v, dx, w, ⟨A'.rs, A'.sl, A.ex.trans A'.ex⟩, rfl, rfl, hd, rv, nd, kx, F2 m' H' Ext.refl A'.rs⟩
    · cases hev : evSs Y b' σI S with
      | nx σ2 S2 => rw [hev] at F0; exact F0
      | brk σ2 S2 => rw [hev] at F0; exact F0
      | cnt σ2 S2 => rw [hev] at F0; exact F0
      | ret d S2 => rw [hev] at F0; exact F0
      | bad => rw [hev] at F0; exact F0
      | exc kc v σ2 S2 => rw [hev] at F0; exact fun m' H' x rs m2 H2 x2 => FinS.ext F0 x2
/-- every statement -/
theorem sound (n : Nat) : Zd G T Y k n := zd raise_ok try_ok n
end
end Py
end
section
set_option linter.all false
set_option maxRecDepth 100000
/-! PyX: the defs of the program keep what our machine says. -/
namespace Py
open PySem PySem.Spec PyProof.Rows L2

/-! ### what is left behind a call -/
section
variable {T : Tb} {K : PySem.W.Frag} {m m' : List Addr} {S S' : Sto} {H H' : Hp}
theorem pre_cut {n k : Nat} {a : Addr} (h : m <+: m') (hn : n = m.length) (hk : k < n) (e : m'[k]? = some a) : m[k]? = some a := by
  obtain ⟨r, rfl⟩ := h
  rw [List.getElem?_append_left (by omega)] at e
  exact e
mutual
theorem RD.lower {n : Nat} (h : m <+: m') (hn : n = m.length) : ∀ (d : D) (v : V), d.bd n = true → RD K m' H d v → RD K m H d v
  | _, _, _, .non => .non
  | _, _, _, .bl b => .bl b
  | _, _, _, .int i => .int i
  | _, _, _, .str y => .str y
  | .ref k, _, b, .ref q => .ref (pre_cut h hn (of_decide_eq_true b) q)
  | .tup ds, _, b, .tup q hs => .tup q (RDs.lower h hn ds _ b hs)
theorem RDs.lower {n : Nat} (h : m <+: m') (hn : n = m.length) : ∀ (ds : List D) (vs : List V), D.bdL n ds = true → RDs K m' H ds vs → RDs K m H ds vs
  | _, _, _, .nil => .nil
  | d :: ds, v :: vs, b, .cons q hs => by
    have b' : d.bd n = true ∧ D.bdL n ds = true := by
      have z : (d.bd n && D.bdL n ds) = true := b
      rw [Bool.and_eq_true] at z; exact z
    exact .cons (RD.lower h hn d v b'.1 q) (RDs.lower h hn ds vs b'.2 hs)
end
theorem rkv_cut {n : Nat} (h : m <+: m') (hn : n = m.length) : ∀ {kvs : List (Key × D)} {ws : List (Key × V)}, bdK n kvs = true → RKv K m' H kvs ws → RKv K m H kvs ws
  | [], _, _, q => by cases q; exact .nil
  | p :: r, _, b, q => by
    have b' : p.2.bd n = true ∧ bdK n r = true := by
      have z : (p.2.bd n && bdK n r) = true := b
      rw [Bool.and_eq_true] at z; exact z
    cases q with
    | cons z t => exact .cons ⟨z.1, RD.lower h hn _ _ b'.1 z.2⟩ (rkv_cut h hn b'.2 t)
theorem rfs_cut {n : Nat} (h : m <+: m') (hn : n = m.length) : ∀ {kvs : List (Nat × D)} {ws : List (Str × V)}, bdF n kvs = true → RFs T m' H kvs ws → RFs T m H kvs ws
  | [], _, _, q => by cases q; exact .nil
  | p :: r, _, b, q => by
    have b' : p.2.bd n = true ∧ bdF n r = true := by
      have z : (p.2.bd n && bdF n r) = true := b
      rw [Bool.and_eq_true] at z; exact z
    cases q with
    | cons z t => exact .cons ⟨z.1, RD.lower h hn _ _ b'.1 z.2⟩ (rfs_cut h hn b'.2 t)
theorem bdS_get {n : Nat} : ∀ {S : Sto} {k : Nat} {o : Ob}, bdS n S = true → S[k]? = some o → o.bd n = true
  | [], _, _, _, e => by simp at e
  | a :: r, 0, o, b, e => by
    have z : (a.bd n && bdS n r) = true := b
    rw [Bool.and_eq_true] at z
    simp at e; subst e; exact z.1
  | a :: r, k + 1, o, b, e => by
    have z : (a.bd n && bdS n r) = true := b
    rw [Bool.and_eq_true] at z
    exact bdS_get z.2 (by simpa using e)
theorem RS.cut {n : Nat} (r : RS T m' S' H) (h : m <+: m') (hn : n = m.length) (b : bdS n (S'.take n) = true) : RS T m (S'.take n) H := by
  have hl : n ≤ S'.length := by
    rw [← r.len, hn]
    exact h.length_le
  refine ⟨by rw [List.length_take]; omega, h.sublist.nodup r.nd, fun k o a e1 e2 => ?_⟩
  have hk : k < n := by
    have := (List.getElem?_eq_some_iff.mp e1).1
    rw [List.length_take] at this
    omega
  have hb := bdS_get b e1
  rw [List.getElem?_take_of_lt hk] at e1
  have q := r.ob k o a e1 (pre_get h e2)
  cases o with
  | lst xs => obtain ⟨vs, h1, h2⟩ := q; exact ⟨vs, h1, RDs.lower h hn _ _ hb h2⟩
  | frz xs => obtain ⟨ob, vs, h1, h2⟩ := q; exact ⟨ob, vs, h1, RDs.lower h hn _ _ hb h2⟩
  | dct xs => obtain ⟨ws, h1, h2⟩ := q; exact ⟨ws, h1, rkv_cut h hn hb h2⟩
  | ins c xs => obtain ⟨dx, ws, h1, h2, h3⟩ := q; exact ⟨dx, ws, h1, rfs_cut h hn hb h2, h3⟩
  | exc c v =>
    obtain ⟨dx, w, h1, h2, h3, h4, h5⟩ := q
    exact ⟨dx, w, h1, h2, RD.lower h hn _ _ hb h3, fun z => h4 (h.subset z), h5⟩
theorem Ext.cut (x : Ext m H m' H') : Ext m H m H' := ⟨List.prefix_refl m, fun a o e n => ⟨(x.fr a o e n).1, n⟩⟩
theorem tidy_ok {d : D} {v : V} {Q : VK} {E : XK} (r0 : RS T m S H) (x : Ext m H m' H') (rs : RS T m' S' H') (rv : RD T.K m' H' d v) (F : FinC T m H (tidy S.length d S') Q E) : Q v H' := by
  have hn : S.length = m.length := r0.len.symm
  unfold tidy at F
  split at F
  · next hb =>
    have rc := rs.cut x.pre hn hb
    split at F
    · next hd => exact F m H' v x.cut rc (RD.lower x.pre hn d v hd rv)
    · next hd =>
      split at F
      · next k =>
        cases rv with
        | @ref _ a q =>
          split at F
          · next xs hx =>
            split at F
            · next hl =>
              obtain ⟨vs, e1, r1⟩ := rs.ob k _ a hx q
              have hk : ¬ k < S.length := fun z => hd (decide_eq_true z)
              have na : a ∉ m := fun z => by
                obtain ⟨i, hi, e⟩ := List.mem_iff_getElem.mp z
                have e2 : m[i]? = some a := by rw [List.getElem?_eq_getElem hi, e]
                have e3 := pre_get x.pre e2
                obtain ⟨u1, u2⟩ := List.getElem?_eq_some_iff.mp e3
                obtain ⟨w1, w2⟩ := List.getElem?_eq_some_iff.mp q
                have : i = k := (List.getElem_inj rs.nd).mp (u2.trans w2.symm)
                omega
              have h0 : H a = none := by
                cases z : H a with
                | none => rfl
                | some o => exact absurd (List.mem_of_getElem? q) (x.fr a o z na).2
              exact F (m ++ [a]) H' _ (x.cut.takeN h0) (rc.takeN na e1 (RDs.lower x.pre hn _ _ hl r1)) (.ref (by rw [hn]; simp))
            · exact F m' H' _ x rs (.ref q)
          · exact F m' H' _ x rs (.ref q)
      · exact F m' H' _ x rs rv
  · exact F m' H' v x rs rv
theorem tidyX_ok {c : Nat} {d : D} {w : V} {dx : Addr} {Q : VK} {E : XK} (r0 : RS T m S H) (x : Ext m H m' H') (rs : RS T m' S' H') (hd : H' dx = some (.xd (valF w))) (rv : RD T.K m' H' d w) (nd : dx ∉ m') (kx : KX T c) (F : FinC T m H (tidyX S.length c d S') Q E) : E (.ref (T.C c)) (some dx) H' := by
  have hn : S.length = m.length := r0.len.symm
  unfold tidyX at F
  split at F
  · next hb => exact F m H' dx w x.cut (rs.cut x.pre hn hb.1) hd (RD.lower x.pre hn d w hb.2 rv) (fun z => nd (x.pre.subset z)) kx
  · exact F m' H' dx w x rs hd rv nd kx
end

/-! ### the program's defs -/
/-- a def of the text, number f -/
def FnI (G : Gt) (K : PySem.W.Frag) (Pm : Prog) (f : Nat) (a : Addr) (fd : FuncData) : Prop :=
  ∃ (name qual : Str) (params : Arguments) (body : List Stmt) (scope : Scope) (dV kV doc pm cdv ct oc : Value) (an od : Option Addr) (osl : Array (Option Value)) (N : List Str) (n : Nat) (b : Ss),
    fd = PySem.W.fnOf name qual params body scope dV kV doc pm an cdv ct ∧ K.lookup a = some ⟨oc, od, .func fd, osl⟩ ∧ PySem.W.codeIn K cdv qual = true ∧ FnScope N (G.par f) scope ∧
    trSs G n ⟨N, scope, fun _ => true⟩ body = some b ∧ Pm.fns f = some ⟨(G.par f).length, N.length, b⟩
structure Px (G : Gt) (T : Tb) (Pm : Prog) (nf : Nat) (fa : Nat → Addr) (fd : Nat → FuncData) (P : Program) (mg : Str → Option Value) (base : Heap) : Prop where
  fls : T.fls = G.fls
  fi : ∀ f, f < nf → FnI G T.K Pm f (fa f) (fd f)
  np : ∀ f F, Pm.fns f = some F → F.np = (G.par f).length
  fns : ∀ x f, G.fns.lookup x = some f → f < nf ∧ mg x = some (.ref (fa f)) ∧ PySem.W.keepIn T.K (.ref (fa f)) = true ∧ Binds T.K (fd f) (G.par f) [] ∧ (∀ ks n perm, permOf (G.par f) ks n = some perm → KBindG T.K (fd f) (G.par f) ks n perm)
  gcs : ∀ x g, G.gcs.lookup x = some g → ∃ u v, mg x = some u ∧ RelV v u ∧ ∀ m H, RD T.K m H (Pm.gv g) v
  cls : ∀ x c, G.cls.lookup x = some c → mg x = some (.ref (T.C c)) ∧ KC T c ∧ Pm.ini c < nf ∧ Mk T.K (T.C c) (fa (Pm.ini c)) ∧ Binds T.K (fd (Pm.ini c)) (G.par (Pm.ini c)) []
  mts : ∀ x c j, G.mts.lookup x = some (c, j) → j < nf ∧ Meth T.K (T.C c) x (fa j) ∧ x ∉ T.fls ∧ Binds T.K (fd j) (G.par j) []
  exs : ∀ x c, G.exs.lookup x = some c → mg x = some (.ref (T.C c))
  xw : ∀ x c, G.exs.lookup x = some c → KX T c ∧ ∃ fI D' fd sf pr, IniK P T.K fI D' fd sf pr ∧ MkX T.K D' (T.C c) ∧ PySem.W.findIn T.K (.ref (T.C c)) "__init__" = some (some (.ref fI)) ∧ PySem.W.typeIn T.K (.ref fI) = some (.type "function") ∧ Binds T.K fd [sf, pr] [] ∧ mg "super" = none
  sb : ∀ x c c', G.exs.lookup x = some c → c' < T.nx → PySem.W.exmOne T.K (.ref (T.C c')) (.ref (T.C c)) = some (Pm.sub c' c)
  bt : ∀ x ∈ bltNs, mg x = none
  kit : KitOk T Pm.sub (okTy G)
  sm : ∃ o, base.get? sysModules = some o
/-- what stands around a body that runs at k -/
noncomputable def evAt (Pm : Prog) (w : Nat) (k : Nat) : Ev := ⟨callI Pm w k, fun c => (match k with
  | 0 => fun _ _ => .bad
  | k' + 1 => callI Pm w k' (Pm.ini c)), Pm.gv, Pm.sub, w⟩
section
variable {G : Gt} {T : Tb} {Pm : Prog} {nf : Nat} {fa : Nat → Addr} {fd : Nat → FuncData} {P : Program} {w : World} {mg : Str → Option Value} {base : Heap} {fu : Nat}
theorem callI_np (p : Px G T Pm nf fa fd P mg base) (k f : Nat) (ds : List D) (S : Sto) (h : ds.length ≠ (G.par f).length) : callI Pm fu k f ds S = .bad := by
  cases k with
  | zero => rfl
  | succ k =>
    unfold callI
    cases e : Pm.fns f with
    | none => rfl
    | some F =>
      dsimp only
      rw [if_neg (by rw [p.np f F e]; exact h)]
theorem defs (p : Px G T Pm nf fa fd P mg base) : ∀ (k j : Nat), j ≤ k → ∀ f, f < nf → FnG P w T.K mg base j (fa f) (fd f) (G.par f) (spF T (G.par f).length (callI Pm fu j f)) := by
  intro k
  induction k with
  | zero =>
    intro j hj f hf
    obtain rfl : j = 0 := by omega
    refine ⟨fun vs H Q E h => h.1, fun A outer s H args us vs Q E hr hg e0 hb r h => ?_⟩
    obtain ⟨_, m, S, ds, _, _, F⟩ := h
    exact F.elim
  | succ k ih =>
    intro j hj f hf
    by_cases hjk : j ≤ k
    · exact ih j hjk f hf
    obtain rfl : j = k + 1 := by omega
    obtain ⟨name, qual, params, body, scope, dV, kV, doc, pm, cdv, ct, oc, an, od, osl, N, n, b, hfd, lk, hcd, SC, htr, hpf⟩ := p.fi f hf
    rw [hfd] at lk ⊢
    have pw : Pw G T (evAt Pm fu k) k P w mg base := by
      refine ⟨p.fls, fun x g hx => ?_, p.gcs, fun x c hx => ?_, fun x c j hx => ?_, p.exs, p.xw, p.sb, callI_np p k, p.bt, p.kit, p.sm⟩
      · obtain ⟨h1, h2, h3, h4, h5⟩ := p.fns x g hx
        exact ⟨fa g, fd g, h2, h3, h4, h5, ih k (Nat.le_refl _) g h1⟩
      · obtain ⟨h1, h2, h3, h4, h5⟩ := p.cls x c hx
        refine ⟨h1, h2, fa (Pm.ini c), fd (Pm.ini c), G.par (Pm.ini c), h4, h5, fun ds S hl => ?_, ?_⟩
        · cases k with
          | zero => rfl
          | succ k' => exact callI_np p k' _ ds S hl
        · cases k with
          | zero => exact .inr fun ds S => rfl
          | succ k' => exact .inl ⟨k', rfl, ih k' (Nat.le_succ _) _ h3⟩
      · obtain ⟨h1, h2, h3, h4⟩ := p.mts x c j hx
        exact ⟨fa j, fd j, h2, h3, h4, ih k (Nat.le_refl _) j h1⟩
    refine fnG_of lk hcd SC (fun vs H Q E h => h.1) fun A outer s H vs Q E hr hg h => ?_
    obtain ⟨hl, m, S, ds, rs, rvs, F⟩ := h
    have ev : callI Pm fu (k + 1) f ds S = endD S.length (evSs (evAt Pm fu k) b (startD N.length ds) S) := by
      unfold callI
      rw [hpf]
      dsimp only
      rw [if_pos (by rw [rvs.length]; exact hl)]
      rfl
    rw [ev] at F
    have gd : Gd G T (evAt Pm fu k) k ⟨N, scope, fun _ => true⟩ (cxOf (CX P w) P w T.K mg base N qual scope (fa f) cdv A outer s H E) := ⟨rfl, rfl, hg, hr, rfl, SC.nd, rfl, rfl, pw⟩
    have gs : Gs (cxOf (CX P w) P w T.K mg base N qual scope (fa f) cdv A outer s H E) := by
      refine ⟨PassesOwn.leaving, ?_, rfl, rfl, rfl⟩
      show (if scope.kind.isAnnotationScope = true then ScopeKind.function else scope.kind) = .function
      rw [SC.kind]; rfl
    let B : Bs := ⟨T, m, H, fun c v _ S' => FinC T m H (tidyX S.length c v S') Q E⟩
    have tk : Takes (cxOf (CX P w) P w T.K mg base N qual scope (fa f) cdv A outer s H E) (wxOf B) := by
      intro u s' x
      refine XE.leave rfl rfl rfl (fun cls d σ H' hw => ?_) x
      obtain ⟨m', S', σI, c, v, dx, w', A', rfl, rfl, hd, rv, nd, kx, hx⟩ := hw
      exact tidyX_ok rs A'.ex A'.rs hd rv nd kx hx
    refine ⟨tS B (evSs (evAt Pm fu k) b), (sound n).zSs _ _ body b B gd gs rfl tk htr, m, S, startD N.length ds, ⟨rs, RSl.start rfl rvs, Ext.refl⟩, ?_⟩
    cases ho : evSs (evAt Pm fu k) b (startD N.length ds) S with
    | ret d S' => rw [ho] at F; exact fun m' H' v x rs' rv => tidy_ok rs x rs' rv F
    | nx σ2 S' => rw [ho] at F; exact fun m' H' σ' x rs' sl => tidy_ok (v := .non) rs x rs' .non F
    | exc c v σ2 S' => rw [ho] at F; exact fun m' H' x rs' => F
    | brk _ _ => rw [ho] at F; exact F.elim
    | cnt _ _ => rw [ho] at F; exact F.elim
    | bad => rw [ho] at F; exact F.elim
end
end Py
end
section
set_option linter.all false
set_option maxRecDepth 100000
/-! PyY: how calls bind their arguments, by position and by keyword. -/
namespace Py
open PySem PySem.Spec PyProof.Rows L2
theorem kwLoop {ps : List Str} {f : Str × Value → List (Str × Value) × List (Str × Value) → Sem (ForInStep (List (Str × Value) × List (Str × Value)))}
    (hf : ∀ k v slots, ps.contains k = true → (List.lookup k slots).isSome = false → f (k, v) (slots, []) = pure (.yield (slots ++ [(k, v)], []))) :
    ∀ (kw slots : List (Str × Value)), (∀ p ∈ kw, p.1 ∈ ps) → (kw.map (·.1)).Nodup → (∀ p ∈ kw, (List.lookup p.1 slots).isSome = false) → forIn kw (slots, []) f = (pure (slots ++ kw, []) : Sem _)
  | [], slots, _, _, _ => by simp
  | (k, v) :: r, slots, h1, h2, h3 => by
    rw [List.forIn_cons, hf k v slots (by simpa using h1 _ List.mem_cons_self) (h3 _ List.mem_cons_self)]
    simp only [pure_bind]
    rw [List.map_cons, List.nodup_cons] at h2
    rw [kwLoop hf r (slots ++ [(k, v)]) (fun p hp => h1 p (List.mem_cons_of_mem _ hp)) h2.2 fun p hp => ?_]
    · simp
    · have hne : p.1 ≠ k := fun z => h2.1 (List.mem_map.mpr ⟨p, hp, z⟩)
      have := h3 p (List.mem_cons_of_mem _ hp)
      rw [List.lookup_append, List.lookup_cons, show (p.1 == k) = false from by simpa using hne]
      simpa using this
theorem look_zip {ps : List Str} {us : List Value} {x : Str} : (List.lookup x (ps.zip us)) = match ixS ps x with
    | some i => us[i]?
    | none => none := by
  induction ps generalizing us with
  | nil => simp [ixS]
  | cons p r ih =>
    cases us with
    | nil =>
      simp only [List.zip_nil_right, List.lookup_nil]
      split <;> simp
    | cons u us =>
      rw [List.zip_cons_cons, List.lookup_cons]
      unfold ixS
      by_cases h : p = x
      · subst h; simp
      · rw [if_neg h, show (x == p) = false from by simpa using Ne.symm h]
        simp only
        rw [ih]
        cases ixS r x <;> simp
theorem ixS_at {ps : List Str} (nd : ps.Nodup) {j : Nat} {x : Str} (h : ps[j]? = some x) : ixS ps x = some j := by
  induction ps generalizing j with
  | nil => simp at h
  | cons p r ih =>
    rw [List.nodup_cons] at nd
    unfold ixS
    cases j with
    | zero => simp at h; rw [if_pos h]
    | succ j =>
      have h' : r[j]? = some x := by simpa using h
      rw [if_neg (fun z => nd.1 (by rw [z]; exact List.mem_of_getElem? h')), ih nd.2 h']
      rfl
/-- the parameters' values are found -/
theorem permK_get {n : Nat} {ks : List Str} : ∀ {ps : List Str} {j : Nat} {perm : List Nat}, permK n ks j ps = some perm → perm.length = ps.length ∧ ∀ (t : Nat) (x : Str), ps[t]? = some x → ∃ i, perm[t]? = some i ∧ ((j + t < n ∧ i = j + t) ∨ (n ≤ j + t ∧ ∃ q, ixS ks x = some q ∧ i = n + q))
  | [], j, perm, h => by cases h; exact ⟨rfl, fun t x e => by simp at e⟩
  | p :: r, j, perm, h => by
    unfold permK at h
    split at h
    · next hj =>
      obtain ⟨perm', h1, rfl⟩ := Option.map_eq_some_iff.mp h
      obtain ⟨l, q⟩ := permK_get h1
      refine ⟨by simp [l], fun t x e => ?_⟩
      cases t with
      | zero => exact ⟨j, rfl, .inl ⟨hj, rfl⟩⟩
      | succ t =>
        obtain ⟨i, e1, e2⟩ := q t x (by simpa using e)
        refine ⟨i, by simpa using e1, ?_⟩
        rcases e2 with ⟨a, b⟩ | ⟨a, b⟩
        · exact .inl ⟨by omega, by omega⟩
        · exact .inr ⟨by omega, b⟩
    · next hj =>
      obtain ⟨i0, h0, h'⟩ := Option.bind_eq_some_iff.mp h
      obtain ⟨perm', h1, rfl⟩ := Option.map_eq_some_iff.mp h'
      obtain ⟨l, q⟩ := permK_get h1
      refine ⟨by simp [l], fun t x e => ?_⟩
      cases t with
      | zero =>
        have : p = x := by simpa using e
        subst this
        exact ⟨n + i0, rfl, .inr ⟨by omega, i0, h0, rfl⟩⟩
      | succ t =>
        obtain ⟨i, e1, e2⟩ := q t x (by simpa using e)
        refine ⟨i, by simpa using e1, ?_⟩
        rcases e2 with ⟨a, b⟩ | ⟨a, b⟩
        · exact .inl ⟨by omega, by omega⟩
        · exact .inr ⟨by omega, b⟩
theorem filt_zip : ∀ {ps : List Str} {bs : List Value} {g : Str → Option Value}, bs.length = ps.length → (∀ (t : Nat) (x : Str), ps[t]? = some x → g x = bs[t]?) → ps.filterMap (fun n => (g n).map fun v => (n, v)) = ps.zip bs
  | [], bs, g, _, _ => by simp
  | p :: r, [], g, h, _ => by simp at h
  | p :: r, b :: bs, g, h, q => by
    have h0 := q 0 p rfl
    rw [List.filterMap_cons, h0]
    simp only [List.getElem?_cons_zero, Option.map_some, List.zip_cons_cons]
    rw [filt_zip (by simpa using h) fun t x e => by
      have := q (t + 1) x (by simpa using e)
      simpa using this]
/-- plain parameters -/
def plainPar (l : List Arg) : Arguments := ⟨[], l, none, [], [], none, []⟩
theorem bind_gen {fd : FuncData} {l : List Arg} (hp : fd.params = plainPar l) (hd : fd.defaults = .none) (nd : (l.map (·.arg)).Nodup) {us ws bs : List Value} {ks : List Str} {perm : List Nat} (hpm : permOf (l.map (·.arg)) ks us.length = some perm)
    (hw : ws.length = ks.length) (hb : bs.length = (l.map (·.arg)).length) (hat : ∀ (j i : Nat), perm[j]? = some i → bs[j]? = (us ++ ws)[i]?) : bindArgs fd ⟨us, ks.zip ws⟩ = pure ((l.map (·.arg)).zip bs) := by
  obtain ⟨ps, hps⟩ : ∃ ps, ps = l.map (·.arg) := ⟨_, rfl⟩
  rw [← hps] at nd hpm hb ⊢
  unfold permOf at hpm
  split at hpm
  · next hlen =>
    obtain ⟨pl, pg⟩ := permK_get hpm
    -- where each name is found
    have look : ∀ (t : Nat) (x : Str), ps[t]? = some x → List.lookup x (ps.zip us ++ ks.zip ws) = bs[t]? := by
      intro t x e
      obtain ⟨i, e1, e2⟩ := pg t x e
      rw [hat t i e1, List.lookup_append, look_zip, ixS_at nd e]
      simp only
      rcases e2 with ⟨a, rfl⟩ | ⟨a, q, hq, rfl⟩
      · rw [Nat.zero_add] at a ⊢
        rw [List.getElem?_append_left a]
        rw [List.getElem?_eq_getElem a]
        simp
      · rw [Nat.zero_add] at a
        rw [List.getElem?_append_right (Nat.le_add_right _ _), Nat.add_sub_cancel_left, List.getElem?_eq_none a, look_zip, hq]
        simp
    have hbs : ∀ (t : Nat) (x : Str), ps[t]? = some x → (bs[t]?).isSome = true := by
      intro t x e
      have := (List.getElem?_eq_some_iff.mp e).1
      simp [List.getElem?_eq_getElem, hb, this]
    -- the keywords
    have kin : ∀ p ∈ ks.zip ws, p.1 ∈ ps ∧ (List.lookup p.1 (ps.zip us)).isSome = false := by
      intro p hpz
      have hpk : p.1 ∈ ks := (List.of_mem_zip (show (p.1, p.2) ∈ ks.zip ws from hpz)).1
      have hpd := of_decide_eq_true (List.all_eq_true.mp hlen.2.2.2 p.1 hpk)
      refine ⟨List.mem_of_mem_drop hpd, ?_⟩
      obtain ⟨t, ht, e⟩ := List.mem_iff_getElem.mp hpd
      have e2 : ps[us.length + t]? = some p.1 := by
        rw [← List.getElem?_drop, List.getElem?_eq_getElem ht, e]
      rw [look_zip, ixS_at nd e2]
      simp
    have hk := hlen.2.2.1
    unfold bindArgs
    rw [hp, hd]
    simp only [plainPar, List.map_nil, List.nil_append, List.append_nil]
    rw [← hps]
    rw [kwLoop (ps := ps) (fun k v slots h1 h2 => by simp only [h1, h2, Bool.true_or, if_true, Bool.false_eq_true, if_false]) (ks.zip ws) (ps.zip us) (fun p h => (kin p h).1) (by rw [List.map_fst_zip (by omega)]; exact hk) fun p h => (kin p h).2]
    simp only [pure_bind]
    rw [show seqItems? Value.none = (pure none : Sem _) from rfl]
    simp only [pure_bind, Option.getD_none]
    have many : (decide (us.length > ps.length) && (none : Option Arg).isNone) = false := by
      rw [decide_eq_false (by omega)]; rfl
    have miss : (List.filter (fun n => (List.lookup n (ps.zip us ++ ks.zip ws)).isNone) (List.take (ps.length - (List.drop ((#[] : Array Value).toList.length - ps.length) (#[] : Array Value).toList).length) ps)) = [] := by
      rw [List.filter_eq_nil_iff]
      intro x hx
      obtain ⟨t, ht, e⟩ := List.mem_iff_getElem.mp (List.mem_of_mem_take hx)
      have e2 : ps[t]? = some x := by rw [List.getElem?_eq_getElem ht, e]
      have := hbs t x e2
      rw [look t x e2]
      cases q : bs[t]? with
      | none => rw [q] at this; cases this
      | some b => simp
    rw [many, miss]
    simp only [Bool.false_eq_true, if_false, List.isEmpty_nil, Bool.not_true]
    simp only [List.drop_nil, List.zip_nil_right, List.forIn_nil, pure_bind, List.isEmpty_nil, Bool.not_true, Bool.false_eq_true, if_false]
    congr 1
    exact filt_zip hb look
  · cases hpm
/-- .. all by position -/
theorem permK_all : ∀ (ps : List Str) (j n : Nat), j + ps.length ≤ n → permK n [] j ps = some (List.range' j ps.length)
  | [], j, n, _ => rfl
  | p :: r, j, n, h => by
    unfold permK
    rw [if_pos (by simp at h; omega), permK_all r (j + 1) n (by simp at h; omega)]
    rfl
theorem binds_gen {K : PySem.W.Frag} {fd : FuncData} {l : List Arg} (hp : fd.params = plainPar l) (hd : fd.defaults = .none) (nd : (l.map (·.arg)).Nodup) : Binds K fd (l.map (·.arg)) [] := by
  intro s us _ hl
  rw [List.append_nil] at hl ⊢
  refine .of_eq ?_
  have := bind_gen (us := us) (ws := []) (bs := us) (ks := []) (perm := List.range' 0 (l.map (·.arg)).length) hp hd nd ?_ rfl hl fun j i e => ?_
  · simpa using this
  · unfold permOf
    rw [if_pos (by simp [hl]), permK_all _ _ _ (by omega)]
  · rw [List.append_nil]
    have hji : j < (l.map (·.arg)).length := by
      have := (List.getElem?_eq_some_iff.mp e).1
      simpa using this
    rw [List.getElem?_range' hji] at e
    simp at e
    rw [e]
theorem kbind_gen {K : PySem.W.Frag} {fd : FuncData} {l : List Arg} (hp : fd.params = plainPar l) (hd : fd.defaults = .none) (nd : (l.map (·.arg)).Nodup) {ks : List Str} {n : Nat} {perm : List Nat} (h : permOf (l.map (·.arg)) ks n = some perm) : KBindG K fd (l.map (·.arg)) ks n perm := by
  intro s us ws bs _ hu hw hb hat
  subst hu
  exact .of_eq (bind_gen hp hd nd h hw hb hat)
end Py
end
section
set_option linter.all false
set_option maxRecDepth 100000
/-! PyZ: a text's tables, what the head is asked about them, and what follows. -/
namespace Py
open PySem PySem.Spec PyProof.Rows L2

structure Tx where
  defs : List He.DefD
  Ns : List (List Str)
  bodies : List Ss
  fns : List (Str × Nat)
  gcs : List (Str × D)
  cls : List (Str × Nat)
  exs : List Str
  mts : List (Str × (Nat × Nat))
  fls : List Str
  ini : He.DefD
def ixL : List Str → Nat → List (Str × Nat)
  | [], _ => []
  | a :: r, n => (a, n) :: ixL r (n + 1)
theorem ixL_get : ∀ {l : List Str} {n : Nat} {x : Str} {i : Nat}, (ixL l n).lookup x = some i → n ≤ i ∧ l[i - n]? = some x
  | [], n, x, i, h => by cases h
  | a :: r, n, x, i, h => by
    unfold ixL at h
    rw [List.lookup_cons] at h
    split at h
    · next e => cases h; rw [beq_iff_eq.mp e]; simp
    · obtain ⟨h1, h2⟩ := ixL_get h
      refine ⟨by omega, ?_⟩
      have : i - n = (i - (n + 1)) + 1 := by omega
      rw [this]
      simpa using h2
namespace Tx
def cn (x : Tx) (c : Nat) : Str := (x.exs ++ x.cls.map (·.1)).getD c Str.empty
def G (x : Tx) : Gt := ⟨x.fns, fun f => match x.defs[f]? with
  | some d => d.params.args.map (·.arg)
  | none => [], ixL (x.gcs.map (·.1)) 0, ixL (x.cls.map (·.1)) x.exs.length, ixL x.exs 0, x.mts, x.fls⟩
def T (x : Tx) (K : PySem.W.Frag) : Tb := ⟨K, fun c => He.ga K (x.cn c), x.fls, x.exs.length⟩
def P (x : Tx) : Prog := ⟨fun f => match x.defs[f]? with
    | some d => (match x.Ns[f]?, x.bodies[f]? with
      | some N, some b => some ⟨d.params.args.length, N.length, b⟩
      | _, _ => none)
    | none => none,
  fun g => match x.gcs[g]? with
    | some p => p.2
    | none => .non,
  fun c c' => decide (c = c') || decide (c' = 0),
  fun c => match x.cls[c - x.exs.length]? with
    | some p => p.2
    | none => 0⟩
/-! ### what needs no heap -/
def plainB (p : Arguments) : Bool := match p with
  | ⟨[], _, none, [], [], none, []⟩ => true
  | _ => false
theorem plainB_ok {p : Arguments} (h : plainB p = true) : p = plainPar p.args := by
  unfold plainB at h
  split at h
  · rfl
  · cases h
def scopeB (N ps : List Str) (sc : Scope) : Bool := (match sc.kind with
    | .function => true
    | _ => false) && (!sc.isCoroutine && (!sc.isGenerator && (decide N.Nodup && (decide (N.take ps.length = ps) && ((ps.all fun x => match sc.names.lookup x with
    | some .local => true
    | some .cell => true
    | _ => false) && sc.names.all fun y => match y.2 with
    | .free => false
    | _ => true)))))
theorem scopeB_ok {N ps : List Str} {sc : Scope} (h : scopeB N ps sc = true) : FnScope N ps sc := by
  unfold scopeB at h
  simp only [Bool.and_eq_true, Bool.not_eq_true', decide_eq_true_eq, List.all_eq_true] at h
  obtain ⟨h1, h2, h3, h4, h5, h6, h7⟩ := h
  refine ⟨?_, h2, h3, h4, h5, fun x hx => ?_, fun y hy e => ?_⟩
  · revert h1; cases sc.kind <;> intro h1 <;> first | rfl | (cases h1)
  · have := h6 x hx
    split at this
    · next e => exact .inl e
    · next e => exact .inr e
    · cases this
  · have := h7 y hy
    rw [e] at this
    cases this
def defB (x : Tx) (f : Nat) : Bool := match x.defs[f]? with
  | some d => plainB d.params && (decide (d.params.args.map (·.arg)).Nodup && (d.dfl.isEmpty && (d.kwd.isEmpty && (match x.Ns[f]? with
    | some N => scopeB N (d.params.args.map (·.arg)) d.scope
    | none => false))))
  | none => false
def atB (x : Tx) (f : Nat) (at_ : Str × Option Str) : Bool := match x.defs[f]? with
  | some d => decide (d.at_ = at_)
  | none => false
def stB (x : Tx) : Bool := decide (x.Ns.length = x.defs.length) && (decide (x.bodies.length = x.defs.length) && (((List.range x.defs.length).all x.defB) && ((x.fns.all fun p => x.atB p.2 (p.1, none)) && ((x.cls.all fun p => x.atB p.2 (p.1, some "__init__")) &&
  ((x.mts.all fun p => x.atB p.2.2 (x.cn p.2.1, some p.1) && decide (p.1 ∉ x.fls)) && (decide x.fls.Nodup && (plainB x.ini.params && x.ini.at_.2.isSome)))))))
def tr (x : Tx) : List (Option Ss) := (List.range x.defs.length).map fun f => match x.defs[f]?, x.Ns[f]? with
  | some d, some N => trSs x.G 100 ⟨N, d.scope, fun _ => true⟩ d.body
  | _, _ => none
end Tx

/-! ### constants of the module -/
mutual
def rdB (K : PySem.W.Frag) : D → Value → Bool
  | .non, .none => true
  | .bl b, .bool c => b == c
  | .int i, .int j _ => decide (i = j)
  | .str x, .str y _ => decide (x = y)
  | .tup ds, .ref a => match K.lookup a with
    | some ⟨.type c, _, .seq its _, _⟩ => decide (c = "tuple") && (decide (its.size ≤ sizeLine) && rdsB K ds its.toList)
    | _ => false
  | _, _ => false
def rdsB (K : PySem.W.Frag) : List D → List Value → Bool
  | [], [] => true
  | d :: ds, v :: vs => rdB K d v && rdsB K ds vs
  | _, _ => false
end
/-- .. stand for a value that we relate -/
def RDK (K : PySem.W.Frag) (d : D) (u : Value) : Prop := ∃ v, RelV v u ∧ ∀ m H, RD K m H d v
def RDKs (K : PySem.W.Frag) (ds : List D) (us : List Value) : Prop := ∃ vs, Vals vs us ∧ ∀ m H, RDs K m H ds vs
mutual
theorem rdB_ok {K : PySem.W.Frag} : ∀ (d : D) (u : Value), rdB K d u = true → RDK K d u
  | .non, .none, _ => ⟨.non, rfl, fun _ _ => .non⟩
  | .bl b, .bool c, h => ⟨.bl b, by
      have : b = c := by have h' : (b == c) = true := h; exact beq_iff_eq.mp h'
      rw [this]; rfl, fun _ _ => .bl b⟩
  | .int i, .int j t, h => ⟨.int i, ⟨t, by
      have : i = j := by have h' : decide (i = j) = true := h; exact of_decide_eq_true h'
      rw [this]⟩, fun _ _ => .int i⟩
  | .str x, .str y t, h => ⟨.str x, ⟨t, by
      have : x = y := by have h' : decide (x = y) = true := h; exact of_decide_eq_true h'
      rw [this]⟩, fun _ _ => .str x⟩
  | .tup ds, .ref a, h => by
    have h' : (match K.lookup a with
      | some ⟨.type c, _, .seq its _, _⟩ => decide (c = "tuple") && (decide (its.size ≤ sizeLine) && rdsB K ds its.toList)
      | _ => false) = true := h
    split at h'
    · next c dd its n sl e =>
      simp only [Bool.and_eq_true, decide_eq_true_eq] at h'
      obtain ⟨h1, h2, h3⟩ := h'
      obtain ⟨vs, r1, r2⟩ := rdsB_ok ds its.toList h3
      subst h1
      exact ⟨.ref a, rfl, fun m H => .tup (.inr ⟨_, its, n, e, rfl, rfl, h2, r1⟩) (r2 m H)⟩
    · cases h'
theorem rdsB_ok {K : PySem.W.Frag} : ∀ (ds : List D) (us : List Value), rdsB K ds us = true → RDKs K ds us
  | [], [], _ => ⟨[], .nil, fun _ _ => .nil⟩
  | d :: ds, u :: us, h => by
    have h' : (rdB K d u && rdsB K ds us) = true := h
    rw [Bool.and_eq_true] at h'
    obtain ⟨v, r1, q1⟩ := rdB_ok d u h'.1
    obtain ⟨vs, r2, q2⟩ := rdsB_ok ds us h'.2
    exact ⟨v :: vs, .cons r1 r2, fun m H => .cons (q1 m H) (q2 m H)⟩
end

/-! ### errors -/
def iniParts : List Stmt → Option (Str × Str × Str × Nat × List Pos)
  | [.Expr (.Call (.Attribute (.Call (.Name s p0) [] [] p1) i p2) [.Constant (.str msg) j p3] [] p4) p5, .Assign [.Attribute (.Name sf p6) v p7] (.Name pr p8) p9] =>
    if s = ("super" : Str) ∧ i = ("__init__" : Str) ∧ v = ("value" : Str) ∧ (p2.endLine == p4.line) = true then some (msg, sf, pr, j, [p0, p1, p2, p3, p4, p5, p6, p7, p8, p9]) else none
  | _ => none
theorem iniParts_ok {b : List Stmt} {msg sf pr : Str} {j : Nat} {l : List Pos} (h : iniParts b = some (msg, sf, pr, j, l)) :
    ∃ p0 p1 p2 p3 p4 p5 p6 p7 p8 p9, b = iniB msg sf pr j p0 p1 p2 p3 p4 p5 p6 p7 p8 p9 ∧ (p2.endLine == p4.line) = true := by
  unfold iniParts at h
  split at h
  · split at h
    · next hc =>
      obtain ⟨rfl, rfl, rfl, hl⟩ := hc
      cases h
      exact ⟨_, _, _, _, _, _, _, _, _, _, rfl, hl⟩
    · cases h
  · cases h
abbrev FnZ : Type := Option (Str × Str × Arguments × FuncBody × Scope × Addr × List Str × Addr)
def iniW (K : PySem.W.Frag) (p : Str × Option Str) : FnZ := match K.lookup (He.fAd K p) with
  | some ⟨_, _, .func fd, _⟩ => some (fd.name, fd.qualname, fd.params, fd.body, fd.scope, fd.globals, fd.closure.map (·.1), fd.builtins)
  | _ => none
def iniV (d : He.DefD) : FnZ := some (d.name, d.qual, d.params, .stmts d.body, d.scope, mainGlobals, ["__class__"], builtinsNs)
def isNoneV : Value → Bool
  | .none => true
  | _ => false
/-- the rest of what the written part says of the errors' __init__ -/
def iniC (file : Str) (K : PySem.W.Frag) (d : He.DefD) : Bool := match K.lookup (He.fAd K d.at_) with
  | some ⟨_, _, .func fd, _⟩ => isNoneV fd.defaults && (PySem.W.codeIn K fd.code d.qual && ((match fd.code with
      | .ref cda => (match K.lookup cda with
        | some ⟨_, _, .fields vs, _⟩ => (match vs[2]? with
          | some (Value.str f _) => decide (file = f)
          | _ => false)
        | _ => false)
      | _ => false) && (match fd.closure with
      | [(_, cc)] => (match K.lookup cc with
        | some ⟨_, _, .cell (some (.ref D)), _⟩ => decide (D = He.ga K d.at_.1) && (PySem.W.clsIn K D).isSome
        | _ => false)
      | _ => false)))
  | _ => false
def iniS (d : He.DefD) : Bool := match iniParts d.body with
  | some (_, sf, pr, _, _) => decide (d.params.args.map (·.arg) = [sf, pr]) && (decide (sf ≠ pr) && ((match d.scope.names.lookup sf with
      | some .local => true
      | _ => false) && ((match d.scope.names.lookup pr with
      | some .local => true
      | _ => false) && ((match d.scope.names.lookup ("super" : Str) with
      | some .globalImplicit => true
      | _ => false) && ((match d.scope.names.lookup ("__class__" : Str) with
      | some .free => true
      | _ => false) && ((match d.scope.kind with
      | .function => true
      | _ => false) && (!d.scope.isCoroutine && (!d.scope.isGenerator && ((d.scope.names.all fun y => match y.2 with
      | .cell => false
      | _ => true) && (!oddX sf && !oddX pr))))))))))
  | none => false
def refsB : List Value → Bool
  | .ref _ :: r => refsB r
  | [.type a, .type b, .type c, .type d] => decide (a = "ValueError") && (decide (b = "Exception") && (decide (c = "BaseException") && decide (d = "object")))
  | _ => false
theorem refsB_ok : ∀ {l : List Value}, refsB l = true → HandSPX.refsVE l = true
  | [], h => by cases h
  | v :: r, h => by
    cases v with
    | ref a => exact refsB_ok (l := r) h
    | type a =>
      unfold refsB at h
      split at h
      · next e => cases e
      · next a b c d e =>
        cases e
        simp only [Bool.and_eq_true, decide_eq_true_eq] at h
        obtain ⟨rfl, rfl, rfl, rfl⟩ := h
        decide +kernel
      · cases h
    | _ => exact absurd h (by unfold refsB; exact Bool.false_ne_true)
/-- an error's class as an object -/
def excB (K : PySem.W.Frag) (C : Addr) : Bool := match K.lookup C with
  | some ⟨.type t, _, .cls cd, sl⟩ => decide (t = "type") && (cd.hasDict && (!cd.hasDel && ((match cd.mro with
      | .ref C' :: bm => decide (C' = C) && refsB bm
      | _ => false) && match sl.toList with
      | [_, _, _, _, some (.builtin n), _] => decide (n = "ValueError.__new__")
      | _ => false)))
  | _ => false
theorem excB_ok {K : PySem.W.Frag} {C : Addr} (h : excB K C = true) : ∃ nm q N bs bm sn sub ab col dd k0 k1 k2 k3 k5, K.lookup C = some (excClassObj nm q C N bs bm true sn sub ab col dd k0 k1 k2 k3 k5 "ValueError.__new__") ∧ HandSPX.refsVE bm = true := by
  unfold excB at h
  split at h
  · next t dd cd sl ho =>
    simp only [Bool.and_eq_true, decide_eq_true_eq, Bool.not_eq_true'] at h
    obtain ⟨rfl, h1, h2, h3, h4⟩ := h
    split at h3
    · next C' bm hm =>
      simp only [Bool.and_eq_true, decide_eq_true_eq] at h3
      obtain ⟨rfl, h5⟩ := h3
      split at h4
      · next k0 k1 k2 k3 n k5 hs =>
        have hn := of_decide_eq_true h4
        subst hn
        obtain ⟨nm, bs, mro, ns, qn, hd, sn, sub, ab, col, del⟩ := cd
        dsimp only at hm h1 h2
        subst hm h1 h2
        obtain ⟨l⟩ := sl
        simp only at hs
        subst hs
        exact ⟨nm, qn, ns, bs, bm, sn, sub, ab, col, dd, k0, k1, k2, k3, k5, ho, refsB_ok h5⟩
      · cases h4
    · cases h3
  · cases h

/-! ### what the head is asked -/
def allB (l : List Bool) : Bool := l.all fun b => b
theorem allB_get {l : List Bool} (h : allB l = true) (i : Nat) {b : Bool} (e : l[i]? = some b) : b = true := List.all_eq_true.mp h b (List.mem_of_getElem? e)
namespace Tx
def exB (x : Tx) (K : PySem.W.Frag) (c : Nat) : Bool := allB [
  (He.Fa.glo (x.cn c)).ok K,
  He.eqO (PySem.W.findIn K (.ref (He.ga K (x.cn c))) "__getattribute__") (some (some (.builtin "BaseException.__getattribute__"))),
  He.eqO (PySem.W.findIn K (.ref (He.ga K (x.cn c))) "__getattr__") (some none),
  decide (PySem.W.subIn K (.ref (He.ga K (x.cn c))) (.type "BaseException") = some true),
  PySem.W.hasDictIn K (He.ga K (x.cn c)),
  He.eqO (PySem.W.findIn K (.ref (He.ga K (x.cn c))) "__class__") (some (some (.builtin "object.__class__"))),
  He.eqO (PySem.W.specialIn K (.builtin "object.__class__") "__get__") (some (some (.builtin "getset_descriptor.__get__"))),
  decide (PySem.W.takesIn K (.builtin "object.__class__") = some true),
  decide (PySem.W.mroIn K (He.ga K (x.cn c)) (.type "object") = some true),
  He.eqO (PySem.W.findIn K (.ref (He.ga K (x.cn c))) "value") (some none),
  excB K (He.ga K (x.cn c)),
  He.eqO (PySem.W.findIn K (.ref (He.ga K (x.cn c))) "__setattr__") (some (some (.builtin "object.__setattr__"))),
  decide (PySem.W.typeIn K (.ref (He.ga K (x.cn c))) = some (.type "type")),
  PySem.W.keepIn K (.ref (He.ga K (x.cn c))),
  decide (PySem.W.mroIn K (He.ga K (x.cn c)) (.ref (He.ga K x.ini.at_.1)) = some true),
  He.eqO (PySem.W.ks_superIn K (He.ga K (x.cn c)) (He.ga K x.ini.at_.1) "__init__") (some (some (.builtin "ValueError.__init__"))),
  decide (PySem.W.subIn K (.ref (He.ga K (x.cn c))) (.type "ValueError") = some true),
  He.eqO (PySem.W.findIn K (.ref (He.ga K (x.cn c))) "__init__") (some (some (.ref (He.fAd K x.ini.at_)))),
  decide (PySem.W.typeIn K (.ref (He.fAd K x.ini.at_)) = some (.type "function"))]
def kds (x : Tx) : List Kd := [.non, .bl, .int, .str, .tup, .lst, .dct] ++ (List.range x.exs.length).map .exc
def tys (x : Tx) : List Ty := [.int, .bool, .str, .tuple, .list, .dict, .verr] ++ (List.range x.exs.length).map .own
def isB (o : Option Bool) (b : Bool) : Bool := match o with
  | some c => c == b
  | none => false
theorem isB_ok {o : Option Bool} {b : Bool} (h : isB o b = true) : o = some b := by
  cases o with
  | none => cases h
  | some c => rw [beq_iff_eq.mp (show (c == b) = true from h)]
def kitB (x : Tx) (K : PySem.W.Frag) : Bool := x.kds.all fun k => x.tys.all fun t => isB (PySem.W.kitOne K (kdU (x.T K) k) (tyU (x.T K) t)) (isK x.P.sub k t)
def subB (x : Tx) (K : PySem.W.Frag) : Bool := (List.range x.exs.length).all fun c' => (List.range x.exs.length).all fun c => isB (PySem.W.exmOne K (.ref (He.ga K (x.cn c'))) (.ref (He.ga K (x.cn c)))) (x.P.sub c' c)
def notList (o : Obj) : Bool := match o.cls with
  | .type c => decide (c ≠ "list")
  | _ => true
def gcB (x : Tx) (K : PySem.W.Frag) : Bool := x.gcs.all fun p => match PySem.W.nsIn K mainGlobals p.1 with
  | some (some u) => rdB K p.2 u
  | _ => false
def clB (x : Tx) (K : PySem.W.Frag) : Bool := x.cls.all fun p => allB [(He.Fa.glo p.1).ok K, (He.Fa.cls p.1).ok K, (He.Fa.mkr p.1).ok K, x.fls.all fun f => (He.Fa.noat p.1 f).ok K]
def chk (x : Tx) (file : Str) (K : PySem.W.Frag) : Bool := allB [
  x.defs.all fun d => d.ok K,
  x.fns.all fun p => (He.Fa.glo p.1).ok K,
  bltNs.all fun n => (He.Fa.free n).ok K,
  (He.Fa.free "super").ok K,
  x.gcB K,
  x.clB K,
  x.mts.all fun p => (He.Fa.meth (x.cn p.2.1) p.1).ok K,
  (List.range x.exs.length).all fun c => x.exB K c,
  x.kitB K,
  x.subB K,
  K.all fun p => notList p.2,
  (K.lookup sysModules).isSome,
  x.exs.isEmpty || iniC file K x.ini,
  x.exs.isEmpty || iniS x.ini,
  He.eqO (PySem.W.nsIn K PySem.cStatics "thirdparty.any") (some none)]
/-! the Hook -/
abbrev Al : Type := Bool × List He.FnW × FnZ
def obs (x : Tx) (file : Str) (K : PySem.W.Frag) : Al := (x.chk file K, x.defs.map fun d => He.fnW K d.at_, if x.exs.isEmpty then none else iniW K x.ini.at_)
def val (x : Tx) : Al := (true, x.defs.map He.DefD.val, if x.exs.isEmpty then none else iniV x.ini)
def addrs (n : Nat) (g : Addr → Option Obj) : List Addr := sysModules :: PySem.cStatics :: He.asD g n
def obsG (x : Tx) (file : Str) (n : Nat) (g : Addr → Option Obj) : Al := x.obs file (He.frG g (addrs n g))
def hook (x : Tx) (file : Str) (n : Nat) : PySem.W.Hook where
  α := Al
  obs := fun s => x.obsG file n s.heap.get?
  val := fun _ => x.val
  says := fun _ h => ∃ K : PySem.W.Frag, K.In h ∧ x.obs file K = x.val
  of := fun _ _ e => ⟨_, He.frG_in, e⟩
  keeps := fun _ _ _ ⟨K, hK, c⟩ k => ⟨K, PySem.W.Frag.In.keeps hK k, c⟩
end Tx
end Py
end
section
set_option linter.all false
set_option maxRecDepth 100000
/-! PyZa: from the head's answer to the facts that the defs lean on. -/
namespace Py
open PySem PySem.Spec PyProof.Rows L2
namespace Tx
def fa (x : Tx) (K : PySem.W.Frag) (f : Nat) : Addr := match x.defs[f]? with
  | some d => He.fAd K d.at_
  | none => 0
def fd (x : Tx) (K : PySem.W.Frag) (f : Nat) : FuncData := match x.defs[f]? with
  | some d => (match K.lookup (He.fAd K d.at_) with
    | some ⟨_, _, .func g, _⟩ => g
    | _ => PySem.W.fnOf d.name d.qual d.params d.body d.scope .none .none .none .none none .none .none)
  | none => PySem.W.fnOf Str.empty Str.empty (plainPar []) [] ⟨.function, [], false, false, []⟩ .none .none .none .none none .none .none
section
variable {x : Tx} {K : PySem.W.Frag} {file : Str}
theorem gpar {f : Nat} {d : He.DefD} (h : x.defs[f]? = some d) : x.G.par f = d.params.args.map (·.arg) := by
  unfold Tx.G
  dsimp only
  rw [h]
theorem at_ok {f : Nat} {a : Str × Option Str} (h : x.atB f a = true) : ∃ d, x.defs[f]? = some d ∧ d.at_ = a := by
  unfold Tx.atB at h
  split at h
  · next d e => exact ⟨d, e, of_decide_eq_true h⟩
  · cases h
structure St (x : Tx) : Prop where
  l1 : x.Ns.length = x.defs.length
  l2 : x.bodies.length = x.defs.length
  df : ∀ f, f < x.defs.length → x.defB f = true
  fn : ∀ p ∈ x.fns, x.atB p.2 (p.1, none) = true
  cl : ∀ p ∈ x.cls, x.atB p.2 (p.1, some "__init__") = true
  mt : ∀ p ∈ x.mts, x.atB p.2.2 (x.cn p.2.1, some p.1) = true ∧ p.1 ∉ x.fls
  fl : x.fls.Nodup
  ip : plainB x.ini.params = true
theorem st_ok (h : x.stB = true) : St x := by
  unfold Tx.stB at h
  simp only [Bool.and_eq_true, decide_eq_true_eq, List.all_eq_true] at h
  obtain ⟨h1, h2, h3, h4, h5, h6, h7, h8, _⟩ := h
  exact ⟨h1, h2, fun f hf => h3 f (List.mem_range.mpr hf), fun p hp => h4 p hp, fun p hp => h5 p hp, fun p hp => h6 p hp, h7, h8⟩
theorem funD (hd : ∀ d ∈ x.defs, d.ok K = true) (hv : x.defs.map (fun d => He.fnW K d.at_) = x.defs.map He.DefD.val) {f : Nat} {d : He.DefD} (h : x.defs[f]? = some d) :
    FunD K d.name d.qual d.params d.body d.scope (d.dvs K) (d.kws K) (x.fa K f) (x.fd K f) := by
  have e2 : (x.defs.map fun d => He.fnW K d.at_)[f]? = (x.defs.map He.DefD.val)[f]? := by rw [hv]
  rw [List.getElem?_map, List.getElem?_map, h] at e2
  obtain ⟨g, F⟩ := He.DefD.funD (Option.some.inj e2) (hd d (List.mem_of_getElem? h))
  have e3 : x.fa K f = He.fAd K d.at_ := by unfold Tx.fa; rw [h]
  have e4 : x.fd K f = g := by
    obtain ⟨oc, od, dV, kV, doc, pm, an, cdv, ct, osl, e5, e6, _⟩ := F.ex
    unfold Tx.fd
    rw [h]
    dsimp only
    rw [e6]
  rw [e3, e4]
  exact F
/-- parameters, body, no defaults -/
theorem fd_of (S : St x) (hd : ∀ d ∈ x.defs, d.ok K = true) (hv : x.defs.map (fun d => He.fnW K d.at_) = x.defs.map He.DefD.val) {f : Nat} {d : He.DefD} (h : x.defs[f]? = some d) :
    (x.fd K f).params = plainPar d.params.args ∧ (x.fd K f).defaults = .none ∧ (d.params.args.map (·.arg)).Nodup ∧ PySem.W.keepIn K (.ref (x.fa K f)) = true ∧
    ∃ (kV doc pm cdv ct oc : Value) (an od : Option Addr) (osl : Array (Option Value)), x.fd K f = PySem.W.fnOf d.name d.qual d.params d.body d.scope .none kV doc pm an cdv ct ∧ K.lookup (x.fa K f) = some ⟨oc, od, .func (x.fd K f), osl⟩ ∧ PySem.W.codeIn K cdv d.qual = true := by
  have F := funD hd hv h
  have hf : f < x.defs.length := (List.getElem?_eq_some_iff.mp h).1
  have b := S.df f hf
  unfold Tx.defB at b
  rw [h] at b
  simp only [Bool.and_eq_true, decide_eq_true_eq] at b
  obtain ⟨b1, b2, b3, b4, b5⟩ := b
  obtain ⟨oc, od, dV, kV, doc, pm, an, cdv, ct, osl, e1, e2, e3, e4, e5⟩ := F.ex
  have hdv : d.dvs K = [] := by unfold He.DefD.dvs; rw [List.isEmpty_iff.mp b3]; rfl
  have hdV : dV = .none := by
    rcases e4 with ⟨_, z⟩ | ⟨z, _⟩
    · exact z
    · exact absurd hdv z
  subst hdV
  refine ⟨?_, ?_, b2, F.kp, kV, doc, pm, cdv, ct, oc, an, od, osl, e1, e2, e3⟩
  · rw [e1]; exact plainB_ok b1
  · rw [e1]
theorem px {P : Program} {mg : Str → Option Value} {h base : Heap} (S : St x) (htr : x.tr = x.bodies.map some) (X : K.In h) (Gn : h.Ns mainGlobals mg) (KB : K.In base) (ho : x.obs P.main.file K = x.val) (htop : (P.main.scope.names.lookup ("super" : Str)).isSome = false) :
    Px x.G (x.T K) x.P x.defs.length (x.fa K) (x.fd K) P mg base := by
  have hc : x.chk P.main.file K = true := congrArg (fun z : Al => z.1) ho
  have hv : x.defs.map (fun d => He.fnW K d.at_) = x.defs.map He.DefD.val := congrArg (fun z : Al => z.2.1) ho
  have hi : (if x.exs.isEmpty = true then none else iniW K x.ini.at_) = (if x.exs.isEmpty = true then none else iniV x.ini) := congrArg (fun z : Al => z.2.2) ho
  have c0 := List.all_eq_true.mp (allB_get hc 0 rfl)
  have c1 := List.all_eq_true.mp (allB_get hc 1 rfl)
  have c2 := List.all_eq_true.mp (allB_get hc 2 rfl)
  have c3 := allB_get hc 3 rfl
  have c4 := List.all_eq_true.mp (allB_get hc 4 rfl)
  have c5 := List.all_eq_true.mp (allB_get hc 5 rfl)
  have c6 := List.all_eq_true.mp (allB_get hc 6 rfl)
  have c7 := List.all_eq_true.mp (allB_get hc 7 rfl)
  have c8 := List.all_eq_true.mp (allB_get hc 8 rfl)
  have c9 := List.all_eq_true.mp (allB_get hc 9 rfl)
  have c11 := allB_get hc 11 rfl
  have c12 := allB_get hc 12 rfl
  have c13 := allB_get hc 13 rfl
  have c14 := allB_get hc 14 rfl
  have exs_at : ∀ y c, x.G.exs.lookup y = some c → c < x.exs.length ∧ x.cn c = y ∧ x.exB K c = true := by
    intro y c hy
    obtain ⟨_, e⟩ := ixL_get hy
    rw [Nat.sub_zero] at e
    have hl := (List.getElem?_eq_some_iff.mp e).1
    refine ⟨hl, ?_, c7 c (List.mem_range.mpr hl)⟩
    unfold Tx.cn
    rw [List.getD_eq_getElem?_getD, List.getElem?_append_left hl, e]
    rfl
  have kx_of : ∀ c, c < x.exs.length → KX (x.T K) c := by
    intro c hl
    have e := c7 c (List.mem_range.mpr hl)
    exact ⟨hl, ⟨He.eqO_ok (allB_get e 1 rfl), He.eqO_ok (allB_get e 2 rfl), of_decide_eq_true (allB_get e 3 rfl), allB_get e 4 rfl, He.eqO_ok (allB_get e 5 rfl), He.eqO_ok (allB_get e 6 rfl), of_decide_eq_true (allB_get e 7 rfl), of_decide_eq_true (allB_get e 8 rfl)⟩, He.eqO_ok (allB_get e 9 rfl)⟩
  have bnd : ∀ {f : Nat} {d : He.DefD}, x.defs[f]? = some d → Binds K (x.fd K f) (x.G.par f) [] := by
    intro f d hd
    obtain ⟨p1, p2, p3, _⟩ := fd_of S c0 hv hd
    rw [gpar hd]
    exact binds_gen p1 p2 p3
  refine ⟨rfl, fun f hf => ?_, fun f F hF => ?_, fun y f hy => ?_, fun y g hy => ?_, fun y c hy => ?_, fun y c j hy => ?_, fun y c hy => ?_, fun y c hy => ?_, fun y c c' hy hc' => ?_, fun y hy => ?_, fun k ty hk ht => ?_, ?_⟩
  · -- the defs
    obtain ⟨d, hd⟩ : ∃ d, x.defs[f]? = some d := ⟨_, List.getElem?_eq_getElem hf⟩
    obtain ⟨p1, p2, p3, p4, kV, doc, pm, cdv, ct, oc, an, od, osl, e1, e2, e3⟩ := fd_of S c0 hv hd
    have b := S.df f hf
    unfold Tx.defB at b
    rw [hd] at b
    simp only [Bool.and_eq_true, decide_eq_true_eq] at b
    obtain ⟨b1, b2, b3, b4, b5⟩ := b
    obtain ⟨N, hN⟩ : ∃ N, x.Ns[f]? = some N := ⟨_, List.getElem?_eq_getElem (by rw [S.l1]; exact hf)⟩
    obtain ⟨bd, hbd⟩ : ∃ bd, x.bodies[f]? = some bd := ⟨_, List.getElem?_eq_getElem (by rw [S.l2]; exact hf)⟩
    rw [hN] at b5
    have et : x.tr[f]? = (x.bodies.map some)[f]? := by rw [htr]
    unfold Tx.tr at et
    rw [List.getElem?_map, List.getElem?_map, List.getElem?_range hf, hbd] at et
    simp only [Option.map_some, Option.some.injEq, hd, hN] at et
    refine ⟨d.name, d.qual, d.params, d.body, d.scope, .none, kV, doc, pm, cdv, ct, oc, an, od, osl, N, 100, bd, e1, e2, e3, ?_, et, ?_⟩
    · rw [gpar hd]; exact scopeB_ok b5
    · rw [gpar hd, List.length_map]
      show (match x.defs[f]? with
        | some d => (match x.Ns[f]?, x.bodies[f]? with
          | some N, some b => some (Fn.mk d.params.args.length N.length b)
          | _, _ => none)
        | none => none) = _
      rw [hd, hN, hbd]
  · have hF' : (match x.defs[f]? with
        | some d => (match x.Ns[f]?, x.bodies[f]? with
          | some N, some b => some (Fn.mk d.params.args.length N.length b)
          | _, _ => none)
        | none => none) = some F := hF
    split at hF'
    · next d hd =>
      split at hF'
      · cases hF'
        rw [gpar hd, List.length_map]
      · cases hF'
    · cases hF'
  · obtain ⟨d, hd, ha⟩ := at_ok (S.fn _ (lookup_mem hy))
    obtain ⟨p1, p2, p3, p4, _⟩ := fd_of S c0 hv hd
    refine ⟨(List.getElem?_eq_some_iff.mp hd).1, ?_, p4, bnd hd, fun ks n perm hpm => ?_⟩
    · have e := He.glo_ok X Gn (c1 _ (lookup_mem hy))
      rw [e]
      unfold Tx.fa
      rw [hd]
      dsimp only
      rw [ha]
      rfl
    · rw [gpar hd] at hpm ⊢
      exact kbind_gen p1 p2 p3 hpm
  · -- constants
    obtain ⟨_, e⟩ := ixL_get hy
    rw [Nat.sub_zero, List.getElem?_map] at e
    obtain ⟨p, hp, rfl⟩ := Option.map_eq_some_iff.mp e
    have q := c4 p (List.mem_of_getElem? hp)
    split at q
    · next u hu =>
      obtain ⟨v, r1, r2⟩ := rdB_ok p.2 u q
      refine ⟨u, v, PySem.W.mg_of X Gn hu, r1, fun m H => ?_⟩
      have eg : x.P.gv g = p.2 := by
        show (match x.gcs[g]? with
          | some p => p.2
          | none => .non) = _
        rw [hp]
      rw [eg]
      exact r2 m H
    · cases q
  · -- plain classes
    obtain ⟨hge, e⟩ := ixL_get hy
    rw [List.getElem?_map] at e
    obtain ⟨p, hp, rfl⟩ := Option.map_eq_some_iff.mp e
    have q := c5 p (List.mem_of_getElem? hp)
    have hcn : x.cn c = p.1 := by
      unfold Tx.cn
      rw [List.getD_eq_getElem?_getD, List.getElem?_append_right hge, List.getElem?_map, hp]
      rfl
    have hini : x.P.ini c = p.2 := by
      show (match x.cls[c - x.exs.length]? with
        | some p => p.2
        | none => 0) = _
      rw [hp]
    obtain ⟨d, hd, ha⟩ := at_ok (S.cl p (List.mem_of_getElem? hp))
    have hC : (x.T K).C c = He.ga K p.1 := by show He.ga K (x.cn c) = _; rw [hcn]
    rw [hini, hC]
    refine ⟨He.glo_ok X Gn (allB_get q 0 rfl), ⟨by rw [hC]; exact He.cls_ok (allB_get q 1 rfl), fun f hf => ?_, S.fl⟩, (List.getElem?_eq_some_iff.mp hd).1, ?_, bnd hd⟩
    · rw [hC]
      exact He.noat_ok (List.all_eq_true.mp (allB_get q 3 rfl) f hf)
    · have e := He.mkr_ok (allB_get q 2 rfl)
      have ef : x.fa K p.2 = He.ma K (He.ga K p.1) "__init__" := by
        unfold Tx.fa
        rw [hd]
        dsimp only
        rw [ha]
        rfl
      rw [ef]
      exact e
  · -- methods
    obtain ⟨q1, q2⟩ := S.mt _ (lookup_mem hy)
    obtain ⟨d, hd, ha⟩ := at_ok q1
    refine ⟨(List.getElem?_eq_some_iff.mp hd).1, ?_, q2, bnd hd⟩
    have e := He.meth_ok (c6 _ (lookup_mem hy))
    have ef : x.fa K j = He.ma K (He.ga K (x.cn c)) y := by
      unfold Tx.fa
      rw [hd]
      dsimp only
      rw [ha]
      rfl
    rw [ef]
    exact e
  · -- errors' names
    obtain ⟨hl, hn, e⟩ := exs_at y c hy
    have q := He.glo_ok X Gn (allB_get e 0 rfl)
    rw [hn] at q
    show mg y = some (.ref (He.ga K (x.cn c)))
    rw [hn]
    exact q
  · -- errors made
    obtain ⟨hl, hn, e⟩ := exs_at y c hy
    refine ⟨kx_of c hl, ?_⟩
    have ne : x.exs.isEmpty = false := by
      cases z : x.exs with
      | nil => rw [z] at hl; simp at hl
      | cons _ _ => rfl
    rw [ne] at hi c12 c13
    have hi' : iniW K x.ini.at_ = iniV x.ini := hi
    have k12 : iniC P.main.file K x.ini = true := c12
    have k13 : iniS x.ini = true := c13
    unfold iniW at hi'
    unfold iniC at k12
    split at hi'
    · next oc od g osl hlk =>
      rw [hlk] at k12
      simp only [Bool.and_eq_true] at k12
      obtain ⟨i1, i2, i3, i4⟩ := k12
      obtain ⟨g1, g2, g3, g4, g5, g6, g7, g8, g9, g10, g11, g12, g13, g14, g15⟩ := g
      unfold iniV at hi'
      simp only [Option.some.injEq, Prod.mk.injEq] at hi'
      obtain ⟨j1, j2, j3, j4, j5, j6, j7, j8⟩ := hi'
      dsimp only at i1 i2 i3 i4 j1 j2 j3 j4 j5 j6 j7 j8
      split at i3
      · next _ cda =>
        split at i3
        · next ccl cdd vs ccs hvs =>
          split at i3
          · next f tf hf =>
            have hfe := of_decide_eq_true i3
            split at i4
            · next nm cc =>
              split at i4
              · next cl cld D' csl hcell =>
                simp only [Bool.and_eq_true, decide_eq_true_eq] at i4
                obtain ⟨rfl, hcd⟩ := i4
                have hnm : nm = ("__class__" : Str) := by simpa using j7
                subst hnm
                unfold iniS at k13
                split at k13
                · next msg sf pr jj l hparts =>
                  obtain ⟨p0, p1, p2, p3, p4, p5, p6, p7, p8, p9, hbody, hln⟩ := iniParts_ok hparts
                  simp only [Bool.and_eq_true, decide_eq_true_eq, Bool.not_eq_true', List.all_eq_true] at k13
                  obtain ⟨s1, s2, s3, s4, s5, s6, s7, s8, s9, s10, s11, s12⟩ := k13
                  have loc : ∀ {n : Str}, (match x.ini.scope.names.lookup n with
                    | some .local => true
                    | _ => false) = true → x.ini.scope.names.lookup n = some .local := fun {n} z => by
                    split at z
                    · next e => exact e
                    · cases z
                  have glb : x.ini.scope.names.lookup ("super" : Str) = some .globalImplicit := by
                    split at s5
                    · next e => exact e
                    · cases s5
                  have fre : x.ini.scope.names.lookup ("__class__" : Str) = some .free := by
                    split at s6
                    · next e => exact e
                    · cases s6
                  have kin : x.ini.scope.kind = .function := by
                    split at s7
                    · next e => exact e
                    · cases s7
                  have nocell : ∀ y ∈ x.ini.scope.names, y.2 ≠ .cell := fun y hy z => by
                    have := s10 y hy
                    rw [z] at this
                    cases this
                  have hdn : g8 = .none := by
                    cases g8 <;> first | rfl | (cases i1)
                  obtain ⟨ar, hargs⟩ : ∃ ar, (x.ini.params.posonlyargs ++ x.ini.params.args).head? = some ar ∧ ar.arg = sf := by
                    rw [plainB_ok S.ip]
                    show ∃ ar, x.ini.params.args.head? = some ar ∧ ar.arg = sf
                    cases hz : x.ini.params.args with
                    | nil => rw [hz] at s1; cases s1
                    | cons ar r =>
                      rw [hz] at s1
                      simp only [List.map_cons, List.cons.injEq] at s1
                      exact ⟨ar, rfl, s1.1⟩
                  subst hdn j1 j2 j3 j4 j5 j6 j8 hfe
                  obtain ⟨cdD, hcdD⟩ := Option.isSome_iff_exists.mp hcd
                  refine ⟨He.fAd K x.ini.at_, He.ga K x.ini.at_.1, PySem.W.ksFn x.ini.name x.ini.qual x.ini.params x.ini.body x.ini.scope .none g9 g10 g11 g12 (.ref cda) g14 cc, sf, pr, ⟨x.ini.name, x.ini.qual, x.ini.params, msg, jj, p0, p1, p2, p3, p4, p5, p6, p7, p8, p9, x.ini.scope, .none, g9, g10, g11, g14, oc, g12, od, osl, cc, cda, ar, vs, _, tf, ccl, cl, cdd, cld, ccs, csl, cdD, ?_, hlk, i2, hargs.1, hargs.2, s2, loc s3, loc s4, glb, fre, kin, s8, s9, nocell, s11, s12, hln, hvs, hf, beq_self_eq_true _, htop, hcell, hcdD, He.eqO_ok c14⟩,
                    ⟨⟨?_, He.eqO_ok (allB_get e 11 rfl), of_decide_eq_true (allB_get e 3 rfl), of_decide_eq_true (allB_get e 12 rfl), allB_get e 13 rfl⟩, He.eqO_ok (allB_get e 9 rfl), of_decide_eq_true (allB_get e 14 rfl), He.eqO_ok (allB_get e 15 rfl), of_decide_eq_true (allB_get e 16 rfl)⟩,
                    He.eqO_ok (allB_get e 17 rfl), of_decide_eq_true (allB_get e 18 rfl), ?_, He.free_ok X Gn c3⟩
                  · rw [hbody]
                  · obtain ⟨nm, q, N, bs, bm, sn, sub, ab, col, dd, k0, k1, k2, k3, k5, h1, h2⟩ := excB_ok (allB_get e 10 rfl)
                    exact ⟨nm, q, N, bs, bm, sn, sub, ab, col, dd, k0, k1, k2, k3, k5, h1, h2⟩
                  · rw [← s1]
                    refine binds_gen (plainB_ok S.ip) rfl ?_
                    rw [s1]
                    simp [s2]
                · cases k13
              · cases i4
            · cases i4
          · cases i3
        · cases i3
      · cases i3
    · cases hi'
  · obtain ⟨hl, hn, e⟩ := exs_at y c hy
    exact isB_ok (List.all_eq_true.mp (c9 c' (List.mem_range.mpr hc')) c (List.mem_range.mpr hl))
  · exact He.free_ok X Gn (c2 y hy)
  · refine isB_ok (List.all_eq_true.mp (c8 k ?_) ty ?_)
    · unfold Tx.kds
      cases k with
      | exc c => exact List.mem_append_right _ (List.mem_map.mpr ⟨c, List.mem_range.mpr (hk c rfl), rfl⟩)
      | _ => exact List.mem_append_left _ (by simp)
    · unfold Tx.tys
      cases ty with
      | own c =>
        obtain ⟨y, hy⟩ := ht
        exact List.mem_append_right _ (List.mem_map.mpr ⟨c, List.mem_range.mpr (exs_at y c hy).1, rfl⟩)
      | _ => exact List.mem_append_left _ (by simp)
  · cases z : K.lookup sysModules with
    | none => rw [z] at c11; cases c11
    | some o => exact ⟨o, KB _ _ z⟩
end
end Tx
end Py
end
section
set_option linter.all false
set_option maxRecDepth 100000
/-! PyZb: a law holds, where our machine says True of every script. -/
namespace Py
open PySem PySem.Spec PyProof.Rows L2
theorem law_end {l : PySem.W.OpenLaw} {n k m fu li : Nat} {q : Program} {loose : List Str} {XP : (Str → Option Value) → Heap → Prop} {d : DefRec} {x : Tx}
    (hn : l.most = some n) (hn2 : n ≤ sizeLine) (hdf : d.params.defaults = []) (hr : Room k callerA) (hst : x.stB = true) (htr : x.tr = x.bodies.map some) (htop : (l.prog.main.scope.names.lookup ("super" : Str)).isSome = false)
    (hfn : x.fns.lookup d.name = some li) (hpar : (x.G.par li).length = 1)
    (main : ∀ ns : List Int, ns.length ≤ n → (∀ i ∈ ns, Builtin.Int.intBits i ≤ 1048576) → ∃ S', callI x.P fu k li [.ref 0] [.frz (ns.map .int)] = .ok (.bl true) S') :
    PySem.W.WalkO q loose XP (x.hook l.prog.main.file m).says l.row.toRowW d [] (fun f vs => PySem.call f vs) := by
  refine Att.attach_callB hn hdf fun w s₀ s₁ mg mb fa o pm cd doc a vs ns G Y ho hd hcd hmg hobj hints hlen hbits hg => ?_
  obtain ⟨K, KX, hobs⟩ := Y
  have T := G.T
  have hc : x.chk l.prog.main.file K = true := congrArg (fun z : Tx.Al => z.1) hobs
  have hl : ns.length ≤ sizeLine := Nat.le_trans hlen hn2
  have rv := vals_ints hints
  -- the script is none of the module's own objects
  have hK : K.lookup a = none := by
    cases z : K.lookup a with
    | none => rfl
    | some u =>
      have e := KX a u z
      rw [hobj] at e
      cases e
      have mem : ∀ {L : PySem.W.Frag} {v : Obj}, L.lookup a = some v → (a, v) ∈ L := by
        intro L v
        induction L with
        | nil => intro h; cases h
        | cons p r ih =>
          intro h
          obtain ⟨b, c⟩ := p
          rw [List.lookup_cons] at h
          split at h
          · next e => cases h; rw [beq_iff_eq.mp e]; exact List.mem_cons_self
          · exact List.mem_cons_of_mem _ (ih h)
      have nl := List.all_eq_true.mp (allB_get hc 10 rfl) _ (mem z)
      exact absurd nl (by show ¬ decide ("list" ≠ "list") = true; simp)
  obtain ⟨H, hH⟩ : ∃ H : Hp, H = fun b => if b = a then some (.frz { cls := .type "list", data := .seq vs.toArray } (.lst (ns.map V.int))) else none := ⟨_, rfl⟩
  have Ha : H a = some (.frz { cls := .type "list", data := .seq vs.toArray } (.lst (ns.map V.int))) := by rw [hH]; exact if_pos rfl
  have Hn : ∀ {b : Addr}, b ≠ a → H b = none := fun {b} h => by rw [hH]; exact if_neg h
  have hA : ∀ b u, H b = some u → b = a := fun b u e => by
    by_cases h : b = a
    · exact h
    · rw [Hn h] at e; cases e
  have hok : HOk l.prog w H s₁.heap := fun b u e => by
    obtain rfl := hA b u e
    rw [Ha] at e
    cases e
    exact ⟨hobj, by rw [List.length_map]; exact hl, vs, _, rv, hobj⟩
  have base_of : ∀ {b : Addr} {o : Obj}, s₁.heap.get? b = some o → b ≠ a → (hidT s₁.heap H).get? b = some o := fun e n => hidT_get e (Hn n)
  have nd : ∀ {b : Addr} {o : Obj} {es : Array DictEntry} {ep : Nat}, s₁.heap.get? b = some o → o.data = .dict es ep → b ≠ a := fun {b o es ep} e dd z => by
    subst z
    rw [hobj] at e
    cases e
    have d' : Data.seq vs.toArray _ = Data.dict es ep := dd
    cases d'
  have nsK : ∀ {b : Addr} {f : Str → Option Value}, s₁.heap.Ns b f → (hidT s₁.heap H).Ns b f := fun {b f} ⟨o, es, ep, e, dd, r⟩ => ⟨o, es, ep, base_of e (nd e dd), dd, r⟩
  have hKb : K.In (hidT s₁.heap H) := fun b o e => base_of (KX b o e) fun z => by rw [z, hK] at e; cases e
  have hM : Mod K mg (hidT s₁.heap H) := by
    obtain ⟨mc, h1, h2⟩ := T.nolimit
    exact ⟨hKb, nsK T.g, ⟨mb, nsK T.b, T.builtins⟩, ⟨mc, nsK h1, h2⟩⟩
  have e0 : Env0 l.prog w K mg (hidT s₁.heap H) callerA [] s₁ H := ⟨rfl, hM, fun b o e => of_hidT e, Nat.le_of_eq (hidT_size _ _), trivial, fun b hb => absurd (show b ∈ ([] : List Addr) from hb) (by simp), hok, .of_eq hg⟩
  have p := Tx.px (P := l.prog) (mg := mg) (h := s₁.heap) (base := hidT s₁.heap H) (Tx.st_ok hst) htr KX T.g hKb hobs htop
  obtain ⟨f1, f2, f3, f4, _⟩ := p.fns d.name li hfn
  have efa : x.fa K li = fa := by
    rw [hmg] at f2
    cases f2
    rfl
  have F := defs (w := w) (fu := fu) p k k (Nat.le_refl k) li f1
  rw [efa] at F
  obtain ⟨S', hm⟩ := main ns hlen hbits
  have hb := f4 s₁ [.ref a] KX (by rw [List.append_nil, hpar]; rfl)
  rw [List.append_nil] at hb
  have sp : spF (x.T K) (x.G.par li).length (callI x.P fu k li) [.ref a] H (fun v _ => v = .bl true) (fun _ _ _ => False) := by
    refine ⟨by rw [hpar]; rfl, [a], [.frz (ns.map .int)], [.ref 0], ⟨rfl, by simp, fun i ob b e1 e2 => ?_⟩, .cons (.ref rfl) .nil, ?_⟩
    · cases i with
      | zero =>
        simp at e1 e2
        subst e1 e2
        exact ⟨_, _, Ha, RDs.ofInts ns⟩
      | succ i => simp at e1
    · rw [hm]
      intro m' H' v _ _ rv
      cases rv
      rfl
  refine codeAny_mono (F.run callerA [] s₁ H ⟨[.ref a], []⟩ [.ref a] [.ref a] _ _ hr rfl e0 hb (.cons rfl .nil) sp) fun r s' h => ?_
  cases r with
  | error e =>
    obtain ⟨_, _, _, _, _, _, _, _, _, _, _, _, z⟩ := h
    exact z.elim
  | ok fl =>
    cases fl with
    | next => exact False.elim h
    | brk => exact False.elim h
    | cont => exact False.elim h
    | ret u =>
      obtain ⟨v, H', os, bare, un, hok', r', q'⟩ := h
      have q2 : v = .bl true := q'
      subst q2
      obtain rfl : u = Value.bool true := r'
      refine ⟨rfl, OldK.of_keep fun b o e => ?_, os, bare⟩
      by_cases hba : b = a
      · subst hba
        have z2 := un.frzs b _ _ Ha
        obtain ⟨e2, _⟩ := hok' b _ z2
        rw [hobj] at e
        cases e
        exact e2
      · exact un.keep b o e (Hn hba) (by intro z; exact absurd (show b ∈ ([] : List Addr) from z) (by simp)) (by simp)
end Py
end
section
set_option linter.all false
set_option maxRecDepth 100000
/-! PyZc: our machine with what comes behind handed in: rewriting rules that run it head first. -/
namespace Py
open PySem
def ss : List Sm → Ss
  | [] => .nil
  | s :: r => .cons s (ss r)

/-- a mark that keeps rewriting away from what comes behind -/
def Tag {α : Type} (_ : α) : Type := Unit
section
variable {α β : Type}
/-- choices whose ends are kept from rewriting until they are made -/
def onO (o : Option α) (f : α → β) (b : β) (_t : Tag (f, b) := ()) : β := match o with
  | some a => f a
  | none => b
def onL (o : Option Ob) (f : List D → β) (b : β) (_t : Tag (f, b) := ()) : β := match o with
  | some (.lst xs) => f xs
  | _ => b
def onI (o : Option Ob) (f : List D → β) (b : β) (_t : Tag (f, b) := ()) : β := match o with
  | some (.lst xs) => f xs
  | some (.frz xs) => f xs
  | _ => b
def ifB (k : Bool) (p q : β) (_t : Tag (p, q) := ()) : β := if k = true then p else q
def ifP (c : Prop) [Decidable c] (p q : β) (_t : Tag (p, q) := ()) : β := if c then p else q
theorem onO_some (a : α) (f : α → β) (b : β) : onO (some a) f b = f a := rfl
theorem onO_none (f : α → β) (b : β) : onO none f b = b := rfl
theorem onL_lst (xs : List D) (f : List D → β) (b : β) : onL (some (.lst xs)) f b = f xs := rfl
theorem onI_lst (xs : List D) (f : List D → β) (b : β) : onI (some (.lst xs)) f b = f xs := rfl
theorem onI_frz (xs : List D) (f : List D → β) (b : β) : onI (some (.frz xs)) f b = f xs := rfl
theorem ifB_t (p q : β) : ifB true p q = p := rfl
theorem ifB_f (p q : β) : ifB false p q = q := rfl
theorem ifP_t {c : Prop} [Decidable c] (p q : β) (h : c) : ifP c p q = p := if_pos h
theorem ifP_f {c : Prop} [Decidable c] (p q : β) (h : ¬ c) : ifP c p q = q := if_neg h
theorem ifP_true [Decidable True] (p q : β) : ifP True p q = p := if_pos trivial
theorem ifP_false [Decidable False] (p q : β) : ifP False p q = q := if_neg id
end
def Res.kk {α β : Type} (r : Res α) (f : α → Sto → β) (g : Nat → D → Sto → β) (b : β) (_t : Tag (f, g, b) := ()) : β := match r with
  | .ok a S => f a S
  | .exc c v S => g c v S
  | .bad => b
section
variable {α β γ : Type}
theorem kk_ok (a : α) (S : Sto) (f : α → Sto → β) (g : Nat → D → Sto → β) (b : β) : (Res.ok a S).kk f g b = f a S := rfl
theorem kk_exc (c : Nat) (v : D) (S : Sto) (f : α → Sto → β) (g : Nat → D → Sto → β) (b : β) : (Res.exc c v S : Res α).kk f g b = g c v S := rfl
theorem kk_bad (f : α → Sto → β) (g : Nat → D → Sto → β) (b : β) : (Res.bad : Res α).kk f g b = b := rfl
theorem kk_of {r : Res α} {a : α} {S : Sto} (h : r = .ok a S) (f : α → Sto → β) (g : Nat → D → Sto → β) (b : β) : r.kk f g b = f a S := by rw [h]; rfl
theorem kk_ofx {r : Res α} {c : Nat} {v : D} {S : Sto} (h : r = .exc c v S) (f : α → Sto → β) (g : Nat → D → Sto → β) (b : β) : r.kk f g b = g c v S := by rw [h]; rfl
theorem kk_bind (r : Res α) (h : α → Sto → Res γ) (f : γ → Sto → β) (g : Nat → D → Sto → β) (b : β) : (r.bind h).kk f g b = r.kk (fun a S => (h a S).kk f g b) g b := by cases r <;> rfl
theorem kk_ext {r : Res α} {f f' : α → Sto → β} {g : Nat → D → Sto → β} {b : β} (h : ∀ a S, f a S = f' a S) : r.kk f g b = r.kk f' g b := by
  cases r with
  | ok a S => exact h a S
  | exc c v S => rfl
  | bad => rfl
theorem kk_if (c : Prop) [Decidable c] (p q : Res α) (f : α → Sto → β) (g : Nat → D → Sto → β) (b : β) : (if c then p else q).kk f g b = ifP c (p.kk f g b) (q.kk f g b) := by unfold ifP; split <;> rfl
theorem bind_kk (r : Res α) (h : α → Sto → Res β) : r.bind h = r.kk h .exc .bad := by cases r <;> rfl
theorem out_kk (r : Res α) (σ : Sl) (h : α → Sto → Out) : r.out σ h = r.kk h (fun c v S => .exc c v σ S) .bad := by cases r <;> rfl
theorem kk_id (r : Res α) : r.kk .ok .exc .bad = r := by cases r <;> rfl
end
section
variable {β : Type} {V : Ev} {σ : Sl} {S : Sto}
theorem k_orBad {α : Type} (o : Option α) (S : Sto) (f : α → Sto → β) (g : Nat → D → Sto → β) (b : β) : (orBad o S).kk f g b = onO o (fun a => f a S) b := by cases o <;> rfl
variable (f : D → Sto → β) (g : Nat → D → Sto → β) (b : β)
theorem k_var (i : Nat) : (evE V (.var i) σ S).kk f g b = (varD i σ S).kk f g b := by rw [evE]
theorem k_varD {i : Nat} {d : D} (h : σ[i]? = some (some d)) : (varD i σ S).kk f g b = f d S := by unfold varD; rw [h]; rfl
theorem k_lit (d : D) : (evE V (.lit d) σ S).kk f g b = f d S := by rw [evE]; rfl
theorem k_gl (n : Nat) : (evE V (.gl n) σ S).kk f g b = f (V.gv n) S := by rw [evE]; rfl
theorem k_tup (es : Es) : (evE V (.tup es) σ S).kk f g b = (evEs V es σ S).kk (fun ds S1 => ifP (ds.length ≤ sizeLine) (f (.tup ds) S1) b) g b := by
  rw [evE, kk_bind]
  refine kk_ext fun ds S1 => ?_
  rw [kk_if]
  rfl
theorem k_mk (l : L) : (evE V (.mk l) σ S).kk f g b = (evL V l σ S).kk (fun p S1 => match p.2 with
    | .fresh => f (.ref S1.length) (S1 ++ [.lst p.1])
    | _ => b) g b := by
  rw [evE, kk_bind]
  refine kk_ext fun p S1 => ?_
  obtain ⟨ds, z⟩ := p
  cases z <;> rfl
theorem k_bin (op : Bop) (x y : E) : (evE V (.bin op x y) σ S).kk f g b = (evE V x σ S).kk (fun x S1 => (evE V y σ S1).kk (fun y S2 => (binD op x y S2).kk f g b) g b) g b := by
  rw [evE, kk_bind]
  refine kk_ext fun x S1 => ?_
  rw [kk_bind]
theorem k_neg (x : E) : (evE V (.neg x) σ S).kk f g b = (evE V x σ S).kk (fun x S1 => match x with
    | .int i => f (.int (-i)) S1
    | _ => b) g b := by
  rw [evE, kk_bind]
  refine kk_ext fun x S1 => ?_
  cases x <;> rfl
theorem k_cmp (op : Cop) (x y : E) : (evE V (.cmp op x y) σ S).kk f g b = (evE V x σ S).kk (fun x S1 => (evE V y σ S1).kk (fun y S2 => (cmpD op x y S2).kk f g b) g b) g b := by
  rw [evE, kk_bind]
  refine kk_ext fun x S1 => ?_
  rw [kk_bind]
theorem k_bl (d : D) (h : Bool → Sto → Res D) : (boolD d S h).kk f g b = match d with
    | .bl k => (h k S).kk f g b
    | _ => b := by cases d <;> rfl
theorem k_chn (op op' : Cop) (x y z : E) : (evE V (.chn op op' x y z) σ S).kk f g b = (evE V x σ S).kk (fun x S1 => (evE V y σ S1).kk (fun y S2 => (cmpD op x y S2).kk (fun r S3 => match r with
    | .bl k => ifB k ((evE V z σ S3).kk (fun z S5 => (cmpD op' y z S5).kk f g b) g b) (f (.bl false) S3)
    | _ => b) g b) g b) g b := by
  rw [evE, kk_bind]
  refine kk_ext fun x S1 => ?_
  rw [kk_bind]
  refine kk_ext fun y S2 => ?_
  rw [kk_bind]
  refine kk_ext fun r S3 => ?_
  rw [k_bl]
  cases r <;> try rfl
  case bl k =>
    cases k
    · rfl
    · show (Res.bind _ _).kk f g b = _
      rw [kk_bind]
      rfl
theorem k_isn (x : E) : (evE V (.isn x) σ S).kk f g b = (evE V x σ S).kk (fun x S1 => match x with
    | .non => f (.bl true) S1
    | _ => f (.bl false) S1) g b := by
  rw [evE, kk_bind]
  refine kk_ext fun x S1 => ?_
  cases x <;> rfl
theorem k_nsn (x : E) : (evE V (.nsn x) σ S).kk f g b = (evE V x σ S).kk (fun x S1 => match x with
    | .non => f (.bl false) S1
    | _ => f (.bl true) S1) g b := by
  rw [evE, kk_bind]
  refine kk_ext fun x S1 => ?_
  cases x <;> rfl
theorem k_and (x y : E) : (evE V (.and_ x y) σ S).kk f g b = (evE V x σ S).kk (fun x S1 => match x with
    | .bl k => ifB k ((evE V y σ S1).kk (fun y S3 => match y with
        | .bl k' => f (.bl k') S3
        | _ => b) g b) (f (.bl false) S1)
    | _ => b) g b := by
  rw [evE, kk_bind]
  refine kk_ext fun x S1 => ?_
  rw [k_bl]
  cases x <;> try rfl
  case bl k =>
    cases k
    · rfl
    · show (Res.bind _ _).kk f g b = (evE V y σ S1).kk _ g b
      rw [kk_bind]
      refine kk_ext fun y S3 => ?_
      cases y <;> rfl
theorem k_or (x y : E) : (evE V (.or_ x y) σ S).kk f g b = (evE V x σ S).kk (fun x S1 => match x with
    | .bl k => ifB k (f (.bl true) S1) ((evE V y σ S1).kk (fun y S3 => match y with
        | .bl k' => f (.bl k') S3
        | _ => b) g b)
    | _ => b) g b := by
  rw [evE, kk_bind]
  refine kk_ext fun x S1 => ?_
  rw [k_bl]
  cases x <;> try rfl
  case bl k =>
    cases k
    · show (Res.bind _ _).kk f g b = (evE V y σ S1).kk _ g b
      rw [kk_bind]
      refine kk_ext fun y S3 => ?_
      cases y <;> rfl
    · rfl
theorem k_not (x : E) : (evE V (.not_ x) σ S).kk f g b = (evE V x σ S).kk (fun x S1 => match x with
    | .bl k => f (.bl (!k)) S1
    | _ => b) g b := by
  rw [evE, kk_bind]
  refine kk_ext fun x S1 => ?_
  rw [k_bl]
  cases x <;> rfl
theorem k_ife (c x y : E) : (evE V (.ife c x y) σ S).kk f g b = (evE V c σ S).kk (fun c S1 => match c with
    | .bl k => ifB k ((evE V x σ S1).kk f g b) ((evE V y σ S1).kk f g b)
    | _ => b) g b := by
  rw [evE, kk_bind]
  refine kk_ext fun x S1 => ?_
  rw [k_bl]
  cases x <;> try rfl
  case bl k => cases k <;> rfl
theorem k_idx (x y : E) : (evE V (.idx x y) σ S).kk f g b = (evE V x σ S).kk (fun x S1 => (evE V y σ S1).kk (fun y S2 => (idxD S2 x y).kk f g b) g b) g b := by
  rw [evE, kk_bind]
  refine kk_ext fun x S1 => ?_
  rw [kk_bind]
theorem k_sli (x : E) (l h : Oe) : (evE V (.sli x l h) σ S).kk f g b = (evE V x σ S).kk (fun x S1 => (evO V l σ S1).kk (fun l S2 => (evO V h σ S2).kk (fun h S3 => (sliD x l h S3).kk f g b) g b) g b) g b := by
  rw [evE, kk_bind]
  refine kk_ext fun x S1 => ?_
  rw [kk_bind]
  refine kk_ext fun l S2 => ?_
  rw [kk_bind]
theorem k_rev (x : E) : (evE V (.rev x) σ S).kk f g b = (evE V x σ S).kk (fun x S1 => (revD x S1).kk f g b) g b := by rw [evE, kk_bind]
theorem k_call (n : Nat) (es : Es) : (evE V (.call n es) σ S).kk f g b = (evEs V es σ S).kk (fun ds S1 => (V.call n ds S1).kk f g b) g b := by rw [evE, kk_bind]
theorem k_callK (n : Nat) (es ks : Es) (pm : List Nat) : (evE V (.callK n es ks pm) σ S).kk f g b = (evEs V es σ S).kk (fun ds S1 => (evEs V ks σ S1).kk (fun ws S2 => onO (permD (ds ++ ws) pm) (fun zs => (V.call n zs S2).kk f g b) b) g b) g b := by
  rw [evE, kk_bind]
  refine kk_ext fun x S1 => ?_
  rw [kk_bind]
  refine kk_ext fun l S2 => ?_
  rw [kk_bind, k_orBad]
theorem k_bi (o : Bi) (es : Es) : (evE V (.bi o es) σ S).kk f g b = (evEs V es σ S).kk (fun ds S1 => (biD o ds S1).kk f g b) g b := by rw [evE, kk_bind]
theorem k_blt (o : Bl) (l : L) : (evE V (.bl o l) σ S).kk f g b = (evL V l σ S).kk (fun p S1 => (blD o p.1 p.2 S1).kk f g b) g b := by rw [evE, kk_bind]
theorem k_isi (x : E) (T : Ty) : (evE V (.isi x T) σ S).kk f g b = (evE V x σ S).kk (fun x S1 => onO (isiD V x T S1) (fun k => f (.bl k) S1) b) g b := by
  rw [evE, kk_bind]
  refine kk_ext fun x S1 => ?_
  rw [k_orBad]
  cases isiD V x T S1 <;> rfl
theorem k_isT (x : E) (Ts : List Ty) : (evE V (.isT x Ts) σ S).kk f g b = (evE V x σ S).kk (fun x S1 => onO (isTD V x S1 Ts) (fun k => f (.bl k) S1) b) g b := by
  rw [evE, kk_bind]
  refine kk_ext fun x S1 => ?_
  rw [k_orBad]
  cases isTD V x S1 Ts <;> rfl
theorem k_fld (x : E) (n : Nat) : (evE V (.fld x n) σ S).kk f g b = (evE V x σ S).kk (fun x S1 => (fldD x n S1).kk f g b) g b := by rw [evE, kk_bind]
theorem k_app (x y : E) : (evE V (.app x y) σ S).kk f g b = (evE V x σ S).kk (fun x S1 => ifB (lstQ x S1) ((evE V y σ S1).kk (fun y S2 => (appD x y S2).kk f g b) g b) b) g b := by
  rw [evE, kk_bind]
  refine kk_ext fun x S1 => ?_
  rw [kk_if, kk_bind]
  rfl
theorem k_ext (x y : E) : (evE V (.ext x y) σ S).kk f g b = (evE V x σ S).kk (fun x S1 => ifB (lstQ x S1) ((evE V y σ S1).kk (fun y S2 => (extD x y S2).kk f g b) g b) b) g b := by
  rw [evE, kk_bind]
  refine kk_ext fun x S1 => ?_
  rw [kk_if, kk_bind]
  rfl
theorem k_dct (ks : List L2.Key) (es : Es) : (evE V (.dct ks es) σ S).kk f g b = (evEs V es σ S).kk (fun ds S1 => ifP (ds.length = ks.length ∧ ks.Nodup ∧ ks.length ≤ 15) (f (.ref S1.length) (S1 ++ [.dct (ks.zip ds)])) b) g b := by
  rw [evE, kk_bind]
  refine kk_ext fun x S1 => ?_
  rw [kk_if]
  rfl
theorem k_meth (c m : Nat) (x : E) (es : Es) : (evE V (.meth c m x es) σ S).kk f g b = (evE V x σ S).kk (fun x S1 => match x with
    | .ref n => match S1[n]? with
      | some (.ins c' fs) => if c' = c then (evEs V es σ S1).kk (fun ds S2 => (V.call m (.ref n :: ds) S2).kk f g b) g b else b
      | _ => b
    | _ => b) g b := by
  rw [evE, kk_bind]
  refine kk_ext fun x S1 => ?_
  cases x <;> try rfl
  case ref n =>
    dsimp only
    generalize S1[n]? = o
    rcases o with _ | o
    · rfl
    · cases o <;> try rfl
      show Res.kk (if _ then _ else _) f g b = _
      rw [kk_if, kk_bind]
      rfl
theorem k_make (c : Nat) (es : Es) : (evE V (.make c es) σ S).kk f g b = (evEs V es σ S).kk (fun ds S1 => (V.init c (.ref S1.length :: ds) (S1 ++ [.ins c []])).kk (fun v S2 => match v with
    | .non => f (.ref S1.length) S2
    | _ => b) g b) g b := by
  rw [evE, kk_bind]
  refine kk_ext fun x S1 => ?_
  rw [kk_bind]
  refine kk_ext fun v S2 => ?_
  cases v <;> rfl
theorem k_exv (c : Nat) (x : E) : (evE V (.exv c x) σ S).kk f g b = (evE V x σ S).kk (fun x S1 => f (.ref S1.length) (S1 ++ [.exc c x])) g b := by rw [evE, kk_bind]; rfl
end
section
variable {β : Type} {V : Ev} {σ : Sl} {S : Sto} (g : Nat → D → Sto → β) (b : β)
theorem k_nil (f : List D → Sto → β) : (evEs V .nil σ S).kk f g b = f [] S := by rw [evEs]; rfl
theorem k_cons (e : E) (es : Es) (f : List D → Sto → β) : (evEs V (.cons e es) σ S).kk f g b = (evE V e σ S).kk (fun d S1 => (evEs V es σ S1).kk (fun ds S2 => f (d :: ds) S2) g b) g b := by
  rw [evEs, kk_bind]
  refine kk_ext fun x S1 => ?_
  rw [kk_bind]
  rfl
theorem k_no (f : Option Int → Sto → β) : (evO V .no σ S).kk f g b = f none S := by rw [evO]; rfl
theorem k_yes (e : E) (f : Option Int → Sto → β) : (evO V (.yes e) σ S).kk f g b = (evE V e σ S).kk (fun d S1 => match d with
    | .int i => f (some i) S1
    | _ => b) g b := by
  rw [evO, kk_bind]
  refine kk_ext fun x S1 => ?_
  cases x <;> rfl
theorem k_tnil (f : Bool → Sto → β) : (evT V .nil σ S).kk f g b = f true S := by rw [evT]; rfl
theorem k_tcons (e : E) (es : Es) (f : Bool → Sto → β) : (evT V (.cons e es) σ S).kk f g b = (evE V e σ S).kk (fun d S1 => match d with
    | .bl true => (evT V es σ S1).kk f g b
    | .bl false => f false S1
    | _ => b) g b := by
  rw [evT, kk_bind]
  refine kk_ext fun x S1 => ?_
  cases x <;> try rfl
  case bl k => cases k <;> rfl
theorem k_disp (es : Es) (f : List D × Src → Sto → β) : (evL V (.disp es) σ S).kk f g b = (evEs V es σ S).kk (fun ds S1 => ifP (ds.length ≤ sizeLine) (f (ds, .fresh) S1) b) g b := by
  rw [evL, kk_bind]
  refine kk_ext fun ds S1 => ?_
  rw [kk_if]
  rfl
theorem k_of (e : E) (f : List D × Src → Sto → β) : (evL V (.of e) σ S).kk f g b = (evE V e σ S).kk (fun d S1 => (srcD d S1).kk f g b) g b := by rw [evL, kk_bind]
theorem k_rng1 (e : E) (f : List D × Src → Sto → β) : (evL V (.rng1 e) σ S).kk f g b = (evE V e σ S).kk (fun d S1 => (rngR (.int 0) d S1).kk f g b) g b := by rw [evL, kk_bind]
theorem k_rng2 (e e' : E) (f : List D × Src → Sto → β) : (evL V (.rng2 e e') σ S).kk f g b = (evE V e σ S).kk (fun d S1 => (evE V e' σ S1).kk (fun d' S2 => (rngR d d' S2).kk f g b) g b) g b := by
  rw [evL, kk_bind]
  refine kk_ext fun x S1 => ?_
  rw [kk_bind]
/-- one turn of a comprehension -/
noncomputable def turnC (V : Ev) (own : List Nat) (tg : Tg) (ifs : Es) (elt : E) (σ : Sl) (d : D) (S2 : Sto) : Res (Option D) := match tgD tg d (wipeD σ own) with
        | none => .bad
        | some σ2 => (evT V ifs σ2 S2).bind fun k S3 => if k = true then (evE V elt σ2 S3).bind fun y S4 => .ok (some y) S4 else .ok none S3
theorem k_comp (own : List Nat) (tg : Tg) (src : L) (ifs : Es) (elt : E) (f : List D × Src → Sto → β) : (evL V (.comp own tg src ifs elt) σ S).kk f g b = (evL V src σ S).kk (fun p S1 => (compGo p.2 (turnC V own tg ifs elt σ) p.1 [] S1).kk (fun ds S2 => f (ds, .fresh) S2) g b) g b := by
  rw [evL, kk_bind]
  refine kk_ext fun x S1 => ?_
  rw [kk_bind]
  rfl
end
/-! ### statements -/
section
variable {V : Ev} {σ : Sl} {S : Sto} (f : Sl → Sto → Out)
/-- an exception's end -/
abbrev xo (σ : Sl) : Nat → D → Sto → Out := fun c v S => .exc c v σ S
theorem then_kk {α : Type} (r : Res α) (h : α → Sto → Out) : (r.kk h (xo σ) .bad).then f = r.kk (fun a S => (h a S).then f) (xo σ) .bad := by cases r <;> rfl
theorem then_if (c : Prop) [Decidable c] (p q : Out) : (if c then p else q).then f = if c then p.then f else q.then f := by split <;> rfl
theorem c_expr (e : E) : (evS V (.expr e) σ S).then f = (evE V e σ S).kk (fun _ S1 => f σ S1) (xo σ) .bad := by rw [evS, out_kk, then_kk]; rfl
theorem c_set (i : Nat) (e : E) : (evS V (.set i e) σ S).then f = (evE V e σ S).kk (fun d S1 => f (σ.set i (some d)) S1) (xo σ) .bad := by rw [evS, out_kk, then_kk]; rfl
theorem c_unp (is : List Nat) (e : E) : (evS V (.unp is e) σ S).then f = (evE V e σ S).kk (fun d S1 => onO (unpD d S1) (fun ds => onO (setAll is ds σ) (fun σ1 => f σ1 S1) .bad) .bad) (xo σ) .bad := by
  rw [evS, out_kk, then_kk]
  refine kk_ext fun d S1 => ?_
  rcases unpD d S1 with _ | ds
  · rfl
  · show Out.then (outO (setAll is ds σ) _) f = onO (setAll is ds σ) (fun σ1 => f σ1 S1) .bad
    rcases setAll is ds σ <;> rfl
theorem c_par (is : List Nat) (es : Es) : (evS V (.par is es) σ S).then f = (evEs V es σ S).kk (fun ds S1 => onO (setAll is ds σ) (fun σ1 => f σ1 S1) .bad) (xo σ) .bad := by
  rw [evS, out_kk, then_kk]
  refine kk_ext fun ds S1 => ?_
  rcases setAll is ds σ <;> rfl
theorem c_setI (o i e : E) : (evS V (.setI o i e) σ S).then f = (evE V e σ S).kk (fun v S1 => (evE V o σ S1).kk (fun x S2 => (evE V i σ S2).kk (fun y S3 => onO (setIx x y v S3) (fun S4 => f σ S4) .bad) (xo σ) .bad) (xo σ) .bad) (xo σ) .bad := by
  rw [evS, out_kk, then_kk]
  refine kk_ext fun v S1 => ?_
  rw [out_kk, then_kk]
  refine kk_ext fun x S2 => ?_
  rw [out_kk, then_kk]
  refine kk_ext fun y S3 => ?_
  rcases setIx x y v S3 <;> rfl
theorem c_ife (c : E) (p q : Ss) : (evS V (.ife c p q) σ S).then f = (evE V c σ S).kk (fun d S1 => match d with
    | .bl k => ifB k ((evSs V p σ S1).then f) ((evSs V q σ S1).then f)
    | _ => .bad) (xo σ) .bad := by
  rw [evS, out_kk, then_kk]
  refine kk_ext fun d S1 => ?_
  cases d <;> try rfl
  rw [boolO_bl, then_if]
  rfl
theorem c_ret (e : E) : (evS V (.ret e) σ S).then f = (evE V e σ S).kk (fun d S1 => .ret d S1) (xo σ) .bad := by rw [evS, out_kk, then_kk]; rfl
theorem c_retN : (evS V .retN σ S).then f = .ret .non S := by rw [evS]; rfl
theorem c_rais (c : Nat) (e : E) : (evS V (.rais c e) σ S).then f = (evE V e σ S).kk (fun d S1 => .exc c d σ S1) (xo σ) .bad := by rw [evS, out_kk, then_kk]; rfl
theorem c_pass : (evS V .pass σ S).then f = f σ S := by rw [evS]; rfl
theorem c_brk : (evS V .brk σ S).then f = .brk σ S := by rw [evS]; rfl
theorem c_cnt : (evS V .cnt σ S).then f = .cnt σ S := by rw [evS]; rfl
theorem c_aug (i : Nat) (op : Bop) (e : E) : (evS V (.aug i op e) σ S).then f = (varD i σ S).kk (fun x S1 => (evE V e σ S1).kk (fun y S2 => match x, y with
    | .int a, .int b => match op with
      | .add => f (σ.set i (some (.int (a + b)))) S2
      | .sub => f (σ.set i (some (.int (a - b)))) S2
      | _ => .bad
    | _, _ => .bad) (xo σ) .bad) (xo σ) .bad := by
  rw [evS, out_kk, then_kk]
  refine kk_ext fun x S1 => ?_
  rw [out_kk, then_kk]
  refine kk_ext fun y S2 => ?_
  cases x <;> cases y <;> try rfl
  cases op <;> rfl
theorem c_for (tg : Tg) (l : L) (p : Ss) : (evS V (.for_ tg l p) σ S).then f = (evL V l σ S).kk (fun z S1 => (forGo z.2 tg (evSs V p) z.1 σ S1).then f) (xo σ) .bad := by rw [evS, out_kk, then_kk]
theorem c_whl (c : E) (p : Ss) : (evS V (.whl c p) σ S).then f = (whlGo (evE V c) (evSs V p) V.fuel σ S).then f := by rw [evS]
theorem c_try (p h : Ss) (c i : Nat) : (evS V (.try_ p c i h) σ S).then f = (catchD V c i (evSs V h) (evSs V p σ S)).then f := by rw [evS]
theorem c_setF (o : E) (n : Nat) (e : E) : (evS V (.setF o n e) σ S).then f = (evE V e σ S).kk (fun v S1 => (evE V o σ S1).kk (fun x S2 => match x with
    | .ref m => match S2[m]? with
      | some (.ins c fs) => if fs.length < 1000 then f σ (S2.set m (.ins c (putF n v fs))) else .bad
      | _ => .bad
    | _ => .bad) (xo σ) .bad) (xo σ) .bad := by
  rw [evS, out_kk, then_kk]
  refine kk_ext fun v S1 => ?_
  rw [out_kk, then_kk]
  refine kk_ext fun x S2 => ?_
  cases x <;> try rfl
  case ref m =>
    dsimp only
    generalize S2[m]? = o
    rcases o with _ | o
    · rfl
    · cases o <;> try rfl
      show Out.then (if _ then _ else _) f = _
      rw [then_if]
      rfl
theorem c_nil : (evSs V (ss []) σ S).then f = f σ S := by show Out.then (evSs V .nil σ S) f = _; rw [evSs]; rfl
theorem then_then (o : Out) (h : Sl → Sto → Out) : (o.then h).then f = o.then fun σ S => (h σ S).then f := by cases o <;> rfl
theorem c_cons (s : Sm) (r : List Sm) : (evSs V (ss (s :: r)) σ S).then f = (evS V s σ S).then fun σ1 S1 => (evSs V (ss r) σ1 S1).then f := by show Out.then (evSs V (.cons s (ss r)) σ S) f = _; rw [evSs, then_then]
theorem then_id (o : Out) : o.then .nx = o := by cases o <;> rfl
theorem s_ss (p : List Sm) : evSs V (ss p) σ S = (evSs V (ss p) σ S).then .nx := (then_id _).symm
end
/-- what stands around within a call with k levels left -/
noncomputable def evOf (P : Prog) (w k : Nat) : Ev := ⟨callI P w k, fun c => (match k with
  | 0 => fun _ _ => .bad
  | k' + 1 => callI P w k' (P.ini c)), P.gv, P.sub, w⟩
theorem evOf_call {P : Prog} {w k : Nat} : (evOf P w k).call = callI P w k := rfl
theorem evOf_gv {P : Prog} {w k : Nat} : (evOf P w k).gv = P.gv := rfl
theorem evOf_init {P : Prog} {w k : Nat} {c : Nat} : (evOf P w (k + 1)).init c = callI P w k (P.ini c) := rfl
theorem evOf_sub {P : Prog} {w k : Nat} : (evOf P w k).sub = P.sub := rfl
theorem evOf_fuel {P : Prog} {w k : Nat} : (evOf P w k).fuel = w := rfl
theorem call_eq {P : Prog} {w k n : Nat} {ds : List D} {S : Sto} {F : Fn} {p : List Sm} (h : P.fns n = some F) (hb : F.body = ss p) (hl : ds.length = F.np) : callI P w (k + 1) n ds S = endD S.length ((evSs (evOf P w k) (ss p) (startD F.ns ds) S).then .nx) := by
  rw [then_id, callI, h]
  show (if _ then _ else _) = _
  rw [if_pos hl, hb]
  cases k <;> rfl
end Py
end
section
set_option linter.all false
set_option maxRecDepth 100000
/-! PyZd: references and closed stores, what a call leaves, texts of values. -/
namespace Py
open PySem
/-! ### references -/
mutual
theorem bd_mono {n m : Nat} (h : n ≤ m) : ∀ d : D, d.bd n = true → d.bd m = true
  | .non, _ => rfl
  | .bl _, _ => rfl
  | .int _, _ => rfl
  | .str _, _ => rfl
  | .ref k, b => by
    have z := of_decide_eq_true b
    exact decide_eq_true (show k < m by omega)
  | .tup xs, b => bdL_mono h xs b
theorem bdL_mono {n m : Nat} (h : n ≤ m) : ∀ ds : List D, D.bdL n ds = true → D.bdL m ds = true
  | [], _ => rfl
  | d :: ds, b => by
    have z : (d.bd n && D.bdL n ds) = true := b
    rw [Bool.and_eq_true] at z
    show (d.bd m && D.bdL m ds) = true
    rw [bd_mono h d z.1, bdL_mono h ds z.2]; rfl
end
theorem bdK_mono {n m : Nat} (h : n ≤ m) : ∀ ds : List (L2.Key × D), bdK n ds = true → bdK m ds = true
  | [], _ => rfl
  | d :: ds, b => by
    have z : (d.2.bd n && bdK n ds) = true := b
    rw [Bool.and_eq_true] at z
    show (d.2.bd m && bdK m ds) = true
    rw [bd_mono h _ z.1, bdK_mono h ds z.2]; rfl
theorem bdF_mono {n m : Nat} (h : n ≤ m) : ∀ ds : List (Nat × D), bdF n ds = true → bdF m ds = true
  | [], _ => rfl
  | d :: ds, b => by
    have z : (d.2.bd n && bdF n ds) = true := b
    rw [Bool.and_eq_true] at z
    show (d.2.bd m && bdF m ds) = true
    rw [bd_mono h _ z.1, bdF_mono h ds z.2]; rfl
theorem obd_mono {n m : Nat} (h : n ≤ m) : ∀ o : Ob, o.bd n = true → o.bd m = true
  | .lst xs, b => bdL_mono h xs b
  | .frz xs, b => bdL_mono h xs b
  | .dct xs, b => bdK_mono h xs b
  | .ins _ xs, b => bdF_mono h xs b
  | .exc _ v, b => bd_mono h v b
theorem bdS_iff {n : Nat} : ∀ {S : Sto}, bdS n S = true ↔ ∀ o ∈ S, o.bd n = true
  | [] => ⟨fun _ _ h => (nomatch h), fun _ => rfl⟩
  | o :: S => by
    show (o.bd n && bdS n S) = true ↔ _
    rw [Bool.and_eq_true, bdS_iff, List.forall_mem_cons]
theorem bdL_iff {n : Nat} : ∀ {xs : List D}, D.bdL n xs = true ↔ ∀ o ∈ xs, o.bd n = true
  | [] => ⟨fun _ _ h => (nomatch h), fun _ => rfl⟩
  | o :: S => by
    show (o.bd n && D.bdL n S) = true ↔ _
    rw [Bool.and_eq_true, bdL_iff, List.forall_mem_cons]
theorem bd_tup {n : Nat} {xs : List D} : (D.tup xs).bd n = true ↔ ∀ o ∈ xs, o.bd n = true := bdL_iff
/-- no object of the store bears a reference beyond it -/
def Cl (S : Sto) : Prop := bdS S.length S = true
theorem Cl.eq {S : Sto} (h : Cl S) : bdS S.length S = true := h
theorem Cl.get {S : Sto} {k : Nat} {o : Ob} (h : Cl S) (e : S[k]? = some o) : o.bd S.length = true := bdS_get h e
theorem Cl.append {S X : Sto} (h : Cl S) (hX : ∀ o ∈ X, o.bd (S ++ X).length = true) : Cl (S ++ X) := by
  refine bdS_iff.mpr fun o ho => ?_
  rcases List.mem_append.mp ho with z | z
  · exact obd_mono (by rw [List.length_append]; omega) o (bdS_iff.mp h o z)
  · exact hX o z
theorem Cl.push {S : Sto} {o : Ob} (h : Cl S) (hX : o.bd (S.length + 1) = true) : Cl (S ++ [o]) := h.append fun o' m => by
  rw [List.mem_singleton.mp m, List.length_append]
  exact hX
theorem mem_set_cases {α : Type} {x y : α} : ∀ {l : List α} {n : Nat}, x ∈ l.set n y → x ∈ l ∨ x = y
  | [], _, h => by cases h
  | a :: l, 0, h => by
    rcases List.mem_cons.mp h with z | z
    · exact Or.inr z
    · exact Or.inl (List.mem_cons_of_mem _ z)
  | a :: l, n + 1, h => by
    rcases List.mem_cons.mp h with z | z
    · exact Or.inl (z ▸ List.mem_cons_self)
    · rcases mem_set_cases z with u | u
      · exact Or.inl (List.mem_cons_of_mem _ u)
      · exact Or.inr u
theorem Cl.set {S : Sto} {o : Ob} {n : Nat} (h : Cl S) (ho : o.bd S.length = true) : Cl (S.set n o) := by
  refine bdS_iff.mpr fun o' m => ?_
  rw [List.length_set]
  rcases mem_set_cases m with z | z
  · exact bdS_iff.mp h o' z
  · exact z ▸ ho
/-! ### what a call leaves -/
theorem tidy_same {S : Sto} {d : D} (h : Cl S) (hd : d.bd S.length = true) : tidy S.length d S = .ok d S := by
  unfold tidy
  rw [List.take_length, if_pos h.eq, if_pos hd]
theorem tidy_at {n : Nat} {S X : Sto} {d : D} (hn : n = S.length) (h : Cl S) (hd : d.bd S.length = true) : tidy n d (S ++ X) = .ok d S := by
  subst hn
  unfold tidy
  rw [List.take_left, if_pos h.eq, if_pos hd]
theorem tidyX_at {n c : Nat} {S X : Sto} {d : D} (hn : n = S.length) (h : Cl S) (hd : d.bd S.length = true) : tidyX n c d (S ++ X) = .exc c d S := by
  subst hn
  unfold tidyX
  rw [List.take_left, if_pos ⟨h, hd⟩]
theorem tidy_new {n m : Nat} {S X : Sto} {xs : List D} (hn : n = S.length) (h : Cl S) (hm : S.length ≤ m) (he : (S ++ X)[m]? = some (.lst xs)) (hd : D.bdL S.length xs = true) : tidy n (.ref m) (S ++ X) = .ok (.ref S.length) (S ++ [.lst xs]) := by
  subst hn
  unfold tidy
  rw [List.take_left, if_pos h.eq, if_neg (by
    intro z
    have z2 := of_decide_eq_true (show decide (m < S.length) = true from z)
    omega)]
  dsimp only
  rw [he]
  dsimp only
  rw [if_pos hd]
/-! ### prefixes -/
/-- the second store goes on from the first -/
def Pre (S S' : Sto) : Prop := ∃ X, S' = S ++ X
theorem Pre.rfl {S : Sto} : Pre S S := ⟨[], (List.append_nil S).symm⟩
theorem Pre.trans {S S' S'' : Sto} (a : Pre S S') (b : Pre S' S'') : Pre S S'' := by
  obtain ⟨X, rfl⟩ := a
  obtain ⟨Y, rfl⟩ := b
  exact ⟨X ++ Y, List.append_assoc ..⟩
theorem Pre.push {S : Sto} {X : Sto} : Pre S (S ++ X) := ⟨X, _root_.rfl⟩
theorem Pre.get {S S' : Sto} (h : Pre S S') {n : Nat} {o : Ob} (e : S[n]? = some o) : S'[n]? = some o := by
  obtain ⟨X, rfl⟩ := h
  rw [List.getElem?_append_left (List.getElem?_eq_some_iff.mp e).1]
  exact e
theorem Pre.len {S S' : Sto} (h : Pre S S') : S.length ≤ S'.length := by
  obtain ⟨X, rfl⟩ := h
  rw [List.length_append]; omega
theorem Pre.bd {S S' : Sto} (h : Pre S S') {d : D} (b : d.bd S.length = true) : d.bd S'.length = true := bd_mono h.len d b
/-! ### kinds of values -/
def vk (S : Sto) : D → Bool
  | .ref n => match S[n]? with
    | some (.ins _ _) => false
    | none => false
    | _ => true
  | _ => true
def numD : D → Bool
  | .int _ => true
  | .bl _ => true
  | _ => false
def isBl : D → Bool
  | .bl _ => true
  | _ => false
def isTup : D → Bool
  | .tup _ => true
  | _ => false
def isStr : D → Bool
  | .str _ => true
  | _ => false
def isLst (S : Sto) : D → Bool
  | .ref n => match S[n]? with
    | some (.lst _) => true
    | some (.frz _) => true
    | _ => false
  | _ => false
section
variable {V : Ev} {S : Sto} {d : D}
theorem isi_kinds (h : vk S d = true) : isiD V d .int S = some (numD d) ∧ isiD V d .bool S = some (isBl d) ∧ isiD V d .tuple S = some (isTup d) ∧ isiD V d .list S = some (isLst S d) ∧ isiD V d .str S = some (isStr d) := by
  cases d with
  | ref n =>
    unfold isiD isLst
    unfold vk at h
    revert h
    dsimp only
    generalize S[n]? = o
    intro h
    rcases o with _ | o
    · cases h
    · cases o <;> first | exact ⟨rfl, rfl, rfl, rfl, rfl⟩ | cases h
  | _ => exact ⟨rfl, rfl, rfl, rfl, rfl⟩
theorem isi_int (h : vk S d = true) : isiD V d .int S = some (numD d) := (isi_kinds h).1
theorem isi_bool (h : vk S d = true) : isiD V d .bool S = some (isBl d) := (isi_kinds h).2.1
theorem isi_tuple (h : vk S d = true) : isiD V d .tuple S = some (isTup d) := (isi_kinds h).2.2.1
theorem isi_list (h : vk S d = true) : isiD V d .list S = some (isLst S d) := (isi_kinds h).2.2.2.1
theorem isi_str (h : vk S d = true) : isiD V d .str S = some (isStr d) := (isi_kinds h).2.2.2.2
end
theorem vk_of_pr {S : Sto} {n : Nat} {d : D} {p : PyData} (h : toPR S n d = some p) : vk S d = true := by
  cases d with
  | ref k =>
    cases n with
    | zero => unfold toPR at h; cases h
    | succ n =>
      unfold toPR at h
      unfold vk
      revert h
      dsimp only
      generalize S[k]? = o
      intro h
      rcases o with _ | o
      · cases h
      · cases o <;> first | rfl | cases h
  | _ => rfl
/-! ### what repr reads -/
theorem mapO_mono {α β : Type} {f g : α → Option β} : ∀ {xs : List α} {ps : List β}, (∀ x ∈ xs, ∀ p, f x = some p → g x = some p) → mapO f xs = some ps → mapO g xs = some ps
  | [], ps, _, h => h
  | x :: xs, ps, hf, h => by
    obtain ⟨a, b, e1, e2, rfl⟩ := consO_some h
    show consO (g x) (mapO g xs) = some (a :: b)
    rw [hf x List.mem_cons_self a e1, mapO_mono (fun y m => hf y (List.mem_cons_of_mem _ m)) e2]
    rfl
theorem mapO_len {α β : Type} {f : α → Option β} : ∀ {xs : List α} {ps : List β}, mapO f xs = some ps → ps.length = xs.length
  | [], ps, h => by cases h; rfl
  | x :: xs, ps, h => by
    obtain ⟨a, b, e1, e2, rfl⟩ := consO_some h
    simp [mapO_len e2]
/-- a store in which every object that is read by the first reads as it did -/
theorem toPR_mono {S S' : Sto} (hS : ∀ (k : Nat) (o : Ob), S[k]? = some o → (∀ c v, o ≠ .exc c v) → S'[k]? = some o) : ∀ {n m : Nat} {d : D} {p : PyData}, n ≤ m → toPR S n d = some p → toPR S' m d = some p
  | n, m, .non, p, _, h => by cases n <;> (unfold toPR at h; cases h; unfold toPR; rfl)
  | n, m, .bl _, p, _, h => by cases n <;> (unfold toPR at h; cases h; unfold toPR; rfl)
  | n, m, .int _, p, _, h => by cases n <;> (unfold toPR at h; cases h; unfold toPR; rfl)
  | n, m, .str _, p, _, h => by cases n <;> (unfold toPR at h; cases h; unfold toPR; rfl)
  | 0, m, .tup xs, p, _, h => by unfold toPR at h; cases h
  | 0, m, .ref k, p, _, h => by unfold toPR at h; cases h
  | n + 1, 0, .tup xs, p, l, h => by omega
  | n + 1, 0, .ref xs, p, l, h => by omega
  | n + 1, m + 1, .tup xs, p, l, h => by
    unfold toPR at h ⊢
    cases e : mapO (toPR S n) xs with
    | none => rw [e] at h; cases h
    | some ps =>
      rw [e] at h
      rw [mapO_mono (fun x _ q hq => toPR_mono hS (by omega) hq) e]
      exact h
  | n + 1, m + 1, .ref k, p, l, h => by
    unfold toPR at h ⊢
    cases eo : S[k]? with
    | none => rw [eo] at h; cases h
    | some o =>
      rw [eo] at h
      cases o with
      | lst xs =>
        rw [hS k _ eo (by intro c v z; cases z)]
        dsimp only at h ⊢
        cases e : mapO (toPR S n) xs with
        | none => rw [e] at h; cases h
        | some ps =>
          rw [e] at h
          rw [mapO_mono (fun x _ q hq => toPR_mono hS (by omega) hq) e]
          exact h
      | dct xs =>
        rw [hS k _ eo (by intro c v z; cases z)]
        dsimp only at h ⊢
        cases e : mapO (pairPR (toPR S n)) xs with
        | none => rw [e] at h; cases h
        | some ps =>
          rw [e] at h
          rw [mapO_mono (g := pairPR (toPR S' m)) (fun x _ q hq => by
            unfold pairPR at hq ⊢
            cases e2 : toPR S n x.2 with
            | none => rw [e2] at hq; cases hq
            | some y =>
              rw [e2] at hq
              rw [toPR_mono hS (by omega) e2]
              exact hq) e]
          exact h
      | _ => cases h
theorem Pre.pr {S S' : Sto} (h : Pre S S') {n m : Nat} {d : D} {p : PyData} (l : n ≤ m) (e : toPR S n d = some p) : toPR S' m d = some p := toPR_mono (fun k o z _ => h.get z) l e
theorem toPR_fuel {S : Sto} {n m : Nat} {d : D} {p : PyData} (l : n ≤ m) (e : toPR S n d = some p) : toPR S m d = some p := toPR_mono (fun k o z _ => z) l e
/-- a value that does not reach an object: hidden, it reads the same -/
theorem toPR_hide {S : Sto} {w c : Nat} {v : D} {o : Ob} {n : Nat} {d : D} {p : PyData} (e : toPR (S.set w (.exc c v)) n d = some p) : toPR (S.set w o) n d = some p := by
  refine toPR_mono (fun k x z hx => ?_) (Nat.le_refl n) e
  by_cases h : w = k
  · subst h
    by_cases hl : w < S.length
    · rw [List.getElem?_set_self hl] at z
      cases z
      exact absurd rfl (hx c v)
    · rw [List.getElem?_eq_none (by rw [List.length_set]; omega)] at z
      cases z
  · rw [List.getElem?_set_ne h] at z ⊢
    exact z
end Py
end
section
set_option linter.all false
set_option maxRecDepth 100000
/-! PyZe: loops, checks of sizes, lengths of texts, the law's own draws. -/
namespace Py
open PySem
/-! ### loops -/
theorem still_fresh {S : Sto} : Src.still .fresh S = true := rfl
theorem still_tuple {S : Sto} : Src.still .tuple S = true := rfl
theorem still_range {S : Sto} {a b : Int} : Src.still (.range a b) S = true := rfl
theorem still_ob {S : Sto} {n : Nat} {o : Ob} (h : S[n]? = some o) : Src.still (.at n o) S = true := @decide_eq_true _ (Classical.propDecidable _) h
theorem comp_map {s : Src} {f : D → Sto → Res (Option D)} {g : D → Option D} {S : Sto} (hs : s.still S = true) : ∀ {xs acc : List D}, (∀ x ∈ xs, f x S = .ok (g x) S) → acc.length + xs.length ≤ sizeLine → compGo s f xs acc S = .ok (acc ++ xs.filterMap g) S
  | [], acc, _, _ => by
    unfold compGo
    rw [if_pos hs, List.filterMap_nil, List.append_nil]
  | x :: xs, acc, hf, hl => by
    unfold compGo
    rw [if_pos hs, hf x List.mem_cons_self]
    have hl2 : acc.length + (xs.length + 1) ≤ sizeLine := hl
    cases e : g x with
    | none =>
      dsimp only
      rw [comp_map hs (fun y m => hf y (List.mem_cons_of_mem _ m)) (by omega), List.filterMap_cons_none e]
    | some y =>
      dsimp only
      rw [if_pos (by omega), comp_map hs (fun y m => hf y (List.mem_cons_of_mem _ m)) (by rw [List.length_append]; show acc.length + 1 + xs.length ≤ _; omega), List.filterMap_cons_some e, List.append_assoc]
      rfl
theorem comp_inv {s : Src} {f : D → Sto → Res (Option D)} (I : List D → List D → Sto → Prop)
    (step : ∀ x r acc S, I (x :: r) acc S → s.still S = true ∧ acc.length < sizeLine ∧ ∃ y S1, f x S = .ok (some y) S1 ∧ I r (acc ++ [y]) S1)
    (last : ∀ acc S, I [] acc S → s.still S = true) : ∀ xs acc S, I xs acc S → ∃ acc' S', compGo s f xs acc S = .ok acc' S' ∧ I [] acc' S'
  | [], acc, S, h => by
    unfold compGo
    rw [if_pos (last acc S h)]
    exact ⟨acc, S, rfl, h⟩
  | x :: r, acc, S, h => by
    obtain ⟨h1, h2, y, S1, h3, h4⟩ := step x r acc S h
    unfold compGo
    rw [if_pos h1, h3]
    dsimp only
    rw [if_pos h2]
    exact comp_inv I step last r _ _ h4
theorem for_inv {s : Src} {tg : Tg} {f : Sl → Sto → Out} (I : List D → Sl → Sto → Prop) (R : Out → Prop)
    (step : ∀ x r σ S, I (x :: r) σ S → s.still S = true ∧ ∃ σ1, tgD tg x σ = some σ1 ∧ ((∃ σ2 S2, f σ1 S = .nx σ2 S2 ∧ I r σ2 S2) ∨ (∃ d S2, f σ1 S = .ret d S2 ∧ R (.ret d S2)) ∨ ∃ σ2 S2, f σ1 S = .cnt σ2 S2 ∧ I r σ2 S2))
    (last : ∀ σ S, I [] σ S → s.still S = true ∧ R (.nx σ S)) : ∀ xs σ S, I xs σ S → R (forGo s tg f xs σ S)
  | [], σ, S, h => by
    obtain ⟨h1, h2⟩ := last σ S h
    unfold forGo
    rw [if_pos h1]
    exact h2
  | x :: r, σ, S, h => by
    obtain ⟨h1, σ1, h2, h3⟩ := step x r σ S h
    unfold forGo
    rw [if_pos h1, h2]
    dsimp only
    rcases h3 with ⟨σ2, S2, e, h4⟩ | ⟨d, S2, e, h4⟩ | ⟨σ2, S2, e, h4⟩
    · rw [e]
      exact for_inv I R step last r σ2 S2 h4
    · rw [e]
      exact h4
    · rw [e]
      exact for_inv I R step last r σ2 S2 h4
/-! ### checks -/
theorem mulOk_l {i j : Int} (h1 : -(2 ^ 64) < i) (h2 : i < 2 ^ 64) : mulOk i j = true := by
  unfold mulOk
  rw [decide_eq_true h1, decide_eq_true h2]; rfl
theorem mulOk_r {i j : Int} (h1 : -(2 ^ 64) < j) (h2 : j < 2 ^ 64) : mulOk i j = true := by
  unfold mulOk
  rw [decide_eq_true h1, decide_eq_true h2]
  simp
theorem log_lt {n k : Nat} (h : n < 2 ^ k) : n.log2 ≤ k := by
  by_cases z : n = 0
  · subst z; simp
  · have := (Nat.log2_lt z).mpr h
    omega
theorem mulOk_n {i j : Int} {a b : Nat} (h1 : i.natAbs < 2 ^ a) (h2 : j.natAbs < 2 ^ b) (h : a + b < 1000000) : mulOk i j = true := by
  have e1 := log_lt h1
  have e2 := log_lt h2
  unfold mulOk
  rw [show decide (i.natAbs.log2 + j.natAbs.log2 < 1000000) = true from decide_eq_true (by omega)]
  simp
theorem mulOk_p {i j : Int} (a b : Nat) (p1 : 0 ≤ i) (h1 : i < 2 ^ a) (p2 : 0 ≤ j) (h2 : j < 2 ^ b) (h : a + b < 1000000) : mulOk i j = true := by
  refine mulOk_n (a := a) (b := b) ?_ ?_ h
  · have : ((2 ^ a : Nat) : Int) = (2 : Int) ^ a := by norm_cast
    omega
  · have : ((2 ^ b : Nat) : Int) = (2 : Int) ^ b := by norm_cast
    omega
theorem divOk_of {j : Int} {k : Nat} (h : 0 < j) (h1 : j < 2 ^ k) (hk : k < 9000) : divOk j = true := by
  have e : j.natAbs < 2 ^ k := by
    have : ((2 ^ k : Nat) : Int) = (2 : Int) ^ k := by norm_cast
    omega
  have e2 := log_lt e
  unfold divOk
  rw [decide_eq_true h, show decide (j.natAbs.log2 < 9000) = true from decide_eq_true (by omega)]; rfl
/-! ### lengths of texts -/
mutual
def wid : PyData → Nat
  | .none => 4
  | .bool _ => 5
  | .int i => if i.natAbs < 10 ^ 40 then 41 else 1921
  | .str x => (reprText x).length
  | .list xs => widL xs + 2
  | .tuple xs => widL xs + 3
  | .dict kvs => widK kvs + 2
def widL : List PyData → Nat
  | [] => 0
  | x :: xs => wid x + 2 + widL xs
def widK : List (PyData × PyData) → Nat
  | [] => 0
  | (k, v) :: r => wid k + wid v + 4 + widK r
end
theorem textFrom_le : ∀ (ts : List Str) (k : Nat) (acc : Str), (textFrom k acc ts).length ≤ acc.length + (ts.map fun t => t.length + 2).sum
  | [], k, acc => by simp [textFrom]
  | t :: r, k, acc => by
    have h := textFrom_le r (k + 1) (acc ++ (if k > 0 then ", " else "" : String) ++ t)
    have e : (acc ++ (if k > 0 then ", " else "" : String) ++ t).length ≤ acc.length + 2 + t.length := by
      rw [strLen_append, strLen_append]
      have : ((if k > 0 then ", " else "" : String) : Str).length ≤ 2 := by split <;> decide
      omega
    show (textFrom (k + 1) _ r).length ≤ _
    rw [List.map_cons, List.sum_cons]
    omega
theorem piled_le (ts : List Str) : piled ts = (ts.map fun t => t.length + 2).sum := by
  induction ts with
  | nil => rfl
  | cons t r ih => rw [piled_cons, ih, List.map_cons, List.sum_cons]
theorem join_le (ts : List Str) : (Str.join ", " ts).length ≤ (ts.map fun t => t.length + 2).sum := by
  by_cases h : ts = []
  · subst h; decide
  · have := join_length_add ts h
    rw [piled_le] at this
    omega
mutual
theorem shown_le : ∀ p : PyData, p.showable = true → p.shown.length ≤ wid p
  | .none, _ => by simp only [PyData.shown, wid]; decide
  | .bool b, _ => by simp only [PyData.shown, wid]; cases b <;> decide
  | .int i, h => by
    simp only [PyData.shown, wid]
    split
    · next z =>
      show (Str.ofString (toString i)).length ≤ 41
      rw [ofString_length]
      exact int_text_length_le10 (k := 40) (by decide) z
    · show (Str.ofString (toString i)).length ≤ 1921
      rw [ofString_length]
      exact int_text_length_le (k := 1920) (by decide) (by simpa [PyData.showable] using h)
  | .str x, _ => by simp only [PyData.shown, wid]; omega
  | .list xs, h => by
    have h2 : PyData.showableAll xs = true := by simpa only [PyData.showable] using h
    have e := shownL_le xs h2
    simp only [PyData.shown, wid]
    unfold listText
    rw [strLen_append]
    have z := textFrom_le (PyData.shownAll xs) 0 "["
    have z1 : (("[" : String) : Str).length = 1 := rfl
    have z2 : (("]" : String) : Str).length = 1 := rfl
    omega
  | .tuple xs, h => by
    have h2 : PyData.showableAll xs = true := by simpa only [PyData.showable] using h
    have e := shownL_le xs h2
    simp only [PyData.shown, wid]
    unfold tupleText
    rw [strLen_append, strLen_append]
    have z := join_le (PyData.shownAll xs)
    have z1 : (("(" : String) : Str).length = 1 := rfl
    have z2 : ((if (PyData.shownAll xs).length == 1 then ",)" else ")" : String) : Str).length ≤ 2 := by split <;> decide
    omega
  | .dict kvs, h => by
    have h2 : PyData.showableKv kvs = true := by simpa only [PyData.showable] using h
    have e := shownK_le kvs h2
    simp only [PyData.shown, wid]
    unfold dictText
    rw [strLen_append, strLen_append]
    have z := join_le (PyData.shownKv kvs)
    have z1 : (("{" : String) : Str).length = 1 := rfl
    have z2 : (("}" : String) : Str).length = 1 := rfl
    omega
theorem shownL_le : ∀ ps : List PyData, PyData.showableAll ps = true → ((PyData.shownAll ps).map fun t => t.length + 2).sum ≤ widL ps
  | [], _ => by simp [PyData.shownAll, widL]
  | p :: ps, h => by
    have h2 : p.showable = true ∧ PyData.showableAll ps = true := by simpa [PyData.showableAll] using h
    have e1 := shown_le p h2.1
    have e2 := shownL_le ps h2.2
    simp only [PyData.shownAll, widL, List.map_cons, List.sum_cons]
    omega
theorem shownK_le : ∀ ps : List (PyData × PyData), PyData.showableKv ps = true → ((PyData.shownKv ps).map fun t => t.length + 2).sum ≤ widK ps
  | [], _ => by simp [PyData.shownKv, widK]
  | (a, b) :: ps, h => by
    have h2 : (a.showable = true ∧ b.showable = true) ∧ PyData.showableKv ps = true := by simpa [PyData.showableKv] using h
    have e1 := shown_le a h2.1.1
    have e3 := shown_le b h2.1.2
    have e2 := shownK_le ps h2.2
    simp only [PyData.shownKv, widK, List.map_cons, List.sum_cons]
    rw [strLen_append, strLen_append]
    have z1 : ((": " : String) : Str).length = 2 := rfl
    omega
end
theorem showOk_of {p : PyData} (h : p.showable = true) (hw : wid p ≤ sizeLine) : showOk p = true := by
  unfold showOk
  rw [h, decide_eq_true (Nat.le_trans (shown_le p h) hw)]; rfl
theorem repr_of {S : Sto} {n : Nat} {d : D} {p : PyData} (e : toPR S n d = some p) (hn : n ≤ 60) (h : showOk p = true) : reprD S d = some p.shown := by
  unfold reprD
  rw [toPR_fuel hn e]
  dsimp only
  rw [if_pos h]
/-! ### the law's draws -/
/-- at w stands a well from which n draws are left -/
def Wl (n w : Nat) (S : Sto) : Prop := ∃ a b c : Int, S[w]? = some (.lst [.int a, .int b, .int c]) ∧ 0 ≤ a ∧ 0 ≤ b ∧ b < 2 ^ 200 ∧ 0 ≤ c ∧ c + n ≤ 2 ^ 64
/-- at most the object at w was changed, which is a list of integers still -/
def Dr (w : Nat) (S S' : Sto) : Prop := ∃ a b c : Int, S' = S.set w (.lst [.int a, .int b, .int c])
theorem Wl.lt {n w : Nat} {S : Sto} (h : Wl n w S) : w < S.length := by
  obtain ⟨a, b, c, e, _⟩ := h
  exact (List.getElem?_eq_some_iff.mp e).1
theorem Wl.mono {n m w : Nat} {S : Sto} (h : Wl n w S) (l : m ≤ n) : Wl m w S := by
  obtain ⟨a, b, c, e, h1, h2, h3, h4, h5⟩ := h
  exact ⟨a, b, c, e, h1, h2, h3, h4, by omega⟩
theorem Wl.dr {n w : Nat} {S : Sto} (h : Wl n w S) : Dr w S S := by
  obtain ⟨a, b, c, e, _⟩ := h
  obtain ⟨l, z⟩ := List.getElem?_eq_some_iff.mp e
  exact ⟨a, b, c, by rw [← z, List.set_getElem_self]⟩
theorem Wl.pre {n w : Nat} {S S' : Sto} (h : Wl n w S) (p : Pre S S') : Wl n w S' := by
  obtain ⟨a, b, c, e, r⟩ := h
  exact ⟨a, b, c, p.get e, r⟩
theorem Dr.trans {w : Nat} {S S' S'' : Sto} (h : Dr w S S') (h' : Dr w S' S'') : Dr w S S'' := by
  obtain ⟨a, b, c, rfl⟩ := h
  obtain ⟨a', b', c', rfl⟩ := h'
  exact ⟨a', b', c', by rw [List.set_set]⟩
theorem Dr.cl {w : Nat} {S S' : Sto} (h : Dr w S S') (c : Cl S) : Cl S' := by
  obtain ⟨a, b, c', rfl⟩ := h
  exact c.set rfl
theorem Dr.len {w : Nat} {S S' : Sto} (h : Dr w S S') : S'.length = S.length := by
  obtain ⟨a, b, c', rfl⟩ := h
  exact List.length_set
theorem Dr.get {w : Nat} {S S' : Sto} (h : Dr w S S') {n : Nat} (hn : n ≠ w) : S'[n]? = S[n]? := by
  obtain ⟨a, b, c', rfl⟩ := h
  rw [List.getElem?_set_ne (Ne.symm hn)]
end Py
end
section
set_option linter.all false
set_option maxRecDepth 100000
/-! PyZf: rewriting rules for operators and built-ins at values of a known kind. -/
namespace Py
open PySem
section
variable {β : Type} {S : Sto} (f : D → Sto → β) (g : Nat → D → Sto → β) (b : β) {i j : Int}
theorem p_add : (binD .add (.int i) (.int j) S).kk f g b = f (.int (i + j)) S := rfl
theorem p_sub : (binD .sub (.int i) (.int j) S).kk f g b = f (.int (i - j)) S := rfl
theorem p_mul (h : mulOk i j = true) : (binD .mul (.int i) (.int j) S).kk f g b = f (.int (i * j)) S := by
  show Res.kk (if _ then _ else _) f g b = _
  rw [if_pos h]; rfl
theorem p_mulR (h1 : -18446744073709551616 < j) (h2 : j < 18446744073709551616) : (binD .mul (.int i) (.int j) S).kk f g b = f (.int (i * j)) S := p_mul f g b (mulOk_r (by omega) (by omega))
theorem p_mulL (h1 : -18446744073709551616 < i) (h2 : i < 18446744073709551616) : (binD .mul (.int i) (.int j) S).kk f g b = f (.int (i * j)) S := p_mul f g b (mulOk_l (by omega) (by omega))
theorem p_div (h : divOk j = true) : (binD .fdiv (.int i) (.int j) S).kk f g b = f (.int (i / j)) S := by
  show Res.kk (if _ then _ else _) f g b = _
  rw [if_pos h]; rfl
theorem p_div64 (h1 : 0 < j) (h2 : j < 18446744073709551616) : (binD .fdiv (.int i) (.int j) S).kk f g b = f (.int (i / j)) S := p_div f g b (divOk_of (k := 64) h1 (by omega) (by decide))
theorem p_mod (h : 0 < j) : (binD .mod (.int i) (.int j) S).kk f g b = f (.int (i % j)) S := by
  show Res.kk (if _ then _ else _) f g b = _
  rw [if_pos h]; rfl
theorem p_pow (h0 : 0 ≤ j) (h1 : j ≤ 1000000) (h2 : -18446744073709551616 < i) (h3 : i < 18446744073709551616) : (binD .pow (.int i) (.int j) S).kk f g b = f (.int (i ^ j.toNat)) S := by
  show Res.kk (if _ then _ else _) f g b = _
  rw [if_pos (by
    unfold powOk
    rw [decide_eq_true h0, decide_eq_true h1, decide_eq_true (show i.natAbs < 2 ^ 64 by omega)]; rfl)]; rfl
theorem p_addT {xs ys : List D} (h : xs.length + ys.length ≤ sizeLine) : (binD .add (.tup xs) (.tup ys) S).kk f g b = f (.tup (xs ++ ys)) S := by
  show Res.kk (if _ then _ else _) f g b = _
  rw [if_pos h]; rfl
theorem p_addS {x y : Str} (h : x.length + y.length ≤ sizeLine) : (binD .add (.str x) (.str y) S).kk f g b = f (.str (x ++ y)) S := by
  show Res.kk (if _ then _ else _) f g b = _
  rw [if_pos h]; rfl
theorem p_addL {m n : Nat} {xs ys : List D} (h1 : S[m]? = some (.lst xs)) (h2 : S[n]? = some (.lst ys)) (h : xs.length + ys.length ≤ sizeLine) : (binD .add (.ref m) (.ref n) S).kk f g b = f (.ref S.length) (S ++ [.lst (xs ++ ys)]) := by
  unfold binD
  dsimp only
  rw [h1, h2]
  dsimp only
  rw [if_pos h]; rfl
theorem p_mulLs {m : Nat} {xs : List D} (h1 : S[m]? = some (.lst xs)) (h0 : 0 ≤ j) (h2 : j < 2 ^ 62) (h : xs.length * j.toNat ≤ sizeLine) : (binD .mul (.ref m) (.int j) S).kk f g b = f (.ref S.length) (S ++ [.lst (List.replicate j.toNat xs).flatten]) := by
  unfold binD
  dsimp only
  rw [h1]
  dsimp only
  rw [if_pos ⟨by omega, by omega, h⟩]; rfl
theorem p_lt : (cmpD .lt (.int i) (.int j) S).kk f g b = f (.bl (decide (i < j))) S := rfl
theorem p_le : (cmpD .le (.int i) (.int j) S).kk f g b = f (.bl (decide (i ≤ j))) S := rfl
theorem p_gt : (cmpD .gt (.int i) (.int j) S).kk f g b = f (.bl (decide (j < i))) S := rfl
theorem p_ge : (cmpD .ge (.int i) (.int j) S).kk f g b = f (.bl (decide (j ≤ i))) S := rfl
theorem eqv_int {i j : Int} : PyData.eqv (.int i) (.int j) = decide (i = j) := by
  unfold PyData.eqv
  by_cases h : i = j
  · subst h; simp
  · simp [h]
theorem p_eq : (cmpD .eq (.int i) (.int j) S).kk f g b = f (.bl (decide (i = j))) S := by
  show Res.kk (Res.ok (D.bl (PyData.eqv (.int i) (.int j))) S) f g b = _
  rw [eqv_int]; rfl
theorem p_ne : (cmpD .ne (.int i) (.int j) S).kk f g b = f (.bl (!decide (i = j))) S := by
  show Res.kk (Res.ok (D.bl (!PyData.eqv (.int i) (.int j))) S) f g b = _
  rw [eqv_int]; rfl
theorem p_eqS {x y : Str} : (cmpD .eq (.str x) (.str y) S).kk f g b = f (.bl (decide (x = y))) S := rfl
theorem p_neS {x y : Str} : (cmpD .ne (.str x) (.str y) S).kk f g b = f (.bl (!decide (x = y))) S := rfl
theorem p_eqO {x y : D} {k : Bool} (hn : lenNe S x y = false) (h : eqD S x y = some k) : (cmpD .eq x y S).kk f g b = f (.bl k) S := by
  unfold cmpD
  dsimp only
  rw [hn, if_neg (by decide), h]; rfl
theorem p_eqLn {m n : Nat} {xs ys : List D} (h1 : S[m]? = some (.lst xs)) (h2 : S[n]? = some (.lst ys)) (h : xs.length ≠ ys.length) : (cmpD .eq (.ref m) (.ref n) S).kk f g b = f (.bl false) S := by
  have e : lenNe S (.ref m) (.ref n) = true := by
    unfold lenNe
    dsimp only
    rw [h1, h2]
    exact decide_eq_true h
  unfold cmpD
  dsimp only
  rw [if_pos e]
  rfl
theorem p_eqLl {m n : Nat} (h1 : S[m]? = some (.lst [])) (h2 : S[n]? = some (.lst [])) : (cmpD .eq (.ref m) (.ref n) S).kk f g b = f (.bl true) S := by
  refine p_eqO f g b ?_ ?_
  · unfold lenNe
    dsimp only
    rw [h1, h2]; rfl
  · unfold eqD toPD
    dsimp only
    rw [h1, h2]; rfl
theorem p_neO {x y : D} {k : Bool} (h : eqD S x y = some k) : (cmpD .ne x y S).kk f g b = f (.bl (!k)) S := by
  unfold cmpD
  dsimp only
  rw [h]; rfl
theorem p_isB {x y : Bool} : (cmpD .isB (.bl x) (.bl y) S).kk f g b = f (.bl (decide (x = y))) S := rfl
theorem p_idxT {xs : List D} : (idxD S (.tup xs) (.int i)).kk f g b = onO (L2.atI xs i) (fun d => f d S) b := by
  show Res.kk (orBad (L2.atI xs i) S) f g b = _
  cases L2.atI xs i <;> rfl
theorem p_idxR {n : Nat} : (idxD S (.ref n) (.int i)).kk f g b = onI S[n]? (fun xs => onO (L2.atI xs i) (fun d => f d S) b) b := by
  unfold idxD itemsOf
  dsimp only
  generalize S[n]? = o
  rcases o with _ | o
  · rfl
  · cases o <;> try rfl
    case lst xs => show Res.kk (orBad (L2.atI xs i) S) f g b = onO _ _ _; cases L2.atI xs i <;> rfl
    case frz xs => show Res.kk (orBad (L2.atI xs i) S) f g b = onO _ _ _; cases L2.atI xs i <;> rfl
theorem p_lenT {xs : List D} : (biD .len [.tup xs] S).kk f g b = f (.int xs.length) S := rfl
theorem p_lenL {n : Nat} {xs : List D} (h : S[n]? = some (.lst xs)) : (biD .len [.ref n] S).kk f g b = f (.int xs.length) S := by
  unfold biD lenD
  dsimp only
  rw [h]; rfl
theorem p_lenF {n : Nat} {xs : List D} (h : S[n]? = some (.frz xs)) : (biD .len [.ref n] S).kk f g b = f (.int xs.length) S := by
  unfold biD lenD
  dsimp only
  rw [h]; rfl
/-- the length of a list or of what looks like one -/
def lenO : Option Ob → Option Nat
  | some (.lst xs) => some xs.length
  | some (.frz xs) => some xs.length
  | some (.dct kvs) => some kvs.length
  | _ => none
theorem lenO_lst {xs : List D} : lenO (some (.lst xs)) = some xs.length := rfl
theorem lenO_frz {xs : List D} : lenO (some (.frz xs)) = some xs.length := rfl
theorem p_lenR {n : Nat} : (biD .len [.ref n] S).kk f g b = onO (lenO S[n]?) (fun k => f (.int (k : Nat)) S) b := by
  unfold biD lenD lenO
  dsimp only
  generalize S[n]? = o
  rcases o with _ | o
  · rfl
  · cases o <;> rfl
theorem p_max : (biD .max2 [.int i, .int j] S).kk f g b = f (.int (max i j)) S := by
  show f (.int (if j > i then j else i)) S = _
  have e : (if j > i then j else i) = max i j := by split <;> omega
  rw [e]
theorem p_min : (biD .min2 [.int i, .int j] S).kk f g b = f (.int (min i j)) S := by
  show f (.int (if j < i then j else i)) S = _
  have e : (if j < i then j else i) = min i j := by split <;> omega
  rw [e]
theorem p_abs : (biD .abs [.int i] S).kk f g b = f (.int (i.natAbs : Int)) S := by
  show f (.int (if i < 0 then -i else i)) S = _
  have e : (if i < 0 then -i else i) = (i.natAbs : Int) := by split <;> omega
  rw [e]
theorem p_int : (biD .int [.int i] S).kk f g b = f (.int i) S := rfl
theorem p_intB {k : Bool} : (biD .int [.bl k] S).kk f g b = f (.int (if k then 1 else 0)) S := rfl
theorem p_repr {d : D} {x : Str} (h : reprD S d = some x) : (biD .repr [d] S).kk f g b = f (.str x) S := by
  show Res.kk (orBad ((reprD S d).map .str) S) f g b = _
  rw [h]; rfl
theorem p_divmod (h : divOk j = true) : (biD .divmod [.int i, .int j] S).kk f g b = f (.tup [.int (i / j), .int (i % j)]) S := by
  show Res.kk (if _ then _ else _) f g b = _
  rw [if_pos h]; rfl
theorem p_sliT {xs : List D} {lo hi : Option Int} : (sliD (.tup xs) lo hi S).kk f g b = f (.tup (cut xs lo hi)) S := rfl
theorem p_sliL {n : Nat} {xs : List D} {lo hi : Option Int} (h : S[n]? = some (.lst xs)) : (sliD (.ref n) lo hi S).kk f g b = f (.ref S.length) (S ++ [.lst (cut xs lo hi)]) := by
  unfold sliD
  dsimp only
  rw [h]; rfl
theorem p_sliR {n : Nat} {lo hi : Option Int} : (sliD (.ref n) lo hi S).kk f g b = onI S[n]? (fun xs => f (.ref S.length) (S ++ [.lst (cut xs lo hi)])) b := by
  unfold sliD
  dsimp only
  generalize S[n]? = o
  rcases o with _ | o
  · rfl
  · cases o <;> rfl
theorem p_addR {m n : Nat} : (binD .add (.ref m) (.ref n) S).kk f g b = onL S[m]? (fun xs => onL S[n]? (fun ys => ifP (xs.length + ys.length ≤ sizeLine) (f (.ref S.length) (S ++ [.lst (xs ++ ys)])) b) b) b := by
  unfold binD
  dsimp only
  generalize S[n]? = o
  generalize S[m]? = o'
  rcases o with _ | o <;> rcases o' with _ | o' <;> try rfl
  · cases o' <;> rfl
  · cases o <;> cases o' <;> try rfl
    show Res.kk (if _ then _ else _) f g b = _
    rw [kk_if]; rfl
theorem p_appR {n : Nat} {d : D} : (appD (.ref n) d S).kk f g b = onL S[n]? (fun xs => ifP (xs.length < sizeLine) (f .non (S.set n (.lst (xs ++ [d])))) b) b := by
  unfold appD
  dsimp only
  generalize S[n]? = o
  rcases o with _ | o
  · rfl
  · cases o <;> try rfl
    show Res.kk (if _ then _ else _) f g b = _
    rw [kk_if]; rfl
theorem p_revT {xs : List D} : (revD (.tup xs) S).kk f g b = f (.tup xs.reverse) S := rfl
theorem p_fldX {n c : Nat} {v : D} (h : S[n]? = some (.exc c v)) : (fldD (.ref n) 0 S).kk f g b = f v S := by
  unfold fldD
  dsimp only
  rw [h]; rfl
theorem p_fldI {n c a : Nat} {v : D} {fs : List (Nat × D)} (h : S[n]? = some (.ins c fs)) (hv : getF a fs = some v) : (fldD (.ref n) a S).kk f g b = f v S := by
  unfold fldD
  dsimp only
  rw [h]
  dsimp only
  rw [hv]; rfl
theorem p_app {n : Nat} {xs : List D} {d : D} (h : S[n]? = some (.lst xs)) (hl : xs.length < sizeLine) : (appD (.ref n) d S).kk f g b = f .non (S.set n (.lst (xs ++ [d]))) := by
  unfold appD
  dsimp only
  rw [h]
  dsimp only
  rw [if_pos hl]; rfl
theorem lstQ_l {n : Nat} {xs : List D} (h : S[n]? = some (.lst xs)) : lstQ (.ref n) S = true := by
  unfold lstQ
  dsimp only
  rw [h]
theorem b_tuple {ds : List D} {s : Src} (h : ∀ a b, s ≠ .range a b) : (blD .tuple ds s S).kk f g b = f (.tup ds) S := by
  cases s <;> first | rfl | exact absurd rfl (h _ _)
theorem b_tupleC {ds : List D} : (blD .tuple ds .fresh S).kk f g b = f (.tup ds) S := rfl
theorem b_tupleT {ds : List D} : (blD .tuple ds .tuple S).kk f g b = f (.tup ds) S := rfl
theorem b_tupleA {ds : List D} {n : Nat} {o : Ob} : (blD .tuple ds (.at n o) S).kk f g b = f (.tup ds) S := rfl
theorem b_listC {ds : List D} : (blD .list ds .fresh S).kk f g b = f (.ref S.length) (S ++ [.lst ds]) := rfl
theorem b_listT {ds : List D} : (blD .list ds .tuple S).kk f g b = f (.ref S.length) (S ++ [.lst ds]) := rfl
theorem b_listA {ds : List D} {n : Nat} {o : Ob} : (blD .list ds (.at n o) S).kk f g b = f (.ref S.length) (S ++ [.lst ds]) := rfl
theorem boolsOf_bl {bs : List Bool} : boolsOf (bs.map .bl) = some bs := by
  induction bs with
  | nil => rfl
  | cons d r ih =>
    show consO (boolOf (.bl d)) (mapO boolOf (r.map .bl)) = _
    rw [show mapO boolOf (r.map .bl) = some r from ih]; rfl
theorem intsOf_int {is : List Int} : intsOf (is.map .int) = some is := by
  induction is with
  | nil => rfl
  | cons d r ih =>
    show consO (intOf (.int d)) (mapO intOf (r.map .int)) = _
    rw [show mapO intOf (r.map .int) = some r from ih]; rfl
theorem b_all {bs : List Bool} : (blD .all (bs.map .bl) .fresh S).kk f g b = f (.bl (bs.all id)) S := by
  show Res.kk (orBad ((boolsOf (bs.map .bl)).map fun bs => .bl (bs.all id)) S) f g b = _
  rw [boolsOf_bl]; rfl
theorem b_any {bs : List Bool} : (blD .any (bs.map .bl) .fresh S).kk f g b = f (.bl (bs.any id)) S := by
  show Res.kk (orBad ((boolsOf (bs.map .bl)).map fun bs => .bl (bs.any id)) S) f g b = _
  rw [boolsOf_bl]; rfl
end
section
variable {β : Type} {S : Sto} (f : List D × Src → Sto → β) (g : Nat → D → Sto → β) (b : β) {i j : Int}
theorem sr_tup {xs : List D} : (srcD (.tup xs) S).kk f g b = f (xs, .tuple) S := rfl
theorem sr_lst {n : Nat} {xs : List D} (h : S[n]? = some (.lst xs)) : (srcD (.ref n) S).kk f g b = f (xs, .at n (.lst xs)) S := by
  unfold srcD
  dsimp only
  rw [h]; rfl
theorem sr_frz {n : Nat} {xs : List D} (h : S[n]? = some (.frz xs)) : (srcD (.ref n) S).kk f g b = f (xs, .at n (.frz xs)) S := by
  unfold srcD
  dsimp only
  rw [h]; rfl
theorem sr_R {n : Nat} : (srcD (.ref n) S).kk f g b = match S[n]? with
    | some (.lst xs) => f (xs, .at n (.lst xs)) S
    | some (.frz xs) => f (xs, .at n (.frz xs)) S
    | _ => b := by
  unfold srcD
  dsimp only
  generalize S[n]? = o
  rcases o with _ | o
  · rfl
  · cases o <;> rfl
theorem r_rng : (rngR (.int i) (.int j) S).kk f g b = f (rngD i j, .range i j) S := rfl
end
theorem setIx_l {S : Sto} {n : Nat} {xs : List D} {i : Int} {v : D} (h : S[n]? = some (.lst xs)) : setIx (.ref n) (.int i) v S = (L2.ixN xs.length i).map fun j => S.set n (.lst (xs.set j v)) := by
  unfold setIx
  dsimp only
  rw [h]
theorem setIx_R {S : Sto} {n : Nat} {i : Int} {v : D} : setIx (.ref n) (.int i) v S = onL S[n]? (fun xs => (L2.ixN xs.length i).map fun j => S.set n (.lst (xs.set j v))) none := by
  unfold setIx
  dsimp only
  generalize S[n]? = o
  rcases o with _ | o
  · rfl
  · cases o <;> rfl
theorem atI_nat {α : Type} {xs : List α} {i : Int} (h0 : 0 ≤ i) (h1 : i < xs.length) : L2.atI xs i = some (xs[i.toNat]'(by omega)) := by
  unfold L2.atI L2.ixN
  rw [if_pos h0, if_pos (by omega)]
  show xs[i.toNat]? = _
  rw [List.getElem?_eq_getElem]
theorem atI_0 {α : Type} {x : α} {xs : List α} : L2.atI (x :: xs) 0 = some x := by
  rw [atI_nat (by decide) (by rw [List.length_cons]; omega)]; rfl
theorem atI_1 {α : Type} {x y : α} {xs : List α} : L2.atI (x :: y :: xs) 1 = some y := by
  rw [atI_nat (by decide) (by rw [List.length_cons, List.length_cons]; omega)]; rfl
theorem atI_2 {α : Type} {x y z : α} {xs : List α} : L2.atI (x :: y :: z :: xs) 2 = some z := by
  rw [atI_nat (by decide) (by rw [List.length_cons, List.length_cons, List.length_cons]; omega)]; rfl
theorem atI_3 {α : Type} {x y z t : α} {xs : List α} : L2.atI (x :: y :: z :: t :: xs) 3 = some t := by
  rw [atI_nat (by decide) (by rw [List.length_cons, List.length_cons, List.length_cons, List.length_cons]; omega)]; rfl
theorem ixN_0 {α : Type} {x : α} {xs : List α} : L2.ixN (x :: xs).length 0 = some 0 := by
  unfold L2.ixN
  rw [if_pos (by decide), if_pos (by rw [List.length_cons]; omega)]; rfl
theorem ixN_1 {α : Type} {x y : α} {xs : List α} : L2.ixN (x :: y :: xs).length 1 = some 1 := by
  unfold L2.ixN
  rw [if_pos (by decide), if_pos (by rw [List.length_cons, List.length_cons]; omega)]; rfl
theorem ixN_2 {α : Type} {x y z : α} {xs : List α} : L2.ixN (x :: y :: z :: xs).length 2 = some 2 := by
  unfold L2.ixN
  rw [if_pos (by decide), if_pos (by rw [List.length_cons, List.length_cons, List.length_cons]; omega)]; rfl
theorem mulOk_sq {y m : Int} (k : Nat) (h : 0 < m) (h1 : m ≤ 2 ^ k) (h2 : k + k < 1000000) : mulOk (y % m) (y % m) = true := by
  have a := Int.emod_nonneg y (show m ≠ 0 by omega)
  have b := Int.emod_lt_of_pos y h
  exact mulOk_p k k a (by omega) a (by omega) h2
/-! ### stores that go on -/
theorem at_new {S X : Sto} {n : Nat} : (S ++ X)[S.length + n]? = X[n]? := by
  rw [List.getElem?_append_right (by omega)]
  congr 1; omega
theorem at_new0 {S X : Sto} : (S ++ X)[S.length]? = X[0]? := at_new (n := 0)
theorem at_old {S X : Sto} {n : Nat} {o : Ob} (h : S[n]? = some o) : (S ++ X)[n]? = some o := (Pre.push).get h
/-! ### ends of calls -/
section
variable {S X : Sto} {d : D} {n : Nat} {σ : Sl}
theorem end_same (h : Cl S) (hd : d.bd S.length = true) : endD S.length (.ret d S) = .ok d S := tidy_same h hd
theorem end_at (h : Cl S) (hd : d.bd S.length = true) : endD S.length (.ret d (S ++ X)) = .ok d S := tidy_at rfl h hd
theorem end_nx (h : Cl S) : endD S.length (.nx σ (S ++ X)) = .ok .non S := tidy_at rfl h rfl
theorem end_nx0 (h : Cl S) : endD S.length (.nx σ S) = .ok .non S := tidy_same h rfl
theorem end_exc {c : Nat} (h : Cl S) (hd : d.bd S.length = true) : endD S.length (.exc c d σ (S ++ X)) = .exc c d S := tidyX_at rfl h hd
theorem end_exc0 {c : Nat} (h : Cl S) (hd : d.bd S.length = true) : endD S.length (.exc c d σ S) = .exc c d S := by
  have e := end_exc (X := []) (σ := σ) (c := c) h hd
  rw [List.append_nil] at e
  exact e
end
/-! ### parts of values that repr reads -/
theorem mapO_mem {α β : Type} {f : α → Option β} : ∀ {xs : List α} {ps : List β}, mapO f xs = some ps → ∀ x ∈ xs, ∃ p ∈ ps, f x = some p
  | [], _, _, _, m => nomatch m
  | x :: xs, ps, h, y, m => by
    obtain ⟨a, b, e1, e2, rfl⟩ := consO_some h
    rcases List.mem_cons.mp m with z | z
    · subst z; exact ⟨a, List.mem_cons_self, e1⟩
    · obtain ⟨p, hp, e⟩ := mapO_mem e2 y z
      exact ⟨p, List.mem_cons_of_mem _ hp, e⟩
theorem widL_mem : ∀ {ps : List PyData} {p : PyData}, p ∈ ps → wid p + 2 ≤ widL ps
  | [], _, m => nomatch m
  | q :: ps, p, m => by
    simp only [widL]
    rcases List.mem_cons.mp m with z | z
    · subst z; omega
    · have := widL_mem z; omega
theorem widL_len : ∀ {ps : List PyData}, 2 * ps.length ≤ widL ps
  | [] => by simp [widL]
  | q :: ps => by
    have := widL_len (ps := ps)
    simp only [widL, List.length_cons]; omega
theorem widL_le {c : Nat} : ∀ {ps : List PyData}, (∀ p ∈ ps, wid p + 2 ≤ c) → widL ps ≤ ps.length * c
  | [], _ => by simp [widL]
  | q :: ps, h => by
    have h1 := widL_le (c := c) (ps := ps) fun p m => h p (List.mem_cons_of_mem _ m)
    have h2 := h q List.mem_cons_self
    simp only [widL, List.length_cons, Nat.succ_mul]; omega
/-- repr reads d as p within n levels, and its text is short enough -/
structure Rp (S : Sto) (n : Nat) (d : D) (p : PyData) : Prop where
  pr : toPR S n d = some p
  sh : p.showable = true
  wd : wid p ≤ sizeLine
theorem Rp.vk {S : Sto} {n : Nat} {d : D} {p : PyData} (h : Rp S n d p) : vk S d = true := vk_of_pr h.pr
theorem showableAll_mem : ∀ {ps : List PyData}, PyData.showableAll ps = true ↔ ∀ p ∈ ps, p.showable = true
  | [] => ⟨fun _ _ m => (nomatch m), fun _ => rfl⟩
  | q :: ps => by
    show (q.showable && PyData.showableAll ps) = true ↔ _
    rw [Bool.and_eq_true, showableAll_mem, List.forall_mem_cons]
theorem Rp.tup {S : Sto} {n : Nat} {xs : List D} {p : PyData} (h : Rp S n (.tup xs) p) : ∃ m ps, n = m + 1 ∧ p = .tuple ps ∧ mapO (toPR S m) xs = some ps ∧ xs.length ≤ sizeLine ∧ ∀ x ∈ xs, ∃ q, Rp S m x q := by
  obtain ⟨pr, sh, wd⟩ := h
  cases n with
  | zero => unfold toPR at pr; cases pr
  | succ m =>
    unfold toPR at pr
    cases e : mapO (toPR S m) xs with
    | none => rw [e] at pr; cases pr
    | some ps =>
      rw [e] at pr
      cases pr
      have sh2 : PyData.showableAll ps = true := by simpa only [PyData.showable] using sh
      have wd2 : widL ps + 3 ≤ sizeLine := by simpa only [wid] using wd
      refine ⟨m, ps, rfl, rfl, e, ?_, fun x mx => ?_⟩
      · have := widL_len (ps := ps)
        have := mapO_len e
        omega
      · obtain ⟨q, mq, eq⟩ := mapO_mem e x mx
        have := widL_mem mq
        exact ⟨q, eq, showableAll_mem.mp sh2 q mq, by omega⟩
theorem Rp.str {S : Sto} {n : Nat} {d : D} {p : PyData} (h : Rp S n d p) (hn : n ≤ 60) : reprD S d = some p.shown := repr_of h.pr hn (showOk_of h.sh h.wd)
theorem Rp.pre {S S' : Sto} {n m : Nat} {d : D} {p : PyData} (h : Rp S n d p) (x : Pre S S') (l : n ≤ m) : Rp S' m d p := ⟨x.pr l h.pr, h.sh, h.wd⟩
theorem filterMap_some {α β : Type} {h : α → β} {xs : List α} : xs.filterMap (fun x => some (h x)) = xs.map h := by
  induction xs with
  | nil => rfl
  | cons x r ih => simp [ih]
theorem all_id {α : Type} {h : α → Bool} {xs : List α} : (xs.map h).all id = xs.all h := by
  rw [List.all_map]; rfl
theorem b_allm {α β : Type} {S : Sto} (f : D → Sto → β) (g : Nat → D → Sto → β) (b : β) {h : α → Bool} {xs : List α} : (blD .all (xs.map fun x => .bl (h x)) .fresh S).kk f g b = f (.bl (xs.all h)) S := by
  rw [show (xs.map fun x => D.bl (h x)) = (xs.map h).map .bl by rw [List.map_map]; rfl, b_all, all_id]
theorem turn_kk {V : Ev} {own : List Nat} {tg : Tg} {ifs : Es} {elt : E} {σ σ2 : Sl} {d : D} {S : Sto} (hσ : tgD tg d (wipeD σ own) = some σ2) : turnC V own tg ifs elt σ d S = (evT V ifs σ2 S).kk (fun k S3 => ifB k ((evE V elt σ2 S3).kk (fun y S4 => .ok (some y) S4) .exc .bad) (.ok none S3)) .exc .bad := by
  unfold turnC
  rw [hσ]
  dsimp only
  rw [bind_kk]
  refine kk_ext fun k S3 => ?_
  cases k
  · rfl
  · show Res.bind _ _ = _
    rw [bind_kk]; rfl
theorem ifP_len {α β : Type} {xs : List α} (p q : β) (h : xs.length ≤ 1000000) : ifP (xs.length ≤ sizeLine) p q = p := ifP_t p q (Nat.le_trans h (by decide))
/-- a list may be taken that often -/
def mulL (j : Int) (n : Nat) : Bool := decide (-(2 ^ 63) ≤ j ∧ j < 2 ^ 63 ∧ n * j.toNat ≤ sizeLine)
theorem mulL_of {j : Int} {n : Nat} (h1 : 0 ≤ j) (h2 : j < 2 ^ 62) (h : n * j.toNat ≤ sizeLine) : mulL j n = true := decide_eq_true ⟨by omega, by omega, h⟩
theorem p_mulLR {β : Type} {S : Sto} (f : D → Sto → β) (g : Nat → D → Sto → β) (b : β) {m : Nat} {j : Int} : (binD .mul (.ref m) (.int j) S).kk f g b = onL S[m]? (fun xs => ifB (mulL j xs.length) (f (.ref S.length) (S ++ [.lst (List.replicate j.toNat xs).flatten])) b) b := by
  unfold binD
  dsimp only
  generalize S[m]? = o
  rcases o with _ | o
  · rfl
  · cases o <;> try rfl
    case lst xs =>
      show Res.kk (if _ then _ else _) f g b = ifB (mulL j xs.length) _ _
      rw [kk_if]
      unfold mulL ifP ifB
      simp only [decide_eq_true_eq]
      rfl
theorem end_new {S X : Sto} {i : Nat} {xs : List D} (h : Cl S) (he : X[i]? = some (.lst xs)) (hd : D.bdL S.length xs = true) : endD S.length (.ret (.ref (S.length + i)) (S ++ X)) = .ok (.ref S.length) (S ++ [.lst xs]) := tidy_new rfl h (by omega) (at_new.trans he) hd
theorem end_new0 {S X : Sto} {xs : List D} (h : Cl S) (he : X[0]? = some (.lst xs)) (hd : D.bdL S.length xs = true) : endD S.length (.ret (.ref S.length) (S ++ X)) = .ok (.ref S.length) (S ++ [.lst xs]) := end_new (i := 0) h he hd
/-! ### slices, lists taken often -/
theorem cut_from {α : Type} {xs : List α} {v : Int} (h0 : 0 ≤ v) (h1 : v ≤ xs.length) : cut xs (some v) none = xs.drop v.toNat := by
  have e : HT.sIx xs.length 0 (some v) = v.toNat := by
    show (if v < 0 then _ else _) = _
    rw [if_neg (by omega)]; omega
  unfold cut
  rw [e]
  show (xs.drop v.toNat).take (xs.length - v.toNat) = _
  rw [List.take_of_length_le (by rw [List.length_drop]; omega)]
theorem cut_to {α : Type} {xs : List α} {v : Int} (h0 : 0 ≤ v) : cut xs none (some v) = xs.take v.toNat := by
  have e : HT.sIx xs.length xs.length (some v) = min v.toNat xs.length := by
    show (if v < 0 then _ else _) = _
    rw [if_neg (by omega)]
  unfold cut
  rw [e]
  show (xs.drop 0).take (min v.toNat xs.length - 0) = _
  rw [List.drop_zero, Nat.sub_zero]
  by_cases h : v.toNat ≤ xs.length
  · rw [Nat.min_eq_left h]
  · rw [Nat.min_eq_right (by omega), List.take_of_length_le (Nat.le_refl _), List.take_of_length_le (by omega)]
theorem cut_in {α : Type} {xs : List α} {v u : Int} (h0 : 0 ≤ v) (h1 : v ≤ u) (h2 : u ≤ xs.length) : cut xs (some v) (some u) = (xs.drop v.toNat).take (u - v).toNat := by
  have e : HT.sIx xs.length 0 (some v) = v.toNat := by
    show (if v < 0 then _ else _) = _
    rw [if_neg (by omega)]; omega
  have e2 : HT.sIx xs.length xs.length (some u) = u.toNat := by
    show (if u < 0 then _ else _) = _
    rw [if_neg (by omega)]; omega
  unfold cut
  rw [e, e2]
  congr 1; omega
theorem flat_get {α : Type} {row : List α} : ∀ {n i : Nat}, i < n * row.length → (List.replicate n row).flatten[i]? = row[i % row.length]?
  | 0, i, h => by omega
  | n + 1, i, h => by
    rw [List.replicate_succ, List.flatten_cons]
    by_cases h1 : i < row.length
    · rw [List.getElem?_append_left h1, Nat.mod_eq_of_lt h1]
    · rw [Nat.succ_mul] at h
      rw [List.getElem?_append_right (by omega), flat_get (by omega), Nat.mod_eq_sub_mod (a := i) (by omega)]
theorem rot_get {α : Type} {rs : List α} {a j : Nat} (ha : a < rs.length) (hj : j < rs.length) : (rs.drop a ++ rs.take a)[j]? = rs[(a + j) % rs.length]? := by
  by_cases h : a + j < rs.length
  · rw [List.getElem?_append_left (by rw [List.length_drop]; omega), List.getElem?_drop, Nat.mod_eq_of_lt h]
  · rw [List.getElem?_append_right (by rw [List.length_drop]; omega), List.length_drop, Nat.mod_eq_sub_mod (by omega), Nat.mod_eq_of_lt (a := a + j - rs.length) (by omega)]
    rw [List.getElem?_take_of_lt (by omega)]
    congr 1; omega
end Py
end
section
set_option linter.all false
set_option maxRecDepth 100000
/-! PyZg: what is read of a value stays when the objects behind are cut off. -/
namespace Py
open PySem
theorem toPR_cut {S X : Sto} (cl : Cl S) : ∀ {n : Nat} {d : D} {p : PyData}, d.bd S.length = true → toPR (S ++ X) n d = some p → toPR S n d = some p
  | n, .non, p, _, h => by cases n <;> (unfold toPR at h; cases h; unfold toPR; rfl)
  | n, .bl _, p, _, h => by cases n <;> (unfold toPR at h; cases h; unfold toPR; rfl)
  | n, .int _, p, _, h => by cases n <;> (unfold toPR at h; cases h; unfold toPR; rfl)
  | n, .str _, p, _, h => by cases n <;> (unfold toPR at h; cases h; unfold toPR; rfl)
  | 0, .tup xs, p, _, h => by unfold toPR at h; cases h
  | 0, .ref k, p, _, h => by unfold toPR at h; cases h
  | n + 1, .tup xs, p, b, h => by
    unfold toPR at h ⊢
    cases e : mapO (toPR (S ++ X) n) xs with
    | none => rw [e] at h; cases h
    | some ps =>
      rw [e] at h
      rw [mapO_mono (fun x mx q hq => toPR_cut cl (bd_tup.mp b x mx) hq) e]
      exact h
  | n + 1, .ref k, p, b, h => by
    have hk : k < S.length := of_decide_eq_true b
    unfold toPR at h ⊢
    rw [List.getElem?_append_left hk] at h
    cases eo : S[k]? with
    | none => rw [eo] at h; cases h
    | some o =>
      have bo := cl.get eo
      rw [eo] at h
      cases o with
      | lst xs =>
        dsimp only at h ⊢
        cases e : mapO (toPR (S ++ X) n) xs with
        | none => rw [e] at h; cases h
        | some ps =>
          rw [e] at h
          rw [mapO_mono (fun x mx q hq => toPR_cut cl (bdL_iff.mp bo x mx) hq) e]
          exact h
      | dct xs =>
        have bx : ∀ (ys : List (L2.Key × D)), bdK S.length ys = true → ∀ x ∈ ys, x.2.bd S.length = true := by
          intro ys
          induction ys with
          | nil => intro _ x mx; cases mx
          | cons y r ih =>
            intro hb x mx
            have z : (y.2.bd S.length && bdK S.length r) = true := hb
            rw [Bool.and_eq_true] at z
            rcases List.mem_cons.mp mx with u | u
            · subst u; exact z.1
            · exact ih z.2 x u
        dsimp only at h ⊢
        cases e : mapO (pairPR (toPR (S ++ X) n)) xs with
        | none => rw [e] at h; cases h
        | some ps =>
          rw [e] at h
          rw [mapO_mono (g := pairPR (toPR S n)) (fun x mx q hq => by
            unfold pairPR at hq ⊢
            cases e2 : toPR (S ++ X) n x.2 with
            | none => rw [e2] at hq; cases hq
            | some y =>
              rw [e2] at hq
              rw [toPR_cut cl (bx xs bo x mx) e2]
              exact hq) e]
          exact h
      | _ => cases h
/-- a value stands in a store that goes on from another one -/
structure Va (S : Sto) (n : Nat) (p : PyData) (d : D) (S' : Sto) : Prop where
  pre : Pre S S'
  cl : Cl S'
  bd : d.bd S'.length = true
  pr : toPR S' n d = some p
/-- a list that is none of the store S -/
def NewL (S : Sto) (d : D) (S' : Sto) : Prop := ∃ k xs, d = .ref k ∧ S.length ≤ k ∧ S'[k]? = some (.lst xs)
theorem tidy_val {S S1 : Sto} {n : Nat} {p : PyData} {d : D} (cl : Cl S) (h : Va S n p d S1) : ∃ d' S', tidy S.length d S1 = .ok d' S' ∧ Va S n p d' S' ∧ (NewL S d S1 → NewL S d' S') := by
  obtain ⟨⟨X, rfl⟩, cl1, bd1, pr1⟩ := h
  by_cases hb : d.bd S.length = true
  · refine ⟨d, S, tidy_at rfl cl hb, ⟨Pre.rfl, cl, hb, toPR_cut cl hb pr1⟩, ?_⟩
    rintro ⟨k, xs, rfl, hk, _⟩
    have := of_decide_eq_true (show decide (k < S.length) = true from hb)
    omega
  · by_cases hx : ∃ k xs, d = .ref k ∧ (S ++ X)[k]? = some (.lst xs) ∧ D.bdL S.length xs = true
    · obtain ⟨k, xs, rfl, hk, hxs⟩ := hx
      have hk2 : S.length ≤ k := by
        by_cases z : k < S.length
        · exact absurd (show (D.ref k).bd S.length = true from decide_eq_true z) hb
        · omega
      refine ⟨.ref S.length, S ++ [.lst xs], tidy_new rfl cl hk2 hk hxs, ⟨Pre.push, cl.push (o := .lst xs) (show D.bdL (S.length + 1) xs = true from bdL_mono (by omega) xs hxs), decide_eq_true (by rw [List.length_append]; simp), ?_⟩, fun _ => ⟨S.length, xs, rfl, Nat.le_refl _, at_new0⟩⟩
      cases n with
      | zero => unfold toPR at pr1; cases pr1
      | succ n =>
        unfold toPR at pr1 ⊢
        rw [at_new0]
        rw [hk] at pr1
        dsimp only at pr1 ⊢
        show (mapO (toPR (S ++ [.lst xs]) n) xs).map .list = some p
        cases e : mapO (toPR (S ++ X) n) xs with
        | none => rw [e] at pr1; cases pr1
        | some ps =>
          rw [e] at pr1
          rw [mapO_mono (g := toPR (S ++ [.lst xs]) n) (fun x mx q hq => Pre.push.pr (Nat.le_refl n) (toPR_cut cl (bdL_iff.mp hxs x mx) hq)) e]
          exact pr1
    · refine ⟨d, S ++ X, ?_, ⟨Pre.push, cl1, bd1, pr1⟩, id⟩
      unfold tidy
      rw [List.take_left, if_pos cl.eq, if_neg hb]
      cases d with
      | ref k =>
        dsimp only
        cases eo : (S ++ X)[k]? with
        | none => rfl
        | some o =>
          cases o with
          | lst xs =>
            dsimp only
            rw [if_neg fun z => hx ⟨k, xs, rfl, eo, z⟩]
          | _ => rfl
      | _ => rfl
theorem tidyX_val {S S1 : Sto} {n c : Nat} {p : PyData} {d : D} (cl : Cl S) (h : Va S n p d S1) : ∃ S', tidyX S.length c d S1 = .exc c d S' ∧ Va S n p d S' ∧ (NewL S d S1 → NewL S d S') := by
  obtain ⟨⟨X, rfl⟩, cl1, bd1, pr1⟩ := h
  by_cases hb : d.bd S.length = true
  · refine ⟨S, tidyX_at rfl cl hb, ⟨Pre.rfl, cl, hb, toPR_cut cl hb pr1⟩, ?_⟩
    rintro ⟨k, xs, rfl, hk, _⟩
    have := of_decide_eq_true (show decide (k < S.length) = true from hb)
    omega
  · refine ⟨S ++ X, ?_, ⟨Pre.push, cl1, bd1, pr1⟩, id⟩
    unfold tidyX
    rw [if_neg fun z => hb z.2]
theorem Rp.lst {S : Sto} {n k : Nat} {xs : List D} {p : PyData} (h : Rp S n (.ref k) p) (e : S[k]? = some (.lst xs)) : ∃ m ps, n = m + 1 ∧ p = .list ps ∧ mapO (toPR S m) xs = some ps ∧ xs.length ≤ sizeLine ∧ ∀ x ∈ xs, ∃ q, Rp S m x q := by
  obtain ⟨pr, sh, wd⟩ := h
  cases n with
  | zero => unfold toPR at pr; cases pr
  | succ m =>
    unfold toPR at pr
    rw [e] at pr
    dsimp only at pr
    cases e : mapO (toPR S m) xs with
    | none => rw [e] at pr; cases pr
    | some ps =>
      rw [e] at pr
      cases pr
      have sh2 : PyData.showableAll ps = true := by simpa only [PyData.showable] using sh
      have wd2 : widL ps + 2 ≤ sizeLine := by simpa only [wid] using wd
      refine ⟨m, ps, rfl, rfl, e, ?_, fun x mx => ?_⟩
      · have := widL_len (ps := ps)
        have := mapO_len e
        omega
      · obtain ⟨q, mq, eq⟩ := mapO_mem e x mx
        have := widL_mem mq
        exact ⟨q, eq, showableAll_mem.mp sh2 q mq, by omega⟩
/-- values made one after the other, each within a store that goes on -/
structure Acc (S : Sto) (m : Nat) (xs : List D) (ps : List PyData) (r acc : List D) (S1 : Sto) : Prop where
  pre : Pre S S1
  cl : Cl S1
  bd : D.bdL S1.length acc = true
  pr : ∃ done qs, xs = done ++ r ∧ qs = ps.take done.length ∧ mapO (toPR S1 m) acc = some qs
  len : acc.length + r.length = xs.length
theorem mapO_snoc {α β : Type} {f : α → Option β} {a : α} {b : β} : ∀ {xs : List α} {ps : List β}, mapO f xs = some ps → f a = some b → mapO f (xs ++ [a]) = some (ps ++ [b])
  | [], ps, h, e => by cases h; show consO (f a) (some []) = _; rw [e]; rfl
  | x :: xs, ps, h, e => by
    obtain ⟨c, d, e1, e2, rfl⟩ := consO_some h
    show consO (f x) (mapO f (xs ++ [a])) = _
    rw [e1, mapO_snoc e2 e]; rfl
theorem mapO_get {α β : Type} {f : α → Option β} : ∀ {xs : List α} {ps : List β}, mapO f xs = some ps → ∀ i (h : i < xs.length), ∃ p, ps[i]? = some p ∧ f xs[i] = some p
  | x :: xs, ps, h, i, hi => by
    obtain ⟨c, d, e1, e2, rfl⟩ := consO_some h
    cases i with
    | zero => exact ⟨c, rfl, e1⟩
    | succ i =>
      obtain ⟨p, h1, h2⟩ := mapO_get e2 i (by simpa using hi)
      exact ⟨p, by simpa using h1, by simpa using h2⟩
/-- a comprehension that makes of each item one that reads alike -/
theorem comp_vals {s : Src} {f : D → Sto → Res (Option D)} {S : Sto} {m : Nat} {xs : List D} {ps : List PyData} (cl : Cl S) (hps : mapO (toPR S m) xs = some ps) (hl : xs.length ≤ sizeLine) (hs : ∀ S1, Pre S S1 → s.still S1 = true)
    (hf : ∀ x ∈ xs, ∀ q, toPR S m x = some q → ∀ S1, Pre S S1 → Cl S1 → ∃ y S2, f x S1 = .ok (some y) S2 ∧ Va S1 m q y S2) :
    ∃ ys S1, compGo s f xs [] S = .ok ys S1 ∧ Pre S S1 ∧ Cl S1 ∧ D.bdL S1.length ys = true ∧ mapO (toPR S1 m) ys = some ps ∧ ys.length ≤ sizeLine := by
  obtain ⟨ys, S1, e, a⟩ := comp_inv (Acc S m xs ps) (fun x r acc S1 a => by
    obtain ⟨a1, a2, a3, ⟨done, qs, e1, e2, e3⟩, a5⟩ := a
    refine ⟨hs S1 a1, by rw [List.length_cons] at a5; omega, ?_⟩
    have hi : done.length < xs.length := by rw [e1, List.length_append, List.length_cons]; omega
    obtain ⟨q, q1, q2⟩ := mapO_get hps done.length hi
    have ex : xs[done.length] = x := by
      have z : xs[done.length]? = some x := by rw [e1, List.getElem?_append_right (Nat.le_refl _), Nat.sub_self]; rfl
      rw [List.getElem?_eq_getElem hi] at z
      cases z; rfl
    rw [ex] at q2
    obtain ⟨y, S2, f1, ⟨b1, b2, b3, b4⟩⟩ := hf x (by rw [e1]; simp) q q2 S1 a1 a2
    refine ⟨y, S2, f1, a1.trans b1, b2, bdL_iff.mpr fun z mz => ?_, ⟨done ++ [x], qs ++ [q], by rw [e1]; simp, ?_, mapO_snoc (mapO_mono (fun w _ u hu => b1.pr (Nat.le_refl m) hu) e3) b4⟩, by rw [List.length_append]; rw [List.length_cons] at a5; simp; omega⟩
    · rcases List.mem_append.mp mz with u | u
      · exact b1.bd (bdL_iff.mp a3 z u)
      · rw [List.mem_singleton.mp u]; exact b3
    · rw [e2, List.length_append, List.length_singleton, List.take_succ, q1]; rfl) (fun acc S1 a => hs S1 a.pre) xs [] S ⟨Pre.rfl, cl, rfl, ⟨[], [], rfl, rfl, rfl⟩, by simp⟩
  obtain ⟨a1, a2, a3, ⟨done, qs, e1, e2, e3⟩, a5⟩ := a
  rw [List.append_nil] at e1
  subst e1
  rw [List.take_of_length_le (by rw [mapO_len hps]; exact Nat.le_refl _)] at e2
  subst e2
  exact ⟨ys, S1, e, a1, a2, a3, e3, by rw [← Nat.add_zero ys.length]; simp at a5; omega⟩
end Py
end
section
set_option linter.all false
set_option maxRecDepth 100000
/-! PuA: values without a store, and what it is for values in a store to read as these. -/
namespace Py
open PySem
inductive P where
  | non | bl (b : Bool) | int (i : Int) | str (x : Str) | tup (xs : List P) | lst (xs : List P) | frz (xs : List P)
  | dct (kvs : List (L2.Key × P)) | ins (c : Nat) (fs : List (Nat × P)) | exc (c : Nat) (v : P)
instance : Inhabited P := ⟨.non⟩
/-- addresses that are kept away from -/
abbrev Av := Nat → Prop
inductive Rds (A : Av) (S : Sto) : List D → List P → Prop
  | nil : Rds A S [] []
  | non {ds ps} : Rds A S ds ps → Rds A S (.non :: ds) (.non :: ps)
  | bl {b ds ps} : Rds A S ds ps → Rds A S (.bl b :: ds) (.bl b :: ps)
  | int {i ds ps} : Rds A S ds ps → Rds A S (.int i :: ds) (.int i :: ps)
  | str {x ds ps} : Rds A S ds ps → Rds A S (.str x :: ds) (.str x :: ps)
  | tup {xs qs ds ps} : Rds A S xs qs → Rds A S ds ps → Rds A S (.tup xs :: ds) (.tup qs :: ps)
  | lst {n xs qs ds ps} : ¬ A n → S[n]? = some (.lst xs) → Rds A S xs qs → Rds A S ds ps → Rds A S (.ref n :: ds) (.lst qs :: ps)
  | frz {n xs qs ds ps} : ¬ A n → S[n]? = some (.frz xs) → Rds A S xs qs → Rds A S ds ps → Rds A S (.ref n :: ds) (.frz qs :: ps)
  | dct {n kvs qs ds ps} : ¬ A n → S[n]? = some (.dct kvs) → kvs.map (·.1) = qs.map (·.1) → Rds A S (kvs.map (·.2)) (qs.map (·.2)) → Rds A S ds ps → Rds A S (.ref n :: ds) (.dct qs :: ps)
  | ins {n c fs qs ds ps} : ¬ A n → S[n]? = some (.ins c fs) → fs.map (·.1) = qs.map (·.1) → Rds A S (fs.map (·.2)) (qs.map (·.2)) → Rds A S ds ps → Rds A S (.ref n :: ds) (.ins c qs :: ps)
  | exc {n c d p ds ps} : ¬ A n → S[n]? = some (.exc c d) → Rds A S [d] [p] → Rds A S ds ps → Rds A S (.ref n :: ds) (.exc c p :: ps)
abbrev Rd (A : Av) (S : Sto) (d : D) (p : P) : Prop := Rds A S [d] [p]
section
variable {A : Av} {S : Sto}
theorem Rds.cons {d : D} {p : P} {ds : List D} {ps : List P} (h : Rd A S d p) (r : Rds A S ds ps) : Rds A S (d :: ds) (p :: ps) := by
  cases h with
  | non _ => exact .non r
  | bl _ => exact .bl r
  | int _ => exact .int r
  | str _ => exact .str r
  | tup a _ => exact .tup a r
  | lst a b c _ => exact .lst a b c r
  | frz a b c _ => exact .frz a b c r
  | dct a b c e _ => exact .dct a b c e r
  | ins a b c e _ => exact .ins a b c e r
  | exc a b c _ => exact .exc a b c r
theorem Rds.hd {d : D} {p : P} {ds : List D} {ps : List P} (h : Rds A S (d :: ds) (p :: ps)) : Rd A S d p := by
  cases h with
  | non _ => exact .non .nil
  | bl _ => exact .bl .nil
  | int _ => exact .int .nil
  | str _ => exact .str .nil
  | tup a _ => exact .tup a .nil
  | lst a b c _ => exact .lst a b c .nil
  | frz a b c _ => exact .frz a b c .nil
  | dct a b c e _ => exact .dct a b c e .nil
  | ins a b c e _ => exact .ins a b c e .nil
  | exc a b c _ => exact .exc a b c .nil
theorem Rds.tl {d : D} {p : P} {ds : List D} {ps : List P} (h : Rds A S (d :: ds) (p :: ps)) : Rds A S ds ps := by
  cases h <;> assumption
theorem Rds.len {ds : List D} {ps : List P} (h : Rds A S ds ps) : ds.length = ps.length := by
  induction h <;> simp_all
theorem Rds.out {d : D} {ds : List D} {ps : List P} (h : Rds A S (d :: ds) ps) : ∃ p r, ps = p :: r ∧ Rd A S d p ∧ Rds A S ds r := by
  cases ps with
  | nil => cases h
  | cons p r => exact ⟨p, r, rfl, h.hd, h.tl⟩
theorem Rds.outp {p : P} {ds : List D} {ps : List P} (h : Rds A S ds (p :: ps)) : ∃ d r, ds = d :: r ∧ Rd A S d p ∧ Rds A S r ps := by
  cases ds with
  | nil => cases h
  | cons d r => exact ⟨d, r, rfl, h.hd, h.tl⟩
theorem Rds.append : ∀ {ds es : List D} {ps qs : List P}, Rds A S ds ps → Rds A S es qs → Rds A S (ds ++ es) (ps ++ qs)
  | [], es, ps, qs, h, h' => by cases h; exact h'
  | d :: ds, es, ps, qs, h, h' => by
    obtain ⟨p, r, rfl, a, b⟩ := h.out
    exact Rds.cons a (b.append h')
theorem Rds.getp : ∀ {ds : List D} {ps : List P} {i : Nat} {p : P}, Rds A S ds ps → ps[i]? = some p → ∃ d, ds[i]? = some d ∧ Rd A S d p
  | [], ps, i, p, h, e => by cases h; cases e
  | d :: ds, ps, i, p, h, e => by
    obtain ⟨q, r, rfl, a, b⟩ := h.out
    cases i with
    | zero => cases e; exact ⟨d, rfl, a⟩
    | succ i => exact b.getp (i := i) (by simpa using e)
theorem Rds.take : ∀ {ds : List D} {ps : List P} (i : Nat), Rds A S ds ps → Rds A S (ds.take i) (ps.take i)
  | [], ps, i, h => by cases h; simp only [List.take_nil]; exact .nil
  | d :: ds, ps, i, h => by
    obtain ⟨q, r, rfl, a, b⟩ := h.out
    cases i with
    | zero => exact .nil
    | succ i => exact Rds.cons a (b.take i)
theorem Rds.drop : ∀ {ds : List D} {ps : List P} (i : Nat), Rds A S ds ps → Rds A S (ds.drop i) (ps.drop i)
  | [], ps, i, h => by cases h; simp only [List.drop_nil]; exact .nil
  | d :: ds, ps, i, h => by
    obtain ⟨q, r, rfl, a, b⟩ := h.out
    cases i with
    | zero => exact Rds.cons a b
    | succ i => exact b.drop i
theorem Rds.reverse : ∀ {ds : List D} {ps : List P}, Rds A S ds ps → Rds A S ds.reverse ps.reverse
  | [], ps, h => by cases h; exact .nil
  | d :: ds, ps, h => by
    obtain ⟨q, r, rfl, a, b⟩ := h.out
    rw [List.reverse_cons, List.reverse_cons]
    exact b.reverse.append a
theorem Rds.set : ∀ {ds : List D} {ps : List P} {i : Nat} {d : D} {p : P}, Rds A S ds ps → Rd A S d p → Rds A S (ds.set i d) (ps.set i p)
  | [], ps, i, d, p, h, _ => by cases h; exact .nil
  | e :: ds, ps, i, d, p, h, h' => by
    obtain ⟨q, r, rfl, a, b⟩ := h.out
    cases i with
    | zero => exact Rds.cons h' b
    | succ i => exact Rds.cons a (b.set h')
theorem Rds.flat {ds : List D} {ps : List P} (h : Rds A S ds ps) (k : Nat) : Rds A S (List.replicate k ds).flatten (List.replicate k ps).flatten := by
  induction k with
  | zero => exact .nil
  | succ k ih => rw [List.replicate_succ, List.replicate_succ, List.flatten_cons, List.flatten_cons]; exact h.append ih
theorem Rds.mono {B : Av} {ds : List D} {ps : List P} (h : Rds A S ds ps) (l : ∀ n, B n → A n) : Rds B S ds ps := by
  induction h with
  | nil => exact .nil
  | non _ a => exact .non a
  | bl _ a => exact .bl a
  | int _ a => exact .int a
  | str _ a => exact .str a
  | tup _ _ a b => exact .tup a b
  | lst n e _ _ a b => exact .lst (fun z => n (l _ z)) e a b
  | frz n e _ _ a b => exact .frz (fun z => n (l _ z)) e a b
  | dct n e k _ _ a b => exact .dct (fun z => n (l _ z)) e k a b
  | ins n e k _ _ a b => exact .ins (fun z => n (l _ z)) e k a b
  | exc n e _ _ a b => exact .exc (fun z => n (l _ z)) e a b
theorem lt_of_get {S : Sto} {n : Nat} {o : Ob} (e : S[n]? = some o) : n < S.length := (List.getElem?_eq_some_iff.mp e).1
theorem Rds.sto {S' : Sto} {ds : List D} {ps : List P} (h : Rds A S ds ps) (l : ∀ n, n < S.length → ¬ A n → S'[n]? = S[n]?) : Rds A S' ds ps := by
  induction h with
  | nil => exact .nil
  | non _ a => exact .non a
  | bl _ a => exact .bl a
  | int _ a => exact .int a
  | str _ a => exact .str a
  | tup _ _ a b => exact .tup a b
  | lst n e _ _ a b => exact .lst n ((l _ (lt_of_get e) n).trans e) a b
  | frz n e _ _ a b => exact .frz n ((l _ (lt_of_get e) n).trans e) a b
  | dct n e k _ _ a b => exact .dct n ((l _ (lt_of_get e) n).trans e) k a b
  | ins n e k _ _ a b => exact .ins n ((l _ (lt_of_get e) n).trans e) k a b
  | exc n e _ _ a b => exact .exc n ((l _ (lt_of_get e) n).trans e) a b
/-- what a value reads as lies within the store: it keeps away from what lies beyond -/
theorem Rds.away {B : Av} {ds : List D} {ps : List P} (h : Rds A S ds ps) (l : ∀ n, n < S.length → B n → A n) : Rds B S ds ps := by
  induction h with
  | nil => exact .nil
  | non _ a => exact .non a
  | bl _ a => exact .bl a
  | int _ a => exact .int a
  | str _ a => exact .str a
  | tup _ _ a b => exact .tup a b
  | lst n e _ _ a b => exact .lst (fun z => n (l _ (lt_of_get e) z)) e a b
  | frz n e _ _ a b => exact .frz (fun z => n (l _ (lt_of_get e) z)) e a b
  | dct n e k _ _ a b => exact .dct (fun z => n (l _ (lt_of_get e) z)) e k a b
  | ins n e k _ _ a b => exact .ins (fun z => n (l _ (lt_of_get e) z)) e k a b
  | exc n e _ _ a b => exact .exc (fun z => n (l _ (lt_of_get e) z)) e a b
theorem Rds.pre {S' : Sto} {ds : List D} {ps : List P} (h : Rds A S ds ps) (l : Pre S S') : Rds A S' ds ps := h.sto fun n hn _ => by
  obtain ⟨X, rfl⟩ := l
  exact List.getElem?_append_left hn
theorem bdK_iff {n : Nat} : ∀ {xs : List (L2.Key × D)}, bdK n xs = true ↔ D.bdL n (xs.map (·.2)) = true
  | [] => ⟨fun _ => rfl, fun _ => rfl⟩
  | o :: S => by
    show (o.2.bd n && bdK n S) = true ↔ (o.2.bd n && D.bdL n (S.map (·.2))) = true
    rw [Bool.and_eq_true, Bool.and_eq_true, bdK_iff]
theorem bdF_iff {n : Nat} : ∀ {xs : List (Nat × D)}, bdF n xs = true ↔ D.bdL n (xs.map (·.2)) = true
  | [] => ⟨fun _ => rfl, fun _ => rfl⟩
  | o :: S => by
    show (o.2.bd n && bdF n S) = true ↔ (o.2.bd n && D.bdL n (S.map (·.2))) = true
    rw [Bool.and_eq_true, Bool.and_eq_true, bdF_iff]
theorem bdL_cons {n : Nat} {d : D} {ds : List D} : D.bdL n (d :: ds) = true ↔ d.bd n = true ∧ D.bdL n ds = true := by
  show (d.bd n && D.bdL n ds) = true ↔ _
  rw [Bool.and_eq_true]
/-- the objects from n on cut off -/
theorem Rds.cut {n : Nat} {ds : List D} {ps : List P} (h : Rds A S ds ps) (hS : bdS n (S.take n) = true) : D.bdL n ds = true → Rds A (S.take n) ds ps := by
  have get : ∀ {m : Nat} {o : Ob}, (D.ref m).bd n = true → S[m]? = some o → (S.take n)[m]? = some o ∧ o.bd n = true := fun {m o} b e => by
    have hm : m < n := of_decide_eq_true b
    have e2 : (S.take n)[m]? = some o := by rw [List.getElem?_take_of_lt hm]; exact e
    exact ⟨e2, bdS_iff.mp hS o (List.mem_of_getElem? e2)⟩
  induction h with
  | nil => exact fun _ => .nil
  | non _ a => exact fun b => .non (a (bdL_cons.mp b).2)
  | bl _ a => exact fun b => .bl (a (bdL_cons.mp b).2)
  | int _ a => exact fun b => .int (a (bdL_cons.mp b).2)
  | str _ a => exact fun b => .str (a (bdL_cons.mp b).2)
  | tup _ _ a a' => exact fun b => .tup (a (bdL_cons.mp b).1) (a' (bdL_cons.mp b).2)
  | lst m e _ _ a a' =>
    intro b
    obtain ⟨e2, b2⟩ := get (bdL_cons.mp b).1 e
    exact .lst m e2 (a b2) (a' (bdL_cons.mp b).2)
  | frz m e _ _ a a' =>
    intro b
    obtain ⟨e2, b2⟩ := get (bdL_cons.mp b).1 e
    exact .frz m e2 (a b2) (a' (bdL_cons.mp b).2)
  | dct m e k _ _ a a' =>
    intro b
    obtain ⟨e2, b2⟩ := get (bdL_cons.mp b).1 e
    exact .dct m e2 k (a (bdK_iff.mp b2)) (a' (bdL_cons.mp b).2)
  | ins m e k _ _ a a' =>
    intro b
    obtain ⟨e2, b2⟩ := get (bdL_cons.mp b).1 e
    exact .ins m e2 k (a (bdF_iff.mp b2)) (a' (bdL_cons.mp b).2)
  | exc m e _ _ a a' =>
    intro b
    obtain ⟨e2, b2⟩ := get (bdL_cons.mp b).1 e
    exact .exc m e2 (a (by rw [bdL_cons]; exact ⟨b2, rfl⟩)) (a' (bdL_cons.mp b).2)
end
/-! ### a value, or an own list looked at -/
def Rt (A : Av) (S : Sto) (d : D) (p : P) : Prop := Rd A S d p ∨ ∃ n xs qs, d = .ref n ∧ p = .lst qs ∧ S[n]? = some (.lst xs) ∧ Rds A S xs qs
section
variable {A : Av} {S : Sto} {d : D}
theorem Rd.rt {p : P} (h : Rd A S d p) : Rt A S d p := Or.inl h
theorem Rt.lst {qs : List P} (h : Rt A S d (.lst qs)) : ∃ n xs, d = .ref n ∧ S[n]? = some (.lst xs) ∧ Rds A S xs qs := by
  rcases h with h | ⟨n, xs, qs', h1, h2, h3, h4⟩
  · cases h with
    | lst a b c _ => exact ⟨_, _, rfl, b, c⟩
  · cases h2
    exact ⟨n, xs, h1, h3, h4⟩
theorem Rt.rd {p : P} (h : Rt A S d p) (hp : ∀ qs, p ≠ .lst qs) : Rd A S d p := by
  rcases h with h | ⟨n, xs, qs', h1, h2, h3, h4⟩
  · exact h
  · exact absurd h2 (hp _)
theorem Rt.non (h : Rt A S d .non) : d = .non := by cases h.rd (by simp); rfl
theorem Rt.bl {b : Bool} (h : Rt A S d (.bl b)) : d = .bl b := by cases h.rd (by simp); rfl
theorem Rt.int {i : Int} (h : Rt A S d (.int i)) : d = .int i := by cases h.rd (by simp); rfl
theorem Rt.str {x : Str} (h : Rt A S d (.str x)) : d = .str x := by cases h.rd (by simp); rfl
theorem Rt.tup {qs : List P} (h : Rt A S d (.tup qs)) : ∃ xs, d = .tup xs ∧ Rds A S xs qs := by
  cases h.rd (by simp) with
  | tup a _ => exact ⟨_, rfl, a⟩
theorem Rt.frz {qs : List P} (h : Rt A S d (.frz qs)) : ∃ n xs, d = .ref n ∧ ¬ A n ∧ S[n]? = some (.frz xs) ∧ Rds A S xs qs := by
  cases h.rd (by simp) with
  | frz a b c _ => exact ⟨_, _, rfl, a, b, c⟩
theorem Rt.dct {qs : List (L2.Key × P)} (h : Rt A S d (.dct qs)) : ∃ n kvs, d = .ref n ∧ ¬ A n ∧ S[n]? = some (.dct kvs) ∧ kvs.map (·.1) = qs.map (·.1) ∧ Rds A S (kvs.map (·.2)) (qs.map (·.2)) := by
  cases h.rd (by simp) with
  | dct a b c e _ => exact ⟨_, _, rfl, a, b, c, e⟩
theorem Rt.ins {c : Nat} {qs : List (Nat × P)} (h : Rt A S d (.ins c qs)) : ∃ n fs, d = .ref n ∧ ¬ A n ∧ S[n]? = some (.ins c fs) ∧ fs.map (·.1) = qs.map (·.1) ∧ Rds A S (fs.map (·.2)) (qs.map (·.2)) := by
  cases h.rd (by simp) with
  | ins a b c e _ => exact ⟨_, _, rfl, a, b, c, e⟩
theorem Rt.exc {c : Nat} {p : P} (h : Rt A S d (.exc c p)) : ∃ n v, d = .ref n ∧ ¬ A n ∧ S[n]? = some (.exc c v) ∧ Rd A S v p := by
  cases h.rd (by simp) with
  | exc a b c _ => exact ⟨_, _, rfl, a, b, c⟩
theorem Rd.lst' {qs : List P} (h : Rd A S d (.lst qs)) : ∃ n xs, d = .ref n ∧ ¬ A n ∧ S[n]? = some (.lst xs) ∧ Rds A S xs qs := by
  cases h with
  | lst a b c _ => exact ⟨_, _, rfl, a, b, c⟩
end
end Py
end
section
set_option linter.all false
set_option maxRecDepth 100000
/-! PuB: operators on values without a store; what they say is what the machine's own do. -/
namespace Py
open PySem
def pdP : Nat → P → Option PyData
  | _, .non => some .none
  | _, .bl b => some (.bool b)
  | _, .int i => some (.int i)
  | _, .str x => if PyData.strOk x = true then some (.str x) else none
  | 0, _ => none
  | n + 1, .tup xs => (mapO (pdP n) xs).map .tuple
  | n + 1, .lst xs => (mapO (pdP n) xs).map .list
  | _, _ => none
def pairPP (f : P → Option PyData) (kv : L2.Key × P) : Option (PyData × PyData) := match f kv.2 with
  | some p => some (keyPD kv.1, p)
  | none => none
def prP : Nat → P → Option PyData
  | _, .non => some .none
  | _, .bl b => some (.bool b)
  | _, .int i => some (.int i)
  | _, .str x => some (.str x)
  | 0, _ => none
  | n + 1, .tup xs => (mapO (prP n) xs).map .tuple
  | n + 1, .lst xs => (mapO (prP n) xs).map .list
  | n + 1, .dct kvs => (mapO (pairPP (prP n)) kvs).map .dict
  | _, _ => none
def eqP : P → P → Option Bool
  | .str x, .str y => some (decide (x = y))
  | a, b => match pdP 60 a, pdP 60 b with
    | some p, some q => some (PyData.eqv p q)
    | _, _ => none
def lenNeP (a b : P) : Bool := match a, b with
  | .lst xs, .lst ys => decide (xs.length ≠ ys.length)
  | _, _ => false
def intP : P → Option Int
  | .int i => some i
  | _ => none
def boolP : P → Option Bool
  | .bl b => some b
  | _ => none
def intsP (ds : List P) : Option (List Int) := mapO intP ds
def boolsP (ds : List P) : Option (List Bool) := mapO boolP ds
def flatP : P → Bool
  | .non => true
  | .bl _ => true
  | .int _ => true
  | .str _ => true
  | _ => false
def eqFlatP : P → P → Bool
  | .non, .non => true
  | .bl a, .bl b => a == b
  | .bl a, .int b => (if a then 1 else 0) == b
  | .int a, .bl b => a == (if b then 1 else 0)
  | .int a, .int b => a == b
  | .str a, .str b => a == b
  | _, _ => false
def itemsP : P → Option (List P)
  | .tup xs => some xs
  | .lst xs => some xs
  | .frz xs => some xs
  | _ => none
def inP (a b : P) : Option Bool := match itemsP b with
  | some xs => if flatP a = true ∧ xs.all flatP = true then some (xs.any fun y => eqFlatP y a) else none
  | none => none
def okIf (c : Prop) [Decidable c] (p : P) : Option P := if c then some p else none
def binP (op : Bop) (a b : P) : Option P := match op with
  | .add => match a, b with
    | .int i, .int j => some (.int (i + j))
    | .tup xs, .tup ys => okIf (xs.length + ys.length ≤ sizeLine) (.tup (xs ++ ys))
    | .str x, .str y => okIf (x.length + y.length ≤ sizeLine) (.str (x ++ y))
    | .lst xs, .lst ys => okIf (xs.length + ys.length ≤ sizeLine) (.lst (xs ++ ys))
    | _, _ => none
  | .sub => match a, b with
    | .int i, .int j => some (.int (i - j))
    | _, _ => none
  | .mul => match a, b with
    | .int i, .int j => okIf (mulOk i j = true) (.int (i * j))
    | .lst xs, .int k => okIf (-(2 ^ 63) ≤ k ∧ k < 2 ^ 63 ∧ xs.length * k.toNat ≤ sizeLine) (.lst (List.replicate k.toNat xs).flatten)
    | .tup xs, .int k => okIf (xs ≠ [] ∧ xs.length ≤ 1000 ∧ 2 ≤ k ∧ k ≤ 1000) (.tup (List.replicate k.toNat xs).flatten)
    | _, _ => none
  | .fdiv => match a, b with
    | .int i, .int j => okIf (divOk j = true) (.int (i / j))
    | _, _ => none
  | .mod => match a, b with
    | .int i, .int j => okIf (0 < j) (.int (i % j))
    | _, _ => none
  | .pow => match a, b with
    | .int i, .int j => okIf (powOk i j = true) (.int (i ^ j.toNat))
    | _, _ => none
def cmpP (op : Cop) (a b : P) : Option Bool := match op with
  | .eq => if lenNeP a b = true then some false else eqP a b
  | .ne => (eqP a b).map fun k => !k
  | .lt => match a, b with
    | .int i, .int j => some (decide (i < j))
    | .tup xs, .tup ys => match intsP xs, intsP ys with
      | some ns, some ms => some (HT.lexLt ns ms)
      | _, _ => none
    | _, _ => none
  | .le => match a, b with
    | .int i, .int j => some (decide (i ≤ j))
    | _, _ => none
  | .gt => match a, b with
    | .int i, .int j => some (decide (j < i))
    | _, _ => none
  | .ge => match a, b with
    | .int i, .int j => some (decide (j ≤ i))
    | _, _ => none
  | .isB => match a, b with
    | .bl i, .bl j => some (decide (i = j))
    | _, _ => none
  | .notB => match a, b with
    | .bl i, .bl j => some (!decide (i = j))
    | _, _ => none
  | .inn => inP a b
  | .nin => (inP a b).map fun k => !k
def idxP (a b : P) : Option P := match b with
  | .int i => match itemsP a with
    | some xs => L2.atI xs i
    | none => match a with
      | .str z => if z.length ≤ sizeLine then (L2.atI z.cps.toList i).map fun c => .str ⟨#[c]⟩ else none
      | _ => none
  | .str x => match a with
    | .dct kvs => (kvs.find? fun kv => decide (kv.1 = Sum.inr x)).map (·.2)
    | _ => none
  | _ => none
def sliP (a : P) (lo hi : Option Int) : Option P := match a with
  | .tup xs => some (.tup (cut xs lo hi))
  | .lst xs => some (.lst (cut xs lo hi))
  | .frz xs => some (.lst (cut xs lo hi))
  | _ => none
def revP (a : P) : Option P := match a with
  | .tup xs => some (.tup xs.reverse)
  | .lst xs => some (.lst xs.reverse)
  | _ => none
def isiP (sub : Nat → Nat → Bool) (d : P) (T : Ty) : Option Bool := match d with
  | .non => some false
  | .bl _ => match T with
    | .int => some true
    | .bool => some true
    | _ => some false
  | .int _ => match T with
    | .int => some true
    | _ => some false
  | .str _ => match T with
    | .str => some true
    | _ => some false
  | .tup _ => match T with
    | .tuple => some true
    | _ => some false
  | .lst _ => match T with
    | .list => some true
    | _ => some false
  | .frz _ => match T with
    | .list => some true
    | _ => some false
  | .dct _ => match T with
    | .dict => some true
    | _ => some false
  | .exc c _ => match T with
    | .own k => some (sub c k)
    | .verr => some true
    | _ => some false
  | .ins _ _ => none
def isTP (sub : Nat → Nat → Bool) (d : P) : List Ty → Option Bool
  | [] => some false
  | T :: Ts => match isiP sub d T with
    | some true => some true
    | some false => isTP sub d Ts
    | none => none
def getFP (f : Nat) : List (Nat × P) → Option P
  | [] => none
  | (g, x) :: r => if g = f then some x else getFP f r
def fldP (d : P) (f : Nat) : Option P := match d with
  | .ins _ fs => getFP f fs
  | .exc _ v => if f = 0 then some v else none
  | _ => none
def lenP : P → Option Nat
  | .tup xs => some xs.length
  | .str x => if x.length ≤ sizeLine then some x.length else none
  | .lst xs => some xs.length
  | .frz xs => some xs.length
  | .dct kvs => some kvs.length
  | _ => none
def reprP (d : P) : Option Str := match prP 60 d with
  | some p => if showOk p = true then some p.shown else none
  | none => none
def biP (b : Bi) (ds : List P) : Option P := match b, ds with
  | .abs, [.int i] => some (.int (if i < 0 then -i else i))
  | .int, [.int i] => some (.int i)
  | .int, [.bl k] => some (.int (if k then 1 else 0))
  | .str, [.int i] => okIf (i.natAbs.log2 < 1920) (.str (toString i))
  | .len, [d] => (lenP d).map fun n => .int (n : Nat)
  | .repr, [d] => (reprP d).map .str
  | .divmod, [.int i, .int j] => okIf (divOk j = true) (.tup [.int (i / j), .int (i % j)])
  | .max2, [.int i, .int j] => some (.int (if j > i then j else i))
  | .min2, [.int i, .int j] => some (.int (if j < i then j else i))
  | .gcd, [.int i, .int j] => some (.int ((Nat.gcd i.natAbs j.natAbs : Nat) : Int))
  | .lcm, [.int i, .int j] => okIf (i.natAbs < 2 ^ 64 ∧ j.natAbs < 2 ^ 64) (.int ((Nat.lcm i.natAbs j.natAbs : Nat) : Int))
  | .isqrt, [.int i] => okIf (0 ≤ i ∧ i < 2 ^ 64) (.int ((Float64.isqrt i.toNat : Nat) : Int))
  | _, _ => none
inductive PSrc where
  | fresh | tuple | range (lo hi : Int) | at
def PSrc.row : PSrc → Bool
  | .fresh => true
  | .at => true
  | _ => false
def blP (b : Bl) (ds : List P) (s : PSrc) : Option P := match b with
  | .tuple => match s with
    | .range i j => okIf (rngT i j = true) (.tup ds)
    | _ => some (.tup ds)
  | .list => match s with
    | .range i j => okIf (rngT i j = true) (.lst ds)
    | _ => some (.lst ds)
  | .all => if s.row = true then (boolsP ds).map fun bs => .bl (bs.all id) else none
  | .any => if s.row = true then (boolsP ds).map fun bs => .bl (bs.any id) else none
  | .sum => match s with
    | .range _ _ => none
    | _ => (intsP ds).map fun ns => .int ns.sum
  | .max => if s.row = true ∧ ds ≠ [] then (intsP ds).map fun ns => .int (maxL ns) else none
  | .min => if s.row = true ∧ ds ≠ [] then (intsP ds).map fun ns => .int (minL ns) else none
  | .sorted => if s.row = true then (intsP ds).map fun ns => .lst ((ns.mergeSort (fun a b => decide (a ≤ b))).map .int) else none
def srcP : P → Option (List P × PSrc)
  | .tup xs => some (xs, .tuple)
  | .lst xs => some (xs, .at)
  | .frz xs => some (xs, .at)
  | _ => none
def rngPs (a b : Int) : List P := (List.range (b - a).toNat).map fun i => .int (a + (i : Nat))
def rngP (a b : P) : Option (List P × PSrc) := match a, b with
  | .int i, .int j => some (rngPs i j, .range i j)
  | _, _ => none
def permP (ds : List P) : List Nat → Option (List P)
  | [] => some []
  | i :: is => match ds[i]?, permP ds is with
    | some d, some r => some (d :: r)
    | _, _ => none
/-! ### they say the same -/
theorem okIf_some {c : Prop} [Decidable c] {p r : P} (h : okIf c p = some r) : c ∧ p = r := by
  unfold okIf at h
  split at h
  · next z => cases h; exact ⟨z, rfl⟩
  · cases h
section
variable {A : Av} {S : Sto}
theorem Rds.mapO {β : Type} {f : D → Option β} {g : P → Option β} {ds : List D} {ps : List P} (h : Rds A S ds ps) (e : ∀ d p, Rd A S d p → f d = g p) : mapO f ds = mapO g ps := by
  induction ds generalizing ps with
  | nil => cases h; rfl
  | cons d ds ih =>
    obtain ⟨p, r, rfl, a, b⟩ := h.out
    show consO (f d) (Py.mapO f ds) = consO (g p) (Py.mapO g r)
    rw [e d p a, ih b]
theorem pd_pu : ∀ (n : Nat) (d : D) (p : P), Rt A S d p → toPD S n d = pdP n p
  | n, d, .non, h => by rw [h.non]; cases n <;> rfl
  | n, d, .bl b, h => by rw [h.bl]; cases n <;> rfl
  | n, d, .int i, h => by rw [h.int]; cases n <;> rfl
  | n, d, .str x, h => by rw [h.str]; cases n <;> rfl
  | 0, d, .tup xs, h => by obtain ⟨a, rfl, b⟩ := h.tup; rfl
  | 0, d, .lst xs, h => by obtain ⟨a, b, rfl, _⟩ := h.lst; rfl
  | n + 1, d, .tup xs, h => by
    obtain ⟨a, rfl, b⟩ := h.tup
    unfold toPD pdP
    rw [b.mapO fun d p r => pd_pu n d p r.rt]
  | n + 1, d, .lst xs, h => by
    obtain ⟨m, a, rfl, e, b⟩ := h.lst
    unfold toPD pdP
    rw [e]
    dsimp only
    rw [b.mapO fun d p r => pd_pu n d p r.rt]
  | n, d, .frz xs, h => by
    obtain ⟨m, a, rfl, _, e, b⟩ := h.frz
    cases n
    · rfl
    · unfold toPD; rw [e]; rfl
  | n, d, .dct xs, h => by
    obtain ⟨m, a, rfl, _, e, b⟩ := h.dct
    cases n
    · rfl
    · unfold toPD; rw [e]; rfl
  | n, d, .ins c xs, h => by
    obtain ⟨m, a, rfl, _, e, b⟩ := h.ins
    cases n
    · rfl
    · unfold toPD; rw [e]; rfl
  | n, d, .exc c xs, h => by
    obtain ⟨m, a, rfl, _, e, b⟩ := h.exc
    cases n
    · rfl
    · unfold toPD; rw [e]; rfl
theorem pair_pu {f : D → Option PyData} {g : P → Option PyData} : ∀ {kvs : List (L2.Key × D)} {qs : List (L2.Key × P)}, kvs.map (·.1) = qs.map (·.1) → Rds A S (kvs.map (·.2)) (qs.map (·.2)) → (∀ d p, Rd A S d p → f d = g p) → mapO (pairPR f) kvs = mapO (pairPP g) qs
  | [], qs, k, h, e => by
    cases qs with
    | nil => rfl
    | cons a b => cases k
  | a :: r, qs, k, h, e => by
    cases qs with
    | nil => cases k
    | cons b s =>
      have k1 : a.1 = b.1 := (List.cons.inj k).1
      have k2 := (List.cons.inj k).2
      show consO (pairPR f a) (mapO (pairPR f) r) = consO (pairPP g b) (mapO (pairPP g) s)
      rw [pair_pu k2 h.tl e]
      have w : pairPR f a = pairPP g b := by
        unfold pairPR pairPP
        rw [e _ _ h.hd, k1]
        try rfl
      rw [w]
theorem pr_pu : ∀ (n : Nat) (d : D) (p : P), Rt A S d p → toPR S n d = prP n p
  | n, d, .non, h => by rw [h.non]; cases n <;> rfl
  | n, d, .bl b, h => by rw [h.bl]; cases n <;> rfl
  | n, d, .int i, h => by rw [h.int]; cases n <;> rfl
  | n, d, .str x, h => by rw [h.str]; cases n <;> rfl
  | 0, d, .tup xs, h => by obtain ⟨a, rfl, b⟩ := h.tup; rfl
  | 0, d, .lst xs, h => by obtain ⟨a, b, rfl, _⟩ := h.lst; rfl
  | 0, d, .dct xs, h => by obtain ⟨a, b, rfl, _⟩ := h.dct; rfl
  | n + 1, d, .tup xs, h => by
    obtain ⟨a, rfl, b⟩ := h.tup
    unfold toPR prP
    rw [b.mapO fun d p r => pr_pu n d p r.rt]
  | n + 1, d, .lst xs, h => by
    obtain ⟨m, a, rfl, e, b⟩ := h.lst
    unfold toPR prP
    rw [e]
    dsimp only
    rw [b.mapO fun d p r => pr_pu n d p r.rt]
  | n + 1, d, .dct xs, h => by
    obtain ⟨m, a, rfl, _, e, k, b⟩ := h.dct
    unfold toPR prP
    rw [e]
    dsimp only
    rw [pair_pu k b fun d p r => pr_pu n d p r.rt]
  | n, d, .frz xs, h => by
    obtain ⟨m, a, rfl, _, e, b⟩ := h.frz
    cases n
    · rfl
    · unfold toPR; rw [e]; rfl
  | n, d, .ins c xs, h => by
    obtain ⟨m, a, rfl, _, e, b⟩ := h.ins
    cases n
    · rfl
    · unfold toPR; rw [e]; rfl
  | n, d, .exc c xs, h => by
    obtain ⟨m, a, rfl, _, e, b⟩ := h.exc
    cases n
    · rfl
    · unfold toPR; rw [e]; rfl
theorem repr_pu {d : D} {p : P} (h : Rt A S d p) : reprD S d = reprP p := by
  unfold reprD reprP
  rw [pr_pu 60 d p h]
  try rfl
/-- the head of a value -/
theorem Rt.not_str {d : D} {p : P} (h : Rt A S d p) (hp : ∀ x, p ≠ .str x) : ∀ x, d ≠ .str x := by
  intro x e
  subst e
  rcases h with h | ⟨n, xs, qs', h1, _⟩
  · cases h; exact hp _ rfl
  · cases h1
theorem eq_pu {d e : D} {p q : P} (h : Rt A S d p) (h' : Rt A S e q) : eqD S d e = eqP p q := by
  have gen : (∀ x, p ≠ .str x) ∨ (∀ x, q ≠ .str x) → eqD S d e = eqP p q := fun z => by
    have e1 : eqD S d e = (match toPD S 60 d, toPD S 60 e with
      | some p, some q => some (PyData.eqv p q)
      | _, _ => none) := by
      rcases z with z | z
      · have z2 := h.not_str z
        cases d <;> first | rfl | exact absurd rfl (z2 _)
      · have z2 := h'.not_str z
        cases e <;> first | (cases d <;> rfl) | exact absurd rfl (z2 _)
    have e2 : eqP p q = (match pdP 60 p, pdP 60 q with
      | some p, some q => some (PyData.eqv p q)
      | _, _ => none) := by
      rcases z with z | z
      · cases p <;> first | rfl | exact absurd rfl (z _)
      · cases q <;> first | (cases p <;> rfl) | exact absurd rfl (z _)
    rw [e1, e2, pd_pu 60 d p h, pd_pu 60 e q h']
  cases p with
  | str x =>
    cases q with
    | str y => rw [h.str, h'.str]; rfl
    | _ => exact gen (Or.inr (by simp))
  | _ => exact gen (Or.inl (by simp))
theorem lenNe_pu {d e : D} {p q : P} (h : Rt A S d p) (h' : Rt A S e q) : lenNe S d e = lenNeP p q := by
  have g1 : ∀ {d : D} {p : P}, Rt A S d p → (∀ qs, p ≠ .lst qs) → ∀ n xs, d = .ref n → S[n]? ≠ some (.lst xs) := fun {d p} h hp n xs e z => by
    subst e
    have r := h.rd hp
    cases r with
    | lst a b c _ => exact hp _ rfl
    | frz a b c _ => rw [z] at b; cases b
    | dct a b c _ => rw [z] at b; cases b
    | ins a b c _ => rw [z] at b; cases b
    | exc a b c _ => rw [z] at b; cases b
  have out : (∀ qs, p ≠ .lst qs) ∨ (∀ qs, q ≠ .lst qs) → lenNe S d e = false := fun z => by
    unfold lenNe
    split
    · next m n =>
      split
      · next xs ys e1 e2 =>
        rcases z with z | z
        · exact absurd e1 (g1 h z m xs rfl)
        · exact absurd e2 (g1 h' z n ys rfl)
      · rfl
    · rfl
  cases p with
  | lst xs =>
    cases q with
    | lst ys =>
      obtain ⟨m, xs', rfl, e1, r1⟩ := h.lst
      obtain ⟨n, ys', rfl, e2, r2⟩ := h'.lst
      unfold lenNe lenNeP
      dsimp only
      rw [e1, e2]
      dsimp only
      rw [r1.len, r2.len]
    | _ => rw [out (Or.inr (by simp))]; rfl
  | _ => rw [out (Or.inl (by simp))]; rfl
theorem ints_pu {ds : List D} {ps : List P} (h : Rds A S ds ps) : intsOf ds = intsP ps := h.mapO fun d p r => by
  cases r <;> rfl
theorem bools_pu {ds : List D} {ps : List P} (h : Rds A S ds ps) : boolsOf ds = boolsP ps := h.mapO fun d p r => by
  cases r <;> rfl
theorem Rt.items {d : D} {p : P} {xs : List P} (h : Rt A S d p) (e : itemsP p = some xs) : ∃ ds, itemsOf S d = some ds ∧ Rds A S ds xs := by
  unfold itemsP at e
  split at e
  · cases e; obtain ⟨a, rfl, b⟩ := h.tup; exact ⟨a, rfl, b⟩
  · cases e
    obtain ⟨m, a, rfl, e, b⟩ := h.lst
    exact ⟨a, by unfold itemsOf; dsimp only; rw [e], b⟩
  · cases e
    obtain ⟨m, a, rfl, _, e, b⟩ := h.frz
    exact ⟨a, by unfold itemsOf; dsimp only; rw [e], b⟩
  · cases e
theorem flat_pu {d : D} {p : P} (h : Rt A S d p) : flatD d = flatP p := by
  rcases h with h | ⟨n, xs, qs', h1, h2, _⟩
  · cases h <;> rfl
  · subst h1 h2; rfl
theorem eqFlat_pu {d e : D} {p q : P} (h : Rt A S d p) (h' : Rt A S e q) : eqFlat d e = eqFlatP p q := by
  have g : ∀ {d : D} {p : P}, Rt A S d p → (d = .non ∧ p = .non) ∨ (∃ b, d = .bl b ∧ p = .bl b) ∨ (∃ b, d = .int b ∧ p = .int b) ∨ (∃ b, d = .str b ∧ p = .str b) ∨ (flatD d = false ∧ flatP p = false) := fun {d p} h => by
    cases p with
    | non => exact Or.inl ⟨h.non, rfl⟩
    | bl b => exact Or.inr (Or.inl ⟨b, h.bl, rfl⟩)
    | int b => exact Or.inr (Or.inr (Or.inl ⟨b, h.int, rfl⟩))
    | str b => exact Or.inr (Or.inr (Or.inr (Or.inl ⟨b, h.str, rfl⟩)))
    | _ => exact Or.inr (Or.inr (Or.inr (Or.inr ⟨(flat_pu h).trans rfl, rfl⟩)))
  have n1 : ∀ {d e : D}, flatD d = false → eqFlat d e = false := fun {d e} z => by cases d <;> first | (cases e <;> rfl) | cases z
  have n2 : ∀ {d e : D}, flatD e = false → eqFlat d e = false := fun {d e} z => by cases e <;> first | (cases d <;> rfl) | cases z
  have m1 : ∀ {d e : P}, flatP d = false → eqFlatP d e = false := fun {d e} z => by cases d <;> first | (cases e <;> rfl) | cases z
  have m2 : ∀ {d e : P}, flatP e = false → eqFlatP d e = false := fun {d e} z => by cases e <;> first | (cases d <;> rfl) | cases z
  rcases g h with ⟨rfl, rfl⟩ | ⟨b, rfl, rfl⟩ | ⟨b, rfl, rfl⟩ | ⟨b, rfl, rfl⟩ | ⟨z1, z2⟩ <;> rcases g h' with ⟨rfl, rfl⟩ | ⟨b, rfl, rfl⟩ | ⟨b, rfl, rfl⟩ | ⟨b, rfl, rfl⟩ | ⟨w1, w2⟩ <;> first | rfl | (rw [n1 z1, m1 z2]) | (rw [n2 w1, m2 w2])
theorem in_pu {d e : D} {p q : P} {k : Bool} (h : Rt A S d p) (h' : Rt A S e q) (z : inP p q = some k) : inD S d e = some k := by
  unfold inP at z
  split at z
  · next xs ex =>
    obtain ⟨ds, e1, r⟩ := h'.items ex
    unfold inD
    rw [e1]
    dsimp only
    split at z
    · next c =>
      cases z
      have al : ∀ {ds : List D} {xs : List P}, Rds A S ds xs → ds.all flatD = xs.all flatP := by
        intro ds
        induction ds with
        | nil => intro xs r; cases r; rfl
        | cons d ds ih => intro xs r; obtain ⟨q, s, rfl, a, b⟩ := r.out; rw [List.all_cons, List.all_cons, ih b, flat_pu a.rt]
      have an : ∀ {ds : List D} {xs : List P}, Rds A S ds xs → (ds.any fun y => eqFlat y d) = (xs.any fun y => eqFlatP y p) := by
        intro ds
        induction ds with
        | nil => intro xs r; cases r; rfl
        | cons d ds ih => intro xs r; obtain ⟨q, s, rfl, a, b⟩ := r.out; rw [List.any_cons, List.any_cons, ih b, eqFlat_pu a.rt h]
      rw [if_pos ⟨(flat_pu h).trans c.1, (al r).trans c.2⟩, an r]
    · cases z
  · cases z
/-! ### results -/
/-- what an operator hands back, from the store S -/
def Nw (A : Av) (S : Sto) (d : D) (S' : Sto) (p : P) : Prop := Pre S S' ∧ Rd A S' d p ∧ (∀ qs, p = .lst qs → ∃ xs, d = .ref S.length ∧ S' = S ++ [.lst xs] ∧ Rds A S xs qs)
theorem Nw.same {d : D} {p : P} (h : Rd A S d p) (hp : ∀ qs, p ≠ .lst qs) : Nw A S d S p := ⟨Pre.rfl, h, fun qs e => absurd e (hp qs)⟩
theorem Nw.lst {xs : List D} {qs : List P} (hA : ∀ n, A n → n < S.length) (h : Rds A S xs qs) : Nw A S (.ref S.length) (S ++ [.lst xs]) (.lst qs) :=
  ⟨Pre.push, .lst (fun z => Nat.lt_irrefl _ (hA _ z)) at_new0 (h.pre Pre.push) .nil, fun _ e => by cases e; exact ⟨_, rfl, rfl, h⟩⟩
theorem cut_pu {ds : List D} {ps : List P} (h : Rds A S ds ps) (lo hi : Option Int) : Rds A S (cut ds lo hi) (cut ps lo hi) := by
  unfold cut
  rw [h.len]
  exact (h.drop _).take _
theorem atI_pu {ds : List D} {ps : List P} {i : Int} {p : P} (h : Rds A S ds ps) (e : L2.atI ps i = some p) : ∃ d, L2.atI ds i = some d ∧ Rd A S d p := by
  unfold L2.atI at e ⊢
  rw [h.len]
  cases z : L2.ixN ps.length i with
  | none => rw [z] at e; cases e
  | some j =>
    rw [z] at e
    exact h.getp e
theorem bin_pu {op : Bop} {d e : D} {p q r : P} (hA : ∀ n, A n → n < S.length) (h : Rt A S d p) (h' : Rt A S e q) (z : binP op p q = some r) : ∃ v S', binD op d e S = .ok v S' ∧ Nw A S v S' r := by
  cases op with
  | add =>
    unfold binP at z
    dsimp only at z
    split at z
    · cases z; rw [h.int, h'.int]; exact ⟨_, _, rfl, .same (.int .nil) (by simp)⟩
    · obtain ⟨c, rfl⟩ := okIf_some z
      obtain ⟨a, rfl, b⟩ := h.tup
      obtain ⟨a', rfl, b'⟩ := h'.tup
      refine ⟨.tup (a ++ a'), S, ?_, .same (.tup (b.append b') .nil) (by simp)⟩
      unfold binD; dsimp only; rw [if_pos (by rw [b.len, b'.len]; exact c)]
    · obtain ⟨c, rfl⟩ := okIf_some z
      rw [h.str, h'.str]
      refine ⟨_, S, ?_, .same (.str .nil) (by simp)⟩
      unfold binD; dsimp only; rw [if_pos c]
    · obtain ⟨c, rfl⟩ := okIf_some z
      obtain ⟨m, a, rfl, e1, b⟩ := h.lst
      obtain ⟨n, a', rfl, e2, b'⟩ := h'.lst
      refine ⟨_, _, ?_, .lst hA (b.append b')⟩
      unfold binD; dsimp only; rw [e1, e2]; dsimp only; rw [if_pos (by rw [b.len, b'.len]; exact c)]
    · cases z
  | sub =>
    unfold binP at z
    dsimp only at z
    split at z
    · cases z; rw [h.int, h'.int]; exact ⟨_, _, rfl, .same (.int .nil) (by simp)⟩
    · cases z
  | mul =>
    unfold binP at z
    dsimp only at z
    split at z
    · obtain ⟨c, rfl⟩ := okIf_some z
      rw [h.int, h'.int]
      refine ⟨_, S, ?_, .same (.int .nil) (by simp)⟩
      unfold binD; dsimp only; rw [if_pos c]
    · obtain ⟨c, rfl⟩ := okIf_some z
      obtain ⟨m, a, rfl, e1, b⟩ := h.lst
      rw [h'.int]
      refine ⟨_, _, ?_, .lst hA (b.flat _)⟩
      unfold binD; dsimp only; rw [e1]; dsimp only; rw [if_pos (by rw [b.len]; exact c)]
    · obtain ⟨c, rfl⟩ := okIf_some z
      obtain ⟨a, rfl, b⟩ := h.tup
      rw [h'.int]
      refine ⟨_, S, ?_, .same (.tup (b.flat _) .nil) (by simp)⟩
      unfold binD; dsimp only
      rw [if_pos ⟨fun w => by subst w; cases b; exact c.1 rfl, by rw [b.len]; exact c.2.1, c.2.2⟩]
    · cases z
  | fdiv =>
    unfold binP at z
    dsimp only at z
    split at z
    · obtain ⟨c, rfl⟩ := okIf_some z
      rw [h.int, h'.int]
      refine ⟨_, S, ?_, .same (.int .nil) (by simp)⟩
      unfold binD; dsimp only; rw [if_pos c]
    · cases z
  | mod =>
    unfold binP at z
    dsimp only at z
    split at z
    · obtain ⟨c, rfl⟩ := okIf_some z
      rw [h.int, h'.int]
      refine ⟨_, S, ?_, .same (.int .nil) (by simp)⟩
      unfold binD; dsimp only; rw [if_pos c]
    · cases z
  | pow =>
    unfold binP at z
    dsimp only at z
    split at z
    · obtain ⟨c, rfl⟩ := okIf_some z
      rw [h.int, h'.int]
      refine ⟨_, S, ?_, .same (.int .nil) (by simp)⟩
      unfold binD; dsimp only; rw [if_pos c]
    · cases z
theorem cmp_pu {op : Cop} {d e : D} {p q : P} {k : Bool} (h : Rt A S d p) (h' : Rt A S e q) (z : cmpP op p q = some k) : cmpD op d e S = .ok (.bl k) S := by
  cases op with
  | eq =>
    unfold cmpP at z
    dsimp only at z
    unfold cmpD
    dsimp only
    rw [lenNe_pu h h', eq_pu h h']
    split at z
    · next c => cases z; rw [if_pos c]
    · next c => rw [if_neg c, z]; rfl
  | ne =>
    unfold cmpP at z
    dsimp only at z
    unfold cmpD
    dsimp only
    rw [eq_pu h h']
    cases w : eqP p q with
    | none => rw [w] at z; cases z
    | some b => rw [w] at z; cases z; rfl
  | lt =>
    unfold cmpP at z
    dsimp only at z
    split at z
    · cases z; rw [h.int, h'.int]; rfl
    · obtain ⟨a, rfl, b⟩ := h.tup
      obtain ⟨a', rfl, b'⟩ := h'.tup
      unfold cmpD
      dsimp only
      rw [ints_pu b, ints_pu b']
      split at z
      · next e1 e2 => cases z; first | rfl | rw [e1, e2]
      · cases z
    · cases z
  | le =>
    unfold cmpP at z; dsimp only at z
    split at z
    · cases z; rw [h.int, h'.int]; rfl
    · cases z
  | gt =>
    unfold cmpP at z; dsimp only at z
    split at z
    · cases z; rw [h.int, h'.int]; rfl
    · cases z
  | ge =>
    unfold cmpP at z; dsimp only at z
    split at z
    · cases z; rw [h.int, h'.int]; rfl
    · cases z
  | isB =>
    unfold cmpP at z; dsimp only at z
    split at z
    · cases z; rw [h.bl, h'.bl]; rfl
    · cases z
  | notB =>
    unfold cmpP at z; dsimp only at z
    split at z
    · cases z; rw [h.bl, h'.bl]; rfl
    · cases z
  | inn =>
    unfold cmpP at z; dsimp only at z
    unfold cmpD; dsimp only
    rw [in_pu h h' z]; rfl
  | nin =>
    unfold cmpP at z; dsimp only at z
    unfold cmpD; dsimp only
    cases w : inP p q with
    | none => rw [w] at z; cases z
    | some b => rw [w] at z; cases z; rw [in_pu h h' w]; rfl
theorem find_pu {x : Str} : ∀ {kvs : List (L2.Key × D)} {qs : List (L2.Key × P)} {p : P}, kvs.map (·.1) = qs.map (·.1) → Rds A S (kvs.map (·.2)) (qs.map (·.2)) → (qs.find? fun kv => decide (kv.1 = Sum.inr x)).map (·.2) = some p → ∃ d, (kvs.find? fun kv => decide (kv.1 = Sum.inr x)).map (·.2) = some d ∧ Rd A S d p
  | [], qs, p, k, h, e => by
    cases qs with
    | nil => cases e
    | cons a b => cases k
  | a :: r, qs, p, k, h, e => by
    cases qs with
    | nil => cases k
    | cons b s =>
      have k1 : a.1 = b.1 := (List.cons.inj k).1
      have k2 := (List.cons.inj k).2
      rw [List.find?_cons] at e ⊢
      rw [k1]
      split at e
      · next z => cases e; exact ⟨a.2, rfl, h.hd⟩
      · exact find_pu k2 h.tl e
theorem idx_pu {d e : D} {p q r : P} (h : Rt A S d p) (h' : Rt A S e q) (z : idxP p q = some r) : ∃ v, idxD S d e = .ok v S ∧ Rd A S v r := by
  unfold idxP at z
  split at z
  · rw [h'.int]
    split at z
    · next xs ex =>
      obtain ⟨ds, e1, rr⟩ := h.items ex
      obtain ⟨v, e2, r2⟩ := atI_pu rr z
      refine ⟨v, ?_, r2⟩
      unfold idxD; dsimp only; rw [e1]; dsimp only; rw [e2]; rfl
    · split at z
      · next x _ =>
        rw [h.str]
        split at z
        · next c =>
          cases w : L2.atI x.cps.toList _ with
          | none => rw [w] at z; cases z
          | some y =>
            rw [w] at z
            cases z
            refine ⟨_, ?_, .str .nil⟩
            unfold idxD; dsimp only [itemsOf]; rw [if_pos c, w]; rfl
        · cases z
      · cases z
  · split at z
    · rw [h'.str]
      obtain ⟨n, kvs, rfl, _, e1, k, rr⟩ := h.dct
      obtain ⟨v, e2, r2⟩ := find_pu k rr z
      refine ⟨v, ?_, r2⟩
      unfold idxD; dsimp only; rw [e1]; dsimp only; rw [e2]; rfl
    · cases z
  · cases z
theorem sli_pu {d : D} {p r : P} {lo hi : Option Int} (hA : ∀ n, A n → n < S.length) (h : Rt A S d p) (z : sliP p lo hi = some r) : ∃ v S', sliD d lo hi S = .ok v S' ∧ Nw A S v S' r := by
  unfold sliP at z
  split at z
  · cases z; obtain ⟨a, rfl, b⟩ := h.tup; exact ⟨_, _, rfl, .same (.tup (cut_pu b lo hi) .nil) (by simp)⟩
  · cases z
    obtain ⟨n, a, rfl, e1, b⟩ := h.lst
    refine ⟨_, _, ?_, .lst hA (cut_pu b lo hi)⟩
    unfold sliD; dsimp only; rw [e1]; rfl
  · cases z
    obtain ⟨n, a, rfl, _, e1, b⟩ := h.frz
    refine ⟨_, _, ?_, .lst hA (cut_pu b lo hi)⟩
    unfold sliD; dsimp only; rw [e1]; rfl
  · cases z
theorem rev_pu {d : D} {p r : P} (hA : ∀ n, A n → n < S.length) (h : Rt A S d p) (z : revP p = some r) : ∃ v S', revD d S = .ok v S' ∧ Nw A S v S' r := by
  unfold revP at z
  split at z
  · cases z; obtain ⟨a, rfl, b⟩ := h.tup; exact ⟨_, _, rfl, .same (.tup b.reverse .nil) (by simp)⟩
  · cases z
    obtain ⟨n, a, rfl, e1, b⟩ := h.lst
    refine ⟨_, _, ?_, .lst hA b.reverse⟩
    unfold revD; dsimp only; rw [e1]; rfl
  · cases z
theorem isi_pu {V : Ev} {d : D} {p : P} {T : Ty} {k : Bool} (h : Rt A S d p) (z : isiP V.sub p T = some k) : isiD V d T S = some k := by
  cases p with
  | non => rw [h.non]; exact z
  | bl b => rw [h.bl]; exact z
  | int b => rw [h.int]; exact z
  | str b => rw [h.str]; exact z
  | tup b => obtain ⟨a, rfl, b⟩ := h.tup; exact z
  | lst b => obtain ⟨n, a, rfl, e, b⟩ := h.lst; unfold isiD; dsimp only; rw [e]; exact z
  | frz b => obtain ⟨n, a, rfl, _, e, b⟩ := h.frz; unfold isiD; dsimp only; rw [e]; exact z
  | dct b => obtain ⟨n, a, rfl, _, e, b⟩ := h.dct; unfold isiD; dsimp only; rw [e]; exact z
  | ins c b => cases z
  | exc c b => obtain ⟨n, a, rfl, _, e, b⟩ := h.exc; unfold isiD; dsimp only; rw [e]; exact z
theorem isT_pu {V : Ev} {d : D} {p : P} {k : Bool} (h : Rt A S d p) : ∀ {Ts : List Ty}, isTP V.sub p Ts = some k → isTD V d S Ts = some k
  | [], z => z
  | T :: Ts, z => by
    unfold isTP at z
    unfold isTD
    cases w : isiP V.sub p T with
    | none => rw [w] at z; cases z
    | some b =>
      rw [w] at z
      rw [isi_pu h w]
      cases b
      · exact isT_pu h z
      · exact z
theorem getF_pu {f : Nat} : ∀ {kvs : List (Nat × D)} {qs : List (Nat × P)} {p : P}, kvs.map (·.1) = qs.map (·.1) → Rds A S (kvs.map (·.2)) (qs.map (·.2)) → getFP f qs = some p → ∃ d, getF f kvs = some d ∧ Rd A S d p
  | [], qs, p, k, h, e => by
    cases qs with
    | nil => cases e
    | cons a b => cases k
  | (g, x) :: r, qs, p, k, h, e => by
    cases qs with
    | nil => cases k
    | cons b s =>
      obtain ⟨g', y⟩ := b
      have k1 : g = g' := (List.cons.inj k).1
      have k2 := (List.cons.inj k).2
      subst k1
      unfold getFP at e
      unfold getF
      split at e
      · next z => cases e; rw [if_pos z]; exact ⟨x, rfl, h.hd⟩
      · next z => rw [if_neg z]; exact getF_pu k2 h.tl e
theorem fld_pu {d : D} {p r : P} {f : Nat} (h : Rt A S d p) (z : fldP p f = some r) : ∃ v, fldD d f S = .ok v S ∧ Rd A S v r := by
  unfold fldP at z
  split at z
  · obtain ⟨n, fs, rfl, _, e, k, b⟩ := h.ins
    obtain ⟨v, e2, r2⟩ := getF_pu k b z
    refine ⟨v, ?_, r2⟩
    unfold fldD; dsimp only; rw [e]; dsimp only; rw [e2]; rfl
  · split at z
    · next c =>
      cases z
      obtain ⟨n, v, rfl, _, e, b⟩ := h.exc
      refine ⟨v, ?_, b⟩
      unfold fldD; dsimp only; rw [e]; dsimp only; rw [if_pos c]
    · cases z
  · cases z
theorem len_pu {d : D} {p : P} {n : Nat} (h : Rt A S d p) (z : lenP p = some n) : lenD S d = some n := by
  cases p with
  | tup b => obtain ⟨a, rfl, b⟩ := h.tup; rw [← z]; unfold lenD lenP; dsimp only; rw [b.len]
  | lst b => obtain ⟨n, a, rfl, e, b⟩ := h.lst; rw [← z]; unfold lenD lenP; dsimp only; rw [e]; dsimp only; rw [b.len]
  | frz b => obtain ⟨n, a, rfl, _, e, b⟩ := h.frz; rw [← z]; unfold lenD lenP; dsimp only; rw [e]; dsimp only; rw [b.len]
  | dct b =>
    obtain ⟨n, a, rfl, _, e, k, b⟩ := h.dct
    rw [← z]; unfold lenD lenP; dsimp only; rw [e]; dsimp only
    have l := congrArg List.length k
    rw [List.length_map, List.length_map] at l
    rw [l]
  | str b => rw [h.str]; exact z
  | _ => cases z
/-- a value or an own list for each -/
inductive Rts (A : Av) (S : Sto) : List D → List P → Prop
  | nil : Rts A S [] []
  | cons {d p ds ps} : Rt A S d p → Rts A S ds ps → Rts A S (d :: ds) (p :: ps)
theorem Rds.rts : ∀ {ds : List D} {ps : List P}, Rds A S ds ps → Rts A S ds ps
  | [], ps, h => by cases h; exact .nil
  | d :: ds, ps, h => by
    obtain ⟨q, s, rfl, a, b⟩ := h.out
    exact .cons a.rt b.rts
theorem bi_pu {b : Bi} {ds : List D} {ps : List P} {r : P} (h : Rts A S ds ps) (z : biP b ps = some r) : ∃ v, biD b ds S = .ok v S ∧ Rd A S v r ∧ ∀ qs, r ≠ .lst qs := by
  unfold biP at z
  split at z
  · cases z; cases h with | cons a r => cases r with | nil => rw [a.int]; exact ⟨_, rfl, .int .nil, by simp⟩
  · cases z; cases h with | cons a r => cases r with | nil => rw [a.int]; exact ⟨_, rfl, .int .nil, by simp⟩
  · cases z; cases h with | cons a r => cases r with | nil => rw [a.bl]; exact ⟨_, rfl, .int .nil, by simp⟩
  · obtain ⟨c, rfl⟩ := okIf_some z
    cases h with | cons a r => cases r with | nil =>
      rw [a.int]
      refine ⟨_, ?_, .str .nil, by simp⟩
      unfold biD; dsimp only; rw [if_pos c]
  · cases h with | cons a r => cases r with | nil =>
      cases w : lenP _ with
      | none => rw [w] at z; cases z
      | some n =>
        rw [w] at z
        cases z
        refine ⟨_, ?_, .int .nil, by simp⟩
        unfold biD; dsimp only; rw [len_pu a w]; rfl
  · cases h with | cons a r => cases r with | nil =>
      cases w : reprP _ with
      | none => rw [w] at z; cases z
      | some n =>
        rw [w] at z
        cases z
        refine ⟨_, ?_, .str .nil, by simp⟩
        unfold biD; dsimp only; rw [repr_pu a, w]; rfl
  · obtain ⟨c, rfl⟩ := okIf_some z
    cases h with | cons a r => cases r with | cons a' r => cases r with | nil =>
      rw [a.int, a'.int]
      refine ⟨_, ?_, .tup (.int (.int .nil)) .nil, by simp⟩
      unfold biD; dsimp only; rw [if_pos c]
  · cases z; cases h with | cons a r => cases r with | cons a' r => cases r with | nil => rw [a.int, a'.int]; exact ⟨_, rfl, .int .nil, by simp⟩
  · cases z; cases h with | cons a r => cases r with | cons a' r => cases r with | nil => rw [a.int, a'.int]; exact ⟨_, rfl, .int .nil, by simp⟩
  · cases z; cases h with | cons a r => cases r with | cons a' r => cases r with | nil => rw [a.int, a'.int]; exact ⟨_, rfl, .int .nil, by simp⟩
  · obtain ⟨c, rfl⟩ := okIf_some z
    cases h with | cons a r => cases r with | cons a' r => cases r with | nil =>
      rw [a.int, a'.int]
      refine ⟨_, ?_, .int .nil, by simp⟩
      unfold biD; dsimp only; rw [if_pos c]
  · obtain ⟨c, rfl⟩ := okIf_some z
    cases h with | cons a r => cases r with | nil =>
      rw [a.int]
      refine ⟨_, ?_, .int .nil, by simp⟩
      unfold biD; dsimp only; rw [if_pos c]
  · cases z
def SrcR (S : Sto) : Src → PSrc → Prop
  | .fresh, .fresh => True
  | .tuple, .tuple => True
  | .range i j, .range i' j' => i = i' ∧ j = j'
  | .at n o, .at => S[n]? = some o
  | _, _ => False
theorem rds_ints : ∀ {ns : List Int}, Rds A S (ns.map .int) (ns.map .int)
  | [] => .nil
  | n :: ns => .int rds_ints
theorem bl_pu {b : Bl} {ds : List D} {ps : List P} {s : Src} {z : PSrc} {r : P} (hA : ∀ n, A n → n < S.length) (h : Rds A S ds ps) (hs : SrcR S s z) (e : blP b ps z = some r) : ∃ v S', blD b ds s S = .ok v S' ∧ Nw A S v S' r := by
  have row : ∀ {β : Type} {f g : β}, z.row = true → (match (generalizing := false) s with
      | .fresh => f
      | .at _ _ => f
      | _ => g) = f := by
    intro β f g w
    cases z <;> cases s <;> first | rfl | exact hs.elim | cases w
  cases b with
  | tuple =>
    unfold blP at e
    dsimp only at e
    cases z with
    | range i j =>
      obtain ⟨c, rfl⟩ := okIf_some e
      cases s with
      | range i' j' =>
        obtain ⟨rfl, rfl⟩ := hs
        refine ⟨_, S, ?_, .same (.tup h .nil) (by simp)⟩
        unfold blD; dsimp only; rw [if_pos c]
      | _ => exact hs.elim
    | _ => cases e; cases s <;> first | exact hs.elim | exact ⟨_, S, rfl, .same (.tup h .nil) (by simp)⟩
  | list =>
    unfold blP at e
    dsimp only at e
    cases z with
    | range i j =>
      obtain ⟨c, rfl⟩ := okIf_some e
      cases s with
      | range i' j' =>
        obtain ⟨rfl, rfl⟩ := hs
        refine ⟨_, _, ?_, .lst hA h⟩
        unfold blD; dsimp only; rw [if_pos c]; rfl
      | _ => exact hs.elim
    | _ => cases e; cases s <;> first | exact hs.elim | exact ⟨_, _, rfl, .lst hA h⟩
  | all =>
    unfold blP at e
    dsimp only at e
    split at e
    · next w =>
      cases y : boolsP ps with
      | none => rw [y] at e; cases e
      | some bs =>
        rw [y] at e
        cases e
        refine ⟨_, S, ?_, .same (.bl .nil) (by simp)⟩
        unfold blD; dsimp only; rw [bools_pu h, y]; exact row w
    · cases e
  | any =>
    unfold blP at e
    dsimp only at e
    split at e
    · next w =>
      cases y : boolsP ps with
      | none => rw [y] at e; cases e
      | some bs =>
        rw [y] at e
        cases e
        refine ⟨_, S, ?_, .same (.bl .nil) (by simp)⟩
        unfold blD; dsimp only; rw [bools_pu h, y]; exact row w
    · cases e
  | sum =>
    unfold blP at e
    dsimp only at e
    cases z with
    | range i j => cases e
    | _ =>
      dsimp only at e
      cases y : intsP ps with
      | none => rw [y] at e; cases e
      | some bs =>
        rw [y] at e
        cases e
        refine ⟨_, S, ?_, .same (.int .nil) (by simp)⟩
        unfold blD; dsimp only; rw [ints_pu h, y]
        cases s <;> first | exact hs.elim | rfl
  | max =>
    unfold blP at e
    dsimp only at e
    split at e
    · next w =>
      cases y : intsP ps with
      | none => rw [y] at e; cases e
      | some bs =>
        rw [y] at e
        cases e
        refine ⟨.int (maxL bs), S, ?_, .same (.int .nil) (by simp)⟩
        unfold blD; dsimp only
        refine (row w.1).trans ?_
        cases ds with
        | nil => cases h; exact absurd rfl w.2
        | cons d ds => dsimp only; rw [ints_pu h, y]; rfl
    · cases e
  | min =>
    unfold blP at e
    dsimp only at e
    split at e
    · next w =>
      cases y : intsP ps with
      | none => rw [y] at e; cases e
      | some bs =>
        rw [y] at e
        cases e
        refine ⟨.int (minL bs), S, ?_, .same (.int .nil) (by simp)⟩
        unfold blD; dsimp only
        refine (row w.1).trans ?_
        cases ds with
        | nil => cases h; exact absurd rfl w.2
        | cons d ds => dsimp only; rw [ints_pu h, y]; rfl
    · cases e
  | sorted =>
    unfold blP at e
    dsimp only at e
    split at e
    · next w =>
      cases y : intsP ps with
      | none => rw [y] at e; cases e
      | some bs =>
        rw [y] at e
        cases e
        refine ⟨_, _, ?_, .lst hA rds_ints⟩
        unfold blD; dsimp only; rw [ints_pu h, y]; exact row w
    · cases e
theorem src_pu {d : D} {p : P} {xs : List P} {z : PSrc} (h : Rt A S d p) (e : srcP p = some (xs, z)) : ∃ ds s, srcD d S = .ok (ds, s) S ∧ Rds A S ds xs ∧ SrcR S s z ∧ (Rd A S d p → ∀ n o, s = .at n o → ¬ A n) ∧ (∀ n o, s = .at n o → d = .ref n) := by
  unfold srcP at e
  split at e
  · cases e; obtain ⟨a, rfl, b⟩ := h.tup; refine ⟨a, .tuple, rfl, b, trivial, fun _ n o w => ?_, fun n o w => ?_⟩ <;> cases w
  · cases e
    obtain ⟨n, a, rfl, e, b⟩ := h.lst
    refine ⟨a, .at n (.lst a), ?_, b, e, fun r m o w => ?_, fun m o w => by cases w; rfl⟩
    · unfold srcD; dsimp only; rw [e]
    · cases w; cases r with | lst x _ _ _ => exact x
  · cases e
    obtain ⟨n, a, rfl, k, e, b⟩ := h.frz
    refine ⟨a, .at n (.frz a), ?_, b, e, fun r m o w => by cases w; exact k, fun m o w => by cases w; rfl⟩
    unfold srcD; dsimp only; rw [e]
  · cases e
theorem rds_rng : ∀ {ns : List Nat} {a : Int}, Rds A S (ns.map fun i => .int (a + (i : Nat))) (ns.map fun i => .int (a + (i : Nat)))
  | [], _ => .nil
  | n :: ns, _ => .int rds_rng
theorem rng_pu {d e : D} {p q : P} {xs : List P} {z : PSrc} (h : Rt A S d p) (h' : Rt A S e q) (w : rngP p q = some (xs, z)) : ∃ ds s, rngR d e S = .ok (ds, s) S ∧ Rds A S ds xs ∧ SrcR S s z ∧ (∀ n o, s ≠ .at n o) := by
  unfold rngP at w
  split at w
  · cases w
    rw [h.int, h'.int]
    exact ⟨rngD _ _, .range _ _, rfl, rds_rng, ⟨rfl, rfl⟩, fun n o y => by cases y⟩
  · cases w
theorem perm_pu {ds : List D} {ps : List P} (h : Rds A S ds ps) : ∀ {is : List Nat} {qs : List P}, permP ps is = some qs → ∃ ws, permD ds is = some ws ∧ Rds A S ws qs
  | [], qs, e => by cases e; exact ⟨[], rfl, .nil⟩
  | i :: is, qs, e => by
    unfold permP at e
    split at e
    · next p r e1 e2 =>
      cases e
      obtain ⟨d, e3, r3⟩ := h.getp e1
      obtain ⟨ws, e4, r4⟩ := perm_pu h e2
      refine ⟨d :: ws, ?_, r3.cons r4⟩
      unfold permD; rw [e3, e4]
    · cases e
end
end Py
end
section
set_option linter.all false
set_option maxRecDepth 100000
/-! PuC: expressions and statements without a store. A name's own list is marked: no other name bears it. -/
namespace Py
open PySem
abbrev Pl := List (Option (Bool × P))
inductive PR (α : Type) where
  | ok (a : α) (π : Pl) | exc (c : Nat) (v : P × Bool) (π : Pl) | bad
def PR.bind {α β : Type} (r : PR α) (f : α → Pl → PR β) : PR β := match r with
  | .ok a π => f a π
  | .exc c v π => .exc c v π
  | .bad => .bad
inductive PC where
  | ok (p : P) (fr : Bool) (io : Option (List P)) | exc (c : Nat) (v : P × Bool) | bad
structure PV where
  call : Nat → List P → PC
  io : Nat → Bool
  mkC : Nat → List P → PC
  gv : Nat → Option P
  sub : Nat → Nat → Bool
  fuel : Nat
  ioc : Bool
def orB {α : Type} (o : Option α) (π : Pl) : PR α := match o with
  | some a => .ok a π
  | none => .bad
/-- a name's value, shared from now on -/
def shP (i : Nat) (π : Pl) : PR P := match π[i]? with
  | some (some (true, p)) => .ok p (π.set i (some (false, p)))
  | some (some (false, p)) => .ok p π
  | _ => .bad
/-- a name's value, looked at -/
def vaP (i : Nat) (π : Pl) : PR P := match π[i]? with
  | some (some (_, p)) => .ok p π
  | _ => .bad
def isVar : E → Option Nat
  | .var i => some i
  | _ => none
def ownQ (i : Nat) (π : Pl) : Bool := match π[i]? with
  | some (some (true, _)) => true
  | _ => false
def pkW (e : E) (ev : Pl → PR P) (π : Pl) : PR P := match isVar e with
  | some i => vaP i π
  | none => ev π
def pk2 (a b : E) (ea eb : Pl → PR P) (π : Pl) : PR (P × P) := match isVar a with
  | some i => (vaP i π).bind fun _ π0 => (pkW b eb π0).bind fun q π1 => (vaP i π1).bind fun p π2 => .ok (p, q) π2
  | none => (ea π).bind fun p π1 => (pkW b eb π1).bind fun q π2 => .ok (p, q) π2
def wipeP (π : Pl) : List Nat → Pl
  | [] => π
  | v :: vs => (wipeP π vs).set v none
def setAllP : List Nat → List P → Pl → Option Pl
  | [], [], π => some π
  | i :: is, p :: ps, π => setAllP is ps (π.set i (some (false, p)))
  | _, _, _ => none
def tgP (tg : Tg) (p : P) (π : Pl) : Option Pl := match tg with
  | .one i => some (π.set i (some (false, p)))
  | .row is => match p with
    | .tup ps => setAllP is ps π
    | _ => none
def freeP (own : List Nat) (π : Pl) : Bool := own.all fun j => match π[j]? with
  | some (some (true, _)) => false
  | _ => true
def hidOf (l : L) (π : Pl) : List Nat := match l with
  | .of (.var i) => (match π[i]? with
    | some (some (true, _)) => [i]
    | _ => [])
  | _ => []
def backP (π1 : Pl) : List Nat → Pl → Pl
  | [], π => π
  | j :: js, π => backP π1 js (match π1[j]? with
    | some o => π.set j o
    | none => π)
def compP (f : P → Pl → PR (Option P)) : List P → List P → Pl → PR (List P)
  | [], acc, π => .ok acc π
  | x :: xs, acc, π => match f x π with
    | .ok none π1 => compP f xs acc π1
    | .ok (some y) π1 => if acc.length < sizeLine then compP f xs (acc ++ [y]) π1 else .bad
    | _ => .bad
mutual
def litP : D → Option P
  | .non => some .non
  | .bl b => some (.bl b)
  | .int i => some (.int i)
  | .str x => some (.str x)
  | .tup xs => (litPs xs).map .tup
  | .ref _ => none
def litPs : List D → Option (List P)
  | [] => some []
  | d :: ds => consO (litP d) (litPs ds)
end
def callP (V : PV) (f : Nat) (ps : List P) (π : Pl) : PR P := match V.call f ps with
  | .ok p _ none => .ok p π
  | .exc c v => .exc c v π
  | _ => .bad
def ioP (V : PV) (f i : Nat) (ps : List P) (π : Pl) : PR P := match π[i]? with
  | some (some (true, .lst qs)) => (match V.call f (.lst qs :: ps) with
    | .ok p _ (some qs') => .ok p (π.set i (some (true, .lst qs')))
    | _ => .bad)
  | _ => .bad
def firstVar : Es → Option Nat
  | .cons e _ => isVar e
  | .nil => none
def nilQ : Es → Bool
  | .nil => true
  | _ => false
def tgOk (tg : Tg) (own : List Nat) : Bool := match tg with
  | .one i => own.contains i
  | .row is => is.all fun i => own.contains i
mutual
def pE (V : PV) : E → Pl → PR P
  | .var i, π => shP i π
  | .lit d, π => orB (litP d) π
  | .gl g, π => orB (V.gv g) π
  | .tup es, π => (pEs V es π).bind fun ps π1 => if ps.length ≤ sizeLine then .ok (.tup ps) π1 else .bad
  | .mk l, π => (pL V l π).bind fun z π1 => match z.2 with
    | .fresh => .ok (.lst z.1) π1
    | _ => .bad
  | .bin op a b, π => (pk2 a b (pE V a) (pE V b) π).bind fun z π1 => orB (binP op z.1 z.2) π1
  | .neg a, π => (pE V a π).bind fun p π1 => match p with
    | .int i => .ok (.int (-i)) π1
    | _ => .bad
  | .cmp op a b, π => (pk2 a b (pE V a) (pE V b) π).bind fun z π1 => orB ((cmpP op z.1 z.2).map .bl) π1
  | .chn op op' a b c, π => (pE V a π).bind fun p π1 => (pE V b π1).bind fun q π2 => (orB (cmpP op p q) π2).bind fun k π3 =>
      if k = true then (pE V c π3).bind fun r π4 => orB ((cmpP op' q r).map .bl) π4 else .ok (.bl false) π3
  | .isn a, π => (pkW a (pE V a) π).bind fun p π1 => match p with
    | .non => .ok (.bl true) π1
    | _ => .ok (.bl false) π1
  | .nsn a, π => (pkW a (pE V a) π).bind fun p π1 => match p with
    | .non => .ok (.bl false) π1
    | _ => .ok (.bl true) π1
  | .and_ a b, π => (pE V a π).bind fun p π1 => match p with
    | .bl k => if k = true then (pE V b π1).bind fun q π2 => (match q with
        | .bl k' => .ok (.bl k') π2
        | _ => .bad) else .ok (.bl false) π1
    | _ => .bad
  | .or_ a b, π => (pE V a π).bind fun p π1 => match p with
    | .bl k => if k = true then .ok (.bl true) π1 else (pE V b π1).bind fun q π2 => (match q with
        | .bl k' => .ok (.bl k') π2
        | _ => .bad)
    | _ => .bad
  | .not_ a, π => (pE V a π).bind fun p π1 => match p with
    | .bl k => .ok (.bl (!k)) π1
    | _ => .bad
  | .ife c a b, π => (pE V c π).bind fun p π1 => match p with
    | .bl k => if k = true then pE V a π1 else pE V b π1
    | _ => .bad
  | .idx a i, π => (pk2 a i (pE V a) (pE V i) π).bind fun z π1 => orB (idxP z.1 z.2) π1
  | .sli a lo hi, π => match isVar a with
    | some i => (vaP i π).bind fun _ π0 => (pO V lo π0).bind fun l π1 => (pO V hi π1).bind fun h π2 => (vaP i π2).bind fun p π3 => orB (sliP p l h) π3
    | none => (pE V a π).bind fun p π1 => (pO V lo π1).bind fun l π2 => (pO V hi π2).bind fun h π3 => orB (sliP p l h) π3
  | .rev a, π => (pkW a (pE V a) π).bind fun p π1 => orB (revP p) π1
  | .call f es, π => if V.io f = true then (match firstVar es with
      | some i => if ownQ i π = true then (pEt V es π).bind fun ps π1 => ioP V f i ps π1 else .bad
      | none => .bad) else (pEs V es π).bind fun ps π1 => callP V f ps π1
  | .callK f es ks perm, π => if V.io f = true then .bad else (pEs V es π).bind fun ps π1 => (pEs V ks π1).bind fun ws π2 => (orB (permP (ps ++ ws) perm) π2).bind fun qs π3 => callP V f qs π3
  | .bi b es, π => (pEk V es π).bind fun ps π1 => orB (biP b ps) π1
  | .bl b l, π => (pL V l π).bind fun z π1 => orB (blP b z.1 z.2) π1
  | .isi a T, π => (pkW a (pE V a) π).bind fun p π1 => orB ((isiP V.sub p T).map .bl) π1
  | .isT a Ts, π => (pkW a (pE V a) π).bind fun p π1 => orB ((isTP V.sub p Ts).map .bl) π1
  | .fld a f, π => (pkW a (pE V a) π).bind fun p π1 => orB (fldP p f) π1
  | .meth c m a es, π => if V.io m = true then .bad else (pE V a π).bind fun p π1 => match p with
    | .ins c' fs => if c' = c then (pEs V es π1).bind fun ps π2 => callP V m (.ins c' fs :: ps) π2 else .bad
    | _ => .bad
  | .make c es, π => (pEs V es π).bind fun ps π1 => match V.mkC c ps with
    | .ok p _ none => .ok p π1
    | _ => .bad
  | .app _ _, _ => .bad
  | .ext _ _, _ => .bad
  | .dct ks es, π => (pEs V es π).bind fun ps π1 => if ps.length = ks.length ∧ ks.Nodup ∧ ks.length ≤ 15 then .ok (.dct (ks.zip ps)) π1 else .bad
  | .exv c a, π => (pE V a π).bind fun p π1 => .ok (.exc c p) π1
def pEs (V : PV) : Es → Pl → PR (List P)
  | .nil, π => .ok [] π
  | .cons e es, π => (pE V e π).bind fun p π1 => (pEs V es π1).bind fun ps π2 => .ok (p :: ps) π2
/-- all but the first -/
def pEt (V : PV) : Es → Pl → PR (List P)
  | .nil, _ => .bad
  | .cons _ es, π => pEs V es π
/-- the last one is looked at only -/
def pEk (V : PV) : Es → Pl → PR (List P)
  | .nil, π => .ok [] π
  | .cons e es, π => (if nilQ es = true then pkW e (pE V e) π else pE V e π).bind fun p π1 => (pEk V es π1).bind fun ps π2 => .ok (p :: ps) π2
def pO (V : PV) : Oe → Pl → PR (Option Int)
  | .no, π => .ok none π
  | .yes e, π => (pE V e π).bind fun p π1 => match p with
    | .int i => .ok (some i) π1
    | _ => .bad
def pT (V : PV) : Es → Pl → PR Bool
  | .nil, π => .ok true π
  | .cons e es, π => (pE V e π).bind fun p π1 => match p with
    | .bl true => pT V es π1
    | .bl false => .ok false π1
    | _ => .bad
def pL (V : PV) : L → Pl → PR (List P × PSrc)
  | .disp es, π => (pEs V es π).bind fun ps π1 => if ps.length ≤ sizeLine then .ok (ps, .fresh) π1 else .bad
  | .of e, π => (pkW e (pE V e) π).bind fun p π1 => orB (srcP p) π1
  | .rng1 a, π => (pE V a π).bind fun p π1 => orB (rngP (.int 0) p) π1
  | .rng2 a b, π => (pE V a π).bind fun p π1 => (pE V b π1).bind fun q π2 => orB (rngP p q) π2
  | .comp own tg src ifs elt, π => (pL V src π).bind fun z π1 =>
      if tgOk tg own = true ∧ freeP own π1 = true then
        (compP (fun x π2 => match tgP tg x (wipeP π2 own) with
          | none => .bad
          | some π3 => (pT V ifs π3).bind fun k π4 => if k = true then (pE V elt π4).bind fun y π5 => .ok (some y) π5 else .ok none π4) z.1 [] (wipeP π1 (hidOf src π1))).bind fun ds π2 => .ok (ds, .fresh) (backP π1 (own ++ hidOf src π1) π2)
      else .bad
end
def isLstP : P → Bool
  | .lst _ => true
  | _ => false
/-- expressions that hand back a new list, if any -/
def newE : E → Bool
  | .mk _ => true
  | .bin _ _ _ => true
  | .sli _ _ _ => true
  | .rev _ => true
  | .bl _ _ => true
  | _ => false
def callF (V : PV) (f : Nat) (ps : List P) (π : Pl) : PR (P × Bool) := match V.call f ps with
  | .ok p fr none => .ok (p, fr) π
  | .exc c v => .exc c v π
  | _ => .bad
def ioF (V : PV) (f i : Nat) (ps : List P) (π : Pl) : PR (P × Bool) := match π[i]? with
  | some (some (true, .lst qs)) => (match V.call f (.lst qs :: ps) with
    | .ok p fr (some qs') => .ok (p, fr) (π.set i (some (true, .lst qs')))
    | _ => .bad)
  | _ => .bad
/-- a value, and whether it is a list that nothing else bears -/
def pF (V : PV) (e : E) (π : Pl) : PR (P × Bool) := match e with
  | .call f es => if V.io f = true then (match firstVar es with
      | some i => if ownQ i π = true then (pEt V es π).bind fun ps π1 => ioF V f i ps π1 else .bad
      | none => .bad) else (pEs V es π).bind fun ps π1 => callF V f ps π1
  | .callK f es ks perm => if V.io f = true then .bad else (pEs V es π).bind fun ps π1 => (pEs V ks π1).bind fun ws π2 => (orB (permP (ps ++ ws) perm) π2).bind fun qs π3 => callF V f qs π3
  | e => (pE V e π).bind fun p π1 => .ok (p, newE e && isLstP p) π1
def pLf (V : PV) (l : L) (π : Pl) : PR (List P × PSrc) := match l with
  | .of (.var i) => (shP i π).bind fun p π1 => orB (srcP p) π1
  | l => pL V l π
/-! ### statements -/
inductive PO where
  | nx (π : Pl) | ret (p : P) (fr : Bool) (π : Pl) | brk (π : Pl) | cnt (π : Pl) | exc (c : Nat) (v : P × Bool) (π : Pl) | bad
def PO.then (o : PO) (f : Pl → PO) : PO := match o with
  | .nx π => f π
  | o => o
def PR.out {α : Type} (r : PR α) (f : α → Pl → PO) : PO := match r with
  | .ok a π => f a π
  | .exc c v π => .exc c v π
  | .bad => .bad
def outP {α : Type} (o : Option α) (f : α → PO) : PO := match o with
  | some a => f a
  | none => .bad
def forP (tg : Tg) (f : Pl → PO) : List P → Pl → PO
  | [], π => .nx π
  | x :: xs, π => match tgP tg x π with
    | none => .bad
    | some π1 => match f π1 with
      | .nx π2 => forP tg f xs π2
      | .cnt π2 => forP tg f xs π2
      | .brk π2 => .nx π2
      | .ret p fr π2 => .ret p fr π2
      | .exc c v π2 => .exc c v π2
      | .bad => .bad
def whlP (t : Pl → PR P) (f : Pl → PO) : Nat → Pl → PO
  | 0, _ => .bad
  | n + 1, π => (t π).out fun p π1 => match p with
    | .bl k => if k = true then (match f π1 with
      | .nx π2 => whlP t f n π2
      | .cnt π2 => whlP t f n π2
      | .brk π2 => .nx π2
      | .ret p fr π2 => .ret p fr π2
      | .exc c v π2 => .exc c v π2
      | .bad => .bad) else .nx π1
    | _ => .bad
def catchP (V : PV) (c i : Nat) (h : Pl → PO) (o : PO) : PO := match o with
  | .exc k v π => if V.sub k c = true then (match h (π.set i (some (false, .exc k v.1))) with
      | .nx π2 => .nx (π2.set i none)
      | .ret p fr π2 => .ret p fr π2
      | .brk π2 => .brk (π2.set i none)
      | .cnt π2 => .cnt (π2.set i none)
      | _ => .bad) else .exc k v π
  | o => o
/-- what the list of a name becomes -/
def lstUp (i : Nat) (f : List P → Option (List P)) (π : Pl) : PO := match π[i]? with
  | some (some (true, .lst qs)) => (match f qs with
    | some qs' => .nx (π.set i (some (true, .lst qs')))
    | none => .bad)
  | _ => .bad
def pX (V : PV) (e : E) (π : Pl) : PO := match e with
  | .app (.var i) x => if ownQ i π = true then (pE V x π).out fun p π1 => lstUp i (fun qs => if qs.length < sizeLine then some (qs ++ [p]) else none) π1 else .bad
  | .ext (.var i) x => if ownQ i π = true then (pE V x π).out fun p π1 => (match p with
    | .lst ys => lstUp i (fun qs => if qs.length + ys.length ≤ sizeLine then some (qs ++ ys) else none) π1
    | _ => .bad) else .bad
  | e => (pE V e π).out fun _ π1 => .nx π1
def pSI (V : PV) (o i e : E) (π : Pl) : PO := match o with
  | .var n => (pE V e π).out fun v π1 => if ownQ n π1 = true then (pE V i π1).out fun y π2 => (match y with
    | .int k => lstUp n (fun qs => (L2.ixN qs.length k).map fun j => qs.set j v) π2
    | _ => .bad) else .bad
  | _ => .bad
def pRt (V : PV) (e : E) (π : Pl) : PO := match e with
  | .var i => if V.ioc = true then (shP i π).out fun p π1 => .ret p false π1 else (match π[i]? with
    | some (some (true, p)) => .ret p true (π.set i none)
    | some (some (false, p)) => .ret p false π
    | _ => .bad)
  | e => (pF V e π).out fun z π1 => .ret z.1 z.2 π1
def augP (op : Bop) (a b : P) : Option P := match a, b with
  | .int x, .int y => (match op with
    | .add => some (.int (x + y))
    | .sub => some (.int (x - y))
    | _ => none)
  | _, _ => none
def unpP : P → Option (List P)
  | .tup ps => some ps
  | _ => none
mutual
def pS (V : PV) : Sm → Pl → PO
  | .expr e, π => pX V e π
  | .set i e, π => (pF V e π).out fun z π1 => .nx (π1.set i (some (z.2 && !(V.ioc && i == 0), z.1)))
  | .unp is e, π => (pE V e π).out fun p π1 => outP (unpP p) fun ps => outP (setAllP is ps π1) .nx
  | .par is es, π => (pEs V es π).out fun ps π1 => outP (setAllP is ps π1) .nx
  | .setI o i e, π => pSI V o i e π
  | .setF _ _ _, _ => .bad
  | .aug i op e, π => (vaP i π).out fun x π1 => (pE V e π1).out fun y π2 => outP (augP op x y) fun r => .nx (π2.set i (some (false, r)))
  | .ife c a b, π => (pE V c π).out fun p π1 => (match p with
    | .bl k => if k = true then pSs V a π1 else pSs V b π1
    | _ => .bad)
  | .whl c b, π => whlP (pE V c) (pSs V b) V.fuel π
  | .for_ tg l b, π => (pLf V l π).out fun z π1 => forP tg (pSs V b) z.1 π1
  | .ret e, π => pRt V e π
  | .retN, π => .ret .non false π
  | .rais c e, π => (pF V e π).out fun z π1 => .exc c z π1
  | .try_ b c i h, π => catchP V c i (pSs V h) (pSs V b π)
  | .pass, π => .nx π
  | .brk, π => .brk π
  | .cnt, π => .cnt π
def pSs (V : PV) : Ss → Pl → PO
  | .nil, π => .nx π
  | .cons s ss, π => (pS V s π).then (pSs V ss)
end
/-! ### programs -/
structure PProg where
  Pr : Prog
  io : Nat → Bool
  ext : Nat → Option (Nat → List P → PC)
  mkC : Nat → Nat → List P → PC
  gv : Nat → Option P
def startP (io : Bool) (ns : Nat) (ps : List P) : Option Pl := if io = true then (match ps with
    | .lst qs :: r => some (some (true, .lst qs) :: r.map (fun p => some (false, p)) ++ List.replicate (ns - ps.length) none)
    | _ => none) else some (ps.map (fun p => some (false, p)) ++ List.replicate (ns - ps.length) none)
def ioEnd (io : Bool) (p : P) (fr : Bool) (π : Pl) : PC := if io = true then (match π[(0 : Nat)]? with
    | some (some (true, .lst qs)) => .ok p fr (some qs)
    | _ => .bad) else .ok p fr none
def endP (io : Bool) (o : PO) : PC := match o with
  | .ret p fr π => ioEnd io p fr π
  | .nx π => ioEnd io .non false π
  | .exc c v _ => if io = true then .bad else .exc c v
  | _ => .bad
def pvOf (Q : PProg) (w : Nat) (call : Nat → List P → PC) (k : Nat) (ioc : Bool) : PV := ⟨call, Q.io, fun c ps => Q.mkC c k ps, Q.gv, Q.Pr.sub, w, ioc⟩
def pcall (Q : PProg) (w : Nat) : Nat → Nat → List P → PC
  | 0, _, _ => .bad
  | k + 1, f, ps => match Q.ext f with
    | some F => F (k + 1) ps
    | none => match Q.Pr.fns f with
      | none => .bad
      | some F => if ps.length = F.np then (match startP (Q.io f) F.ns ps with
          | some π => endP (Q.io f) (pSs (pvOf Q w (pcall Q w k) k (Q.io f)) F.body π)
          | none => .bad) else .bad
end Py
end
section
set_option linter.all false
set_option maxRecDepth 100000
/-! PuD: frames, and how they go on. -/
namespace Py
open PySem
def Aw (A O : Av) : Av := fun n => A n ∨ O n
/-- the frame's own lists stand at O; b and M: what may be changed -/
structure Fr (b : Nat) (M A O : Av) (σ : Sl) (π : Pl) (S : Sto) : Prop where
  len : σ.length = π.length
  sh : ∀ {i : Nat} {p : P}, π[i]? = some (some (false, p)) → ∃ d, σ[i]? = some (some d) ∧ Rd (Aw A O) S d p
  ow : ∀ {i : Nat} {p : P}, π[i]? = some (some (true, p)) → ∃ n xs qs, p = .lst qs ∧ σ[i]? = some (some (.ref n)) ∧ O n ∧ S[n]? = some (.lst xs) ∧ Rds (Aw A O) S xs qs
  inj : ∀ {i j : Nat} {p q : P} {n : Nat}, π[i]? = some (some (true, p)) → π[j]? = some (some (true, q)) → σ[i]? = some (some (.ref n)) → σ[j]? = some (some (.ref n)) → i = j
  lo : ∀ {n : Nat}, O n → n < S.length ∧ (b ≤ n ∨ M n)
  la : ∀ {n : Nat}, A n → n < S.length
  dj : ∀ {n : Nat}, A n → ¬ O n
  bs : b ≤ S.length
  z0 : ∀ {n : Nat} {p : P}, M n → π[(0 : Nat)]? = some (some (true, p)) → σ[(0 : Nat)]? = some (some (.ref n))
def Ch (O : Av) (S S' : Sto) : Prop := S.length ≤ S'.length ∧ ∀ n, n < S.length → ¬ O n → S'[n]? = S[n]?
structure Nx (b : Nat) (M A O O' : Av) (σ : Sl) (π' : Pl) (S S' : Sto) : Prop where
  le : ∀ {n}, O' n → O n
  fr : Fr b M A O' σ π' S'
  ch : Ch O S S'
theorem Ch.self {O : Av} {S : Sto} : Ch O S S := ⟨Nat.le_refl _, fun _ _ _ => rfl⟩
theorem Ch.pre {O : Av} {S S' : Sto} (h : Pre S S') : Ch O S S' := ⟨h.len, fun n hn _ => by
  obtain ⟨X, rfl⟩ := h
  exact List.getElem?_append_left hn⟩
theorem Ch.trans {O O' : Av} {S S' S'' : Sto} (h : Ch O S S') (h' : Ch O' S' S'') (l : ∀ n, O' n → O n) : Ch O S S'' :=
  ⟨Nat.le_trans h.1 h'.1, fun n hn k => (h'.2 n (Nat.lt_of_lt_of_le hn h.1) fun z => k (l n z)).trans (h.2 n hn k)⟩
section
variable {b : Nat} {M A O O' : Av} {σ : Sl} {π π' : Pl} {S S' : Sto}
theorem Fr.self (h : Fr b M A O σ π S) : Nx b M A O O σ π S S := ⟨id, h, .self⟩
theorem Nx.trans {O'' : Av} {π'' : Pl} {S'' : Sto} (h : Nx b M A O O' σ π' S S') (h' : Nx b M A O' O'' σ π'' S' S'') : Nx b M A O O'' σ π'' S S'' :=
  ⟨fun z => h.le (h'.le z), h'.fr, h.ch.trans h'.ch fun _ => h.le⟩
theorem Nx.rds (h : Nx b M A O O' σ π' S S') {ds : List D} {ps : List P} (r : Rds (Aw A O) S ds ps) : Rds (Aw A O') S' ds ps :=
  (r.sto fun n hn k => h.ch.2 n hn fun z => k (Or.inr z)).mono fun n k => k.imp id h.le
theorem Fr.al (h : Fr b M A O σ π S) : ∀ n, Aw A O n → n < S.length := fun n k => k.elim h.la fun z => (h.lo z).1
theorem Fr.pre (h : Fr b M A O σ π S) (p : Pre S S') : Fr b M A O σ π S' where
  len := h.len
  sh := fun e => by
    obtain ⟨d, e1, r⟩ := h.sh e
    exact ⟨d, e1, r.pre p⟩
  ow := fun e => by
    obtain ⟨n, xs, qs, e0, e1, o, e2, r⟩ := h.ow e
    exact ⟨n, xs, qs, e0, e1, o, p.get e2, r.pre p⟩
  inj := h.inj
  lo := fun o => ⟨Nat.lt_of_lt_of_le (h.lo o).1 p.len, (h.lo o).2⟩
  la := fun o => Nat.lt_of_lt_of_le (h.la o) p.len
  dj := h.dj
  bs := Nat.le_trans h.bs p.len
  z0 := h.z0
theorem Fr.nx (h : Fr b M A O σ π S) (p : Pre S S') : Nx b M A O O σ π S S' := ⟨id, h.pre p, .pre p⟩
/-- a slot's value, looked at -/
theorem Fr.va (h : Fr b M A O σ π S) {i : Nat} {w : Bool} {p : P} (e : π[i]? = some (some (w, p))) : ∃ d, σ[i]? = some (some d) ∧ Rt (Aw A O) S d p := by
  cases w with
  | false =>
    obtain ⟨d, e1, r⟩ := h.sh e
    exact ⟨d, e1, r.rt⟩
  | true =>
    obtain ⟨n, xs, qs, e0, e1, o, e2, r⟩ := h.ow e
    exact ⟨_, e1, Or.inr ⟨n, xs, qs, rfl, e0, e2, r⟩⟩
theorem getElem?_set_cases {α : Type} {l : List α} {i j : Nat} {x y : α} (h : (l.set i x)[j]? = some y) : (i = j ∧ x = y ∧ i < l.length) ∨ (i ≠ j ∧ l[j]? = some y) := by
  by_cases z : i = j
  · subst z
    by_cases hl : i < l.length
    · rw [List.getElem?_set_self hl] at h
      cases h
      exact Or.inl ⟨rfl, rfl, hl⟩
    · rw [List.getElem?_eq_none (by rw [List.length_set]; omega)] at h
      cases h
  · rw [List.getElem?_set_ne z] at h
    exact Or.inr ⟨z, h⟩
/-- a slot is shared from now on -/
theorem Fr.share (h : Fr b M A O σ π S) {i n : Nat} {p : P} (e : π[i]? = some (some (true, p))) (en : σ[i]? = some (some (.ref n))) :
    Nx b M A O (fun m => O m ∧ m ≠ n) σ (π.set i (some (false, p))) S S ∧ Rd (Aw A (fun m => O m ∧ m ≠ n)) S (.ref n) p := by
  obtain ⟨m, xs, qs, e0, e1, o, e2, r⟩ := h.ow e
  rw [en] at e1
  cases e1
  subst e0
  have mn : ∀ k, Aw A (fun m => O m ∧ m ≠ n) k → Aw A O k := fun k z => z.imp id (·.1)
  have rd : Rd (Aw A (fun m => O m ∧ m ≠ n)) S (.ref n) (.lst qs) := .lst (fun z => z.elim (fun w => h.dj w o) fun w => w.2 rfl) e2 (r.mono mn) .nil
  refine ⟨⟨fun z => z.1, ⟨by rw [List.length_set]; exact h.len, fun {j q} ej => ?_, fun {j q} ej => ?_, fun {j k q q' m} ej ek sj sk => ?_, fun z => h.lo z.1, h.la, fun z w => h.dj z w.1, h.bs, fun hm e => ?_⟩, .self⟩, rd⟩
  · rcases getElem?_set_cases ej with ⟨rfl, w, _⟩ | ⟨_, w⟩
    · cases w
      exact ⟨_, en, rd⟩
    · obtain ⟨d, d1, d2⟩ := h.sh w
      exact ⟨d, d1, d2.mono mn⟩
  · rcases getElem?_set_cases ej with ⟨rfl, w, _⟩ | ⟨ne, w⟩
    · cases w
    · obtain ⟨m, ys, rs, f0, f1, fo, f2, fr⟩ := h.ow w
      exact ⟨m, ys, rs, f0, f1, ⟨fo, fun z => by subst z; exact ne (h.inj e w en f1)⟩, f2, fr.mono mn⟩
  · rcases getElem?_set_cases ej with ⟨rfl, w, _⟩ | ⟨_, w⟩
    · cases w
    · rcases getElem?_set_cases ek with ⟨rfl, w', _⟩ | ⟨_, w'⟩
      · cases w'
      · exact h.inj w w' sj sk
  · rcases getElem?_set_cases e with ⟨_, w, _⟩ | ⟨_, w⟩
    · cases w
    · exact h.z0 hm w
/-- a slot's own list is another one from now on -/
theorem Fr.upd (h : Fr b M A O σ π S) {i n : Nat} {p : P} {xs' : List D} {qs' : List P} (e : π[i]? = some (some (true, p))) (en : σ[i]? = some (some (.ref n)))
    (c : S.length ≤ S'.length ∧ ∀ m, m < S.length → m ≠ n → S'[m]? = S[m]?) (e' : S'[n]? = some (.lst xs')) (r' : Rds (Aw A O) S' xs' qs') :
    Nx b M A O O σ (π.set i (some (true, .lst qs'))) S S' := by
  obtain ⟨m, xs, qs, e0, e1, o, e2, r⟩ := h.ow e
  rw [en] at e1
  cases e1
  have ch : Ch O S S' := ⟨c.1, fun m hm k => c.2 m hm fun z => k (z ▸ o)⟩
  have cr : ∀ {ds ps}, Rds (Aw A O) S ds ps → Rds (Aw A O) S' ds ps := fun r => r.sto fun m hm k => ch.2 m hm fun z => k (Or.inr z)
  refine ⟨id, ⟨by rw [List.length_set]; exact h.len, fun {j q} ej => ?_, fun {j q} ej => ?_, fun {j k q q' m} ej ek sj sk => ?_, fun z => ⟨Nat.lt_of_lt_of_le (h.lo z).1 c.1, (h.lo z).2⟩, fun z => Nat.lt_of_lt_of_le (h.la z) c.1, h.dj, Nat.le_trans h.bs c.1, fun hm ez => ?_⟩, ch⟩
  · rcases getElem?_set_cases ej with ⟨rfl, w, _⟩ | ⟨_, w⟩
    · cases w
    · obtain ⟨d, d1, d2⟩ := h.sh w
      exact ⟨d, d1, cr d2⟩
  · rcases getElem?_set_cases ej with ⟨rfl, w, _⟩ | ⟨ne, w⟩
    · cases w
      exact ⟨n, xs', qs', rfl, en, o, e', r'⟩
    · obtain ⟨m, ys, rs, f0, f1, fo, f2, fr⟩ := h.ow w
      have nm : m ≠ n := fun z => by subst z; exact ne (h.inj e w en f1)
      exact ⟨m, ys, rs, f0, f1, fo, (c.2 m (lt_of_get f2) nm).trans f2, cr fr⟩
  · have g : ∀ {j : Nat} {q : P}, (π.set i (some (true, .lst qs')))[j]? = some (some (true, q)) → ∃ q', π[j]? = some (some (true, q')) := fun {j q} ej => by
      rcases getElem?_set_cases ej with ⟨rfl, w, _⟩ | ⟨_, w⟩
      · exact ⟨_, e⟩
      · exact ⟨_, w⟩
    obtain ⟨_, w⟩ := g ej
    obtain ⟨_, w'⟩ := g ek
    exact h.inj w w' sj sk
  · rcases getElem?_set_cases ez with ⟨rfl, w, _⟩ | ⟨_, w⟩
    · exact h.z0 hm e
    · exact h.z0 hm w
/-- a name is given a value -/
theorem Fr.setv (h : Fr b M A O σ π S) {i : Nat} {d : D} {p : P} (r : Rd (Aw A O) S d p) : Fr b M A O (σ.set i (some d)) (π.set i (some (false, p))) S := by
  refine ⟨by rw [List.length_set, List.length_set]; exact h.len, fun {j q} ej => ?_, fun {j q} ej => ?_, fun {j k q q' m} ej ek sj sk => ?_, h.lo, h.la, h.dj, h.bs, fun hm ez => ?_⟩
  · rcases getElem?_set_cases ej with ⟨rfl, w, hl⟩ | ⟨ne, w⟩
    · cases w
      exact ⟨d, List.getElem?_set_self (by rw [h.len]; exact hl), r⟩
    · obtain ⟨d', d1, d2⟩ := h.sh w
      exact ⟨d', by rw [List.getElem?_set_ne ne]; exact d1, d2⟩
  · rcases getElem?_set_cases ej with ⟨rfl, w, hl⟩ | ⟨ne, w⟩
    · cases w
    · obtain ⟨m, ys, rs, f0, f1, fo, f2, fr⟩ := h.ow w
      exact ⟨m, ys, rs, f0, by rw [List.getElem?_set_ne ne]; exact f1, fo, f2, fr⟩
  · rcases getElem?_set_cases ej with ⟨rfl, w, hl⟩ | ⟨ne, w⟩
    · cases w
    · rcases getElem?_set_cases ek with ⟨rfl, w', hl'⟩ | ⟨ne', w'⟩
      · cases w'
      · rw [List.getElem?_set_ne ne] at sj
        rw [List.getElem?_set_ne ne'] at sk
        exact h.inj w w' sj sk
  · rcases getElem?_set_cases ez with ⟨_, w, _⟩ | ⟨ne, w⟩
    · cases w
    · rw [List.getElem?_set_ne ne]
      exact h.z0 hm w
theorem Fr.wipe1 (h : Fr b M A O σ π S) {i : Nat} (x : Option D) : Fr b M A O (σ.set i x) (π.set i none) S := by
  refine ⟨by rw [List.length_set, List.length_set]; exact h.len, fun {j q} ej => ?_, fun {j q} ej => ?_, fun {j k q q' m} ej ek sj sk => ?_, h.lo, h.la, h.dj, h.bs, fun hm ez => ?_⟩
  · rcases getElem?_set_cases ej with ⟨rfl, w, hl⟩ | ⟨ne, w⟩
    · cases w
    · obtain ⟨d', d1, d2⟩ := h.sh w
      exact ⟨d', by rw [List.getElem?_set_ne ne]; exact d1, d2⟩
  · rcases getElem?_set_cases ej with ⟨rfl, w, hl⟩ | ⟨ne, w⟩
    · cases w
    · obtain ⟨m, ys, rs, f0, f1, fo, f2, fr⟩ := h.ow w
      exact ⟨m, ys, rs, f0, by rw [List.getElem?_set_ne ne]; exact f1, fo, f2, fr⟩
  · rcases getElem?_set_cases ej with ⟨rfl, w, hl⟩ | ⟨ne, w⟩
    · cases w
    · rcases getElem?_set_cases ek with ⟨rfl, w', hl'⟩ | ⟨ne', w'⟩
      · cases w'
      · rw [List.getElem?_set_ne ne] at sj
        rw [List.getElem?_set_ne ne'] at sk
        exact h.inj w w' sj sk
  · rcases getElem?_set_cases ez with ⟨_, w, _⟩ | ⟨ne, w⟩
    · cases w
    · rw [List.getElem?_set_ne ne]
      exact h.z0 hm w
/-- a slot is hidden, the machine's own frame stays -/
theorem Fr.hide1 (h : Fr b M A O σ π S) {i : Nat} : Fr b M A O σ (π.set i none) S := by
  refine ⟨by rw [List.length_set]; exact h.len, fun {j q} ej => ?_, fun {j q} ej => ?_, fun {j k q q' m} ej ek sj sk => ?_, h.lo, h.la, h.dj, h.bs, fun hm ez => ?_⟩
  · rcases getElem?_set_cases ej with ⟨rfl, w, hl⟩ | ⟨ne, w⟩
    · cases w
    · exact h.sh w
  · rcases getElem?_set_cases ej with ⟨rfl, w, hl⟩ | ⟨ne, w⟩
    · cases w
    · exact h.ow w
  · rcases getElem?_set_cases ej with ⟨rfl, w, hl⟩ | ⟨ne, w⟩
    · cases w
    · rcases getElem?_set_cases ek with ⟨rfl, w', hl'⟩ | ⟨ne', w'⟩
      · cases w'
      · exact h.inj w w' sj sk
  · rcases getElem?_set_cases ez with ⟨_, w, _⟩ | ⟨ne, w⟩
    · cases w
    · exact h.z0 hm w
end
/-! ### the machine and we at one place -/
/-- what is raised; a list that is new since S, if it says so -/
def Rx (A : Av) (S S' : Sto) (d : D) (v : P × Bool) : Prop := Rd A S' d v.1 ∧ (v.2 = true → ∃ n, d = .ref n ∧ S.length ≤ n)
theorem Rx.up {A : Av} {S S1 S' : Sto} {d : D} {v : P × Bool} (h : Rx A S1 S' d v) (l : S.length ≤ S1.length) : Rx A S S' d v := ⟨h.1, fun z => by
  obtain ⟨n, e, y⟩ := h.2 z
  exact ⟨n, e, Nat.le_trans l y⟩⟩
def Ag {α β : Type} (b : Nat) (M A O : Av) (σ : Sl) (S : Sto) (R : Av → Sto → α → β → Prop) (r : Res α) (q : PR β) : Prop := match q with
  | .ok p π' => ∃ d S' O', r = .ok d S' ∧ Nx b M A O O' σ π' S S' ∧ R (Aw A O') S' d p
  | .exc c v π' => ∃ d S' O', r = .exc c d S' ∧ Nx b M A O O' σ π' S S' ∧ Rx (Aw A O') S S' d v
  | .bad => True
section
variable {α β γ δ : Type} {b : Nat} {M A O : Av} {σ : Sl} {S : Sto} {R : Av → Sto → α → β → Prop} {R' : Av → Sto → γ → δ → Prop}
theorem Ag.bind {r : Res α} {q : PR β} {f : α → Sto → Res γ} {g : β → Pl → PR δ} (h : Ag b M A O σ S R r q)
    (k : ∀ d p π' S' O', Nx b M A O O' σ π' S S' → R (Aw A O') S' d p → Ag b M A O' σ S' R' (f d S') (g p π')) : Ag b M A O σ S R' (r.bind f) (q.bind g) := by
  cases q with
  | ok p π' =>
    obtain ⟨d, S', O', rfl, n, rr⟩ := h
    have z := k d p π' S' O' n rr
    show Ag b M A O σ S R' (f d S') (g p π')
    unfold Ag at z ⊢
    split at z
    · obtain ⟨d2, S2, O2, e, n2, r2⟩ := z
      exact ⟨d2, S2, O2, e, n.trans n2, r2⟩
    · obtain ⟨d2, S2, O2, e, n2, r2⟩ := z
      exact ⟨d2, S2, O2, e, n.trans n2, r2.up n.ch.1⟩
    · trivial
  | exc c v π' =>
    obtain ⟨d, S', O', rfl, n, rr⟩ := h
    exact ⟨d, S', O', rfl, n, rr⟩
  | bad => trivial
theorem Ag.imp {R2 : Av → Sto → α → β → Prop} {r : Res α} {q : PR β} (h : Ag b M A O σ S R r q) (k : ∀ A S d p, R A S d p → R2 A S d p) : Ag b M A O σ S R2 r q := by
  cases q with
  | ok p π' =>
    obtain ⟨d, S', O', e, n, rr⟩ := h
    exact ⟨d, S', O', e, n, k _ _ _ _ rr⟩
  | exc c v π' => exact h
  | bad => trivial
theorem Ag.okk {π : Pl} {d : α} {p : β} (h : Fr b M A O σ π S) (r : R (Aw A O) S d p) : Ag b M A O σ S R (.ok d S) (.ok p π) := ⟨d, S, O, rfl, h.self, r⟩
theorem Ag.new {π : Pl} {S' : Sto} {d : α} {p : β} (h : Fr b M A O σ π S) (x : Pre S S') (r : R (Aw A O) S' d p) : Ag b M A O σ S R (.ok d S') (.ok p π) := ⟨d, S', O, rfl, h.nx x, r⟩
theorem Ag.nw {π : Pl} {r : Res D} {q : P} {d : D} {S' : Sto} (h : Fr b M A O σ π S) (e : r = .ok d S') (x : Nw (Aw A O) S d S' q) : Ag b M A O σ S Rd r (.ok q π) := ⟨d, S', O, e, h.nx x.1, x.2.1⟩
/-- an operator that may say nothing -/
theorem Ag.orB {π : Pl} {r : Res α} {o : Option β} (k : ∀ p, o = some p → Ag b M A O σ S R r (.ok p π)) : Ag b M A O σ S R r (orB o π) := by
  cases o with
  | none => trivial
  | some p => exact k p rfl
end
end Py
end
section
set_option linter.all false
set_option maxRecDepth 100000
/-! PuE: what an expression says without a store, the machine says. -/
namespace Py
open PySem
/-- a list that nothing else bears -/
def Own1 (A : Av) (S : Sto) (d : D) (p : P) (n : Nat) : Prop := ∃ xs qs, d = .ref n ∧ p = .lst qs ∧ S[n]? = some (.lst xs) ∧ ¬ A n ∧ Rds (fun m => A m ∨ m = n) S xs qs
def Same1 (n0 : Option Nat) (S S' : Sto) : Prop := S.length ≤ S'.length ∧ ∀ m, m < S.length → some m ≠ n0 → S'[m]? = S[m]?
def CallR (A : Av) (S : Sto) (r : Res D) (q : PC) (n0 : Option Nat) : Prop := match q with
  | .ok p fr io => ∃ d S', r = .ok d S' ∧ Same1 n0 S S' ∧ Rd A S' d p ∧ (match n0, io with
    | none, none => fr = true → ∃ n, S.length ≤ n ∧ Own1 A S' d p n
    | some k, some qs => ∃ xs, S'[k]? = some (.lst xs) ∧ Rds A S' xs qs ∧ (fr = true → ∃ n, S.length ≤ n ∧ Own1 A S' d p n ∧ Rds (fun m => A m ∨ m = n) S' xs qs)
    | _, _ => False)
  | .exc c v => n0 = none ∧ ∃ d S', r = .exc c d S' ∧ Same1 n0 S S' ∧ Rx A S S' d v
  | .bad => True
/-- a call, with no list handed in to be changed, or with the first one -/
structure SoundF (C : List D → Sto → Res D) (F : List P → PC) (io : Bool) : Prop where
  no : io = false → ∀ {A : Av} {S : Sto} {ds : List D} {ps : List P}, (∀ n, A n → n < S.length) → Rds A S ds ps → CallR A S (C ds S) (F ps) none
  yes : io = true → ∀ {A : Av} {S : Sto} {n : Nat} {xs : List D} {qs : List P} {ds : List D} {ps : List P}, (∀ n, A n → n < S.length) → A n → S[n]? = some (.lst xs) → Rds A S xs qs → Rds A S ds ps → CallR A S (C (.ref n :: ds) S) (F (.lst qs :: ps)) (some n)
def SoundM (c : Nat) (C : List D → Sto → Res D) (F : List P → PC) : Prop := ∀ {A : Av} {S : Sto} {ds : List D} {ps : List P} {p : P} {fr : Bool}, (∀ n, A n → n < S.length) → Rds A S ds ps → F ps = .ok p fr none →
  ∃ S', C (.ref S.length :: ds) (S ++ [.ins c []]) = .ok .non S' ∧ Same1 none S S' ∧ Rd A S' (.ref S.length) p
structure EvOk (V : Ev) (U : PV) : Prop where
  call : ∀ f, SoundF (V.call f) (U.call f) (U.io f)
  make : ∀ c, SoundM c (V.init c) (U.mkC c)
  gv : ∀ {g p}, U.gv g = some p → ∀ {A : Av} {S : Sto}, Rd A S (V.gv g) p
  sub : U.sub = V.sub
  fuel : U.fuel = V.fuel
/-! ### literals -/
mutual
theorem lit_pu {A : Av} {S : Sto} : ∀ {d : D} {p : P}, litP d = some p → Rd A S d p
  | .non, p, h => by cases h; exact .non .nil
  | .bl _, p, h => by cases h; exact .bl .nil
  | .int _, p, h => by cases h; exact .int .nil
  | .str _, p, h => by cases h; exact .str .nil
  | .tup xs, p, h => by
    unfold litP at h
    cases e : litPs xs with
    | none => rw [e] at h; cases h
    | some qs => rw [e] at h; cases h; exact .tup (lits_pu e) .nil
  | .ref _, p, h => by cases h
theorem lits_pu {A : Av} {S : Sto} : ∀ {d : List D} {p : List P}, litPs d = some p → Rds A S d p
  | [], p, h => by cases h; exact .nil
  | d :: ds, p, h => by
    unfold litPs at h
    obtain ⟨a, r, e1, e2, rfl⟩ := consO_some h
    exact (lit_pu e1).cons (lits_pu e2)
end
/-! ### frames within a comprehension -/
section
variable {b : Nat} {M A O O' : Av} {σ : Sl} {π π' : Pl} {S S' : Sto}
theorem Fr.wipe (h : Fr b M A O σ π S) : ∀ own : List Nat, Fr b M A O (wipeD σ own) (wipeP π own) S
  | [] => h
  | v :: vs => (h.wipe vs).wipe1 none
theorem Fr.hide (h : Fr b M A O σ π S) : ∀ own : List Nat, Fr b M A O σ (wipeP π own) S
  | [] => h
  | v :: vs => (h.hide vs).hide1
theorem wipeD_get : ∀ {own : List Nat} {σ : Sl} {j : Nat}, (wipeD σ own)[j]? = if j ∈ own ∧ j < σ.length then some none else σ[j]?
  | [], σ, j => by simp [wipeD]
  | v :: vs, σ, j => by
    have len : (wipeD σ vs).length = σ.length := by
      clear wipeD_get
      induction vs with
      | nil => rfl
      | cons v vs ih => show ((wipeD σ vs).set v none).length = _; rw [List.length_set, ih]
    show ((wipeD σ vs).set v none)[j]? = _
    rw [List.getElem?_set, wipeD_get, len]
    by_cases z : v = j
    · subst z
      by_cases hl : v < σ.length <;> simp [hl]
    · have z2 : ¬ j = v := fun e => z e.symm
      simp [z, z2]
theorem wipeD_len : ∀ {own : List Nat} {σ : Sl}, (wipeD σ own).length = σ.length
  | [], σ => rfl
  | v :: vs, σ => by show ((wipeD σ vs).set v none).length = _; rw [List.length_set, wipeD_len]
theorem wipeP_get : ∀ {own : List Nat} {σ : Pl} {j : Nat}, (wipeP σ own)[j]? = if j ∈ own ∧ j < σ.length then some none else σ[j]?
  | [], σ, j => by simp [wipeP]
  | v :: vs, σ, j => by
    have len : (wipeP σ vs).length = σ.length := by
      clear wipeP_get
      induction vs with
      | nil => rfl
      | cons v vs ih => show ((wipeP σ vs).set v none).length = _; rw [List.length_set, ih]
    show ((wipeP σ vs).set v none)[j]? = _
    rw [List.getElem?_set, wipeP_get, len]
    by_cases z : v = j
    · subst z
      by_cases hl : v < σ.length <;> simp [hl]
    · have z2 : ¬ j = v := fun e => z e.symm
      simp [z, z2]
theorem wipeP_len : ∀ {own : List Nat} {σ : Pl}, (wipeP σ own).length = σ.length
  | [], σ => rfl
  | v :: vs, σ => by show ((wipeP σ vs).set v none).length = _; rw [List.length_set, wipeP_len]
theorem backP_len {π1 : Pl} : ∀ {js : List Nat} {π : Pl}, (backP π1 js π).length = π.length
  | [], π => rfl
  | j :: js, π => by
    show (backP π1 js _).length = _
    rw [backP_len]
    split
    · rw [List.length_set]
    · rfl
theorem backP_get {π1 : Pl} : ∀ {js : List Nat} {π : Pl} {j : Nat}, π1.length = π.length → (backP π1 js π)[j]? = if j ∈ js then π1[j]? else π[j]?
  | [], π, j, h => by simp [backP]
  | k :: js, π, j, h => by
    show (backP π1 js _)[j]? = _
    rw [backP_get (by split <;> first | (rw [List.length_set]; exact h) | exact h)]
    by_cases z : j ∈ js
    · simp [z]
    · by_cases e : j = k
      · subst e
        rw [if_neg z, if_pos List.mem_cons_self]
        split
        · next o ho => rw [List.getElem?_set_self (by rw [← h]; exact lt_of_getA ho), ho]
        · next ho => rw [ho]; exact List.getElem?_eq_none (by rw [← h]; exact List.getElem?_eq_none_iff.mp ho)
      · rw [if_neg z, if_neg (by simp [z, e])]
        split
        · rw [List.getElem?_set_ne (Ne.symm e)]
        · rfl
where lt_of_getA {α : Type} {l : List α} {n : Nat} {o : α} (e : l[n]? = some o) : n < l.length := (List.getElem?_eq_some_iff.mp e).1
/-- names are given values -/
theorem Fr.setAll (h : Fr b M A O σ π S) : ∀ {is : List Nat} {ds : List D} {ps : List P} {π' : Pl}, Rds (Aw A O) S ds ps → setAllP is ps π = some π' → ∃ σ', Py.setAll is ds σ = some σ' ∧ Fr b M A O σ' π' S ∧ (∀ j, j ∉ is → σ'[j]? = σ[j]?) ∧ σ'.length = σ.length := by
  intro is
  induction is generalizing σ π with
  | nil =>
    intro ds ps π' r e
    cases ps with
    | nil => cases e; cases r; exact ⟨σ, rfl, h, fun _ _ => rfl, rfl⟩
    | cons p ps => cases e
  | cons i is ih =>
    intro ds ps π' r e
    cases ps with
    | nil => cases e
    | cons p ps =>
      obtain ⟨d, ds, rfl, r1, r2⟩ := r.outp
      obtain ⟨σ', e1, f, g, l⟩ := ih (h.setv r1) r2 e
      refine ⟨σ', e1, f, fun j hj => ?_, by rw [l, List.length_set]⟩
      rw [g j fun z => hj (List.mem_cons_of_mem _ z), List.getElem?_set_ne fun (z : i = j) => hj (by rw [z]; exact List.mem_cons_self)]
theorem Fr.tg (h : Fr b M A O σ π S) {tg : Tg} {d : D} {p : P} {π' : Pl} (r : Rd (Aw A O) S d p) (e : tgP tg p π = some π') : ∃ σ', tgD tg d σ = some σ' ∧ Fr b M A O σ' π' S ∧ (∀ own, tgOk tg own = true → ∀ j, j ∉ own → σ'[j]? = σ[j]?) ∧ σ'.length = σ.length := by
  cases tg with
  | one i =>
    cases e
    refine ⟨_, rfl, h.setv r, fun own k j hj => ?_, List.length_set⟩
    rw [List.getElem?_set_ne]
    intro z
    subst z
    exact hj (List.contains_iff_mem.mp k)
  | row is =>
    unfold tgP at e
    dsimp only at e
    split at e
    · obtain ⟨xs, rfl, r2⟩ := r.rt.tup
      obtain ⟨σ', e1, f, g, l⟩ := h.setAll r2 e
      refine ⟨σ', e1, f, fun own k j hj => g j fun z => ?_, l⟩
      exact hj (List.contains_iff_mem.mp (List.all_eq_true.mp k j z))
    · cases e
end
/-! ### a name's value -/
section
variable {b : Nat} {M A O : Av} {σ : Sl} {π : Pl} {S : Sto} {V : Ev}
theorem va_ag (h : Fr b M A O σ π S) (i : Nat) : Ag b M A O σ S Rt (varD i σ S) (vaP i π) := by
  unfold vaP
  split
  · next w p e =>
    obtain ⟨d, e1, r⟩ := h.va e
    unfold varD
    rw [e1]
    exact .okk h r
  · trivial
theorem sh_ag (h : Fr b M A O σ π S) (i : Nat) : Ag b M A O σ S Rd (varD i σ S) (shP i π) := by
  unfold shP
  split
  · next p e =>
    obtain ⟨n, xs, qs, e0, e1, o, e2, r⟩ := h.ow e
    obtain ⟨nx, rd⟩ := h.share e e1
    unfold varD
    rw [e1]
    exact ⟨_, S, _, rfl, nx, rd⟩
  · next p e =>
    obtain ⟨d, e1, r⟩ := h.sh e
    unfold varD
    rw [e1]
    exact .okk h r
  · trivial
theorem isVar_some {e : E} {i : Nat} (h : isVar e = some i) : e = .var i := by
  cases e <;> first | (cases h; rfl) | cases h
theorem pk_ag {e : E} {ev : Pl → PR P} (h : Fr b M A O σ π S) (k : ∀ {π}, Fr b M A O σ π S → Ag b M A O σ S Rd (evE V e σ S) (ev π)) : Ag b M A O σ S Rt (evE V e σ S) (pkW e ev π) := by
  unfold pkW
  split
  · next i z =>
    rw [isVar_some z, evE]
    exact va_ag h i
  · exact (k h).imp fun A S d p r => r.rt
theorem vaP_ok {i : Nat} {p : P} {π' : Pl} (h : vaP i π = .ok p π') : π' = π ∧ ∃ w, π[i]? = some (some (w, p)) := by
  unfold vaP at h
  split at h
  · next w p e => cases h; exact ⟨rfl, w, e⟩
  · cases h
theorem varD_some {i : Nat} {d : D} (h : σ[i]? = some (some d)) : varD i σ S = .ok d S := by unfold varD; rw [h]
/-- two operands -/
theorem pk2_ag {x y : E} {ex ey : Pl → PR P} (h : Fr b M A O σ π S)
    (kx : ∀ {O π S}, Fr b M A O σ π S → Ag b M A O σ S Rd (evE V x σ S) (ex π)) (ky : ∀ {O π S}, Fr b M A O σ π S → Ag b M A O σ S Rd (evE V y σ S) (ey π)) :
    Ag b M A O σ S (fun A S d p => Rt A S d.1 p.1 ∧ Rt A S d.2 p.2) ((evE V x σ S).bind fun d S1 => (evE V y σ S1).bind fun e S2 => .ok (d, e) S2) (pk2 x y ex ey π) := by
  unfold pk2
  split
  · next i z =>
    rw [isVar_some z]
    cases e : vaP i π with
    | ok p0 π0 =>
      obtain ⟨rfl, w, ew⟩ := vaP_ok e
      obtain ⟨d, e1, r⟩ := h.va ew
      rw [evE, varD_some e1]
      show Ag b M A O σ S _ ((evE V y σ S).bind fun e S2 => .ok (d, e) S2) ((pkW y ey _).bind _)
      refine (pk_ag h fun f => ky f).bind fun d' p' π' S' O' nx r' => ?_
      cases e2 : vaP i π' with
      | ok p1 π1 =>
        obtain ⟨rfl, w', ew'⟩ := vaP_ok e2
        obtain ⟨d2, e3, r2⟩ := nx.fr.va ew'
        rw [e1] at e3
        cases e3
        exact .okk nx.fr ⟨r2, r'⟩
      | exc c v π1 => unfold vaP at e2; split at e2 <;> cases e2
      | bad => trivial
    | exc c v π1 => unfold vaP at e; split at e <;> cases e
    | bad => trivial
  · refine (kx h).bind fun d p π' S' O' nx r => ?_
    refine (pk_ag nx.fr fun f => ky f).bind fun d2 p2 π2 S2 O2 nx2 r2 => ?_
    exact .okk nx2.fr ⟨Rd.rt (nx2.rds r), r2⟩
theorem bind2 {α β γ : Type} (r : Res α) (f : α → Sto → Res β) (g : α → β → Sto → Res γ) : (r.bind fun d S1 => (f d S1).bind fun e S2 => g d e S2) = (r.bind fun d S1 => (f d S1).bind fun e S2 => .ok (d, e) S2).bind fun z S2 => g z.1 z.2 S2 := by
  cases r with
  | ok a S => show (f a S).bind _ = ((f a S).bind _).bind _; cases f a S <;> rfl
  | exc c v S => rfl
  | bad => rfl
/-! ### calls -/
theorem call_ag {f : Nat} {U : PV} (h : Fr b M A O σ π S) (k : EvOk V U) (hf : ¬ U.io f = true) {ds : List D} {ps : List P} (r : Rds (Aw A O) S ds ps) : Ag b M A O σ S Rd (V.call f ds S) (callP U f ps π) := by
  have z := (k.call f).no (by simpa using hf) h.al r
  unfold callP
  cases e : U.call f ps with
  | ok p fr io =>
    rw [e] at z
    obtain ⟨d, S', e1, s1, r1, w⟩ := z
    cases io with
    | none => exact ⟨d, S', O, e1, ⟨id, ⟨h.len, fun e => by
        obtain ⟨d, e1, r⟩ := h.sh e
        exact ⟨d, e1, r.sto fun m hm _ => s1.2 m hm (by simp)⟩, fun e => by
        obtain ⟨n, xs, qs, e0, e1, o, e2, r⟩ := h.ow e
        exact ⟨n, xs, qs, e0, e1, o, (s1.2 n (lt_of_get e2) (by simp)).trans e2, r.sto fun m hm _ => s1.2 m hm (by simp)⟩, h.inj, fun o => ⟨Nat.lt_of_lt_of_le (h.lo o).1 s1.1, (h.lo o).2⟩, fun o => Nat.lt_of_lt_of_le (h.la o) s1.1, h.dj, Nat.le_trans h.bs s1.1, h.z0⟩, ⟨s1.1, fun m hm _ => s1.2 m hm (by simp)⟩⟩, r1⟩
    | some qs => trivial
  | exc c v =>
    rw [e] at z
    obtain ⟨_, d, S', e1, s1, r1⟩ := z
    exact ⟨d, S', O, e1, ⟨id, ⟨h.len, fun e => by
        obtain ⟨d, e1, r⟩ := h.sh e
        exact ⟨d, e1, r.sto fun m hm _ => s1.2 m hm (by simp)⟩, fun e => by
        obtain ⟨n, xs, qs, e0, e1, o, e2, r⟩ := h.ow e
        exact ⟨n, xs, qs, e0, e1, o, (s1.2 n (lt_of_get e2) (by simp)).trans e2, r.sto fun m hm _ => s1.2 m hm (by simp)⟩, h.inj, fun o => ⟨Nat.lt_of_lt_of_le (h.lo o).1 s1.1, (h.lo o).2⟩, fun o => Nat.lt_of_lt_of_le (h.la o) s1.1, h.dj, Nat.le_trans h.bs s1.1, h.z0⟩, ⟨s1.1, fun m hm _ => s1.2 m hm (by simp)⟩⟩, r1⟩
  | bad => trivial
theorem Fr.same (h : Fr b M A O σ π S) {S' : Sto} (s1 : Same1 none S S') : Nx b M A O O σ π S S' := ⟨id, ⟨h.len, fun e => by
        obtain ⟨d, e1, r⟩ := h.sh e
        exact ⟨d, e1, r.sto fun m hm _ => s1.2 m hm (by simp)⟩, fun e => by
        obtain ⟨n, xs, qs, e0, e1, o, e2, r⟩ := h.ow e
        exact ⟨n, xs, qs, e0, e1, o, (s1.2 n (lt_of_get e2) (by simp)).trans e2, r.sto fun m hm _ => s1.2 m hm (by simp)⟩, h.inj, fun o => ⟨Nat.lt_of_lt_of_le (h.lo o).1 s1.1, (h.lo o).2⟩, fun o => Nat.lt_of_lt_of_le (h.la o) s1.1, h.dj, Nat.le_trans h.bs s1.1, h.z0⟩, ⟨s1.1, fun m hm _ => s1.2 m hm (by simp)⟩⟩
theorem io_ag {f i : Nat} {U : PV} (h : Fr b M A O σ π S) (k : EvOk V U) (hf : U.io f = true) {n : Nat} (hi : σ[i]? = some (some (.ref n))) {ds : List D} {ps : List P} (r : Rds (Aw A O) S ds ps) : Ag b M A O σ S Rd (V.call f (.ref n :: ds) S) (ioP U f i ps π) := by
  unfold ioP
  split
  · next qs e =>
    obtain ⟨m, xs, qs', e0, e1, o, e2, rr⟩ := h.ow e
    cases e0
    rw [hi] at e1
    cases e1
    have z := (k.call f).yes hf h.al (Or.inr o) e2 rr r
    cases e3 : U.call f (.lst qs :: ps) with
    | ok p fr io =>
      rw [e3] at z
      obtain ⟨d, S', e4, s1, r1, w⟩ := z
      cases io with
      | none => trivial
      | some qs' =>
        obtain ⟨xs', x1, x2, _⟩ := w
        exact ⟨d, S', O, e4, h.upd e hi ⟨s1.1, fun m hm hn => s1.2 m hm (by simpa using hn)⟩ x1 x2, r1⟩
    | exc c v => trivial
    | bad => trivial
  · trivial
theorem ownQ_some {i : Nat} (h : Fr b M A O σ π S) (e : ownQ i π = true) : ∃ n, σ[i]? = some (some (.ref n)) := by
  unfold ownQ at e
  split at e
  · next p w =>
    obtain ⟨m, xs, qs', e0, e1, _⟩ := h.ow w
    exact ⟨m, e1⟩
  · cases e
end
end Py
end
section
set_option linter.all false
set_option maxRecDepth 100000
/-! PuF: comprehensions; all expressions. -/
namespace Py
open PySem
section
variable {b : Nat} {M A O : Av} {σ : Sl} {π π1 π3 : Pl} {S S1 S3 : Sto}
theorem backP_congr {π2 : Pl} : ∀ {js : List Nat} {π : Pl}, (∀ j ∈ js, π1[j]? = π2[j]?) → backP π1 js π = backP π2 js π
  | [], _, _ => rfl
  | j :: js, π, h => by
    show backP π1 js _ = backP π2 js _
    rw [h j List.mem_cons_self]
    exact backP_congr fun k m => h k (List.mem_cons_of_mem _ m)
theorem backP_app {π1 : Pl} : ∀ {js ks : List Nat} {π : Pl}, backP π1 (js ++ ks) π = backP π1 ks (backP π1 js π)
  | [], _, _ => rfl
  | j :: js, ks, π => backP_app (js := js)
/-- behind the turns: the frame as it was, but for what its own lists have become -/
theorem Fr.unwipe {O1 O3 : Av} {own : List Nat} (h1 : Fr b M A O1 σ π1 S1) (hf : freeP own π1 = true) (h3 : Fr b M A O3 (wipeD σ own) (wipeP π3 own) S3) (le : ∀ {n}, O3 n → O1 n) (c : Ch O1 S1 S3) :
    Fr b M A O3 σ (backP π1 own π3) S3 := by
  have l3 : σ.length = π3.length := by have z := h3.len; rw [wipeD_len, wipeP_len] at z; exact z
  have ll : π1.length = π3.length := h1.len.symm.trans l3
  have fr : ∀ {j : Nat} {p : P}, j ∈ own → π1[j]? ≠ some (some (true, p)) := fun {j p} m e => by
    have z := List.all_eq_true.mp hf j m
    rw [e] at z
    cases z
  have out : ∀ {j : Nat}, j ∉ own → (wipeD σ own)[j]? = σ[j]? ∧ (wipeP π3 own)[j]? = π3[j]? := fun {j} m => by
    rw [wipeD_get, wipeP_get, if_neg fun z => m z.1, if_neg fun z => m z.1]
    exact ⟨rfl, rfl⟩
  refine ⟨by rw [backP_len]; exact l3, fun {j p} e => ?_, fun {j p} e => ?_, fun {j k p q n} ej ek sj sk => ?_, h3.lo, h3.la, h3.dj, h3.bs, fun hm ez => ?_⟩
  · rw [backP_get ll] at e
    by_cases m : j ∈ own
    · rw [if_pos m] at e
      obtain ⟨d, d1, d2⟩ := h1.sh e
      exact ⟨d, d1, (d2.sto fun n hn k => c.2 n hn fun z => k (Or.inr z)).mono fun n z => z.imp id le⟩
    · rw [if_neg m] at e
      obtain ⟨d, d1, d2⟩ := h3.sh ((out m).2.trans e)
      exact ⟨d, (out m).1.symm.trans d1, d2⟩
  · rw [backP_get ll] at e
    by_cases m : j ∈ own
    · rw [if_pos m] at e
      exact absurd e (fr m)
    · rw [if_neg m] at e
      obtain ⟨n, xs, qs, e0, e1, r⟩ := h3.ow ((out m).2.trans e)
      exact ⟨n, xs, qs, e0, (out m).1.symm.trans e1, r⟩
  · rw [backP_get ll] at ej ek
    by_cases m : j ∈ own
    · rw [if_pos m] at ej
      exact absurd ej (fr m)
    · by_cases m' : k ∈ own
      · rw [if_pos m'] at ek
        exact absurd ek (fr m')
      · rw [if_neg m] at ej
        rw [if_neg m'] at ek
        exact h3.inj ((out m).2.trans ej) ((out m').2.trans ek) ((out m).1.trans sj) ((out m').1.trans sk)
  · rw [backP_get ll] at ez
    by_cases m : 0 ∈ own
    · rw [if_pos m] at ez
      exact absurd ez (fr m)
    · rw [if_neg m] at ez
      exact (out m).1.symm.trans (h3.z0 hm ((out m).2.trans ez))
/-- a name's own list is kept from changes -/
theorem Fr.keep (h : Fr b M A O σ π S) {i n : Nat} {p : P} (e : π[i]? = some (some (true, p))) (en : σ[i]? = some (some (.ref n))) (o : O n) :
    Fr b M (fun m => A m ∨ m = n) (fun m => O m ∧ m ≠ n) σ (π.set i none) S := by
  have aw : ∀ k, Aw (fun m => A m ∨ m = n) (fun m => O m ∧ m ≠ n) k → Aw A O k := fun k z => by
    rcases z with (z | rfl) | z
    · exact Or.inl z
    · exact Or.inr o
    · exact Or.inr z.1
  refine ⟨by rw [List.length_set]; exact h.len, fun {j q} ej => ?_, fun {j q} ej => ?_, fun {j k q q' m} ej ek sj sk => ?_, fun z => h.lo z.1, fun z => z.elim h.la fun z => z ▸ (h.lo o).1, fun z w => z.elim (fun y => h.dj y w.1) w.2, h.bs, fun hm ez => ?_⟩
  · rcases getElem?_set_cases ej with ⟨rfl, w, _⟩ | ⟨_, w⟩
    · cases w
    · obtain ⟨d, d1, d2⟩ := h.sh w
      exact ⟨d, d1, d2.mono aw⟩
  · rcases getElem?_set_cases ej with ⟨rfl, w, _⟩ | ⟨ne, w⟩
    · cases w
    · obtain ⟨m, ys, rs, f0, f1, fo, f2, fr⟩ := h.ow w
      exact ⟨m, ys, rs, f0, f1, ⟨fo, fun z => by subst z; exact ne (h.inj e w en f1)⟩, f2, fr.mono aw⟩
  · rcases getElem?_set_cases ej with ⟨rfl, w, _⟩ | ⟨_, w⟩
    · cases w
    · rcases getElem?_set_cases ek with ⟨rfl, w', _⟩ | ⟨_, w'⟩
      · cases w'
      · exact h.inj w w' sj sk
  · rcases getElem?_set_cases ez with ⟨_, w, _⟩ | ⟨_, w⟩
    · cases w
    · exact h.z0 hm w
/-- and is the name's own again -/
theorem Fr.unkeep {i n : Nat} {qs : List P} {xs : List D} (h : Fr b M (fun m => A m ∨ m = n) O σ π S) (en : σ[i]? = some (some (.ref n))) (hb : b ≤ n ∨ M n) (hA : ¬ A n) (hz : i = 0 → ∀ {m}, M m → m = n)
    (e : S[n]? = some (.lst xs)) (r : Rds (Aw A (fun m => O m ∨ m = n)) S xs qs) : Fr b M A (fun m => O m ∨ m = n) σ (π.set i (some (true, .lst qs))) S := by
  have aw : ∀ k, Aw A (fun m => O m ∨ m = n) k → Aw (fun m => A m ∨ m = n) O k := fun k z => by
    rcases z with z | z | z
    · exact Or.inl (Or.inl z)
    · exact Or.inr z
    · exact Or.inl (Or.inr z)
  have no : ¬ O n := h.dj (Or.inr rfl)
  refine ⟨by rw [List.length_set]; exact h.len, fun {j q} ej => ?_, fun {j q} ej => ?_, fun {j k q q' m} ej ek sj sk => ?_, fun z => z.elim h.lo fun z => z ▸ ⟨lt_of_get e, hb⟩, fun z => h.la (Or.inl z), fun z w => w.elim (fun y => h.dj (Or.inl z) y) fun y => hA (y ▸ z), h.bs, fun hm ez => ?_⟩
  · rcases getElem?_set_cases ej with ⟨rfl, w, _⟩ | ⟨_, w⟩
    · cases w
    · obtain ⟨d, d1, d2⟩ := h.sh w
      exact ⟨d, d1, d2.mono aw⟩
  · rcases getElem?_set_cases ej with ⟨rfl, w, _⟩ | ⟨ne, w⟩
    · cases w
      exact ⟨n, xs, qs, rfl, en, Or.inr rfl, e, r⟩
    · obtain ⟨m, ys, rs, f0, f1, fo, f2, fr⟩ := h.ow w
      exact ⟨m, ys, rs, f0, f1, Or.inl fo, f2, fr.mono aw⟩
  · have g : ∀ {j : Nat} {q : P}, (π.set i (some (true, .lst qs)))[j]? = some (some (true, q)) → σ[j]? = some (some (.ref n)) → i = j := fun {j q} ej sj => by
      rcases getElem?_set_cases ej with ⟨rfl, w, _⟩ | ⟨_, w⟩
      · rfl
      · obtain ⟨m, ys, rs, f0, f1, fo, f2, fr⟩ := h.ow w
        rw [sj] at f1
        cases f1
        exact absurd fo no
    rcases getElem?_set_cases ej with ⟨rfl, w, _⟩ | ⟨ne, w⟩
    · rw [en] at sj
      cases sj
      exact g ek sk
    · rcases getElem?_set_cases ek with ⟨rfl, w', _⟩ | ⟨_, w'⟩
      · rw [en] at sk
        cases sk
        exact (g ej sj).symm
      · exact h.inj w w' sj sk
  · rcases getElem?_set_cases ez with ⟨rfl, w, _⟩ | ⟨_, w⟩
    · rw [hz rfl hm]
      exact en
    · exact h.z0 hm w
end
/-! ### turns -/
section
variable {b : Nat} {M A : Av} {σ : Sl} {V : Ev} {U : PV}
abbrev RB : Av → Sto → Bool → Bool → Prop := fun _ _ k k' => k = k'
abbrev RI : Av → Sto → Option Int → Option Int → Prop := fun _ _ k k' => k = k'
def ROp (A : Av) (S : Sto) : Option D → Option P → Prop
  | none, none => True
  | some d, some p => Rd A S d p
  | _, _ => False
def turnP (U : PV) (own : List Nat) (tg : Tg) (ifs : Es) (elt : E) (x : P) (π2 : Pl) : PR (Option P) := match tgP tg x (wipeP π2 own) with
          | none => .bad
          | some π3 => (pT U ifs π3).bind fun k π4 => if k = true then (pE U elt π4).bind fun y π5 => .ok (some y) π5 else .ok none π4
theorem wipeD_same {own : List Nat} {σ2 : Sl} (g : ∀ j, j ∉ own → σ2[j]? = (wipeD σ own)[j]?) (l : σ2.length = (wipeD σ own).length) : wipeD σ2 own = wipeD σ own := by
  refine List.ext_getElem? fun j => ?_
  rw [wipeD_get, wipeD_get]
  rw [wipeD_len] at l
  rw [l]
  by_cases m : j ∈ own
  · by_cases hl : j < σ.length
    · rw [if_pos ⟨m, hl⟩, if_pos ⟨m, hl⟩]
    · rw [if_neg fun z => hl z.2, if_neg fun z => hl z.2, List.getElem?_eq_none (by omega), List.getElem?_eq_none (by omega)]
  · rw [if_neg fun z => m z.1, if_neg fun z => m z.1, g j m, wipeD_get, if_neg fun z => m z.1]
theorem comp_ag {own : List Nat} {tg : Tg} {ifs : Es} {elt : E} {s : Src} (ht : tgOk tg own = true)
    (kT : ∀ {A O σ π S}, Fr b M A O σ π S → Ag b M A O σ S RB (evT V ifs σ S) (pT U ifs π)) (kE : ∀ {A O σ π S}, Fr b M A O σ π S → Ag b M A O σ S Rd (evE V elt σ S) (pE U elt π)) :
    ∀ {xs : List P} {ds : List D} {acc : List P} {accd : List D} {O : Av} {π : Pl} {S : Sto} {qs : List P} {π' : Pl}, Fr b M A O (wipeD σ own) (wipeP π own) S → Rds (Aw A O) S ds xs → Rds (Aw A O) S accd acc → (∀ S', Ch O S S' → s.still S' = true) →
    compP (turnP U own tg ifs elt) xs acc π = .ok qs π' → ∃ es S' O', compGo s (turnC V own tg ifs elt σ) ds accd S = .ok es S' ∧ (∀ {n}, O' n → O n) ∧ Fr b M A O' (wipeD σ own) (wipeP π' own) S' ∧ Ch O S S' ∧ Rds (Aw A O') S' es qs := by
  intro xs
  induction xs with
  | nil =>
    intro ds acc accd O π S qs π' h r ra hs e
    cases r
    cases e
    refine ⟨accd, S, O, ?_, id, h, .self, ra⟩
    unfold compGo
    rw [if_pos (hs S .self)]
  | cons x xs ih =>
    intro ds acc accd O π S qs π' h r ra hs e
    obtain ⟨d, ds, rfl, r1, r2⟩ := r.outp
    unfold compP at e
    have ag : ∀ {o π5}, turnP U own tg ifs elt x π = .ok o π5 → ∃ od S5 O5, turnC V own tg ifs elt σ d S = .ok od S5 ∧ (∀ {n}, O5 n → O n) ∧ Fr b M A O5 (wipeD σ own) (wipeP π5 own) S5 ∧ Ch O S S5 ∧ ROp (Aw A O5) S5 od o ∧ (∀ {ds ps}, Rds (Aw A O) S ds ps → Rds (Aw A O5) S5 ds ps) := by
      intro o π5 et
      unfold turnP at et
      cases eg : tgP tg x (wipeP π own) with
      | none => rw [eg] at et; cases et
      | some π3 =>
        rw [eg] at et
        dsimp only at et
        obtain ⟨σ2, e2, f2, g2, l2⟩ := h.tg r1 eg
        have z : Ag b M A O σ2 S ROp (turnC V own tg ifs elt σ d S) ((pT U ifs π3).bind fun k π4 => if k = true then (pE U elt π4).bind fun y π5 => .ok (some y) π5 else .ok none π4) := by
          unfold turnC
          rw [e2]
          dsimp only
          refine (kT f2).bind fun k k' π4 S4 O4 nx rk => ?_
          obtain rfl : k = k' := rk
          cases k with
          | false => exact .okk nx.fr trivial
          | true =>
            refine (kE nx.fr).bind fun y p π5 S5 O5 nx5 ry => ?_
            exact .okk nx5.fr ry
        rw [et] at z
        obtain ⟨od, S5, O5, c1, c2, c3⟩ := z
        have w := c2.fr.wipe own
        rw [wipeD_same (σ2 := σ2) (fun j hj => g2 own ht j hj) l2] at w
        exact ⟨od, S5, O5, c1, c2.le, w, c2.ch, c3, c2.rds⟩
    cases et : turnP U own tg ifs elt x π with
    | ok o π5 =>
      rw [et] at e
      obtain ⟨od, S5, O5, c1, c2, c3, c4, c5, c6⟩ := ag et
      have hs5 : ∀ S', Ch O5 S5 S' → s.still S' = true := fun S' c => hs S' (c4.trans c fun _ => c2)
      cases o with
      | none =>
        cases od with
        | some y => exact c5.elim
        | none =>
          obtain ⟨es, S', O', x1, x2, x3, x4, x5⟩ := ih c3 (c6 r2) (c6 ra) hs5 e
          refine ⟨es, S', O', ?_, fun z => c2 (x2 z), x3, c4.trans x4 fun _ => c2, x5⟩
          unfold compGo
          rw [if_pos (hs S .self), c1]
          exact x1
      | some p =>
        cases od with
        | none => exact c5.elim
        | some y =>
          dsimp only at e
          split at e
          · next hl =>
            obtain ⟨es, S', O', x1, x2, x3, x4, x5⟩ := ih c3 (c6 r2) ((c6 ra).append c5) hs5 e
            refine ⟨es, S', O', ?_, fun z => c2 (x2 z), x3, c4.trans x4 fun _ => c2, x5⟩
            unfold compGo
            rw [if_pos (hs S .self), c1]
            dsimp only
            rw [if_pos (by rw [ra.len]; exact hl)]
            exact x1
          · cases e
    | exc c v π5 => rw [et] at e; cases e
    | bad => rw [et] at e; cases e
theorem compP_ok {f : P → Pl → PR (Option P)} : ∀ {xs acc : List P} {π : Pl} {c : Nat} {v : P × Bool} {π' : Pl}, compP f xs acc π ≠ .exc c v π'
  | [], _, _, _, _, _, h => by cases h
  | x :: xs, acc, π, c, v, π', h => by
    unfold compP at h
    split at h
    · exact compP_ok h
    · split at h
      · exact compP_ok h
      · cases h
    · cases h
/-- lists that a loop walks -/
def peekQ : L → Bool
  | .of (.var _) => true
  | _ => false
def RL (l : L) (A : Av) (S : Sto) (z : List D × Src) (w : List P × PSrc) : Prop := Rds A S z.1 w.1 ∧ SrcR S z.2 w.2 ∧ (peekQ l = false → ∀ n o, z.2 = .at n o → ¬ A n)
theorem still_of {O : Av} {S S' : Sto} {s : Src} {w : PSrc} (h : SrcR S s w) (k : ∀ n o, s = .at n o → ¬ O n) (c : Ch O S S') : s.still S' = true := by
  cases s with
  | «at» n o =>
    cases w with
    | «at» => exact still_ob ((c.2 n (lt_of_get h) (k n o rfl)).trans h)
    | _ => exact h.elim
  | _ => rfl
theorem wipeP_nil {π : Pl} : wipeP π [] = π := rfl
end
end Py
end
section
set_option linter.all false
set_option maxRecDepth 100000
/-! PuG: all expressions say the same. -/
namespace Py
open PySem
section
variable {V : Ev} {U : PV}
theorem hidOf_no {l : L} {π : Pl} (h : ∀ i p, l = .of (.var i) → π[i]? ≠ some (some (true, p))) : hidOf l π = [] := by
  unfold hidOf
  split
  · next i =>
    split
    · next p e => exact absurd e (h i p rfl)
    · rfl
  · rfl
theorem freeP_ne {own : List Nat} {π : Pl} {i : Nat} {p : P} (h : freeP own π = true) (e : π[i]? = some (some (true, p))) : i ∉ own := fun m => by
  have z := List.all_eq_true.mp h i m
  rw [e] at z
  cases z
/-- what stands behind a comprehension's list -/
theorem compL_ag {b : Nat} {M A O1 : Av} {σ : Sl} {π1 : Pl} {S1 : Sto} {own : List Nat} {tg : Tg} {src : L} {ifs : Es} {elt : E} {z : List D × Src} {w : List P × PSrc}
    (nx : Fr b M A O1 σ π1 S1) (rd : Rds (Aw A O1) S1 z.1 w.1) (sr : SrcR S1 z.2 w.2)
    (own1 : (∀ n o, z.2 = .at n o → ¬ O1 n) ∧ hidOf src π1 = [] ∨ ∃ i n p, src = .of (.var i) ∧ π1[i]? = some (some (true, p)) ∧ σ[i]? = some (some (.ref n)) ∧ (∀ m o, z.2 = .at m o → m = n))
    (kT : ∀ {A O σ π S}, Fr b M A O σ π S → Ag b M A O σ S RB (evT V ifs σ S) (pT U ifs π)) (kE : ∀ {A O σ π S}, Fr b M A O σ π S → Ag b M A O σ S Rd (evE V elt σ S) (pE U elt π)) :
    Ag b M A O1 σ S1 (fun A S z w => RL (.comp own tg src ifs elt) A S z w) ((compGo z.2 (turnC V own tg ifs elt σ) z.1 [] S1).bind fun ds S2 => .ok (ds, Src.fresh) S2)
      (if tgOk tg own = true ∧ freeP own π1 = true then (compP (turnP U own tg ifs elt) w.1 [] (wipeP π1 (hidOf src π1))).bind fun ds π2 => .ok (ds, .fresh) (backP π1 (own ++ hidOf src π1) π2) else .bad) := by
  by_cases c : tgOk tg own = true ∧ freeP own π1 = true
  · rw [if_pos c]
    cases e : compP (turnP U own tg ifs elt) w.1 [] (wipeP π1 (hidOf src π1)) with
    | ok qs π2 =>
      show Ag b M A O1 σ S1 _ _ (PR.ok (qs, PSrc.fresh) (backP π1 (own ++ hidOf src π1) π2))
      rcases own1 with ⟨k1, k2⟩ | ⟨i, n, p, rfl, e1, e2, k⟩
      · rw [k2] at e ⊢
        obtain ⟨es, S3, O3, c1, c2, c3, c4, c5⟩ := comp_ag (s := z.2) c.1 kT kE (nx.wipe own) rd .nil (fun S' ch => still_of sr k1 ch) e
        rw [c1, List.append_nil]
        exact ⟨_, S3, O3, rfl, ⟨c2, nx.unwipe c.2 c3 c2 c4, c4⟩, c5, trivial, fun _ n o x => by cases x⟩
      · have hid : hidOf (.of (.var i)) π1 = [i] := by unfold hidOf; dsimp only; rw [e1]
        rw [hid] at e ⊢
        obtain ⟨m, xs, qs0, f0, f1, fo, f2, f3⟩ := nx.ow e1
        rw [e2] at f1
        cases f1
        have kp := nx.keep e1 e2 fo
        have hw : wipeP π1 [i] = π1.set i none := rfl
        rw [hw] at e
        have awk : ∀ m, Aw (fun m => A m ∨ m = n) (fun m => O1 m ∧ m ≠ n) m → Aw A O1 m := fun m y => by
          rcases y with (y | rfl) | y
          · exact Or.inl y
          · exact Or.inr fo
          · exact Or.inr y.1
        obtain ⟨es, S3, O3, c1, c2, c3, c4, c5⟩ := comp_ag (s := z.2) (O := fun m => O1 m ∧ m ≠ n) c.1 kT kE (kp.wipe own) (rd.mono awk) .nil (fun S' ch => still_of sr (fun m o x y => y.2 (k m o x)) ch) e
        rw [c1]
        have ff : freeP own (π1.set i none) = true := List.all_eq_true.mpr fun j mj => by
          have y := List.all_eq_true.mp c.2 j mj
          by_cases ij : i = j
          · subst ij
            exact absurd mj (freeP_ne c.2 e1)
          · show (match (π1.set i none)[j]? with | some (some (true, _)) => false | _ => true) = true
            rw [List.getElem?_set_ne ij]; exact y
        have un := kp.unwipe ff c3 c2 c4
        have cg : backP (π1.set i none) own π2 = backP π1 own π2 := backP_congr fun j mj => List.getElem?_set_ne fun ij => by subst ij; exact absurd mj (freeP_ne c.2 e1)
        rw [cg] at un
        have get3 : S3[n]? = some (.lst xs) := (c4.2 n (lt_of_get f2) fun y => y.2 rfl).trans f2
        have nA : ¬ A n := fun y => nx.dj y fo
        have aw3 : ∀ m, Aw A (fun m => O3 m ∨ m = n) m → Aw A O1 m := fun m y => by
          rcases y with y | y | rfl
          · exact Or.inl y
          · exact Or.inr (c2 y).1
          · exact Or.inr fo
        have r3 : Rds (Aw A (fun m => O3 m ∨ m = n)) S3 xs qs0 := (f3.sto fun m hm y => c4.2 m hm fun z => y (Or.inr z.1)).mono aw3
        have back := un.unkeep (qs := qs0) e2 (nx.lo fo).2 nA (fun hi {m} hm => by
          subst hi
          have z := nx.z0 hm e1
          rw [e2] at z
          cases z
          rfl) get3 r3
        have last : backP π1 (own ++ [i]) π2 = (backP π1 own π2).set i (some (true, .lst qs0)) := by
          rw [backP_app]
          show (match π1[i]? with
            | some o => (backP π1 own π2).set i o
            | none => backP π1 own π2) = _
          rw [e1, f0]
        rw [last]
        refine ⟨_, S3, _, rfl, ⟨fun y => y.elim (fun u => (c2 u).1) fun u => u ▸ fo, back, ⟨c4.1, fun m hm y => c4.2 m hm fun u => y u.1⟩⟩, c5.mono fun m y => ?_, trivial, fun _ n o x => by cases x⟩
        rcases y with y | y | rfl
        · exact Or.inl (Or.inl y)
        · exact Or.inr y
        · exact Or.inl (Or.inr rfl)
    | exc a v π2 => exact absurd e compP_ok
    | bad => trivial
  · rw [if_neg c]
    trivial
theorem firstVar_some {es : Es} {i : Nat} (h : firstVar es = some i) : ∃ r, es = .cons (.var i) r := by
  cases es with
  | nil => cases h
  | cons e r => exact ⟨r, by rw [isVar_some (show isVar e = some i from h)]⟩
mutual
theorem sE (k : EvOk V U) : ∀ (e : E) {b : Nat} {M A O : Av} {σ : Sl} {π : Pl} {S : Sto}, Fr b M A O σ π S → Ag b M A O σ S Rd (evE V e σ S) (pE U e π)
  | .var i, b, M, A, O, σ, π, S, h => by
    rw [evE, pE]
    exact sh_ag h i
  | .lit d, b, M, A, O, σ, π, S, h => by
    rw [evE, pE]
    exact .orB fun p e => .okk h (lit_pu e)
  | .gl g, b, M, A, O, σ, π, S, h => by
    rw [evE, pE]
    exact .orB fun p e => .okk h (k.gv e)
  | .tup es, b, M, A, O, σ, π, S, h => by
    rw [evE, pE]
    refine (sEs k es h).bind fun ds ps π1 S1 O1 nx r => ?_
    by_cases c : ps.length ≤ sizeLine
    · rw [if_pos c, if_pos (by rw [r.len]; exact c)]
      exact .okk nx.fr (.tup r .nil)
    · rw [if_neg c]; trivial
  | .mk l, b, M, A, O, σ, π, S, h => by
    rw [evE, pE]
    refine (sL k l h).bind fun z w π1 S1 O1 nx r => ?_
    obtain ⟨ds, s⟩ := z
    obtain ⟨ps, t⟩ := w
    cases t with
    | fresh =>
      cases s with
      | fresh => exact .nw nx.fr rfl (.lst nx.fr.al r.1)
      | _ => exact r.2.1.elim
    | _ => trivial
  | .bin op x y, b, M, A, O, σ, π, S, h => by
    rw [evE, pE, bind2]
    refine (pk2_ag h (fun f => sE k x f) (fun f => sE k y f)).bind fun z w π1 S1 O1 nx r => ?_
    refine .orB fun q e => ?_
    obtain ⟨v, S', e1, n1⟩ := bin_pu nx.fr.al r.1 r.2 e
    exact .nw nx.fr e1 n1
  | .neg x, b, M, A, O, σ, π, S, h => by
    rw [evE, pE]
    refine (sE k x h).bind fun d p π1 S1 O1 nx r => ?_
    cases p with
    | int i => rw [(Rd.rt r).int]; exact .okk nx.fr (.int .nil)
    | _ => trivial
  | .cmp op x y, b, M, A, O, σ, π, S, h => by
    rw [evE, pE, bind2]
    refine (pk2_ag h (fun f => sE k x f) (fun f => sE k y f)).bind fun z w π1 S1 O1 nx r => ?_
    refine .orB fun q e => ?_
    cases e2 : cmpP op w.1 w.2 with
    | none => rw [e2] at e; cases e
    | some c => rw [e2] at e; cases e; rw [cmp_pu r.1 r.2 e2]; exact .okk nx.fr (.bl .nil)
  | .chn op op' x y t, b, M, A, O, σ, π, S, h => by
    rw [evE, pE]
    refine (sE k x h).bind fun d p π1 S1 O1 nx r => ?_
    refine (sE k y nx.fr).bind fun d2 p2 π2 S2 O2 nx2 r2 => ?_
    cases e2 : cmpP op p p2 with
    | none => trivial
    | some c =>
      rw [cmp_pu (Rd.rt (nx2.rds r)) (Rd.rt r2) e2]
      show Ag b M A O2 σ S2 Rd (if c = true then _ else _) (if c = true then _ else _)
      cases c with
      | false => exact .okk nx2.fr (.bl .nil)
      | true =>
        refine (sE k t nx2.fr).bind fun d3 p3 π3 S3 O3 nx3 r3 => ?_
        refine .orB fun q e => ?_
        cases e3 : cmpP op' p2 p3 with
        | none => rw [e3] at e; cases e
        | some c => rw [e3] at e; cases e; rw [cmp_pu (Rd.rt (nx3.rds r2)) (Rd.rt r3) e3]; exact .okk nx3.fr (.bl .nil)
  | .isn x, b, M, A, O, σ, π, S, h => by
    rw [evE, pE]
    refine (pk_ag h fun f => sE k x f).bind fun d p π1 S1 O1 nx r => ?_
    cases p with
    | non => rw [r.non]; exact .okk nx.fr (.bl .nil)
    | bl b => rw [r.bl]; exact .okk nx.fr (.bl .nil)
    | int b => rw [r.int]; exact .okk nx.fr (.bl .nil)
    | str b => rw [r.str]; exact .okk nx.fr (.bl .nil)
    | tup b => obtain ⟨a, rfl, _⟩ := r.tup; exact .okk nx.fr (.bl .nil)
    | lst b => obtain ⟨a, _, rfl, _⟩ := r.lst; exact .okk nx.fr (.bl .nil)
    | frz b => obtain ⟨a, _, rfl, _⟩ := r.frz; exact .okk nx.fr (.bl .nil)
    | dct b => obtain ⟨a, _, rfl, _⟩ := r.dct; exact .okk nx.fr (.bl .nil)
    | ins c b => obtain ⟨a, _, rfl, _⟩ := r.ins; exact .okk nx.fr (.bl .nil)
    | exc c b => obtain ⟨a, _, rfl, _⟩ := r.exc; exact .okk nx.fr (.bl .nil)
  | .nsn x, b, M, A, O, σ, π, S, h => by
    rw [evE, pE]
    refine (pk_ag h fun f => sE k x f).bind fun d p π1 S1 O1 nx r => ?_
    cases p with
    | non => rw [r.non]; exact .okk nx.fr (.bl .nil)
    | bl b => rw [r.bl]; exact .okk nx.fr (.bl .nil)
    | int b => rw [r.int]; exact .okk nx.fr (.bl .nil)
    | str b => rw [r.str]; exact .okk nx.fr (.bl .nil)
    | tup b => obtain ⟨a, rfl, _⟩ := r.tup; exact .okk nx.fr (.bl .nil)
    | lst b => obtain ⟨a, _, rfl, _⟩ := r.lst; exact .okk nx.fr (.bl .nil)
    | frz b => obtain ⟨a, _, rfl, _⟩ := r.frz; exact .okk nx.fr (.bl .nil)
    | dct b => obtain ⟨a, _, rfl, _⟩ := r.dct; exact .okk nx.fr (.bl .nil)
    | ins c b => obtain ⟨a, _, rfl, _⟩ := r.ins; exact .okk nx.fr (.bl .nil)
    | exc c b => obtain ⟨a, _, rfl, _⟩ := r.exc; exact .okk nx.fr (.bl .nil)
  | .and_ x y, b, M, A, O, σ, π, S, h => by
    rw [evE, pE]
    refine (sE k x h).bind fun d p π1 S1 O1 nx r => ?_
    cases p with
    | bl c =>
      rw [(Rd.rt r).bl]
      show Ag b M A O1 σ S1 Rd (if c = true then _ else _) (if c = true then _ else _)
      cases c with
      | false => exact .okk nx.fr (.bl .nil)
      | true =>
        refine (sE k y nx.fr).bind fun d2 p2 π2 S2 O2 nx2 r2 => ?_
        cases p2 with
        | bl c2 => rw [(Rd.rt r2).bl]; exact .okk nx2.fr (.bl .nil)
        | _ => trivial
    | _ => trivial
  | .or_ x y, b, M, A, O, σ, π, S, h => by
    rw [evE, pE]
    refine (sE k x h).bind fun d p π1 S1 O1 nx r => ?_
    cases p with
    | bl c =>
      rw [(Rd.rt r).bl]
      show Ag b M A O1 σ S1 Rd (if c = true then _ else _) (if c = true then _ else _)
      cases c with
      | true => exact .okk nx.fr (.bl .nil)
      | false =>
        refine (sE k y nx.fr).bind fun d2 p2 π2 S2 O2 nx2 r2 => ?_
        cases p2 with
        | bl c2 => rw [(Rd.rt r2).bl]; exact .okk nx2.fr (.bl .nil)
        | _ => trivial
    | _ => trivial
  | .not_ x, b, M, A, O, σ, π, S, h => by
    rw [evE, pE]
    refine (sE k x h).bind fun d p π1 S1 O1 nx r => ?_
    cases p with
    | bl c => rw [(Rd.rt r).bl]; exact .okk nx.fr (.bl .nil)
    | _ => trivial
  | .ife t x y, b, M, A, O, σ, π, S, h => by
    rw [evE, pE]
    refine (sE k t h).bind fun d p π1 S1 O1 nx r => ?_
    cases p with
    | bl c =>
      rw [(Rd.rt r).bl]
      show Ag b M A O1 σ S1 Rd (if c = true then _ else _) (if c = true then _ else _)
      cases c with
      | true => exact sE k x nx.fr
      | false => exact sE k y nx.fr
    | _ => trivial
  | .idx x y, b, M, A, O, σ, π, S, h => by
    rw [evE, pE, bind2]
    refine (pk2_ag h (fun f => sE k x f) (fun f => sE k y f)).bind fun z w π1 S1 O1 nx r => ?_
    refine .orB fun q e => ?_
    obtain ⟨v, e1, n1⟩ := idx_pu r.1 r.2 e
    rw [e1]
    exact .okk nx.fr n1
  | .sli x lo hi, b, M, A, O, σ, π, S, h => by
    rw [evE, pE]
    split
    · next i z =>
      rw [isVar_some z]
      cases e : vaP i π with
      | ok p0 π0 =>
        obtain ⟨rfl, w, ew⟩ := vaP_ok e
        obtain ⟨d, e1, r⟩ := h.va ew
        rw [evE, varD_some e1]
        show Ag b M A O σ S Rd ((evO V lo σ S).bind _) ((pO U lo _).bind _)
        refine (sO k lo h).bind fun l l' π1 S1 O1 nx1 r1 => ?_
        refine (sO k hi nx1.fr).bind fun g g' π2 S2 O2 nx2 r2 => ?_
        cases r1
        cases r2
        cases e2 : vaP i π2 with
        | ok p1 π3 =>
          obtain ⟨rfl, w', ew'⟩ := vaP_ok e2
          obtain ⟨d2, e3, r3⟩ := nx2.fr.va ew'
          rw [e1] at e3
          cases e3
          refine .orB fun q e => ?_
          obtain ⟨v, S', e1, n1⟩ := sli_pu nx2.fr.al r3 e
          exact .nw nx2.fr e1 n1
        | exc c v π1 => unfold vaP at e2; split at e2 <;> cases e2
        | bad => trivial
      | exc c v π1 => unfold vaP at e; split at e <;> cases e
      | bad => trivial
    · refine (sE k x h).bind fun d p π0 S0 O0 nx r => ?_
      refine (sO k lo nx.fr).bind fun l l' π1 S1 O1 nx1 r1 => ?_
      refine (sO k hi nx1.fr).bind fun g g' π2 S2 O2 nx2 r2 => ?_
      cases r1
      cases r2
      refine .orB fun q e => ?_
      obtain ⟨v, S', e1, n1⟩ := sli_pu nx2.fr.al (Rd.rt (nx2.rds (nx1.rds r))) e
      exact .nw nx2.fr e1 n1
  | .rev x, b, M, A, O, σ, π, S, h => by
    rw [evE, pE]
    refine (pk_ag h fun f => sE k x f).bind fun d p π1 S1 O1 nx r => ?_
    refine .orB fun q e => ?_
    obtain ⟨v, S', e1, n1⟩ := rev_pu nx.fr.al r e
    exact .nw nx.fr e1 n1
  | .call f es, b, M, A, O, σ, π, S, h => by
    rw [evE, pE]
    by_cases c : U.io f = true
    · rw [if_pos c]
      split
      · next i fi =>
        by_cases q : ownQ i π = true
        · rw [if_pos q]
          obtain ⟨n, en⟩ := ownQ_some h q
          cases es with
          | nil => cases fi
          | cons e r =>
            obtain rfl := isVar_some (show isVar e = some i from fi)
            rw [evEs, evE, varD_some en, pEt]
            show Ag b M A O σ S Rd (((evEs V r σ S).bind fun ds S2 => .ok (.ref n :: ds) S2).bind fun ds S1 => V.call f ds S1) _
            have bb : ((evEs V r σ S).bind fun ds S2 => Res.ok (D.ref n :: ds) S2).bind (fun ds S1 => V.call f ds S1) = (evEs V r σ S).bind fun ds S1 => V.call f (.ref n :: ds) S1 := by cases evEs V r σ S <;> rfl
            rw [bb]
            refine (sEs k r h).bind fun ds ps π1 S1 O1 nx r => ?_
            exact io_ag nx.fr k c en r
        · rw [if_neg q]; trivial
      · trivial
    · rw [if_neg c]
      refine (sEs k es h).bind fun ds ps π1 S1 O1 nx r => ?_
      exact call_ag nx.fr k c r
  | .callK f es ks pm, b, M, A, O, σ, π, S, h => by
    rw [evE, pE]
    by_cases c : U.io f = true
    · rw [if_pos c]; trivial
    · rw [if_neg c]
      refine (sEs k es h).bind fun ds ps π1 S1 O1 nx r => ?_
      refine (sEs k ks nx.fr).bind fun ds2 ps2 π2 S2 O2 nx2 r2 => ?_
      cases e : permP (ps ++ ps2) pm with
      | none => trivial
      | some qs =>
        obtain ⟨ws, e1, r3⟩ := perm_pu ((nx2.rds r).append r2) e
        rw [e1]
        exact call_ag nx2.fr k c r3
  | .bi o es, b, M, A, O, σ, π, S, h => by
    rw [evE, pE]
    refine (sEk k es h).bind fun ds ps π1 S1 O1 nx r => ?_
    refine .orB fun q e => ?_
    obtain ⟨v, e1, n1, _⟩ := bi_pu r e
    rw [e1]
    exact .okk nx.fr n1
  | .bl o l, b, M, A, O, σ, π, S, h => by
    rw [evE, pE]
    refine (sL k l h).bind fun z w π1 S1 O1 nx r => ?_
    refine .orB fun q e => ?_
    obtain ⟨v, S', e1, n1⟩ := bl_pu nx.fr.al r.1 r.2.1 e
    exact .nw nx.fr e1 n1
  | .isi x T, b, M, A, O, σ, π, S, h => by
    rw [evE, pE]
    refine (pk_ag h fun f => sE k x f).bind fun d p π1 S1 O1 nx r => ?_
    refine .orB fun q e => ?_
    cases e2 : isiP U.sub p T with
    | none => rw [e2] at e; cases e
    | some c =>
      rw [e2] at e
      cases e
      rw [k.sub] at e2
      rw [isi_pu r e2]
      exact .okk nx.fr (.bl .nil)
  | .isT x Ts, b, M, A, O, σ, π, S, h => by
    rw [evE, pE]
    refine (pk_ag h fun f => sE k x f).bind fun d p π1 S1 O1 nx r => ?_
    refine .orB fun q e => ?_
    cases e2 : isTP U.sub p Ts with
    | none => rw [e2] at e; cases e
    | some c =>
      rw [e2] at e
      cases e
      rw [k.sub] at e2
      rw [isT_pu r e2]
      exact .okk nx.fr (.bl .nil)
  | .fld x f, b, M, A, O, σ, π, S, h => by
    rw [evE, pE]
    refine (pk_ag h fun f => sE k x f).bind fun d p π1 S1 O1 nx r => ?_
    refine .orB fun q e => ?_
    obtain ⟨v, e1, n1⟩ := fld_pu r e
    rw [e1]
    exact .okk nx.fr n1
  | .meth c m x es, b, M, A, O, σ, π, S, h => by
    rw [evE, pE]
    by_cases ci : U.io m = true
    · rw [if_pos ci]; trivial
    · rw [if_neg ci]
      refine (sE k x h).bind fun d p π1 S1 O1 nx r => ?_
      cases p with
      | ins c' fs =>
        obtain ⟨n, gs, rfl, nA, e, kk, rr⟩ := (Rd.rt r).ins
        dsimp only
        rw [e]
        dsimp only
        by_cases cc : c' = c
        · rw [if_pos cc, if_pos cc]
          refine (sEs k es nx.fr).bind fun ds ps π2 S2 O2 nx2 r2 => ?_
          exact call_ag nx2.fr k ci ((nx2.rds r).cons r2)
        · rw [if_neg cc, if_neg cc]; trivial
      | _ => trivial
  | .make c es, b, M, A, O, σ, π, S, h => by
    rw [evE, pE]
    refine (sEs k es h).bind fun ds ps π1 S1 O1 nx r => ?_
    split
    · next p fr e =>
      obtain ⟨S', e1, s1, r1⟩ := k.make c nx.fr.al r e
      rw [e1]
      exact ⟨_, S', O1, rfl, nx.fr.same s1, r1⟩
    · trivial
  | .app _ _, b, M, A, O, σ, π, S, h => by rw [pE]; trivial
  | .ext _ _, b, M, A, O, σ, π, S, h => by rw [pE]; trivial
  | .dct ks es, b, M, A, O, σ, π, S, h => by
    rw [evE, pE]
    refine (sEs k es h).bind fun ds ps π1 S1 O1 nx r => ?_
    by_cases c : ps.length = ks.length ∧ ks.Nodup ∧ ks.length ≤ 15
    · rw [if_pos c, if_pos (by rw [r.len]; exact c)]
      have l1 : (ks.zip ds).map (·.1) = ks := List.map_fst_zip (by rw [r.len, c.1]; exact Nat.le_refl _)
      have l2 : (ks.zip ps).map (·.1) = ks := List.map_fst_zip (by rw [c.1]; exact Nat.le_refl _)
      have l3 : (ks.zip ds).map (·.2) = ds := List.map_snd_zip (by rw [r.len, c.1]; exact Nat.le_refl _)
      have l4 : (ks.zip ps).map (·.2) = ps := List.map_snd_zip (by rw [c.1]; exact Nat.le_refl _)
      refine .new nx.fr Pre.push (.dct (fun z => Nat.lt_irrefl _ (nx.fr.al _ z)) at_new0 (l1.trans l2.symm) ?_ .nil)
      rw [l3, l4]
      exact r.pre Pre.push
    · rw [if_neg c]; trivial
  | .exv c x, b, M, A, O, σ, π, S, h => by
    rw [evE, pE]
    refine (sE k x h).bind fun d p π1 S1 O1 nx r => ?_
    exact .new nx.fr Pre.push (.exc (fun z => Nat.lt_irrefl _ (nx.fr.al _ z)) at_new0 (r.pre Pre.push) .nil)
theorem sEs (k : EvOk V U) : ∀ (e : Es) {b : Nat} {M A O : Av} {σ : Sl} {π : Pl} {S : Sto}, Fr b M A O σ π S → Ag b M A O σ S Rds (evEs V e σ S) (pEs U e π)
  | .nil, b, M, A, O, σ, π, S, h => by
    rw [evEs, pEs]
    exact .okk h .nil
  | .cons e es, b, M, A, O, σ, π, S, h => by
    rw [evEs, pEs]
    refine (sE k e h).bind fun d p π1 S1 O1 nx r => ?_
    refine (sEs k es nx.fr).bind fun ds ps π2 S2 O2 nx2 r2 => ?_
    exact .okk nx2.fr ((nx2.rds r).cons r2)
theorem sEk (k : EvOk V U) : ∀ (e : Es) {b : Nat} {M A O : Av} {σ : Sl} {π : Pl} {S : Sto}, Fr b M A O σ π S → Ag b M A O σ S Rts (evEs V e σ S) (pEk U e π)
  | .nil, b, M, A, O, σ, π, S, h => by
    rw [evEs, pEk]
    exact .okk h .nil
  | .cons e es, b, M, A, O, σ, π, S, h => by
    rw [evEs, pEk]
    cases es with
    | nil =>
      show Ag b M A O σ S Rts _ ((pkW e (pE U e) π).bind _)
      refine (pk_ag h fun f => sE k e f).bind fun d p π1 S1 O1 nx r => ?_
      rw [evEs, pEk]
      exact .okk nx.fr (.cons r .nil)
    | cons e2 r2 =>
      show Ag b M A O σ S Rts _ ((pE U e π).bind _)
      refine (sE k e h).bind fun d p π1 S1 O1 nx r => ?_
      refine (sEk k (.cons e2 r2) nx.fr).bind fun ds ps π2 S2 O2 nx2 r2 => ?_
      exact .okk nx2.fr (.cons (Rd.rt (nx2.rds r)) r2)
theorem sO (k : EvOk V U) : ∀ (e : Oe) {b : Nat} {M A O : Av} {σ : Sl} {π : Pl} {S : Sto}, Fr b M A O σ π S → Ag b M A O σ S RI (evO V e σ S) (pO U e π)
  | .no, b, M, A, O, σ, π, S, h => by
    rw [evO, pO]
    exact .okk h rfl
  | .yes e, b, M, A, O, σ, π, S, h => by
    rw [evO, pO]
    refine (sE k e h).bind fun d p π1 S1 O1 nx r => ?_
    cases p with
    | int i => rw [(Rd.rt r).int]; exact .okk nx.fr rfl
    | _ => trivial
theorem sT (k : EvOk V U) : ∀ (e : Es) {b : Nat} {M A O : Av} {σ : Sl} {π : Pl} {S : Sto}, Fr b M A O σ π S → Ag b M A O σ S RB (evT V e σ S) (pT U e π)
  | .nil, b, M, A, O, σ, π, S, h => by
    rw [evT, pT]
    exact .okk h rfl
  | .cons e es, b, M, A, O, σ, π, S, h => by
    rw [evT, pT]
    refine (sE k e h).bind fun d p π1 S1 O1 nx r => ?_
    cases p with
    | bl c =>
      rw [(Rd.rt r).bl]
      cases c with
      | true => exact sT k es nx.fr
      | false => exact .okk nx.fr rfl
    | _ => trivial
theorem sL (k : EvOk V U) : ∀ (l : L) {b : Nat} {M A O : Av} {σ : Sl} {π : Pl} {S : Sto}, Fr b M A O σ π S → Ag b M A O σ S (fun A S z w => RL l A S z w) (evL V l σ S) (pL U l π)
  | .disp es, b, M, A, O, σ, π, S, h => by
    rw [evL, pL]
    refine (sEs k es h).bind fun ds ps π1 S1 O1 nx r => ?_
    by_cases c : ps.length ≤ sizeLine
    · rw [if_pos c, if_pos (by rw [r.len]; exact c)]
      exact .okk nx.fr ⟨r, trivial, fun _ n o x => by cases x⟩
    · rw [if_neg c]; trivial
  | .of e, b, M, A, O, σ, π, S, h => by
    rw [evL, pL]
    cases z : isVar e with
    | some i =>
      refine (pk_ag h fun f => sE k e f).bind fun d p π1 S1 O1 nx r => ?_
      refine .orB fun q eq => ?_
      obtain ⟨ds, s, e1, r1, r2, r3, r4⟩ := src_pu (xs := q.1) (z := q.2) r eq
      rw [e1]
      refine .okk nx.fr ⟨r1, r2, fun pk => ?_⟩
      rw [isVar_some z] at pk
      cases pk
    | none =>
      have pw : pkW e (pE U e) π = pE U e π := by unfold pkW; rw [z]
      rw [pw]
      refine (sE k e h).bind fun d p π1 S1 O1 nx r => ?_
      refine .orB fun q eq => ?_
      obtain ⟨ds, s, e1, r1, r2, r3, r4⟩ := src_pu (xs := q.1) (z := q.2) (Rd.rt r) eq
      rw [e1]
      exact .okk nx.fr ⟨r1, r2, fun _ => r3 r⟩
  | .rng1 x, b, M, A, O, σ, π, S, h => by
    rw [evL, pL]
    refine (sE k x h).bind fun d p π1 S1 O1 nx r => ?_
    refine .orB fun q eq => ?_
    obtain ⟨ds, s, e1, r1, r2, r3⟩ := rng_pu (xs := q.1) (z := q.2) (Rd.rt (.int .nil : Rd (Aw A O1) S1 (.int 0) (.int 0))) (Rd.rt r) eq
    rw [e1]
    exact .okk nx.fr ⟨r1, r2, fun _ n o x => absurd x (r3 n o)⟩
  | .rng2 x y, b, M, A, O, σ, π, S, h => by
    rw [evL, pL]
    refine (sE k x h).bind fun d p π1 S1 O1 nx r => ?_
    refine (sE k y nx.fr).bind fun d2 p2 π2 S2 O2 nx2 r2 => ?_
    refine .orB fun q eq => ?_
    obtain ⟨ds, s, e1, r1, r2, r3⟩ := rng_pu (xs := q.1) (z := q.2) (Rd.rt (nx2.rds r)) (Rd.rt r2) eq
    rw [e1]
    exact .okk nx2.fr ⟨r1, r2, fun _ n o x => absurd x (r3 n o)⟩
  | .comp own tg src ifs elt, b, M, A, O, σ, π, S, h => by
    rw [evL, pL]
    cases src with
    | of e =>
      cases z : isVar e with
      | some i =>
        obtain rfl := isVar_some z
        rw [evL, pL]
        have pw : pkW (.var i) (pE U (.var i)) π = vaP i π := rfl
        rw [pw, evE]
        cases e2 : vaP i π with
        | ok p1 π3 =>
          obtain ⟨rfl, w', ew'⟩ := vaP_ok e2
          obtain ⟨d, e3, r3⟩ := h.va ew'
          rw [varD_some e3]
          show Ag b M A O σ S _ ((srcD d S).bind _) ((orB (srcP p1) _).bind _)
          cases e4 : srcP p1 with
          | none => trivial
          | some q =>
            obtain ⟨ds, s, e1, r1, r2, r5, r4⟩ := src_pu (xs := q.1) (z := q.2) r3 e4
            rw [e1]
            show Ag b M A O σ S _ ((compGo s (turnC V own tg ifs elt σ) ds [] S).bind _) (if tgOk tg own = true ∧ freeP own _ = true then _ else .bad)
            refine compL_ag (z := (ds, s)) (w := q) h r1 r2 ?_ (fun f => sT k ifs f) (fun f => sE k elt f)
            cases w' with
            | true =>
              obtain ⟨n, xs, qs, f0, f1, fo, f2, f3⟩ := h.ow ew'
              refine Or.inr ⟨i, n, p1, rfl, ew', f1, fun m o x => ?_⟩
              have y := r4 m o x
              rw [e3] at f1
              cases f1
              cases y
              rfl
            | false =>
              obtain ⟨d2, f1, f2⟩ := h.sh ew'
              rw [e3] at f1
              cases f1
              refine Or.inl ⟨fun n o x y => r5 f2 n o x (Or.inr y), hidOf_no fun j p x y => ?_⟩
              cases x
              rw [ew'] at y
              cases y
        | exc c v π1 => unfold vaP at e2; split at e2 <;> cases e2
        | bad => trivial
      | none =>
        refine (sL k (.of e) h).bind fun z1 w π1 S1 O1 nx r => ?_
        have pk : peekQ (.of e) = false := by cases e <;> first | rfl | cases z
        refine compL_ag nx.fr r.1 r.2.1 (Or.inl ⟨fun n o x y => r.2.2 pk n o x (Or.inr y), hidOf_no fun j p x _ => ?_⟩) (fun f => sT k ifs f) (fun f => sE k elt f)
        cases x
        cases z
    | disp es =>
      refine (sL k (.disp es) h).bind fun z1 w π1 S1 O1 nx r => ?_
      exact compL_ag nx.fr r.1 r.2.1 (Or.inl ⟨fun n o x y => r.2.2 rfl n o x (Or.inr y), rfl⟩) (fun f => sT k ifs f) (fun f => sE k elt f)
    | rng1 x =>
      refine (sL k (.rng1 x) h).bind fun z1 w π1 S1 O1 nx r => ?_
      exact compL_ag nx.fr r.1 r.2.1 (Or.inl ⟨fun n o x y => r.2.2 rfl n o x (Or.inr y), rfl⟩) (fun f => sT k ifs f) (fun f => sE k elt f)
    | rng2 x y =>
      refine (sL k (.rng2 x y) h).bind fun z1 w π1 S1 O1 nx r => ?_
      exact compL_ag nx.fr r.1 r.2.1 (Or.inl ⟨fun n o x y => r.2.2 rfl n o x (Or.inr y), rfl⟩) (fun f => sT k ifs f) (fun f => sE k elt f)
    | comp o2 t2 s2 i2 e2 =>
      refine (sL k (.comp o2 t2 s2 i2 e2) h).bind fun z1 w π1 S1 O1 nx r => ?_
      exact compL_ag nx.fr r.1 r.2.1 (Or.inl ⟨fun n o x y => r.2.2 rfl n o x (Or.inr y), rfl⟩) (fun f => sT k ifs f) (fun f => sE k elt f)
end
end
end Py
end
section
set_option linter.all false
set_option maxRecDepth 100000
/-! PuH: all statements say the same. -/
namespace Py
open PySem
def Au (O : Av) (n : Nat) : Av := fun m => O m ∨ m = n
structure Nz (b : Nat) (M A O O' : Av) (σ' : Sl) (π' : Pl) (S S' : Sto) : Prop where
  le : ∀ {n}, O' n → O n ∨ S.length ≤ n
  fr : Fr b M A O' σ' π' S'
  ch : Ch O S S'
section
variable {b : Nat} {M A O O' : Av} {σ σ' : Sl} {π π' : Pl} {S S' : Sto} {V : Ev} {U : PV}
theorem Nx.nz (h : Nx b M A O O' σ π' S S') : Nz b M A O O' σ π' S S' := ⟨fun z => Or.inl (h.le z), h.fr, h.ch⟩
theorem Fr.nz (h : Fr b M A O σ π S) : Nz b M A O O σ π S S := h.self.nz
theorem Nz.trans {O'' : Av} {σ'' : Sl} {π'' : Pl} {S'' : Sto} (h : Nz b M A O O' σ' π' S S') (h' : Nz b M A O' O'' σ'' π'' S' S'') : Nz b M A O O'' σ'' π'' S S'' :=
  ⟨fun z => (h'.le z).elim h.le fun y => Or.inr (Nat.le_trans h.ch.1 y), h'.fr, ⟨Nat.le_trans h.ch.1 h'.ch.1, fun n hn k => (h'.ch.2 n (Nat.lt_of_lt_of_le hn h.ch.1) fun z => (h.le z).elim k fun y => by omega).trans (h.ch.2 n hn k)⟩⟩
theorem Nz.rds (h : Nz b M A O O' σ' π' S S') {ds : List D} {ps : List P} (r : Rds (Aw A O) S ds ps) : Rds (Aw A O') S' ds ps := by
  have r1 : Rds (fun n => Aw A O n ∨ Aw A O' n) S ds ps := r.away fun n hn k => k.elim id fun z => z.elim Or.inl fun y => (h.le y).elim Or.inr fun u => by omega
  exact (r1.sto fun n hn k => h.ch.2 n hn fun z => k (Or.inl (Or.inr z))).mono fun n z => Or.inr z
/-! ### new lists -/
theorem Fr.grow (h : Fr b M A O σ π S) {o : Ob} : Fr b M A (Au O S.length) σ π (S ++ [o]) := by
  have aw : ∀ n, n < S.length → Aw A (Au O S.length) n → Aw A O n := fun n hn z => z.elim Or.inl fun y => y.elim Or.inr fun u => by omega
  refine ⟨h.len, fun e => ?_, fun e => ?_, h.inj, fun z => ?_, fun z => ?_, fun z w => ?_, ?_, h.z0⟩
  · obtain ⟨d, d1, d2⟩ := h.sh e
    exact ⟨d, d1, (d2.away aw).pre Pre.push⟩
  · obtain ⟨n, xs, qs, e0, e1, o, e2, r⟩ := h.ow e
    exact ⟨n, xs, qs, e0, e1, Or.inl o, Pre.push.get e2, (r.away aw).pre Pre.push⟩
  · rw [List.length_append]
    rcases z with z | rfl
    · have := h.lo z
      exact ⟨by omega, this.2⟩
    · exact ⟨by simp, Or.inl h.bs⟩
  · rw [List.length_append]
    have := h.la z
    omega
  · rcases w with w | rfl
    · exact h.dj z w
    · have := h.la z
      omega
  · rw [List.length_append]
    have := h.bs
    omega
/-- a value, and if it is a list: a new one -/
def AgN (b : Nat) (M A O : Av) (σ : Sl) (S : Sto) (r : Res D) (q : PR P) : Prop := match q with
  | .ok p π' => ∃ d S' O', r = .ok d S' ∧ Nx b M A O O' σ π' S S' ∧ Rd (Aw A O') S' d p ∧ (isLstP p = true → ∃ n, S.length ≤ n ∧ Own1 (Aw A O') S' d p n ∧ Fr b M A (Au O' n) σ π' S')
  | .exc c v π' => ∃ d S' O', r = .exc c d S' ∧ Nx b M A O O' σ π' S S' ∧ Rx (Aw A O') S S' d v
  | .bad => True
theorem Ag.bindN {α β : Type} {R : Av → Sto → α → β → Prop} {r : Res α} {q : PR β} {f : α → Sto → Res D} {g : β → Pl → PR P} (h : Ag b M A O σ S R r q)
    (k : ∀ d p π' S' O', Nx b M A O O' σ π' S S' → R (Aw A O') S' d p → AgN b M A O' σ S' (f d S') (g p π')) : AgN b M A O σ S (r.bind f) (q.bind g) := by
  cases q with
  | ok p π' =>
    obtain ⟨d, S', O', rfl, n, rr⟩ := h
    have z := k d p π' S' O' n rr
    show AgN b M A O σ S (f d S') (g p π')
    unfold AgN at z ⊢
    split at z
    · obtain ⟨d2, S2, O2, e, n2, r2, w⟩ := z
      refine ⟨d2, S2, O2, e, n.trans n2, r2, fun y => ?_⟩
      obtain ⟨m, m1, m2⟩ := w y
      exact ⟨m, Nat.le_trans n.ch.1 m1, m2⟩
    · obtain ⟨d2, S2, O2, e, n2, r2⟩ := z
      exact ⟨d2, S2, O2, e, n.trans n2, r2.up n.ch.1⟩
    · trivial
  | exc c v π' =>
    obtain ⟨d, S', O', rfl, n, rr⟩ := h
    exact ⟨d, S', O', rfl, n, rr⟩
  | bad => trivial
theorem AgN.nw {r : Res D} {q : P} {d : D} (h : Fr b M A O σ π S) (e : r = .ok d S') (x : Nw (Aw A O) S d S' q) : AgN b M A O σ S r (.ok q π) := by
  refine ⟨d, S', O, e, h.nx x.1, x.2.1, fun l => ?_⟩
  cases q with
  | lst qs =>
    obtain ⟨xs, rfl, rfl, r⟩ := x.2.2 qs rfl
    refine ⟨S.length, Nat.le_refl _, ⟨xs, qs, rfl, rfl, at_new0, fun z => Nat.lt_irrefl _ (h.al _ z), (r.away fun n hn z => z.elim id fun y => by omega).pre Pre.push⟩, h.grow⟩
  | _ => cases l
theorem AgN.orB {r : Res D} {o : Option P} (k : ∀ p, o = some p → AgN b M A O σ S r (.ok p π)) : AgN b M A O σ S r (orB o π) := by
  cases o with
  | none => trivial
  | some p => exact k p rfl
theorem sN (k : EvOk V U) (e : E) (hn : newE e = true) (h : Fr b M A O σ π S) : AgN b M A O σ S (evE V e σ S) (pE U e π) := by
  cases e with
  | mk l =>
    rw [evE, pE]
    refine (sL k l h).bindN fun z w π1 S1 O1 nx r => ?_
    obtain ⟨ds, s⟩ := z
    obtain ⟨ps, t⟩ := w
    cases t with
    | fresh =>
      cases s with
      | fresh => exact .nw nx.fr rfl (.lst nx.fr.al r.1)
      | _ => exact r.2.1.elim
    | _ => trivial
  | bin op x y =>
    rw [evE, pE, bind2]
    refine (pk2_ag h (fun f => sE k x f) (fun f => sE k y f)).bindN fun z w π1 S1 O1 nx r => ?_
    refine .orB fun q e => ?_
    obtain ⟨v, S', e1, n1⟩ := bin_pu nx.fr.al r.1 r.2 e
    exact .nw nx.fr e1 n1
  | sli x lo hi =>
    rw [evE, pE]
    split
    · next i z =>
      rw [isVar_some z]
      cases e : vaP i π with
      | ok p0 π0 =>
        obtain ⟨rfl, w, ew⟩ := vaP_ok e
        obtain ⟨d, e1, r⟩ := h.va ew
        rw [evE, varD_some e1]
        show AgN b M A O σ S ((evO V lo σ S).bind _) ((pO U lo _).bind _)
        refine (sO k lo h).bindN fun l l' π1 S1 O1 nx1 r1 => ?_
        refine (sO k hi nx1.fr).bindN fun g g' π2 S2 O2 nx2 r2 => ?_
        cases r1
        cases r2
        cases e2 : vaP i π2 with
        | ok p1 π3 =>
          obtain ⟨rfl, w', ew'⟩ := vaP_ok e2
          obtain ⟨d2, e3, r3⟩ := nx2.fr.va ew'
          rw [e1] at e3
          cases e3
          refine .orB fun q e => ?_
          obtain ⟨v, S', e1, n1⟩ := sli_pu nx2.fr.al r3 e
          exact .nw nx2.fr e1 n1
        | exc c v π1 => unfold vaP at e2; split at e2 <;> cases e2
        | bad => trivial
      | exc c v π1 => unfold vaP at e; split at e <;> cases e
      | bad => trivial
    · refine (sE k x h).bindN fun d p π0 S0 O0 nx r => ?_
      refine (sO k lo nx.fr).bindN fun l l' π1 S1 O1 nx1 r1 => ?_
      refine (sO k hi nx1.fr).bindN fun g g' π2 S2 O2 nx2 r2 => ?_
      cases r1
      cases r2
      refine .orB fun q e => ?_
      obtain ⟨v, S', e1, n1⟩ := sli_pu nx2.fr.al (Rd.rt (nx2.rds (nx1.rds r))) e
      exact .nw nx2.fr e1 n1
  | rev x =>
    rw [evE, pE]
    refine (pk_ag h fun f => sE k x f).bindN fun d p π1 S1 O1 nx r => ?_
    refine .orB fun q e => ?_
    obtain ⟨v, S', e1, n1⟩ := rev_pu nx.fr.al r e
    exact .nw nx.fr e1 n1
  | bl o l =>
    rw [evE, pE]
    refine (sL k l h).bindN fun z w π1 S1 O1 nx r => ?_
    refine .orB fun q e => ?_
    obtain ⟨v, S', e1, n1⟩ := bl_pu nx.fr.al r.1 r.2.1 e
    exact .nw nx.fr e1 n1
  | _ => cases hn
def AgF (b : Nat) (M A O : Av) (σ : Sl) (S : Sto) (r : Res D) (q : PR (P × Bool)) : Prop := match q with
  | .ok z π' => ∃ d S' O', r = .ok d S' ∧ Nx b M A O O' σ π' S S' ∧ Rd (Aw A O') S' d z.1 ∧ (z.2 = true → ∃ n, S.length ≤ n ∧ Own1 (Aw A O') S' d z.1 n ∧ Fr b M A (Au O' n) σ π' S')
  | .exc c v π' => ∃ d S' O', r = .exc c d S' ∧ Nx b M A O O' σ π' S S' ∧ Rx (Aw A O') S S' d v
  | .bad => True
theorem Ag.bindF {α β : Type} {R : Av → Sto → α → β → Prop} {r : Res α} {q : PR β} {f : α → Sto → Res D} {g : β → Pl → PR (P × Bool)} (h : Ag b M A O σ S R r q)
    (k : ∀ d p π' S' O', Nx b M A O O' σ π' S S' → R (Aw A O') S' d p → AgF b M A O' σ S' (f d S') (g p π')) : AgF b M A O σ S (r.bind f) (q.bind g) := by
  cases q with
  | ok p π' =>
    obtain ⟨d, S', O', rfl, n, rr⟩ := h
    have z := k d p π' S' O' n rr
    show AgF b M A O σ S (f d S') (g p π')
    unfold AgF at z ⊢
    split at z
    · obtain ⟨d2, S2, O2, e, n2, r2, w⟩ := z
      refine ⟨d2, S2, O2, e, n.trans n2, r2, fun y => ?_⟩
      obtain ⟨m, m1, m2⟩ := w y
      exact ⟨m, Nat.le_trans n.ch.1 m1, m2⟩
    · obtain ⟨d2, S2, O2, e, n2, r2⟩ := z
      exact ⟨d2, S2, O2, e, n.trans n2, r2.up n.ch.1⟩
    · trivial
  | exc c v π' =>
    obtain ⟨d, S', O', rfl, n, rr⟩ := h
    exact ⟨d, S', O', rfl, n, rr⟩
  | bad => trivial
theorem Ag.no {r : Res D} {q : PR P} (h : Ag b M A O σ S Rd r q) : AgF b M A O σ S r (q.bind fun p π1 => .ok (p, false) π1) := by
  cases q with
  | ok p π' =>
    obtain ⟨d, S', O', e, n, rr⟩ := h
    exact ⟨d, S', O', e, n, rr, fun z => by cases z⟩
  | exc c v π' => exact h
  | bad => trivial
theorem AgN.f {r : Res D} {q : PR P} (h : AgN b M A O σ S r q) : AgF b M A O σ S r (q.bind fun p π1 => .ok (p, true && isLstP p) π1) := by
  cases q with
  | ok p π' =>
    obtain ⟨d, S', O', e, n, rr, w⟩ := h
    exact ⟨d, S', O', e, n, rr, fun z => w (by simpa using z)⟩
  | exc c v π' => exact h
  | bad => trivial
/-- the frame keeps away from an old store's new object -/
theorem Fr.away (h : Fr b M A O σ π S) (s1 : Same1 none S S') {n : Nat} (hn : S.length ≤ n) (hn2 : n < S'.length) : Fr b M A (Au O n) σ π S' := by
  have aw : ∀ m, m < S.length → Aw A (Au O n) m → Aw A O m := fun m hm z => z.elim Or.inl fun y => y.elim Or.inr fun u => by omega
  have st : ∀ m, m < S.length → ¬ Aw A (Au O n) m → S'[m]? = S[m]? := fun m hm _ => s1.2 m hm (by simp)
  refine ⟨h.len, fun e => ?_, fun e => ?_, h.inj, fun z => ?_, fun z => Nat.lt_of_lt_of_le (h.la z) s1.1, fun z w => ?_, Nat.le_trans h.bs s1.1, h.z0⟩
  · obtain ⟨d, d1, d2⟩ := h.sh e
    exact ⟨d, d1, (d2.away aw).sto st⟩
  · obtain ⟨m, xs, qs, e0, e1, o, e2, r⟩ := h.ow e
    exact ⟨m, xs, qs, e0, e1, Or.inl o, (s1.2 m (lt_of_get e2) (by simp)).trans e2, (r.away aw).sto st⟩
  · rcases z with z | rfl
    · exact ⟨Nat.lt_of_lt_of_le (h.lo z).1 s1.1, (h.lo z).2⟩
    · exact ⟨hn2, Or.inl (Nat.le_trans h.bs hn)⟩
  · rcases w with w | rfl
    · exact h.dj z w
    · have := h.la z
      omega
theorem callF_ag {f : Nat} (h : Fr b M A O σ π S) (k : EvOk V U) (hf : ¬ U.io f = true) {ds : List D} {ps : List P} (r : Rds (Aw A O) S ds ps) : AgF b M A O σ S (V.call f ds S) (callF U f ps π) := by
  have z := (k.call f).no (by simpa using hf) h.al r
  unfold callF
  cases e : U.call f ps with
  | ok p fr io =>
    rw [e] at z
    obtain ⟨d, S', e1, s1, r1, w⟩ := z
    cases io with
    | none =>
      refine ⟨d, S', O, e1, h.same s1, r1, fun y => ?_⟩
      obtain ⟨n, n1, n2⟩ := w y
      obtain ⟨xs, qs, rfl, e3, e4, n3, n4⟩ := n2
      exact ⟨n, n1, ⟨xs, qs, rfl, e3, e4, n3, n4⟩, h.away s1 n1 (lt_of_get e4)⟩
    | some qs => trivial
  | exc c v =>
    rw [e] at z
    obtain ⟨_, d, S', e1, s1, r1⟩ := z
    exact ⟨d, S', O, e1, h.same s1, r1⟩
  | bad => trivial
theorem ioF_ag {f i : Nat} (h : Fr b M A O σ π S) (k : EvOk V U) (hf : U.io f = true) {n : Nat} (hi : σ[i]? = some (some (.ref n))) {ds : List D} {ps : List P} (r : Rds (Aw A O) S ds ps) : AgF b M A O σ S (V.call f (.ref n :: ds) S) (ioF U f i ps π) := by
  unfold ioF
  split
  · next qs e =>
    obtain ⟨m, xs, qs', e0, e1, o, e2, rr⟩ := h.ow e
    cases e0
    rw [hi] at e1
    cases e1
    have z := (k.call f).yes hf h.al (Or.inr o) e2 rr r
    cases e3 : U.call f (.lst qs :: ps) with
    | ok p fr io =>
      rw [e3] at z
      obtain ⟨d, S', e4, s1, r1, w⟩ := z
      cases io with
      | none => trivial
      | some qs' =>
        obtain ⟨xs', x1, x2, x3⟩ := w
        have up := h.upd e hi ⟨s1.1, fun m hm hn => s1.2 m hm (by simpa using hn)⟩ x1 x2
        refine ⟨d, S', O, e4, up, r1, fun y => ?_⟩
        obtain ⟨j, j1, j2, j3⟩ := x3 y
        obtain ⟨ys, ts, rfl, y1, y2, y3, y4⟩ := j2
        refine ⟨j, j1, ⟨ys, ts, rfl, y1, y2, y3, y4⟩, ?_⟩
        -- the frame keeps away from j
        have aw : ∀ m, m < S.length → Aw A (Au O j) m → Aw A O m := fun m hm z => z.elim Or.inl fun y => y.elim Or.inr fun u => by omega
        have st : ∀ m, m < S.length → ¬ Aw A (Au O j) m → S'[m]? = S[m]? := fun m hm z => s1.2 m hm fun u => by
          cases u
          exact z (Or.inr (Or.inl o))
        have cr : ∀ {ds ps}, Rds (Aw A O) S ds ps → Rds (Aw A (Au O j)) S' ds ps := fun r => (r.away aw).sto st
        refine ⟨up.fr.len, fun {l q} ej => ?_, fun {l q} ej => ?_, up.fr.inj, fun z => ?_, up.fr.la, fun z w => ?_, up.fr.bs, up.fr.z0⟩
        · rcases getElem?_set_cases ej with ⟨rfl, w, _⟩ | ⟨_, w⟩
          · cases w
          · obtain ⟨d, d1, d2⟩ := h.sh w
            exact ⟨d, d1, cr d2⟩
        · rcases getElem?_set_cases ej with ⟨rfl, w, _⟩ | ⟨ne, w⟩
          · cases w
            exact ⟨n, xs', qs', rfl, hi, Or.inl o, x1, j3.mono fun m z => z.elim (fun u => Or.inl (Or.inl u)) fun u => u.elim (fun v => Or.inl (Or.inr v)) Or.inr⟩
          · obtain ⟨m, zs, rs, f0, f1, fo, f2, fr⟩ := h.ow w
            have nm : m ≠ n := fun z => by subst z; exact ne (h.inj e w hi f1)
            exact ⟨m, zs, rs, f0, f1, Or.inl fo, (s1.2 m (lt_of_get f2) (by simpa using nm)).trans f2, cr fr⟩
        · rcases z with z | rfl
          · exact up.fr.lo z
          · exact ⟨lt_of_get y2, Or.inl (Nat.le_trans h.bs j1)⟩
        · rcases w with w | rfl
          · exact h.dj z w
          · have := h.la z
            omega
    | exc c v => trivial
    | bad => trivial
  · trivial
theorem sF (k : EvOk V U) (e : E) (h : Fr b M A O σ π S) : AgF b M A O σ S (evE V e σ S) (pF U e π) := by
  cases e with
  | call f es =>
    unfold pF
    rw [evE]
    dsimp only
    by_cases c : U.io f = true
    · rw [if_pos c]
      split
      · next i fi =>
        by_cases q : ownQ i π = true
        · rw [if_pos q]
          obtain ⟨n, en⟩ := ownQ_some h q
          cases es with
          | nil => cases fi
          | cons e r =>
            obtain rfl := isVar_some (show isVar e = some i from fi)
            rw [evEs, evE, varD_some en, pEt]
            show AgF b M A O σ S (((evEs V r σ S).bind fun ds S2 => .ok (.ref n :: ds) S2).bind fun ds S1 => V.call f ds S1) _
            have bb : ((evEs V r σ S).bind fun ds S2 => Res.ok (D.ref n :: ds) S2).bind (fun ds S1 => V.call f ds S1) = (evEs V r σ S).bind fun ds S1 => V.call f (.ref n :: ds) S1 := by cases evEs V r σ S <;> rfl
            rw [bb]
            refine (sEs k r h).bindF fun ds ps π1 S1 O1 nx r => ?_
            exact ioF_ag nx.fr k c en r
        · rw [if_neg q]; trivial
      · trivial
    · rw [if_neg c]
      refine (sEs k es h).bindF fun ds ps π1 S1 O1 nx r => ?_
      exact callF_ag nx.fr k c r
  | callK f es ks pm =>
    unfold pF
    rw [evE]
    dsimp only
    by_cases c : U.io f = true
    · rw [if_pos c]; trivial
    · rw [if_neg c]
      refine (sEs k es h).bindF fun ds ps π1 S1 O1 nx r => ?_
      refine (sEs k ks nx.fr).bindF fun ds2 ps2 π2 S2 O2 nx2 r2 => ?_
      cases e : permP (ps ++ ps2) pm with
      | none => trivial
      | some qs =>
        obtain ⟨ws, e1, r3⟩ := perm_pu ((nx2.rds r).append r2) e
        rw [e1]
        exact callF_ag nx2.fr k c r3
  | mk l => exact (sN k (.mk l) rfl h).f
  | bin op x y => exact (sN k (.bin op x y) rfl h).f
  | sli x lo hi => exact (sN k (.sli x lo hi) rfl h).f
  | rev x => exact (sN k (.rev x) rfl h).f
  | bl o l => exact (sN k (.bl o l) rfl h).f
  | var i => exact (sE k (.var i) h).no
  | lit d => exact (sE k (.lit d) h).no
  | gl d => exact (sE k (.gl d) h).no
  | tup d => exact (sE k (.tup d) h).no
  | neg d => exact (sE k (.neg d) h).no
  | cmp o x y => exact (sE k (.cmp o x y) h).no
  | chn o p x y z => exact (sE k (.chn o p x y z) h).no
  | isn x => exact (sE k (.isn x) h).no
  | nsn x => exact (sE k (.nsn x) h).no
  | and_ x y => exact (sE k (.and_ x y) h).no
  | or_ x y => exact (sE k (.or_ x y) h).no
  | not_ x => exact (sE k (.not_ x) h).no
  | ife x y z => exact (sE k (.ife x y z) h).no
  | idx x y => exact (sE k (.idx x y) h).no
  | bi o x => exact (sE k (.bi o x) h).no
  | isi o x => exact (sE k (.isi o x) h).no
  | isT o x => exact (sE k (.isT o x) h).no
  | fld o x => exact (sE k (.fld o x) h).no
  | meth c m x es => exact (sE k (.meth c m x es) h).no
  | make c es => exact (sE k (.make c es) h).no
  | app c es => exact (sE k (.app c es) h).no
  | ext c es => exact (sE k (.ext c es) h).no
  | dct c es => exact (sE k (.dct c es) h).no
  | exv c es => exact (sE k (.exv c es) h).no
/-! ### statements -/
def AgS (b : Nat) (M A O : Av) (S : Sto) (r : Out) (q : PO) : Prop := match q with
  | .nx π' => ∃ σ' S' O', r = .nx σ' S' ∧ Nz b M A O O' σ' π' S S'
  | .brk π' => ∃ σ' S' O', r = .brk σ' S' ∧ Nz b M A O O' σ' π' S S'
  | .cnt π' => ∃ σ' S' O', r = .cnt σ' S' ∧ Nz b M A O O' σ' π' S S'
  | .ret p fr π' => ∃ d σ' S' O', r = .ret d S' ∧ Nz b M A O O' σ' π' S S' ∧ Rd (Aw A O') S' d p ∧ (fr = true → ∃ n, b ≤ n ∧ Own1 (Aw A O') S' d p n ∧ Fr b M A (Au O' n) σ' π' S')
  | .exc c v π' => ∃ d σ' S' O', r = .exc c d σ' S' ∧ Nz b M A O O' σ' π' S S' ∧ Rx (Aw A O') S S' d v
  | .bad => True
theorem AgS.up {O1 : Av} {σ1 : Sl} {π1 : Pl} {S1 : Sto} {r : Out} {q : PO} (n : Nz b M A O O1 σ1 π1 S S1) (h : AgS b M A O1 S1 r q) : AgS b M A O S r q := by
  unfold AgS at h ⊢
  split at h
  · obtain ⟨σ', S', O', e, z⟩ := h; exact ⟨σ', S', O', e, n.trans z⟩
  · obtain ⟨σ', S', O', e, z⟩ := h; exact ⟨σ', S', O', e, n.trans z⟩
  · obtain ⟨σ', S', O', e, z⟩ := h; exact ⟨σ', S', O', e, n.trans z⟩
  · obtain ⟨d, σ', S', O', e, z, w⟩ := h; exact ⟨d, σ', S', O', e, n.trans z, w⟩
  · obtain ⟨d, σ', S', O', e, z, w⟩ := h; exact ⟨d, σ', S', O', e, n.trans z, w.up n.ch.1⟩
  · trivial
theorem Ag.out {α β : Type} {R : Av → Sto → α → β → Prop} {r : Res α} {q : PR β} {f : α → Sto → Out} {g : β → Pl → PO} (h : Ag b M A O σ S R r q)
    (k : ∀ d p π' S' O', Nx b M A O O' σ π' S S' → R (Aw A O') S' d p → AgS b M A O' S' (f d S') (g p π')) : AgS b M A O S (r.out σ f) (q.out g) := by
  cases q with
  | ok p π' =>
    obtain ⟨d, S', O', rfl, n, rr⟩ := h
    exact (k d p π' S' O' n rr).up n.nz
  | exc c v π' =>
    obtain ⟨d, S', O', rfl, n, rr⟩ := h
    exact ⟨d, σ, S', O', rfl, n.nz, rr⟩
  | bad => trivial
theorem AgF.out {r : Res D} {q : PR (P × Bool)} {f : D → Sto → Out} {g : P × Bool → Pl → PO} (h : AgF b M A O σ S r q)
    (k : ∀ d z π' S' O', Nx b M A O O' σ π' S S' → Rd (Aw A O') S' d z.1 → (z.2 = true → ∃ n, S.length ≤ n ∧ Own1 (Aw A O') S' d z.1 n ∧ Fr b M A (Au O' n) σ π' S') → AgS b M A O S (f d S') (g z π')) : AgS b M A O S (r.out σ f) (q.out g) := by
  cases q with
  | ok p π' =>
    obtain ⟨d, S', O', rfl, n, rr, w⟩ := h
    exact k d p π' S' O' n rr w
  | exc c v π' =>
    obtain ⟨d, S', O', rfl, n, rr⟩ := h
    exact ⟨d, σ, S', O', rfl, n.nz, rr⟩
  | bad => trivial
/-- a name is given a list of its own -/
theorem Fr.seto {n : Nat} {xs : List D} {qs : List P} (h : Fr b M A (Au O n) σ π S) (h0 : Fr b M A O σ π S) (hn : ¬ O n) (e : S[n]? = some (.lst xs)) (r : Rds (Aw A (Au O n)) S xs qs) (i : Nat) (hz : i = 0 → ∀ m, ¬ M m) : Fr b M A (Au O n) (σ.set i (some (.ref n))) (π.set i (some (true, .lst qs))) S := by
  have no : ∀ {j : Nat} {p : P}, π[j]? = some (some (true, p)) → σ[j]? ≠ some (some (.ref n)) := fun {j p} ej sj => by
    obtain ⟨m, ys, rs, f0, f1, fo, _⟩ := h0.ow ej
    rw [sj] at f1
    cases f1
    exact hn fo
  refine ⟨by rw [List.length_set, List.length_set]; exact h.len, fun {j q} ej => ?_, fun {j q} ej => ?_, fun {j k q q' m} ej ek sj sk => ?_, h.lo, h.la, h.dj, h.bs, fun hm ez => ?_⟩
  · rcases getElem?_set_cases ej with ⟨rfl, w, hl⟩ | ⟨ne, w⟩
    · cases w
    · obtain ⟨d', d1, d2⟩ := h.sh w
      exact ⟨d', by rw [List.getElem?_set_ne ne]; exact d1, d2⟩
  · rcases getElem?_set_cases ej with ⟨rfl, w, hl⟩ | ⟨ne, w⟩
    · cases w
      exact ⟨n, xs, qs, rfl, List.getElem?_set_self (by rw [h.len]; exact hl), Or.inr rfl, e, r⟩
    · obtain ⟨m, ys, rs, f0, f1, fo, f2, fr⟩ := h.ow w
      exact ⟨m, ys, rs, f0, by rw [List.getElem?_set_ne ne]; exact f1, fo, f2, fr⟩
  · have self : ∀ {x : Nat} (hx : i < π.length) , (σ.set i (some (.ref n)))[i]? = some (some (D.ref x)) → x = n := fun {x} hx y => by
      rw [List.getElem?_set_self (by rw [h.len]; exact hx)] at y
      cases y; rfl
    rcases getElem?_set_cases ej with ⟨rfl, w, hl⟩ | ⟨ne, w⟩
    · obtain rfl := self hl sj
      rcases getElem?_set_cases ek with ⟨rfl, w', hl'⟩ | ⟨ne', w'⟩
      · rfl
      · rw [List.getElem?_set_ne ne'] at sk
        exact absurd sk (no w')
    · rw [List.getElem?_set_ne ne] at sj
      rcases getElem?_set_cases ek with ⟨rfl, w', hl'⟩ | ⟨ne', w'⟩
      · obtain rfl := self hl' sk
        exact absurd sj (no w)
      · rw [List.getElem?_set_ne ne'] at sk
        exact h.inj w w' sj sk
  · rcases getElem?_set_cases ez with ⟨rfl, w, _⟩ | ⟨ne, w⟩
    · exact absurd hm (hz rfl _)
    · rw [List.getElem?_set_ne ne]
      exact h.z0 hm w
theorem Fr.drop1 (h : Fr b M A O σ π S) {i n : Nat} {p : P} (e : π[i]? = some (some (true, p))) (en : σ[i]? = some (some (.ref n))) : Fr b M A (fun m => O m ∧ m ≠ n) σ (π.set i none) S := by
  have aw : ∀ k, Aw A (fun m => O m ∧ m ≠ n) k → Aw A O k := fun k z => z.imp id (·.1)
  refine ⟨by rw [List.length_set]; exact h.len, fun {j q} ej => ?_, fun {j q} ej => ?_, fun {j k q q' m} ej ek sj sk => ?_, fun z => h.lo z.1, h.la, fun z w => h.dj z w.1, h.bs, fun hm ez => ?_⟩
  · rcases getElem?_set_cases ej with ⟨rfl, w, _⟩ | ⟨_, w⟩
    · cases w
    · obtain ⟨d, d1, d2⟩ := h.sh w
      exact ⟨d, d1, d2.mono aw⟩
  · rcases getElem?_set_cases ej with ⟨rfl, w, _⟩ | ⟨ne, w⟩
    · cases w
    · obtain ⟨m, ys, rs, f0, f1, fo, f2, fr⟩ := h.ow w
      exact ⟨m, ys, rs, f0, f1, ⟨fo, fun z => by subst z; exact ne (h.inj e w en f1)⟩, f2, fr.mono aw⟩
  · rcases getElem?_set_cases ej with ⟨rfl, w, _⟩ | ⟨_, w⟩
    · cases w
    · rcases getElem?_set_cases ek with ⟨rfl, w', _⟩ | ⟨_, w'⟩
      · cases w'
      · exact h.inj w w' sj sk
  · rcases getElem?_set_cases ez with ⟨_, w, _⟩ | ⟨_, w⟩
    · cases w
    · exact h.z0 hm w
theorem lstUp_ag {i n : Nat} {f : List P → Option (List P)} {g : List D → Option (List D)} (h : Fr b M A O σ π S) (hi : σ[i]? = some (some (.ref n)))
    (k : ∀ {xs qs qs'}, Rds (Aw A O) S xs qs → f qs = some qs' → ∃ xs', g xs = some xs' ∧ Rds (Aw A O) S xs' qs') :
    AgS b M A O S (match S[n]? with
      | some (.lst xs) => (match g xs with
        | some xs' => .nx σ (S.set n (.lst xs'))
        | none => .bad)
      | _ => .bad) (lstUp i f π) := by
  by_cases z : ∃ qs, π[i]? = some (some (true, .lst qs))
  · obtain ⟨qs, e⟩ := z
    unfold lstUp
    rw [e]
    dsimp only
    obtain ⟨m, xs, qs', e0, e1, o, e2, rr⟩ := h.ow e
    cases e0
    rw [hi] at e1
    cases e1
    cases e3 : f qs with
    | none => trivial
    | some qs' =>
      obtain ⟨xs', e4, r4⟩ := k rr e3
      rw [e2]
      dsimp only
      rw [e4]
      have hl := lt_of_get e2
      have up := h.upd (S' := S.set n (.lst xs')) (xs' := xs') (qs' := qs') e hi ⟨by rw [List.length_set]; exact Nat.le_refl _, fun m hm hne => List.getElem?_set_ne (Ne.symm hne)⟩ (List.getElem?_set_self hl)
        (r4.sto fun m hm z => List.getElem?_set_ne fun y => by subst y; exact z (Or.inr o))
      exact ⟨σ, _, O, rfl, up.nz⟩
  · have e : lstUp i f π = .bad := by
      unfold lstUp
      split
      · next qs e => exact absurd ⟨qs, e⟩ z
      · rfl
    rw [e]
    trivial
theorem sX (k : EvOk V U) (e : E) (h : Fr b M A O σ π S) : AgS b M A O S ((evE V e σ S).out σ fun _ S1 => .nx σ S1) (pX U e π) := by
  have gen : ∀ {e : E}, AgS b M A O S ((evE V e σ S).out σ fun _ S1 => .nx σ S1) ((pE U e π).out fun _ π1 => .nx π1) := fun {e} => (sE k e h).out fun d p π1 S1 O1 nx r => ⟨σ, S1, O1, rfl, nx.fr.nz⟩
  unfold pX
  split
  · next i x =>
    by_cases q : ownQ i π = true
    · rw [if_pos q]
      obtain ⟨n, en⟩ := ownQ_some h q
      have lq : lstQ (.ref n) S = true := by
        unfold ownQ at q
        split at q
        · next p w =>
          obtain ⟨m, xs, qs', e0, e1, o, e2, _⟩ := h.ow w
          rw [en] at e1
          cases e1
          exact lstQ_l e2
        · cases q
      rw [evE, evE, varD_some en]
      have bb : ∀ r : Res D, ((Res.ok (D.ref n) S).bind fun x S1 => if lstQ x S1 = true then r.bind fun y S2 => appD x y S2 else .bad).out σ (fun _ S1 => Out.nx σ S1) = r.out σ fun y S2 => (appD (.ref n) y S2).out σ fun _ S1 => .nx σ S1 := fun r => by
        show ((if lstQ (.ref n) S = true then _ else _ : Res D)).out σ _ = _
        rw [if_pos lq]
        cases r <;> rfl
      have ee : ((Res.ok (D.ref n) S).bind fun x_1 S1 => if lstQ x_1 S1 = true then (evE V x σ S1).bind fun y S2 => appD x_1 y S2 else Res.bad) = ((Res.ok (D.ref n) S).bind fun x_1 S1 => if lstQ x_1 S1 = true then (evE V x σ S).bind fun y S2 => appD x_1 y S2 else Res.bad) := rfl
      rw [ee, bb]
      refine (sE k x h).out fun d p π1 S1 O1 nx r => ?_
      have z := lstUp_ag (f := fun qs => if qs.length < sizeLine then some (qs ++ [p]) else none) (g := fun xs => if xs.length < sizeLine then some (xs ++ [d]) else none) nx.fr en (fun {xs qs qs'} rr e => by
        try dsimp only at e ⊢
        split at e
        · next c => cases e; rw [if_pos (by rw [rr.len]; exact c)]; exact ⟨_, rfl, rr.append r⟩
        · cases e)
      have e5 : ((appD (.ref n) d S1).out σ fun _ S1 => Out.nx σ S1) = (match S1[n]? with
        | some (.lst xs) => (match (if xs.length < sizeLine then some (xs ++ [d]) else none) with
          | some xs' => .nx σ (S1.set n (.lst xs'))
          | none => .bad)
        | _ => .bad) := by
        unfold appD
        dsimp only
        generalize S1[n]? = o
        rcases o with _ | o
        · rfl
        · cases o <;> try rfl
          next xs =>
          dsimp only
          split <;> rfl
      rw [e5]
      exact z
    · rw [if_neg q]; trivial
  · next i x =>
    by_cases q : ownQ i π = true
    · rw [if_pos q]
      obtain ⟨n, en⟩ := ownQ_some h q
      have lq : lstQ (.ref n) S = true := by
        unfold ownQ at q
        split at q
        · next p w =>
          obtain ⟨m, xs, qs', e0, e1, o, e2, _⟩ := h.ow w
          rw [en] at e1
          cases e1
          exact lstQ_l e2
        · cases q
      rw [evE, evE, varD_some en]
      have bb : ∀ r : Res D, ((Res.ok (D.ref n) S).bind fun x S1 => if lstQ x S1 = true then r.bind fun y S2 => extD x y S2 else .bad).out σ (fun _ S1 => Out.nx σ S1) = r.out σ fun y S2 => (extD (.ref n) y S2).out σ fun _ S1 => .nx σ S1 := fun r => by
        show ((if lstQ (.ref n) S = true then _ else _ : Res D)).out σ _ = _
        rw [if_pos lq]
        cases r <;> rfl
      have ee : ((Res.ok (D.ref n) S).bind fun x_1 S1 => if lstQ x_1 S1 = true then (evE V x σ S1).bind fun y S2 => extD x_1 y S2 else Res.bad) = ((Res.ok (D.ref n) S).bind fun x_1 S1 => if lstQ x_1 S1 = true then (evE V x σ S).bind fun y S2 => extD x_1 y S2 else Res.bad) := rfl
      rw [ee, bb]
      refine (sE k x h).out fun d p π1 S1 O1 nx r => ?_
      cases p with
      | lst ys =>
        obtain ⟨m, zs, rfl, em, rm⟩ := (Rd.rt r).lst
        have z := lstUp_ag (f := fun qs => if qs.length + ys.length ≤ sizeLine then some (qs ++ ys) else none) (g := fun xs => if xs.length + zs.length ≤ sizeLine then some (xs ++ zs) else none) nx.fr en (fun {xs qs qs'} rr e => by
          try dsimp only at e ⊢
          split at e
          · next c => cases e; rw [if_pos (by rw [rr.len, rm.len]; exact c)]; exact ⟨_, rfl, rr.append rm⟩
          · cases e)
        have e5 : ((extD (.ref n) (.ref m) S1).out σ fun _ S1 => Out.nx σ S1) = (match S1[n]? with
          | some (.lst xs) => (match (if xs.length + zs.length ≤ sizeLine then some (xs ++ zs) else none) with
            | some xs' => .nx σ (S1.set n (.lst xs'))
            | none => .bad)
          | _ => .bad) := by
          unfold extD
          dsimp only
          rw [em]
          generalize S1[n]? = o
          rcases o with _ | o
          · rfl
          · cases o <;> try rfl
            next xs =>
            dsimp only
            split <;> rfl
        rw [e5]
        exact z
      | _ => trivial
    · rw [if_neg q]; trivial
  · exact gen
theorem sSI (k : EvOk V U) (o i e : E) (h : Fr b M A O σ π S) : AgS b M A O S ((evE V e σ S).out σ fun v S1 => (evE V o σ S1).out σ fun x S2 => (evE V i σ S2).out σ fun y S3 => outO (setIx x y v S3) fun S4 => .nx σ S4) (pSI U o i e π) := by
  unfold pSI
  split
  · next n =>
    refine (sE k e h).out fun v p π1 S1 O1 nx r => ?_
    by_cases q : ownQ n π1 = true
    · rw [if_pos q]
      obtain ⟨m, en⟩ := ownQ_some nx.fr q
      rw [evE, varD_some en]
      show AgS b M A O1 S1 ((evE V i σ S1).out σ _) _
      refine (sE k i nx.fr).out fun y p2 π2 S2 O2 nx2 r2 => ?_
      cases p2 with
      | int c =>
        rw [(Rd.rt r2).int]
        have z := lstUp_ag (f := fun qs => (L2.ixN qs.length c).map fun j => qs.set j p) (g := fun xs => (L2.ixN xs.length c).map fun j => xs.set j v) nx2.fr en (fun {xs qs qs'} rr e => by
          try dsimp only at e ⊢
          rw [rr.len]
          cases w : L2.ixN qs.length c with
          | none => rw [w] at e; cases e
          | some j => rw [w] at e; cases e; exact ⟨_, rfl, rr.set (nx2.rds r)⟩)
        have e5 : (outO (setIx (.ref m) (.int c) v S2) fun S4 => Out.nx σ S4) = (match S2[m]? with
          | some (.lst xs) => (match (L2.ixN xs.length c).map fun j => xs.set j v with
            | some xs' => .nx σ (S2.set m (.lst xs'))
            | none => .bad)
          | _ => .bad) := by
          unfold setIx
          dsimp only
          generalize S2[m]? = o
          rcases o with _ | o
          · rfl
          · cases o <;> try rfl
            next xs =>
            dsimp only
            cases L2.ixN xs.length c <;> rfl
        rw [e5]
        exact z
      | _ => trivial
    · rw [if_neg q]; trivial
  · trivial
theorem Au_same {n : Nat} (o : O n) : Au (fun m => O m ∧ m ≠ n) n = O := by
  funext m
  refine propext ⟨fun z => z.elim (·.1) fun y => y ▸ o, fun z => ?_⟩
  by_cases e : m = n
  · exact Or.inr e
  · exact Or.inl ⟨z, e⟩
theorem sRt (k : EvOk V U) (hM : U.ioc = false → ∀ n, ¬ M n) (e : E) (h : Fr b M A O σ π S) : AgS b M A O S ((evE V e σ S).out σ fun d S1 => .ret d S1) (pRt U e π) := by
  unfold pRt
  split
  · next i =>
    rw [evE]
    by_cases c : U.ioc = true
    · rw [if_pos c]
      exact (sh_ag h i).out fun d p π1 S1 O1 nx r => ⟨d, σ, S1, O1, rfl, nx.fr.nz, r, fun z => by cases z⟩
    · rw [if_neg c]
      split
      · next p ep =>
        obtain ⟨n, xs, qs, e0, e1, o, e2, r⟩ := h.ow ep
        rw [varD_some e1]
        subst e0
        have no : ¬ Aw A (fun m => O m ∧ m ≠ n) n := fun z => z.elim (fun y => h.dj y o) fun y => y.2 rfl
        have mn : ∀ k, Aw A (fun m => O m ∧ m ≠ n) k → Aw A O k := fun k z => z.imp id (·.1)
        refine ⟨_, σ, S, _, rfl, ⟨fun z => Or.inl z.1, h.drop1 ep e1, .self⟩, .lst no e2 (r.mono mn) .nil, fun _ => ⟨n, ?_, ⟨xs, qs, rfl, rfl, e2, no, r.mono fun k z => ?_⟩, ?_⟩⟩
        · exact (h.lo o).2.elim id fun z => absurd z (hM (by simpa using c) n)
        · exact z.elim (mn k) fun y => y ▸ Or.inr o
        · rw [Au_same o]
          exact h.hide1
      · next p ep =>
        obtain ⟨d, e1, r⟩ := h.sh ep
        rw [varD_some e1]
        exact ⟨d, σ, S, O, rfl, h.nz, r, fun z => by cases z⟩
      · trivial
  · exact (sF k e h).out fun d z π1 S1 O1 nx r w => ⟨d, σ, S1, O1, rfl, nx.nz, r, fun y => by
      obtain ⟨n, n1, n2⟩ := w y
      exact ⟨n, Nat.le_trans h.bs n1, n2⟩⟩
theorem AgS.andThen {r : Out} {q : PO} {f : Sl → Sto → Out} {g : Pl → PO} (h : AgS b M A O S r q) (k : ∀ {σ' π' S' O'}, Nz b M A O O' σ' π' S S' → AgS b M A O' S' (f σ' S') (g π')) : AgS b M A O S (r.then f) (q.then g) := by
  cases q with
  | nx π' => obtain ⟨σ', S', O', rfl, n⟩ := h; exact (k n).up n
  | brk π' => obtain ⟨σ', S', O', rfl, n⟩ := h; exact ⟨σ', S', O', rfl, n⟩
  | cnt π' => obtain ⟨σ', S', O', rfl, n⟩ := h; exact ⟨σ', S', O', rfl, n⟩
  | ret p fr π' => obtain ⟨d, σ', S', O', rfl, n⟩ := h; exact ⟨d, σ', S', O', rfl, n⟩
  | exc c v π' => obtain ⟨d, σ', S', O', rfl, n⟩ := h; exact ⟨d, σ', S', O', rfl, n⟩
  | bad => trivial
theorem for_ag {s : Src} {tg : Tg} {f : Sl → Sto → Out} {g : Pl → PO} (kf : ∀ {A O σ π S}, Fr b M A O σ π S → AgS b M A O S (f σ S) (g π)) :
    ∀ {xs : List P} {ds : List D} {O : Av} {σ : Sl} {π : Pl} {S : Sto}, Fr b M A O σ π S → Rds (Aw A O) S ds xs → s.still S = true → (∀ n o, s = .at n o → n < S.length ∧ ¬ O n) → AgS b M A O S (forGo s tg f ds σ S) (forP tg g xs π) := by
  intro xs
  induction xs with
  | nil =>
    intro ds O σ π S h r hs hn
    cases r
    unfold forGo
    rw [if_pos hs]
    exact ⟨σ, S, O, rfl, h.nz⟩
  | cons x xs ih =>
    intro ds O σ π S h r hs hn
    obtain ⟨d, ds, rfl, r1, r2⟩ := r.outp
    unfold forGo
    rw [if_pos hs]
    unfold forP
    cases eg : tgP tg x π with
    | none => trivial
    | some π1 =>
      obtain ⟨σ1, e1, f1, _, _⟩ := h.tg r1 eg
      rw [e1]
      dsimp only
      have z := kf f1
      have next : ∀ {σ2 π2 S2 O2}, Nz b M A O O2 σ2 π2 S S2 → AgS b M A O S (forGo s tg f ds σ2 S2) (forP tg g xs π2) := fun {σ2 π2 S2 O2} n => by
        refine (ih n.fr (n.rds r2) ?_ fun m o e => ?_).up n
        · cases s with
          | «at» m o =>
            have w := hn m o rfl
            have w2 : S[m]? = some o := @of_decide_eq_true _ (Classical.propDecidable _) hs
            exact still_ob ((n.ch.2 m w.1 w.2).trans w2)
          | _ => rfl
        · have w := hn m o e
          exact ⟨Nat.lt_of_lt_of_le w.1 n.ch.1, fun y => (n.le y).elim w.2 fun u => by omega⟩
      cases eb : g π1 with
      | nx π2 => rw [eb] at z; obtain ⟨σ2, S2, O2, e2, n⟩ := z; rw [e2]; exact next n
      | cnt π2 => rw [eb] at z; obtain ⟨σ2, S2, O2, e2, n⟩ := z; rw [e2]; exact next n
      | brk π2 => rw [eb] at z; obtain ⟨σ2, S2, O2, e2, n⟩ := z; rw [e2]; exact ⟨σ2, S2, O2, rfl, n⟩
      | ret p fr π2 => rw [eb] at z; obtain ⟨d2, σ2, S2, O2, e2, n⟩ := z; rw [e2]; exact ⟨d2, σ2, S2, O2, rfl, n⟩
      | exc c v π2 => rw [eb] at z; obtain ⟨d2, σ2, S2, O2, e2, n⟩ := z; rw [e2]; exact ⟨d2, σ2, S2, O2, rfl, n⟩
      | bad => trivial
theorem whl_ag {t : Sl → Sto → Res D} {u : Pl → PR P} {f : Sl → Sto → Out} {g : Pl → PO} (kt : ∀ {A O σ π S}, Fr b M A O σ π S → Ag b M A O σ S Rd (t σ S) (u π)) (kf : ∀ {A O σ π S}, Fr b M A O σ π S → AgS b M A O S (f σ S) (g π)) :
    ∀ {n : Nat} {O : Av} {σ : Sl} {π : Pl} {S : Sto}, Fr b M A O σ π S → AgS b M A O S (whlGo t f n σ S) (whlP u g n π) := by
  intro n
  induction n with
  | zero => intro O σ π S h; trivial
  | succ n ih =>
    intro O σ π S h
    unfold whlGo whlP
    refine (kt h).out fun d p π1 S1 O1 nx r => ?_
    cases p with
    | bl c =>
      rw [(Rd.rt r).bl]
      show AgS b M A O1 S1 (if c = true then _ else _) (if c = true then _ else _)
      cases c with
      | false => exact ⟨σ, S1, O1, rfl, nx.fr.nz⟩
      | true =>
        show AgS b M A O1 S1 (match f σ S1 with
          | .nx σ2 S2 => whlGo t f n σ2 S2
          | .cnt σ2 S2 => whlGo t f n σ2 S2
          | .brk σ2 S2 => .nx σ2 S2
          | .ret d S2 => .ret d S2
          | .exc c v σ2 S2 => .exc c v σ2 S2
          | .bad => .bad) (match g π1 with
          | .nx π2 => whlP u g n π2
          | .cnt π2 => whlP u g n π2
          | .brk π2 => .nx π2
          | .ret p fr π2 => .ret p fr π2
          | .exc c v π2 => .exc c v π2
          | .bad => .bad)
        have z := kf nx.fr
        cases eb : g π1 with
        | nx π2 => rw [eb] at z; obtain ⟨σ2, S2, O2, e2, n⟩ := z; rw [e2]; exact (ih n.fr).up n
        | cnt π2 => rw [eb] at z; obtain ⟨σ2, S2, O2, e2, n⟩ := z; rw [e2]; exact (ih n.fr).up n
        | brk π2 => rw [eb] at z; obtain ⟨σ2, S2, O2, e2, n⟩ := z; rw [e2]; exact ⟨σ2, S2, O2, rfl, n⟩
        | ret p fr π2 => rw [eb] at z; obtain ⟨d2, σ2, S2, O2, e2, n⟩ := z; rw [e2]; exact ⟨d2, σ2, S2, O2, rfl, n⟩
        | exc c v π2 => rw [eb] at z; obtain ⟨d2, σ2, S2, O2, e2, n⟩ := z; rw [e2]; exact ⟨d2, σ2, S2, O2, rfl, n⟩
        | bad => trivial
    | _ => trivial
theorem sLf (k : EvOk V U) (l : L) (h : Fr b M A O σ π S) : Ag b M A O σ S (fun A S z w => Rds A S z.1 w.1 ∧ SrcR S z.2 w.2 ∧ (∀ n o, z.2 = .at n o → ¬ A n)) (evL V l σ S) (pLf U l π) := by
  by_cases z : ∃ i, l = .of (.var i)
  · obtain ⟨i, rfl⟩ := z
    unfold pLf
    dsimp only
    rw [evL, evE]
    refine (sh_ag h i).bind fun d p π1 S1 O1 nx r => ?_
    refine .orB fun q eq => ?_
    obtain ⟨ds, s, e1, r1, r2, r3, r4⟩ := src_pu (xs := q.1) (z := q.2) (Rd.rt r) eq
    rw [e1]
    exact .okk nx.fr ⟨r1, r2, r3 r⟩
  · have e : pLf U l π = pL U l π := by
      cases l with
      | of e => cases e <;> first | rfl | exact absurd ⟨_, rfl⟩ z
      | _ => rfl
    rw [e]
    have pk : peekQ l = false := by
      cases l with
      | of x => cases x <;> first | rfl | exact absurd ⟨_, rfl⟩ z
      | _ => rfl
    exact (sL k l h).imp fun A S x w r => ⟨r.1, r.2.1, r.2.2 pk⟩
mutual
theorem sS (k : EvOk V U) (hM : U.ioc = false → ∀ n, ¬ M n) : ∀ (s : Sm) {A O : Av} {σ : Sl} {π : Pl} {S : Sto}, Fr b M A O σ π S → AgS b M A O S (evS V s σ S) (pS U s π)
  | .expr e, A, O, σ, π, S, h => by rw [evS, pS]; exact sX k e h
  | .set i e, A, O, σ, π, S, h => by
    rw [evS, pS]
    refine (sF k e h).out fun d z π1 S1 O1 nx r w => ?_
    obtain ⟨p, fr⟩ := z
    dsimp only at r w ⊢
    cases efl : fr && !(U.ioc && i == 0) with
    | false => exact ⟨_, S1, O1, rfl, ⟨fun z => Or.inl (nx.le z), nx.fr.setv r, nx.ch⟩⟩
    | true =>
      rw [Bool.and_eq_true] at efl
      obtain ⟨n, n1, n2, n3⟩ := w efl.1
      have hz : i = 0 → ∀ m, ¬ M m := fun hi => hM (by
        have z := efl.2
        subst hi
        cases hc : U.ioc
        · rfl
        · rw [hc] at z; cases z)
      obtain ⟨xs, qs, rfl, e3, e4, n5, n6⟩ := n2
      subst e3
      exact ⟨_, S1, Au O1 n, rfl, ⟨fun z => z.elim (fun y => Or.inl (nx.le y)) fun y => Or.inr (y ▸ n1), n3.seto nx.fr (fun y => n5 (Or.inr y)) e4 (n6.mono fun m z => z.elim (fun y => Or.inl (Or.inl y)) fun y => y.elim (fun u => Or.inl (Or.inr u)) Or.inr) i hz, nx.ch⟩⟩
  | .unp is e, A, O, σ, π, S, h => by
    rw [evS, pS]
    refine (sE k e h).out fun d p π1 S1 O1 nx r => ?_
    cases p with
    | tup ps =>
      obtain ⟨xs, rfl, r2⟩ := (Rd.rt r).tup
      show AgS b M A O1 S1 (outO (setAll is xs σ) _) (outP (setAllP is ps π1) _)
      cases e2 : setAllP is ps π1 with
      | none => trivial
      | some π2 =>
        obtain ⟨σ', e3, f, _, _⟩ := nx.fr.setAll r2 e2
        rw [e3]
        exact ⟨σ', S1, O1, rfl, f.nz.1, f, .self⟩
    | _ => trivial
  | .par is es, A, O, σ, π, S, h => by
    rw [evS, pS]
    refine (sEs k es h).out fun ds ps π1 S1 O1 nx r => ?_
    cases e2 : setAllP is ps π1 with
    | none => trivial
    | some π2 =>
      obtain ⟨σ', e3, f, _, _⟩ := nx.fr.setAll r e2
      rw [e3]
      exact ⟨σ', S1, O1, rfl, f.nz.1, f, .self⟩
  | .setI o i e, A, O, σ, π, S, h => by rw [evS, pS]; exact sSI k o i e h
  | .setF _ _ _, A, O, σ, π, S, h => by rw [pS]; trivial
  | .aug i op e, A, O, σ, π, S, h => by
    rw [evS, pS]
    refine (va_ag h i).out fun d p π1 S1 O1 nx r => ?_
    refine (sE k e nx.fr).out fun d2 p2 π2 S2 O2 nx2 r2 => ?_
    cases p with
    | int x =>
      cases p2 with
      | int y =>
        rw [r.int, (Rd.rt r2).int]
        cases op with
        | add => exact ⟨_, S2, O2, rfl, ⟨Or.inl, nx2.fr.setv (.int .nil), .self⟩⟩
        | sub => exact ⟨_, S2, O2, rfl, ⟨Or.inl, nx2.fr.setv (.int .nil), .self⟩⟩
        | _ => trivial
      | _ => trivial
    | _ => trivial
  | .ife c x y, A, O, σ, π, S, h => by
    rw [evS, pS]
    refine (sE k c h).out fun d p π1 S1 O1 nx r => ?_
    cases p with
    | bl c =>
      rw [(Rd.rt r).bl]
      show AgS b M A O1 S1 (if c = true then _ else _) (if c = true then _ else _)
      cases c with
      | true => exact sSs k hM x nx.fr
      | false => exact sSs k hM y nx.fr
    | _ => trivial
  | .whl c x, A, O, σ, π, S, h => by
    rw [evS, pS, k.fuel]
    exact whl_ag (fun f => sE k c f) (fun f => sSs k hM x f) h
  | .for_ tg l x, A, O, σ, π, S, h => by
    rw [evS, pS]
    refine (sLf k l h).out fun z w π1 S1 O1 nx r => ?_
    refine for_ag (fun f => sSs k hM x f) nx.fr r.1 ?_ fun n o e => ?_
    · exact still_of r.2.1 (fun n o e y => r.2.2 n o e (Or.inr y)) (.self (O := O1))
    · have y := r.2.2 n o e
      refine ⟨?_, fun u => y (Or.inr u)⟩
      have s := r.2.1
      rw [e] at s
      cases hw : w.2 with
      | «at» => rw [hw] at s; exact lt_of_get s
      | _ => rw [hw] at s; exact s.elim
  | .ret e, A, O, σ, π, S, h => by rw [evS, pS]; exact sRt k hM e h
  | .retN, A, O, σ, π, S, h => by rw [evS, pS]; exact ⟨.non, σ, S, O, rfl, h.nz, .non .nil, fun z => by cases z⟩
  | .rais c e, A, O, σ, π, S, h => by
    rw [evS, pS]
    exact (sF k e h).out fun d z π1 S1 O1 nx r w => ⟨d, σ, S1, O1, rfl, nx.nz, r, fun y => by
      obtain ⟨n, n1, ⟨xs, qs, e0, _⟩, _⟩ := w y
      exact ⟨n, e0, n1⟩⟩
  | .try_ x c i y, A, O, σ, π, S, h => by
    rw [evS, pS]
    have z := sSs k hM x h
    cases eb : pSs U x π with
    | nx π2 => rw [eb] at z; obtain ⟨σ2, S2, O2, e2, n⟩ := z; rw [e2]; exact ⟨σ2, S2, O2, rfl, n⟩
    | cnt π2 => rw [eb] at z; obtain ⟨σ2, S2, O2, e2, n⟩ := z; rw [e2]; exact ⟨σ2, S2, O2, rfl, n⟩
    | brk π2 => rw [eb] at z; obtain ⟨σ2, S2, O2, e2, n⟩ := z; rw [e2]; exact ⟨σ2, S2, O2, rfl, n⟩
    | ret p fr π2 => rw [eb] at z; obtain ⟨d2, σ2, S2, O2, e2, n⟩ := z; rw [e2]; exact ⟨d2, σ2, S2, O2, rfl, n⟩
    | exc q v π2 =>
      rw [eb] at z
      obtain ⟨d2, σ2, S2, O2, e2, n, rv⟩ := z
      rw [e2]
      unfold catchD catchP
      dsimp only
      rw [k.sub]
      by_cases cc : V.sub q c = true
      · rw [if_pos cc, if_pos cc]
        have f1 : Fr b M A O2 (σ2.set i (some (.ref S2.length))) (π2.set i (some (false, .exc q v.1))) (S2 ++ [.exc q d2]) := (n.fr.pre Pre.push).setv (.exc (fun u => Nat.lt_irrefl _ (n.fr.al _ u)) at_new0 (Rds.pre rv.1 Pre.push) .nil)
        have n1 : Nz b M A O O2 (σ2.set i (some (.ref S2.length))) (π2.set i (some (false, .exc q v.1))) S (S2 ++ [.exc q d2]) := n.trans ⟨Or.inl, f1, .pre Pre.push⟩
        have z := sSs k hM y f1
        cases eh : pSs U y (π2.set i (some (false, .exc q v.1))) with
        | nx π3 => rw [eh] at z; obtain ⟨σ3, S3, O3, e3, n3⟩ := z; rw [e3]; exact ⟨_, S3, O3, rfl, n1.trans ⟨n3.le, n3.fr.wipe1 none, n3.ch⟩⟩
        | cnt π3 => rw [eh] at z; obtain ⟨σ3, S3, O3, e3, n3⟩ := z; rw [e3]; exact ⟨_, S3, O3, rfl, n1.trans ⟨n3.le, n3.fr.wipe1 none, n3.ch⟩⟩
        | brk π3 => rw [eh] at z; obtain ⟨σ3, S3, O3, e3, n3⟩ := z; rw [e3]; exact ⟨_, S3, O3, rfl, n1.trans ⟨n3.le, n3.fr.wipe1 none, n3.ch⟩⟩
        | ret p fr π3 => rw [eh] at z; obtain ⟨d3, σ3, S3, O3, e3, n3, n4⟩ := z; rw [e3]; exact ⟨d3, σ3, S3, O3, rfl, n1.trans n3, n4⟩
        | _ => trivial
      · rw [if_neg cc, if_neg cc]
        exact ⟨d2, σ2, S2, O2, rfl, n, rv⟩
    | bad => trivial
  | .pass, A, O, σ, π, S, h => by rw [evS, pS]; exact ⟨σ, S, O, rfl, h.nz⟩
  | .brk, A, O, σ, π, S, h => by rw [evS, pS]; exact ⟨σ, S, O, rfl, h.nz⟩
  | .cnt, A, O, σ, π, S, h => by rw [evS, pS]; exact ⟨σ, S, O, rfl, h.nz⟩
theorem sSs (k : EvOk V U) (hM : U.ioc = false → ∀ n, ¬ M n) : ∀ (s : Ss) {A O : Av} {σ : Sl} {π : Pl} {S : Sto}, Fr b M A O σ π S → AgS b M A O S (evSs V s σ S) (pSs U s π)
  | .nil, A, O, σ, π, S, h => by rw [evSs, pSs]; exact ⟨σ, S, O, rfl, h.nz⟩
  | .cons s ss, A, O, σ, π, S, h => by
    rw [evSs, pSs]
    exact (sS k hM s h).andThen fun n => sSs k hM ss n.fr
end
end
end Py
end
section
set_option linter.all false
set_option maxRecDepth 100000
/-! PuI: calls say the same. -/
namespace Py
open PySem
theorem take_same {n : Nat} {S' : Sto} {m : Nat} (h : m < n) : (S'.take n)[m]? = S'[m]? := List.getElem?_take_of_lt h
theorem tidy_pu {A : Av} {n : Nat} {S' : Sto} {d : D} {p : P} (hA : ∀ m, A m → m < n) (hn : n ≤ S'.length) (r : Rd A S' d p) :
    ∃ d' T', tidy n d S' = .ok d' T' ∧ n ≤ T'.length ∧ (∀ m, m < n → T'[m]? = S'[m]?) ∧ Rd A T' d' p ∧
      (∀ {xs qs n0}, n0 < n → S'[n0]? = some (.lst xs) → Rds A S' xs qs → Rds A T' xs qs) ∧
      (∀ {j}, n ≤ j → Own1 A S' d p j → ∃ j', n ≤ j' ∧ Own1 A T' d' p j' ∧ ∀ {xs qs n0}, n0 < n → S'[n0]? = some (.lst xs) → Rds (fun m => A m ∨ m = j) S' xs qs → Rds (fun m => A m ∨ m = j') T' xs qs) := by
  have stay : tidy n d S' = .ok d S' → ∃ d' T', tidy n d S' = .ok d' T' ∧ n ≤ T'.length ∧ (∀ m, m < n → T'[m]? = S'[m]?) ∧ Rd A T' d' p ∧
      (∀ {xs qs n0}, n0 < n → S'[n0]? = some (.lst xs) → Rds A S' xs qs → Rds A T' xs qs) ∧
      (∀ {j}, n ≤ j → Own1 A S' d p j → ∃ j', n ≤ j' ∧ Own1 A T' d' p j' ∧ ∀ {xs qs n0}, n0 < n → S'[n0]? = some (.lst xs) → Rds (fun m => A m ∨ m = j) S' xs qs → Rds (fun m => A m ∨ m = j') T' xs qs) :=
    fun e => ⟨d, S', e, hn, fun _ _ => rfl, r, fun _ _ z => z, fun {j} hj o => ⟨j, hj, o, fun _ _ z => z⟩⟩
  have tl : (S'.take n).length = n := by rw [List.length_take]; omega
  by_cases c : bdS n (S'.take n) = true
  · have cutL : ∀ {xs qs n0}, n0 < n → S'[n0]? = some (.lst xs) → Rds A S' xs qs → Rds A (S'.take n) xs qs := fun {xs qs n0} h0 e0 r0 => by
      refine r0.cut c ?_
      have e1 : (S'.take n)[n0]? = some (.lst xs) := (take_same h0).trans e0
      exact bdS_iff.mp c _ (List.mem_of_getElem? e1)
    by_cases cd : d.bd n = true
    · refine ⟨d, S'.take n, ?_, by rw [tl]; exact Nat.le_refl _, fun m hm => take_same hm, r.cut c (bdL_cons.mpr ⟨cd, rfl⟩), cutL, fun {j} hj o => ?_⟩
      · unfold tidy; rw [if_pos c, if_pos cd]
      · obtain ⟨xs, qs, rfl, _⟩ := o
        have z : j < n := of_decide_eq_true cd
        omega
    · by_cases cx : ∃ k xs, d = .ref k ∧ S'[k]? = some (.lst xs) ∧ D.bdL n xs = true
      · obtain ⟨k, xs, rfl, ek, bx⟩ := cx
        cases r with
        | lst a e b _ =>
          rw [ek] at e
          cases e
          have rc := b.cut c bx
          have aw : ∀ {ds ps}, Rds A (S'.take n) ds ps → Rds (fun m => A m ∨ m = n) (S'.take n) ds ps := fun r => r.away fun m hm z => z.elim id fun y => by rw [tl] at hm; omega
          have at_n : (S'.take n ++ [Ob.lst xs])[n]? = some (.lst xs) := by
            have z := at_new0 (S := S'.take n) (X := [Ob.lst xs])
            rw [tl] at z
            exact z
          refine ⟨.ref n, S'.take n ++ [.lst xs], ?_, by rw [List.length_append, tl]; omega, fun m hm => ?_, .lst (fun z => Nat.lt_irrefl _ (hA _ z)) at_n (rc.pre Pre.push) .nil, fun h0 e0 r0 => (cutL h0 e0 r0).pre Pre.push, fun {j} hj o => ⟨n, Nat.le_refl _, ?_, fun h0 e0 r0 => (aw (cutL h0 e0 (r0.mono fun m z => Or.inl z))).pre Pre.push⟩⟩
          · unfold tidy
            rw [if_pos c, if_neg cd]
            dsimp only
            rw [ek]
            dsimp only
            rw [if_pos bx]
          · rw [List.getElem?_append_left (by rw [tl]; exact hm)]
            exact take_same hm
          · exact ⟨xs, _, rfl, rfl, at_n, fun z => Nat.lt_irrefl _ (hA _ z), (aw rc).pre Pre.push⟩
        | frz a e b _ => rw [ek] at e; cases e
        | dct a e b _ => rw [ek] at e; cases e
        | ins a e b _ => rw [ek] at e; cases e
        | exc a e b _ => rw [ek] at e; cases e
      · refine stay ?_
        unfold tidy
        rw [if_pos c, if_neg cd]
        cases d with
        | ref k =>
          dsimp only
          cases e : S'[k]? with
          | none => rfl
          | some o =>
            cases o with
            | lst xs =>
              dsimp only
              rw [if_neg fun z => cx ⟨k, xs, rfl, e, z⟩]
            | _ => rfl
        | _ => rfl
  · refine stay ?_
    unfold tidy
    rw [if_neg c]
theorem tidyX_pu {A : Av} {n c : Nat} {S S' : Sto} {d : D} {p : P × Bool} (hn : n ≤ S'.length) (r : Rx A S S' d p) : ∃ T', tidyX n c d S' = .exc c d T' ∧ n ≤ T'.length ∧ (∀ m, m < n → T'[m]? = S'[m]?) ∧ Rx A S T' d p := by
  unfold tidyX
  by_cases k : bdS n (S'.take n) = true ∧ d.bd n = true
  · rw [if_pos k]
    exact ⟨_, rfl, by rw [List.length_take]; omega, fun m hm => take_same hm, Rds.cut r.1 k.1 (bdL_cons.mpr ⟨k.2, rfl⟩), r.2⟩
  · rw [if_neg k]
    exact ⟨_, rfl, hn, fun _ _ => rfl, r⟩
/-! ### frames at a call's begin -/
theorem start_get {ds : List D} {ns i : Nat} {d : D} (h : (startD ns ds)[i]? = some (some d)) : ds[i]? = some d := by
  unfold startD at h
  by_cases c : i < (ds.map some).length
  · rw [List.getElem?_append_left c, List.getElem?_map] at h
    cases e : ds[i]? with
    | none => rw [e] at h; cases h
    | some x => rw [e] at h; cases h; rfl
  · rw [List.getElem?_append_right (by omega)] at h
    have z := List.eq_of_mem_replicate (List.mem_of_getElem? h)
    cases z
theorem start_some {ds : List D} {ns i : Nat} {d : D} (h : ds[i]? = some d) : (startD ns ds)[i]? = some (some d) := by
  unfold startD
  have hi : i < ds.length := (List.getElem?_eq_some_iff.mp h).1
  rw [List.getElem?_append_left (by rw [List.length_map]; exact hi), List.getElem?_map, h]
  rfl
theorem pstart_get {ps : List P} {m i : Nat} {w : Bool} {p : P} (h : (ps.map (fun p => some (false, p)) ++ List.replicate m none : Pl)[i]? = some (some (w, p))) : w = false ∧ ps[i]? = some p := by
  by_cases c : i < (ps.map (fun p => some (false, p))).length
  · rw [List.getElem?_append_left c, List.getElem?_map] at h
    cases e : ps[i]? with
    | none => rw [e] at h; cases h
    | some x => rw [e] at h; cases h; exact ⟨rfl, rfl⟩
  · rw [List.getElem?_append_right (by omega)] at h
    have z := List.eq_of_mem_replicate (List.mem_of_getElem? h)
    cases z
theorem fr_no {A : Av} {S : Sto} {ds : List D} {ps : List P} {ns : Nat} (hA : ∀ n, A n → n < S.length) (r : Rds A S ds ps) :
    Fr S.length (fun _ => False) A (fun _ => False) (startD ns ds) (ps.map (fun p => some (false, p)) ++ List.replicate (ns - ps.length) none) S := by
  refine ⟨by unfold startD; simp [r.len], fun {i p} e => ?_, fun {i p} e => ?_, fun {i j p q n} e => ?_, fun z => z.elim, fun z => hA _ z, fun _ z => z, Nat.le_refl _, fun z => z.elim⟩
  · obtain ⟨d, d1, d2⟩ := r.getp (pstart_get e).2
    exact ⟨d, start_some d1, d2.mono fun n z => z.elim id False.elim⟩
  · cases (pstart_get e).1
  · cases (pstart_get e).1
theorem fr_io {A : Av} {S : Sto} {n : Nat} {xs : List D} {qs : List P} {ds : List D} {ps : List P} {ns : Nat} (hA : ∀ n, A n → n < S.length) (hn : A n) (e0 : S[n]? = some (.lst xs)) (r0 : Rds A S xs qs) (r : Rds A S ds ps) :
    Fr S.length (fun m => m = n) (fun m => A m ∧ m ≠ n) (fun m => m = n) (startD ns (.ref n :: ds)) (some (true, .lst qs) :: (ps.map (fun p => some (false, p)) ++ List.replicate (ns - (ps.length + 1)) none)) S := by
  have aw : ∀ m, Aw (fun m => A m ∧ m ≠ n) (fun m => m = n) m → A m := fun m z => z.elim (·.1) fun y => y ▸ hn
  refine ⟨by unfold startD; simp [r.len], fun {i p} e => ?_, fun {i p} e => ?_, fun {i j p q m} e e' s s' => ?_, fun z => ⟨z ▸ lt_of_get e0, Or.inr z⟩, fun z => hA _ z.1, fun z w => z.2 w, Nat.le_refl _, fun {m p} hm e => by cases hm; exact start_some (i := 0) (ds := .ref n :: ds) rfl⟩
  · cases i with
    | zero => cases e
    | succ i =>
      obtain ⟨d, d1, d2⟩ := r.getp (pstart_get (i := i) e).2
      exact ⟨d, start_some (i := i + 1) (ds := .ref n :: ds) d1, d2.mono aw⟩
  · cases i with
    | zero =>
      cases e
      exact ⟨n, xs, qs, rfl, start_some (i := 0) (ds := .ref n :: ds) rfl, rfl, e0, r0.mono aw⟩
    | succ i => cases (pstart_get (i := i) e).1
  · cases i with
    | zero =>
      cases j with
      | zero => rfl
      | succ j => cases (pstart_get (i := j) e').1
    | succ i => cases (pstart_get (i := i) e).1
/-! ### programs -/
structure QOk (Q : PProg) (w : Nat) : Prop where
  gv : ∀ {g p}, Q.gv g = some p → ∀ {A : Av} {S : Sto}, Rd A S (Q.Pr.gv g) p
  ext : ∀ {f F}, Q.ext f = some F → ∀ k, (∀ j, j ≤ k → ∀ g, SoundF (callI Q.Pr w j g) (pcall Q w j g) (Q.io g)) → SoundF (callI Q.Pr w (k + 1) f) (F (k + 1)) (Q.io f)
  mkS : ∀ c k, (∀ j, j ≤ k → ∀ g, SoundF (callI Q.Pr w j g) (pcall Q w j g) (Q.io g)) → SoundM c ((evOf Q.Pr w k).init c) (Q.mkC c k)
theorem SoundF.bad {C : List D → Sto → Res D} {F : List P → PC} {io : Bool} (h : ∀ ps, F ps = .bad) : SoundF C F io :=
  ⟨fun _ {A S ds ps} _ _ => by rw [h]; trivial, fun _ {A S n xs qs ds ps} _ _ _ _ _ => by rw [h]; trivial⟩
theorem body_pu {Q : PProg} {w k f : Nat} {F : Fn} (hk : EvOk (evOf Q.Pr w k) (pvOf Q w (pcall Q w k) k (Q.io f))) (hf : Q.Pr.fns f = some F) (he : Q.ext f = none) : SoundF (callI Q.Pr w (k + 1) f) (pcall Q w (k + 1) f) (Q.io f) := by
  have eP : ∀ {ps}, pcall Q w (k + 1) f ps = if ps.length = F.np then (match startP (Q.io f) F.ns ps with
          | some π => endP (Q.io f) (pSs (pvOf Q w (pcall Q w k) k (Q.io f)) F.body π)
          | none => .bad) else .bad := fun {ps} => by rw [pcall, he]; dsimp only; rw [hf]; try rfl
  have eD : ∀ {ds S}, ds.length = F.np → callI Q.Pr w (k + 1) f ds S = endD S.length (evSs (evOf Q.Pr w k) F.body (startD F.ns ds) S) := fun {ds S} hl => by
    rw [callI, hf]
    show (if _ then _ else _) = _
    rw [if_pos hl]
    cases k <;> rfl
  refine ⟨fun io {A S ds ps} hA r => ?_, fun io {A S n xs qs ds ps} hA hn e0 r0 r => ?_⟩
  · rw [eP]
    by_cases hl : ps.length = F.np
    · rw [if_pos hl, eD (by rw [r.len]; exact hl)]
      have st : startP (Q.io f) F.ns ps = some (ps.map (fun p => some (false, p)) ++ List.replicate (F.ns - ps.length) none) := by unfold startP; rw [io]; rfl
      rw [st]
      dsimp only
      have z := sSs hk (M := fun _ => False) (fun _ _ h => h) F.body (fr_no (ns := F.ns) hA r)
      have mA : ∀ {O' : Av} m, A m → Aw A O' m := fun m h => Or.inl h
      have fin : ∀ {p fr π'}, AgS S.length (fun _ => False) A (fun _ => False) S (evSs (evOf Q.Pr w k) F.body (startD F.ns ds) S) (.ret p fr π') → CallR A S (endD S.length (evSs (evOf Q.Pr w k) F.body (startD F.ns ds) S)) (.ok p fr none) none := fun {p fr π'} z => by
        obtain ⟨d, σ', S', O', e, nz, rd, wf⟩ := z
        rw [e]
        obtain ⟨d', T', t1, t2, t3, t4, _, t6⟩ := tidy_pu hA nz.ch.1 (rd.mono (mA (O' := O')))
        refine ⟨d', T', t1, ⟨t2, fun m hm _ => (t3 m hm).trans (nz.ch.2 m hm id)⟩, t4, fun y => ?_⟩
        obtain ⟨j, j1, ⟨ys, ts, y0, y1, y2, y3, y4⟩, _⟩ := wf y
        obtain ⟨j', j2, j3, _⟩ := t6 j1 ⟨ys, ts, y0, y1, y2, fun u => y3 (mA j u), y4.mono fun m u => u.imp (mA m) id⟩
        exact ⟨j', j2, j3⟩
      cases e : pSs (pvOf Q w (pcall Q w k) k (Q.io f)) F.body (ps.map (fun p => some (false, p)) ++ List.replicate (F.ns - ps.length) none) with
      | ret p fr π' =>
        rw [e] at z
        unfold endP ioEnd
        rw [io]
        exact fin z
      | nx π' =>
        rw [e] at z
        obtain ⟨σ', S', O', e1, nz⟩ := z
        unfold endP ioEnd
        rw [io]
        have t := tidy_pu hA nz.ch.1 (.non .nil : Rd A S' .non .non)
        rw [e1]
        obtain ⟨d', T', t1, t2, t3, t4, _, t6⟩ := t
        exact ⟨d', T', t1, ⟨t2, fun m hm _ => (t3 m hm).trans (nz.ch.2 m hm id)⟩, t4, fun y => by cases y⟩
      | exc c v π' =>
        rw [e] at z
        obtain ⟨d, σ', S', O', e1, nz, rd⟩ := z
        unfold endP
        rw [io, e1]
        obtain ⟨T', t1, t2, t3, t4⟩ := tidyX_pu (c := c) nz.ch.1 (⟨Rds.mono rd.1 (mA (O' := O')), rd.2⟩ : Rx A S S' d v)
        exact ⟨rfl, d, T', t1, ⟨t2, fun m hm _ => (t3 m hm).trans (nz.ch.2 m hm id)⟩, t4⟩
      | _ => unfold endP; trivial
    · rw [if_neg hl]; trivial
  · rw [eP]
    by_cases hl : (P.lst qs :: ps).length = F.np
    · rw [if_pos hl, eD (by rw [List.length_cons, r.len]; exact hl)]
      have st : startP (Q.io f) F.ns (.lst qs :: ps) = some (some (true, .lst qs) :: (ps.map (fun p => some (false, p)) ++ List.replicate (F.ns - (ps.length + 1)) none)) := by unfold startP; rw [io]; rfl
      rw [st]
      dsimp only
      have ioc : (pvOf Q w (pcall Q w k) k (Q.io f)).ioc = true := io
      have z := sSs hk (M := fun m => m = n) (fun h => by rw [ioc] at h; cases h) F.body (fr_io (ns := F.ns) hA hn e0 r0 r)
      have hn2 := hA n hn
      have fin : ∀ {d p fr π' σ' S' O' qs'}, Nz S.length (fun m => m = n) (fun m => A m ∧ m ≠ n) (fun m => m = n) O' σ' π' S S' → Rd (Aw (fun m => A m ∧ m ≠ n) O') S' d p → (fr = true → ∃ j, S.length ≤ j ∧ Own1 (Aw (fun m => A m ∧ m ≠ n) O') S' d p j ∧ Fr S.length (fun m => m = n) (fun m => A m ∧ m ≠ n) (Au O' j) σ' π' S') →
          (π'[(0 : Nat)]? = some (some (true, .lst qs'))) → CallR A S (tidy S.length d S') (.ok p fr (some qs')) (some n) := fun {d p fr π' σ' S' O' qs'} nz rd wf e1 => by
        have e2 := nz.fr.z0 (n := n) rfl e1
        obtain ⟨m, xs', qs'', f0, f1, fo, f2, f3⟩ := nz.fr.ow e1
        cases f0
        rw [e2] at f1
        cases f1
        have mA : ∀ m, A m → Aw (fun m => A m ∧ m ≠ n) O' m := fun m h => by
          by_cases c : m = n
          · exact Or.inr (c ▸ fo)
          · exact Or.inl ⟨h, c⟩
        obtain ⟨d', T', t1, t2, t3, t4, t5, t6⟩ := tidy_pu hA nz.ch.1 (rd.mono mA)
        refine ⟨d', T', t1, ⟨t2, fun m hm ne => (t3 m hm).trans (nz.ch.2 m hm fun y => ne (by rw [y]))⟩, t4, xs', (t3 n hn2).trans f2, t5 hn2 f2 (f3.mono mA), fun y => ?_⟩
        obtain ⟨j, j1, ⟨ys, ts, y0, y1, y2, y3, y4⟩, j5⟩ := wf y
        obtain ⟨j', j2, j3, j4⟩ := t6 j1 ⟨ys, ts, y0, y1, y2, fun u => y3 (mA j u), y4.mono fun m u => u.imp (mA m) id⟩
        refine ⟨j', j2, j3, j4 hn2 f2 ?_⟩
        obtain ⟨m, xs2, qs2, g0, g1, go, g2, g3⟩ := j5.ow e1
        rw [e2] at g1
        cases g1
        rw [f2] at g2
        cases g2
        cases g0
        exact g3.mono fun m u => u.elim (fun v => (mA m v).imp id Or.inl) fun v => Or.inr (Or.inr v)
      cases e : pSs (pvOf Q w (pcall Q w k) k (Q.io f)) F.body (some (true, .lst qs) :: (ps.map (fun p => some (false, p)) ++ List.replicate (F.ns - (ps.length + 1)) none)) with
      | ret p fr π' =>
        rw [e] at z
        obtain ⟨d, σ', S', O', e1, nz, rd, wf⟩ := z
        rw [e1]
        unfold endP ioEnd
        rw [io]
        by_cases cs : ∃ qs', π'[(0 : Nat)]? = some (some (true, .lst qs'))
        · obtain ⟨qs', e2⟩ := cs
          dsimp only
          rw [if_pos rfl, e2]
          exact fin nz rd wf e2
        · dsimp only
          rw [if_pos rfl]
          split
          · next qs' e2 => exact absurd ⟨qs', e2⟩ cs
          · trivial
      | nx π' =>
        rw [e] at z
        obtain ⟨σ', S', O', e1, nz⟩ := z
        rw [e1]
        unfold endP ioEnd
        rw [io]
        by_cases cs : ∃ qs', π'[(0 : Nat)]? = some (some (true, .lst qs'))
        · obtain ⟨qs', e2⟩ := cs
          dsimp only
          rw [if_pos rfl, e2]
          exact fin nz (.non .nil) (fun z => by cases z) e2
        · dsimp only
          rw [if_pos rfl]
          split
          · next qs' e2 => exact absurd ⟨qs', e2⟩ cs
          · trivial
      | exc c v π' => unfold endP; rw [io]; trivial
      | _ => unfold endP; trivial
    · rw [if_neg hl]; trivial
theorem ev_pu {Q : PProg} {w : Nat} (h : QOk Q w) {k : Nat} (ih : ∀ j, j ≤ k → ∀ g, SoundF (callI Q.Pr w j g) (pcall Q w j g) (Q.io g)) {ioc : Bool} : EvOk (evOf Q.Pr w k) (pvOf Q w (pcall Q w k) k ioc) where
  call := fun f => ih k (Nat.le_refl k) f
  make := fun c => h.mkS c k ih
  gv := h.gv
  sub := rfl
  fuel := rfl
theorem pcall_pu {Q : PProg} {w : Nat} (h : QOk Q w) : ∀ (k j : Nat), j ≤ k → ∀ f, SoundF (callI Q.Pr w j f) (pcall Q w j f) (Q.io f) := by
  intro k
  induction k with
  | zero =>
    intro j hj f
    obtain rfl : j = 0 := by omega
    exact .bad fun ps => by rw [pcall]
  | succ k ih =>
    intro j hj f
    cases j with
    | zero => exact .bad fun ps => by rw [pcall]
    | succ j =>
      have ih' : ∀ i, i ≤ j → ∀ g, SoundF (callI Q.Pr w i g) (pcall Q w i g) (Q.io g) := fun i hi g => ih i (by omega) g
      cases he : Q.ext f with
      | some F =>
        have e : ∀ ps, pcall Q w (j + 1) f ps = F (j + 1) ps := fun ps => by rw [pcall, he]
        have z := h.ext he j ih'
        refine ⟨fun io {A S ds ps} hA r => ?_, fun io {A S n xs qs ds ps} hA hn e0 r0 r => ?_⟩
        · rw [e]; exact z.no io hA r
        · rw [e]; exact z.yes io hA hn e0 r0 r
      | none =>
        cases hf : Q.Pr.fns f with
        | none => exact .bad fun ps => by rw [pcall, he]; dsimp only; rw [hf]
        | some F => exact body_pu (ev_pu h ih') hf he
/-- a law: what our run says of the script -/
theorem law_pu {Q : PProg} {w k f : Nat} (h : QOk Q w) (hio : Q.io f = false) {ns : List Int} {fr : Bool} (e : pcall Q w k f [.frz (ns.map .int)] = .ok (.bl true) fr none) : ∃ S', callI Q.Pr w k f [.ref 0] [.frz (ns.map .int)] = .ok (.bl true) S' := by
  have z := (pcall_pu h k k (Nat.le_refl k) f).no hio (A := fun _ => False) (S := [.frz (ns.map .int)]) (ds := [.ref 0]) (ps := [.frz (ns.map .int)]) (fun _ z => z.elim) (.frz (fun z => z) rfl rds_ints .nil)
  rw [e] at z
  obtain ⟨d, S', e1, _, r, _⟩ := z
  cases (Rd.rt r).bl
  exact ⟨S', e1⟩
end Py
end
section
set_option linter.all false
set_option maxRecDepth 100000
/-! PuJ: our run with what comes behind handed in: rewriting rules that run it head first. -/
namespace Py
open PySem
namespace J
def kk {α β : Type} (r : PR α) (f : α → Pl → β) (g : Nat → P × Bool → Pl → β) (b : β) (_t : Tag (f, g, b) := ()) : β := match r with
  | .ok a π => f a π
  | .exc c v π => g c v π
  | .bad => b
/-- what a call hands back -/
def onC {β : Type} (r : PC) (f : P → Bool → β) (h : P → Bool → List P → β) (g : Nat → P × Bool → β) (b : β) (_t : Tag (f, h, g, b) := ()) : β := match r with
  | .ok p fr none => f p fr
  | .ok p fr (some qs) => h p fr qs
  | .exc c v => g c v
  | .bad => b
/-- what a value is -/
def onB {β : Type} (p : P) (f : Bool → β) (b : β) (_t : Tag (f, b) := ()) : β := match p with
  | .bl k => f k
  | _ => b
def onN {β : Type} (p : P) (f : Int → β) (b : β) (_t : Tag (f, b) := ()) : β := match p with
  | .int k => f k
  | _ => b
def isN : P → Bool
  | .non => true
  | _ => false
def onL {β : Type} (p : Option (Option (Bool × P))) (f : List P → β) (b : β) (_t : Tag (f, b) := ()) : β := match p with
  | some (some (true, .lst qs)) => f qs
  | _ => b
def onM {β : Type} (p : P) (f : Nat → List (Nat × P) → β) (b : β) (_t : Tag (f, b) := ()) : β := match p with
  | .ins c fs => f c fs
  | _ => b
def onT {β : Type} (p : P) (f : List P → β) (b : β) (_t : Tag (f, b) := ()) : β := match p with
  | .tup c => f c
  | _ => b
def onK {β : Type} (p : P) (f : List P → β) (b : β) (_t : Tag (f, b) := ()) : β := match p with
  | .lst c => f c
  | _ => b
section
variable {α β γ : Type}
theorem kk_ok (a : α) (π : Pl) (f : α → Pl → β) (g : Nat → P × Bool → Pl → β) (b : β) : kk (.ok a π) f g b = f a π := rfl
theorem kk_exc (c : Nat) (v : P × Bool) (π : Pl) (f : α → Pl → β) (g : Nat → P × Bool → Pl → β) (b : β) : kk (.exc c v π : PR α) f g b = g c v π := rfl
theorem kk_bad (f : α → Pl → β) (g : Nat → P × Bool → Pl → β) (b : β) : kk (.bad : PR α) f g b = b := rfl
theorem kk_bind (r : PR α) (h : α → Pl → PR γ) (f : γ → Pl → β) (g : Nat → P × Bool → Pl → β) (b : β) : kk (r.bind h) f g b = kk r (fun a π => kk (h a π) f g b) g b := by cases r <;> rfl
theorem kk_ext {r : PR α} {f f' : α → Pl → β} {g : Nat → P × Bool → Pl → β} {b : β} (h : ∀ a π, f a π = f' a π) : kk r f g b = kk r f' g b := by
  cases r with
  | ok a π => exact h a π
  | exc c v π => rfl
  | bad => rfl
theorem kk_if (c : Prop) [Decidable c] (p q : PR α) (f : α → Pl → β) (g : Nat → P × Bool → Pl → β) (b : β) : kk (if c then p else q) f g b = ifP c (kk p f g b) (kk q f g b) := by unfold ifP; split <;> rfl
theorem kk_ifB (c : Bool) (p q : PR α) (f : α → Pl → β) (g : Nat → P × Bool → Pl → β) (b : β) : kk (if c = true then p else q) f g b = ifB c (kk p f g b) (kk q f g b) := by unfold ifB; split <;> rfl
theorem kk_orB (o : Option α) (π : Pl) (f : α → Pl → β) (g : Nat → P × Bool → Pl → β) (b : β) : kk (orB o π) f g b = onO o (fun a => f a π) b := by cases o <;> rfl
theorem bind_kk (r : PR α) (h : α → Pl → PR β) : r.bind h = kk r h .exc .bad := by cases r <;> rfl
theorem out_kk (r : PR α) (h : α → Pl → PO) : r.out h = kk r h .exc .bad := by cases r <;> rfl
theorem onC_ok (p : P) (fr : Bool) (f : P → Bool → β) (h : P → Bool → List P → β) (g : Nat → P × Bool → β) (b : β) : onC (.ok p fr none) f h g b = f p fr := rfl
theorem onC_io (p : P) (fr : Bool) (qs : List P) (f : P → Bool → β) (h : P → Bool → List P → β) (g : Nat → P × Bool → β) (b : β) : onC (.ok p fr (some qs)) f h g b = h p fr qs := rfl
theorem onC_exc (c : Nat) (v : P × Bool) (f : P → Bool → β) (h : P → Bool → List P → β) (g : Nat → P × Bool → β) (b : β) : onC (.exc c v) f h g b = g c v := rfl
theorem onB_bl (k : Bool) (f : Bool → β) (b : β) : onB (.bl k) f b = f k := rfl
theorem onN_int (k : Int) (f : Int → β) (b : β) : onN (.int k) f b = f k := rfl
theorem onL_own (qs : List P) (f : List P → β) (b : β) : onL (some (some (true, .lst qs))) f b = f qs := rfl
theorem onM_ins (c : Nat) (fs : List (Nat × P)) (f : Nat → List (Nat × P) → β) (b : β) : onM (.ins c fs) f b = f c fs := rfl
theorem onT_tup (qs : List P) (f : List P → β) (b : β) : onT (.tup qs) f b = f qs := rfl
theorem onK_lst (qs : List P) (f : List P → β) (b : β) : onK (.lst qs) f b = f qs := rfl
end
section
variable {β : Type} {V : PV} {π : Pl} (f : P → Pl → β) (g : Nat → P × Bool → Pl → β) (b : β)
/-- a slot's value -/
def shK (o : Option (Option (Bool × P))) (i : Nat) (π : Pl) (f : P → Pl → β) (b : β) (_t : Tag (f, b) := ()) : β := match o with
  | some (some (true, p)) => f p (π.set i (some (false, p)))
  | some (some (false, p)) => f p π
  | _ => b
theorem shK_t (p : P) (i : Nat) : shK (some (some (true, p))) i π f b = f p (π.set i (some (false, p))) := rfl
theorem shK_f (p : P) (i : Nat) : shK (some (some (false, p))) i π f b = f p π := rfl
def vaK (o : Option (Option (Bool × P))) (f : P → β) (b : β) (_t : Tag (f, b) := ()) : β := match o with
  | some (some (_, p)) => f p
  | _ => b
theorem vaK_ext {o : Option (Option (Bool × P))} {f f' : P → β} {b : β} (h : ∀ p, f p = f' p) : vaK o f b = vaK o f' b := by rw [show f = f' from funext h]
theorem shK_ext {o : Option (Option (Bool × P))} {i : Nat} {f f' : P → Pl → β} {b : β} (h : ∀ p π, f p π = f' p π) : shK o i π f b = shK o i π f' b := by rw [show f = f' from funext fun p => funext fun π => h p π]
theorem vaK_s (p : P) (w : Bool) (f : P → β) : vaK (some (some (w, p))) f b = f p := rfl
theorem k_sh (i : Nat) : kk (shP i π) f g b = shK π[i]? i π f b := by
  unfold shP shK
  generalize π[i]? = o
  rcases o with _ | _ | ⟨_ | _, p⟩ <;> rfl
theorem k_va (i : Nat) : kk (vaP i π) f g b = vaK π[i]? (fun p => f p π) b := by
  unfold vaP vaK
  generalize π[i]? = o
  rcases o with _ | _ | ⟨w, p⟩ <;> rfl
theorem k_pk (e : E) (ev : Pl → PR P) : kk (pkW e ev π) f g b = onO (isVar e) (fun i => vaK π[i]? (fun p => f p π) b) (kk (ev π) f g b) := by
  unfold pkW
  split
  · next h => rw [h, onO_some, k_va]
  · next h => rw [h, onO_none]
theorem k_var (i : Nat) : kk (pE V (.var i) π) f g b = shK π[i]? i π f b := by rw [pE, k_sh]
theorem k_lit (d : D) : kk (pE V (.lit d) π) f g b = onO (litP d) (fun p => f p π) b := by rw [pE, kk_orB]
theorem k_gl (n : Nat) : kk (pE V (.gl n) π) f g b = onO (V.gv n) (fun p => f p π) b := by rw [pE, kk_orB]
theorem k_tup (es : Es) : kk (pE V (.tup es) π) f g b = kk (pEs V es π) (fun ps π1 => ifP (ps.length ≤ sizeLine) (f (.tup ps) π1) b) g b := by
  rw [pE, kk_bind]
  refine kk_ext fun ps π1 => ?_
  rw [kk_if]; rfl
def frK (s : PSrc) (x b : β) (_t : Tag (x, b) := ()) : β := match s with
  | .fresh => x
  | _ => b
theorem frK_f (x : β) : frK .fresh x b = x := rfl
theorem k_mk (l : L) : kk (pE V (.mk l) π) f g b = kk (pL V l π) (fun z π1 => frK z.2 (f (.lst z.1) π1) b) g b := by
  rw [pE, kk_bind]
  refine kk_ext fun z π1 => ?_
  obtain ⟨ps, s⟩ := z
  cases s <;> rfl
theorem k_pk2 (x y : E) (ex ey : Pl → PR P) (f : P × P → Pl → β) : kk (pk2 x y ex ey π) f g b = onO (isVar x)
    (fun i => vaK π[i]? (fun _ => onO (isVar y) (fun j => vaK π[j]? (fun q => vaK π[i]? (fun p => f (p, q) π) b) b) (kk (ey π) (fun q π1 => vaK π1[i]? (fun p => f (p, q) π1) b) g b)) b)
    (kk (ex π) (fun p π1 => onO (isVar y) (fun j => vaK π1[j]? (fun q => f (p, q) π1) b) (kk (ey π1) (fun q π2 => f (p, q) π2) g b)) g b) := by
  unfold pk2
  have e1 : ∀ {γ : Type} (i : Nat) (h : P → PR γ) (F : γ → Pl → β) (π : Pl), kk ((vaP i π).bind fun p π0 => h p) F g b = vaK π[i]? (fun p => kk (h p) F g b) b := fun i h F π => by rw [kk_bind, k_va]
  cases hx : isVar x with
  | some i =>
    rw [onO_some]
    dsimp only
    rw [kk_bind, k_va]
    refine vaK_ext fun _ => ?_
    rw [kk_bind, k_pk]
    cases hy : isVar y with
    | some j =>
      rw [onO_some, onO_some]
      refine vaK_ext fun q => ?_
      rw [kk_bind, k_va]
      rfl
    | none =>
      rw [onO_none, onO_none]
      refine kk_ext fun q π1 => ?_
      rw [kk_bind, k_va]
      rfl
  | none =>
    rw [onO_none]
    dsimp only
    rw [kk_bind]
    refine kk_ext fun p π1 => ?_
    rw [kk_bind, k_pk]
    rfl
theorem k_bin (op : Bop) (x y : E) : kk (pE V (.bin op x y) π) f g b = kk (pk2 x y (pE V x) (pE V y) π) (fun z π1 => onO (binP op z.1 z.2) (fun p => f p π1) b) g b := by
  rw [pE, kk_bind]
  refine kk_ext fun z π1 => ?_
  rw [kk_orB]
theorem k_neg (x : E) : kk (pE V (.neg x) π) f g b = kk (pE V x π) (fun p π1 => onN p (fun i => f (.int (-i)) π1) b) g b := by
  rw [pE, kk_bind]
  refine kk_ext fun p π1 => ?_
  cases p <;> rfl
theorem k_cmp (op : Cop) (x y : E) : kk (pE V (.cmp op x y) π) f g b = kk (pk2 x y (pE V x) (pE V y) π) (fun z π1 => onO (cmpP op z.1 z.2) (fun k => f (.bl k) π1) b) g b := by
  rw [pE, kk_bind]
  refine kk_ext fun z π1 => ?_
  rw [kk_orB]
  cases cmpP op z.1 z.2 <;> rfl
theorem k_chn (op op' : Cop) (x y z : E) : kk (pE V (.chn op op' x y z) π) f g b = kk (pE V x π) (fun p π1 => kk (pE V y π1) (fun q π2 => onO (cmpP op p q) (fun k => ifB k (kk (pE V z π2) (fun r π4 => onO (cmpP op' q r) (fun k => f (.bl k) π4) b) g b) (f (.bl false) π2)) b) g b) g b := by
  rw [pE, kk_bind]
  refine kk_ext fun p π1 => ?_
  rw [kk_bind]
  refine kk_ext fun q π2 => ?_
  rw [kk_bind, kk_orB]
  cases cmpP op p q with
  | none => rfl
  | some k =>
    rw [onO_some, onO_some, kk_ifB]
    cases k with
    | false => rfl
    | true =>
      rw [ifB_t, ifB_t, kk_bind]
      refine kk_ext fun r π4 => ?_
      rw [kk_orB]
      cases cmpP op' q r <;> rfl
theorem k_isn (x : E) : kk (pE V (.isn x) π) f g b = kk (pkW x (pE V x) π) (fun p π1 => f (.bl (isN p)) π1) g b := by
  rw [pE, kk_bind]
  refine kk_ext fun p π1 => ?_
  cases p <;> rfl
theorem k_nsn (x : E) : kk (pE V (.nsn x) π) f g b = kk (pkW x (pE V x) π) (fun p π1 => f (.bl (!isN p)) π1) g b := by
  rw [pE, kk_bind]
  refine kk_ext fun p π1 => ?_
  cases p <;> rfl
theorem k_and (x y : E) : kk (pE V (.and_ x y) π) f g b = kk (pE V x π) (fun p π1 => onB p (fun k => ifB k (kk (pE V y π1) (fun q π2 => onB q (fun k' => f (.bl k') π2) b) g b) (f (.bl false) π1)) b) g b := by
  rw [pE, kk_bind]
  refine kk_ext fun p π1 => ?_
  cases p with
  | bl k =>
    dsimp only
    rw [onB_bl, kk_ifB]
    cases k with
    | false => rfl
    | true =>
      rw [ifB_t, ifB_t, kk_bind]
      refine kk_ext fun q π2 => ?_
      cases q <;> rfl
  | _ => rfl
theorem k_or (x y : E) : kk (pE V (.or_ x y) π) f g b = kk (pE V x π) (fun p π1 => onB p (fun k => ifB k (f (.bl true) π1) (kk (pE V y π1) (fun q π2 => onB q (fun k' => f (.bl k') π2) b) g b)) b) g b := by
  rw [pE, kk_bind]
  refine kk_ext fun p π1 => ?_
  cases p with
  | bl k =>
    dsimp only
    rw [onB_bl, kk_ifB]
    cases k with
    | true => rfl
    | false =>
      rw [ifB_f, ifB_f, kk_bind]
      refine kk_ext fun q π2 => ?_
      cases q <;> rfl
  | _ => rfl
theorem k_not (x : E) : kk (pE V (.not_ x) π) f g b = kk (pE V x π) (fun p π1 => onB p (fun k => f (.bl (!k)) π1) b) g b := by
  rw [pE, kk_bind]
  refine kk_ext fun p π1 => ?_
  cases p <;> rfl
theorem k_ife (c x y : E) : kk (pE V (.ife c x y) π) f g b = kk (pE V c π) (fun p π1 => onB p (fun k => ifB k (kk (pE V x π1) f g b) (kk (pE V y π1) f g b)) b) g b := by
  rw [pE, kk_bind]
  refine kk_ext fun p π1 => ?_
  cases p with
  | bl k => dsimp only; rw [onB_bl, kk_ifB]
  | _ => rfl
theorem k_idx (x y : E) : kk (pE V (.idx x y) π) f g b = kk (pk2 x y (pE V x) (pE V y) π) (fun z π1 => onO (idxP z.1 z.2) (fun p => f p π1) b) g b := by
  rw [pE, kk_bind]
  refine kk_ext fun z π1 => ?_
  rw [kk_orB]
theorem k_sli (x : E) (lo hi : Oe) : kk (pE V (.sli x lo hi) π) f g b = onO (isVar x)
    (fun i => vaK π[i]? (fun _ => kk (pO V lo π) (fun l π1 => kk (pO V hi π1) (fun h π2 => vaK π2[i]? (fun p => onO (sliP p l h) (fun r => f r π2) b) b) g b) g b) b)
    (kk (pE V x π) (fun p π1 => kk (pO V lo π1) (fun l π2 => kk (pO V hi π2) (fun h π3 => onO (sliP p l h) (fun r => f r π3) b) g b) g b) g b) := by
  rw [pE]
  cases hx : isVar x with
  | some i =>
    rw [onO_some]
    dsimp only
    rw [kk_bind, k_va]
    refine vaK_ext fun _ => ?_
    rw [kk_bind]
    refine kk_ext fun l π1 => ?_
    rw [kk_bind]
    refine kk_ext fun h π2 => ?_
    rw [kk_bind, k_va]
    refine vaK_ext fun p => ?_
    rw [kk_orB]
  | none =>
    rw [onO_none]
    dsimp only
    rw [kk_bind]
    refine kk_ext fun p π1 => ?_
    rw [kk_bind]
    refine kk_ext fun l π2 => ?_
    rw [kk_bind]
    refine kk_ext fun h π3 => ?_
    rw [kk_orB]
theorem k_rev (x : E) : kk (pE V (.rev x) π) f g b = kk (pkW x (pE V x) π) (fun p π1 => onO (revP p) (fun r => f r π1) b) g b := by
  rw [pE, kk_bind]
  refine kk_ext fun p π1 => ?_
  rw [kk_orB]
theorem k_callP (n : Nat) (ps : List P) : kk (callP V n ps π) f g b = onC (V.call n ps) (fun p _ => f p π) (fun _ _ _ => b) (fun c v => g c v π) b := by
  unfold callP onC
  generalize V.call n ps = o
  rcases o with ⟨p, fr, _ | qs⟩ | _ | _ <;> rfl
theorem k_callF (n : Nat) (ps : List P) (f : P × Bool → Pl → β) : kk (callF V n ps π) f g b = onC (V.call n ps) (fun p fr => f (p, fr) π) (fun _ _ _ => b) (fun c v => g c v π) b := by
  unfold callF onC
  generalize V.call n ps = o
  rcases o with ⟨p, fr, _ | qs⟩ | _ | _ <;> rfl
theorem k_ioP (n i : Nat) (ps : List P) : kk (ioP V n i ps π) f g b = onL π[i]? (fun qs => onC (V.call n (.lst qs :: ps)) (fun _ _ => b) (fun p _ qs' => f p (π.set i (some (true, .lst qs')))) (fun _ _ => b) b) b := by
  unfold ioP onL onC
  generalize π[i]? = o
  rcases o with _ | _ | ⟨_ | _, p⟩ <;> try rfl
  cases p <;> try rfl
  next qs =>
  dsimp only
  generalize V.call n (.lst qs :: ps) = o
  rcases o with ⟨p, fr, _ | qs⟩ | _ | _ <;> rfl
theorem k_ioF (n i : Nat) (ps : List P) (f : P × Bool → Pl → β) : kk (ioF V n i ps π) f g b = onL π[i]? (fun qs => onC (V.call n (.lst qs :: ps)) (fun _ _ => b) (fun p fr qs' => f (p, fr) (π.set i (some (true, .lst qs')))) (fun _ _ => b) b) b := by
  unfold ioF onL onC
  generalize π[i]? = o
  rcases o with _ | _ | ⟨_ | _, p⟩ <;> try rfl
  cases p <;> try rfl
  next qs =>
  dsimp only
  generalize V.call n (.lst qs :: ps) = o
  rcases o with ⟨p, fr, _ | qs⟩ | _ | _ <;> rfl
theorem k_call (n : Nat) (es : Es) (h : V.io n = false) : kk (pE V (.call n es) π) f g b = kk (pEs V es π) (fun ps π1 => onC (V.call n ps) (fun p _ => f p π1) (fun _ _ _ => b) (fun c v => g c v π1) b) g b := by
  rw [pE, if_neg (by rw [h]; decide), kk_bind]
  refine kk_ext fun ps π1 => ?_
  rw [k_callP]
theorem k_calli (n i : Nat) (es : Es) (h : V.io n = true) : kk (pE V (.call n (.cons (.var i) es)) π) f g b = ifB (ownQ i π) (kk (pEs V es π) (fun ps π1 => onL π1[i]? (fun qs => onC (V.call n (.lst qs :: ps)) (fun _ _ => b) (fun p _ qs' => f p (π1.set i (some (true, .lst qs')))) (fun _ _ => b) b) b) g b) b := by
  rw [pE, if_pos h]
  show kk (if ownQ i π = true then (pEt V (.cons (.var i) es) π).bind _ else .bad) f g b = _
  rw [kk_ifB]
  unfold ifB
  split
  · rw [kk_bind, pEt]
    refine kk_ext fun ps π1 => ?_
    rw [k_ioP]
  · rfl
theorem k_callK (n : Nat) (es ks : Es) (pm : List Nat) (h : V.io n = false) : kk (pE V (.callK n es ks pm) π) f g b = kk (pEs V es π) (fun ps π1 => kk (pEs V ks π1) (fun ws π2 => onO (permP (ps ++ ws) pm) (fun zs => onC (V.call n zs) (fun p _ => f p π2) (fun _ _ _ => b) (fun c v => g c v π2) b) b) g b) g b := by
  rw [pE, if_neg (by rw [h]; decide), kk_bind]
  refine kk_ext fun ps π1 => ?_
  rw [kk_bind]
  refine kk_ext fun ws π2 => ?_
  rw [kk_bind, kk_orB]
  cases permP (ps ++ ws) pm with
  | none => rfl
  | some zs => rw [onO_some, onO_some, k_callP]
theorem k_bi (o : Bi) (es : Es) : kk (pE V (.bi o es) π) f g b = kk (pEk V es π) (fun ps π1 => onO (biP o ps) (fun p => f p π1) b) g b := by
  rw [pE, kk_bind]
  refine kk_ext fun p π1 => ?_
  rw [kk_orB]
theorem k_blt (o : Bl) (l : L) : kk (pE V (.bl o l) π) f g b = kk (pL V l π) (fun z π1 => onO (blP o z.1 z.2) (fun p => f p π1) b) g b := by
  rw [pE, kk_bind]
  refine kk_ext fun p π1 => ?_
  rw [kk_orB]
theorem k_isi (x : E) (T : Ty) : kk (pE V (.isi x T) π) f g b = kk (pkW x (pE V x) π) (fun p π1 => onO (isiP V.sub p T) (fun k => f (.bl k) π1) b) g b := by
  rw [pE, kk_bind]
  refine kk_ext fun p π1 => ?_
  rw [kk_orB]
  cases isiP V.sub p T <;> rfl
theorem k_isT (x : E) (T : List Ty) : kk (pE V (.isT x T) π) f g b = kk (pkW x (pE V x) π) (fun p π1 => onO (isTP V.sub p T) (fun k => f (.bl k) π1) b) g b := by
  rw [pE, kk_bind]
  refine kk_ext fun p π1 => ?_
  rw [kk_orB]
  cases isTP V.sub p T <;> rfl
theorem k_fld (x : E) (n : Nat) : kk (pE V (.fld x n) π) f g b = kk (pkW x (pE V x) π) (fun p π1 => onO (fldP p n) (fun k => f k π1) b) g b := by
  rw [pE, kk_bind]
  refine kk_ext fun p π1 => ?_
  rw [kk_orB]
theorem k_meth (c m : Nat) (x : E) (es : Es) (h : V.io m = false) : kk (pE V (.meth c m x es) π) f g b = kk (pE V x π) (fun p π1 => onM p (fun c' fs => ifP (c' = c) (kk (pEs V es π1) (fun ps π2 => onC (V.call m (.ins c' fs :: ps)) (fun p _ => f p π2) (fun _ _ _ => b) (fun c v => g c v π2) b) g b) b) b) g b := by
  rw [pE, if_neg (by rw [h]; decide), kk_bind]
  refine kk_ext fun p π1 => ?_
  cases p with
  | ins c' fs =>
    dsimp only
    rw [onM_ins, kk_if]
    unfold ifP
    split
    · rw [kk_bind]
      refine kk_ext fun ps π2 => ?_
      rw [k_callP]
    · rfl
  | _ => rfl
theorem k_make (c : Nat) (es : Es) : kk (pE V (.make c es) π) f g b = kk (pEs V es π) (fun ps π1 => onC (V.mkC c ps) (fun p _ => f p π1) (fun _ _ _ => b) (fun _ _ => b) b) g b := by
  rw [pE, kk_bind]
  refine kk_ext fun ps π1 => ?_
  unfold onC
  generalize V.mkC c ps = o
  rcases o with ⟨p, fr, _ | qs⟩ | _ | _ <;> rfl
theorem k_dct (ks : List L2.Key) (es : Es) : kk (pE V (.dct ks es) π) f g b = kk (pEs V es π) (fun ps π1 => ifP (ps.length = ks.length ∧ ks.Nodup ∧ ks.length ≤ 15) (f (.dct (ks.zip ps)) π1) b) g b := by
  rw [pE, kk_bind]
  refine kk_ext fun ps π1 => ?_
  rw [kk_if]; rfl
theorem k_dct0 : kk (pE V (.dct [] .nil) π) f g b = f (.dct []) π := by rw [pE, pEs]; rfl
theorem k_exv (c : Nat) (x : E) : kk (pE V (.exv c x) π) f g b = kk (pE V x π) (fun p π1 => f (.exc c p) π1) g b := by rw [pE, kk_bind]; rfl
end
section
variable {β : Type} {V : PV} {π : Pl} (g : Nat → P × Bool → Pl → β) (b : β)
theorem k_nil (f : List P → Pl → β) : kk (pEs V .nil π) f g b = f [] π := by rw [pEs]; rfl
theorem k_cons (e : E) (es : Es) (f : List P → Pl → β) : kk (pEs V (.cons e es) π) f g b = kk (pE V e π) (fun p π1 => kk (pEs V es π1) (fun ps π2 => f (p :: ps) π2) g b) g b := by
  rw [pEs, kk_bind]
  refine kk_ext fun p π1 => ?_
  rw [kk_bind]; rfl
theorem k_knil (f : List P → Pl → β) : kk (pEk V .nil π) f g b = f [] π := by rw [pEk]; rfl
theorem k_kone (e : E) (f : List P → Pl → β) : kk (pEk V (.cons e .nil) π) f g b = kk (pkW e (pE V e) π) (fun p π1 => f [p] π1) g b := by
  rw [pEk, kk_bind]
  show kk (pkW e (pE V e) π) _ g b = _
  refine kk_ext fun p π1 => ?_
  rw [kk_bind, pEk]; rfl
theorem k_kcons (e e' : E) (es : Es) (f : List P → Pl → β) : kk (pEk V (.cons e (.cons e' es)) π) f g b = kk (pE V e π) (fun p π1 => kk (pEk V (.cons e' es) π1) (fun ps π2 => f (p :: ps) π2) g b) g b := by
  rw [pEk, kk_bind]
  show kk (pE V e π) _ g b = _
  refine kk_ext fun p π1 => ?_
  rw [kk_bind]; rfl
theorem k_no (f : Option Int → Pl → β) : kk (pO V .no π) f g b = f none π := by rw [pO]; rfl
theorem k_yes (e : E) (f : Option Int → Pl → β) : kk (pO V (.yes e) π) f g b = kk (pE V e π) (fun p π1 => onN p (fun i => f (some i) π1) b) g b := by
  rw [pO, kk_bind]
  refine kk_ext fun p π1 => ?_
  cases p <;> rfl
theorem k_tnil (f : Bool → Pl → β) : kk (pT V .nil π) f g b = f true π := by rw [pT]; rfl
theorem k_tcons (e : E) (es : Es) (f : Bool → Pl → β) : kk (pT V (.cons e es) π) f g b = kk (pE V e π) (fun p π1 => onB p (fun k => ifB k (kk (pT V es π1) f g b) (f false π1)) b) g b := by
  rw [pT, kk_bind]
  refine kk_ext fun p π1 => ?_
  cases p with
  | bl k => cases k <;> rfl
  | _ => rfl
theorem k_disp (es : Es) (f : List P × PSrc → Pl → β) : kk (pL V (.disp es) π) f g b = kk (pEs V es π) (fun ps π1 => ifP (ps.length ≤ sizeLine) (f (ps, .fresh) π1) b) g b := by
  rw [pL, kk_bind]
  refine kk_ext fun p π1 => ?_
  rw [kk_if]; rfl
theorem k_of (e : E) (f : List P × PSrc → Pl → β) : kk (pL V (.of e) π) f g b = kk (pkW e (pE V e) π) (fun p π1 => onO (srcP p) (fun z => f z π1) b) g b := by
  rw [pL, kk_bind]
  refine kk_ext fun p π1 => ?_
  rw [kk_orB]
theorem k_rng1 (e : E) (f : List P × PSrc → Pl → β) : kk (pL V (.rng1 e) π) f g b = kk (pE V e π) (fun p π1 => onO (rngP (.int 0) p) (fun z => f z π1) b) g b := by
  rw [pL, kk_bind]
  refine kk_ext fun p π1 => ?_
  rw [kk_orB]
theorem k_rng2 (e e' : E) (f : List P × PSrc → Pl → β) : kk (pL V (.rng2 e e') π) f g b = kk (pE V e π) (fun p π1 => kk (pE V e' π1) (fun q π2 => onO (rngP p q) (fun z => f z π2) b) g b) g b := by
  rw [pL, kk_bind]
  refine kk_ext fun p π1 => ?_
  rw [kk_bind]
  refine kk_ext fun q π2 => ?_
  rw [kk_orB]
theorem k_comp (own : List Nat) (tg : Tg) (src : L) (ifs : Es) (elt : E) (f : List P × PSrc → Pl → β) : kk (pL V (.comp own tg src ifs elt) π) f g b = kk (pL V src π) (fun z π1 => ifB (tgOk tg own && freeP own π1) (kk (compP (turnP V own tg ifs elt) z.1 [] (wipeP π1 (hidOf src π1))) (fun ds π2 => f (ds, .fresh) (backP π1 (own ++ hidOf src π1) π2)) g b) b) g b := by
  rw [pL, kk_bind]
  refine kk_ext fun z π1 => ?_
  have e : (tgOk tg own = true ∧ freeP own π1 = true) ↔ (tgOk tg own && freeP own π1) = true := by rw [Bool.and_eq_true]
  by_cases c : tgOk tg own = true ∧ freeP own π1 = true
  · rw [if_pos c, show (tgOk tg own && freeP own π1) = true from e.mp c, ifB_t, kk_bind]
    rfl
  · rw [if_neg c, show (tgOk tg own && freeP own π1) = false by simpa using c, ifB_f]
    rfl
end
/-! ### statements -/
section
variable {V : PV} {π : Pl} (f : Pl → PO)
theorem then_kk {α : Type} (r : PR α) (h : α → Pl → PO) : (kk r h .exc .bad).then f = kk r (fun a π => (h a π).then f) .exc .bad := by cases r <;> rfl
theorem then_if (c : Prop) [Decidable c] (p q : PO) : (if c then p else q).then f = if c then p.then f else q.then f := by split <;> rfl
theorem f_call (n : Nat) (es : Es) {β : Type} (f : P × Bool → Pl → β) (g : Nat → P × Bool → Pl → β) (b : β) (h : V.io n = false) : kk (pF V (.call n es) π) f g b = kk (pEs V es π) (fun ps π1 => onC (V.call n ps) (fun p fr => f (p, fr) π1) (fun _ _ _ => b) (fun c v => g c v π1) b) g b := by
  unfold pF
  dsimp only
  rw [if_neg (by rw [h]; decide), kk_bind]
  refine kk_ext fun ps π1 => ?_
  rw [k_callF]
theorem f_calli (n i : Nat) (es : Es) {β : Type} (f : P × Bool → Pl → β) (g : Nat → P × Bool → Pl → β) (b : β) (h : V.io n = true) : kk (pF V (.call n (.cons (.var i) es)) π) f g b = ifB (ownQ i π) (kk (pEs V es π) (fun ps π1 => onL π1[i]? (fun qs => onC (V.call n (.lst qs :: ps)) (fun _ _ => b) (fun p fr qs' => f (p, fr) (π1.set i (some (true, .lst qs')))) (fun _ _ => b) b) b) g b) b := by
  unfold pF
  dsimp only
  rw [if_pos h]
  show kk (if ownQ i π = true then (pEt V (.cons (.var i) es) π).bind _ else .bad) f g b = _
  rw [kk_ifB]
  unfold ifB
  split
  · rw [kk_bind, pEt]
    refine kk_ext fun ps π1 => ?_
    rw [k_ioF]
  · rfl
theorem f_callK (n : Nat) (es ks : Es) (pm : List Nat) {β : Type} (f : P × Bool → Pl → β) (g : Nat → P × Bool → Pl → β) (b : β) (h : V.io n = false) : kk (pF V (.callK n es ks pm) π) f g b = kk (pEs V es π) (fun ps π1 => kk (pEs V ks π1) (fun ws π2 => onO (permP (ps ++ ws) pm) (fun zs => onC (V.call n zs) (fun p fr => f (p, fr) π2) (fun _ _ _ => b) (fun c v => g c v π2) b) b) g b) g b := by
  unfold pF
  dsimp only
  rw [if_neg (by rw [h]; decide), kk_bind]
  refine kk_ext fun ps π1 => ?_
  rw [kk_bind]
  refine kk_ext fun ws π2 => ?_
  rw [kk_bind, kk_orB]
  cases permP (ps ++ ws) pm with
  | none => rfl
  | some zs => rw [onO_some, onO_some, k_callF]
/-- expressions that are no calls -/
def noCall : E → Bool
  | .call _ _ => false
  | .callK _ _ _ _ => false
  | _ => true
theorem f_exp (e : E) {β : Type} (f : P × Bool → Pl → β) (g : Nat → P × Bool → Pl → β) (b : β) (h : noCall e = true) : kk (pF V e π) f g b = kk (pE V e π) (fun p π1 => f (p, newE e && isLstP p) π1) g b := by
  cases e <;> first | (unfold pF; dsimp only; rw [kk_bind]; rfl) | cases h
/-- a call that may change its first list -/
def ioX {β : Type} (V : PV) (n : Nat) (es : Es) (π : Pl) (f : P → Bool → Pl → β) (g : Nat → P × Bool → Pl → β) (b : β) (_t : Tag (f, g, b) := ()) : β := match es with
  | .cons (.var i) es => ifB (ownQ i π) (kk (pEs V es π) (fun ps π1 => onL π1[i]? (fun qs => onC (V.call n (.lst qs :: ps)) (fun _ _ => b) (fun p fr qs' => f p fr (π1.set i (some (true, .lst qs')))) (fun _ _ => b) b) b) g b) b
  | _ => b
theorem io_var {β : Type} (n i : Nat) (es : Es) (f : P → Bool → Pl → β) (g : Nat → P × Bool → Pl → β) (b : β) : ioX V n (.cons (.var i) es) π f g b = ifB (ownQ i π) (kk (pEs V es π) (fun ps π1 => onL π1[i]? (fun qs => onC (V.call n (.lst qs :: ps)) (fun _ _ => b) (fun p fr qs' => f p fr (π1.set i (some (true, .lst qs')))) (fun _ _ => b) b) b) g b) b := rfl
theorem k_callX {β : Type} (n : Nat) (es : Es) (f : P → Pl → β) (g : Nat → P × Bool → Pl → β) (b : β) : kk (pE V (.call n es) π) f g b = ifB (V.io n) (ioX V n es π (fun p _ π1 => f p π1) g b) (kk (pEs V es π) (fun ps π1 => onC (V.call n ps) (fun p _ => f p π1) (fun _ _ _ => b) (fun c v => g c v π1) b) g b) := by
  cases h : V.io n with
  | false => rw [ifB_f, k_call _ _ _ _ _ h]
  | true =>
    rw [ifB_t]
    cases es with
    | nil => rw [pE, if_pos h]; rfl
    | cons e r =>
      cases e with
      | var i => rw [k_calli _ _ _ _ _ _ h]; rfl
      | _ => rw [pE, if_pos h]; rfl
theorem f_callX {β : Type} (n : Nat) (es : Es) (f : P × Bool → Pl → β) (g : Nat → P × Bool → Pl → β) (b : β) : kk (pF V (.call n es) π) f g b = ifB (V.io n) (ioX V n es π (fun p fr π1 => f (p, fr) π1) g b) (kk (pEs V es π) (fun ps π1 => onC (V.call n ps) (fun p fr => f (p, fr) π1) (fun _ _ _ => b) (fun c v => g c v π1) b) g b) := by
  cases h : V.io n with
  | false => rw [ifB_f, f_call _ _ _ _ _ h]
  | true =>
    rw [ifB_t]
    cases es with
    | nil => unfold pF; dsimp only; rw [if_pos h]; rfl
    | cons e r =>
      cases e with
      | var i => rw [f_calli _ _ _ _ _ _ h]; rfl
      | _ => unfold pF; dsimp only; rw [if_pos h]; rfl
theorem k_callKX {β : Type} (n : Nat) (es ks : Es) (pm : List Nat) (f : P → Pl → β) (g : Nat → P × Bool → Pl → β) (b : β) : kk (pE V (.callK n es ks pm) π) f g b = ifB (V.io n) b (kk (pEs V es π) (fun ps π1 => kk (pEs V ks π1) (fun ws π2 => onO (permP (ps ++ ws) pm) (fun zs => onC (V.call n zs) (fun p _ => f p π2) (fun _ _ _ => b) (fun c v => g c v π2) b) b) g b) g b) := by
  cases h : V.io n with
  | false => rw [ifB_f, k_callK _ _ _ _ _ _ _ h]
  | true => rw [ifB_t, pE, if_pos h]; rfl
theorem f_callKX {β : Type} (n : Nat) (es ks : Es) (pm : List Nat) (f : P × Bool → Pl → β) (g : Nat → P × Bool → Pl → β) (b : β) : kk (pF V (.callK n es ks pm) π) f g b = ifB (V.io n) b (kk (pEs V es π) (fun ps π1 => kk (pEs V ks π1) (fun ws π2 => onO (permP (ps ++ ws) pm) (fun zs => onC (V.call n zs) (fun p fr => f (p, fr) π2) (fun _ _ _ => b) (fun c v => g c v π2) b) b) g b) g b) := by
  cases h : V.io n with
  | false => rw [ifB_f, f_callK _ _ _ _ _ _ _ h]
  | true => rw [ifB_t]; unfold pF; dsimp only; rw [if_pos h]; rfl
theorem k_methX {β : Type} (c m : Nat) (x : E) (es : Es) (f : P → Pl → β) (g : Nat → P × Bool → Pl → β) (b : β) : kk (pE V (.meth c m x es) π) f g b = ifB (V.io m) b (kk (pE V x π) (fun p π1 => onM p (fun c' fs => ifP (c' = c) (kk (pEs V es π1) (fun ps π2 => onC (V.call m (.ins c' fs :: ps)) (fun p _ => f p π2) (fun _ _ _ => b) (fun c v => g c v π2) b) g b) b) b) g b) := by
  cases h : V.io m with
  | false => rw [ifB_f, k_meth _ _ _ _ _ _ _ h]
  | true => rw [ifB_t, pE, if_pos h]; rfl
theorem c_set (i : Nat) (e : E) : (pS V (.set i e) π).then f = kk (pF V e π) (fun z π1 => f (π1.set i (some (z.2 && !(V.ioc && i == 0), z.1)))) .exc .bad := by rw [pS, out_kk, then_kk]; rfl
theorem c_expr (e : E) : (pS V (.expr e) π).then f = (pX V e π).then f := by rw [pS]
theorem x_exp (e : E) (h : (match e with | .app _ _ => false | .ext _ _ => false | _ => true) = true) : (pX V e π).then f = kk (pE V e π) (fun _ π1 => f π1) .exc .bad := by
  cases e <;> first | (unfold pX; dsimp only; rw [out_kk, then_kk]; rfl) | cases h
theorem c_app (i : Nat) (x : E) : (pS V (.expr (.app (.var i) x)) π).then f = ifB (ownQ i π) (kk (pE V x π) (fun p π1 => onL π1[i]? (fun qs => ifP (qs.length < sizeLine) (f (π1.set i (some (true, .lst (qs ++ [p]))))) .bad) .bad) .exc .bad) .bad := by
  rw [pS]
  unfold pX ifB
  dsimp only
  rw [then_if]
  split
  · rw [out_kk, then_kk]
    refine kk_ext fun p π1 => ?_
    unfold lstUp onL ifP
    generalize π1[i]? = o
    rcases o with _ | _ | ⟨_ | _, q⟩ <;> try rfl
    cases q <;> try rfl
    next qs =>
    dsimp only
    by_cases c : qs.length < sizeLine
    · rw [if_pos c, if_pos c]; rfl
    · rw [if_neg c, if_neg c]; rfl
  · rfl
theorem c_ext (i : Nat) (x : E) : (pS V (.expr (.ext (.var i) x)) π).then f = ifB (ownQ i π) (kk (pE V x π) (fun p π1 => onK p (fun ys => onL π1[i]? (fun qs => ifP (qs.length + ys.length ≤ sizeLine) (f (π1.set i (some (true, .lst (qs ++ ys))))) .bad) .bad) .bad) .exc .bad) .bad := by
  rw [pS]
  unfold pX ifB
  dsimp only
  rw [then_if]
  split
  · rw [out_kk, then_kk]
    refine kk_ext fun p π1 => ?_
    cases p with
    | lst ys =>
      dsimp only
      rw [onK_lst]
      unfold lstUp onL ifP
      generalize π1[i]? = o
      rcases o with _ | _ | ⟨_ | _, q⟩ <;> try rfl
      cases q <;> try rfl
      next qs =>
      dsimp only
      by_cases c : qs.length + ys.length ≤ sizeLine
      · rw [if_pos c, if_pos c]; rfl
      · rw [if_neg c, if_neg c]; rfl
    | _ => rfl
  · rfl
theorem c_unp (is : List Nat) (e : E) : (pS V (.unp is e) π).then f = kk (pE V e π) (fun p π1 => onT p (fun ps => onO (setAllP is ps π1) f .bad) .bad) .exc .bad := by
  rw [pS, out_kk, then_kk]
  refine kk_ext fun p π1 => ?_
  cases p with
  | tup ps =>
    rw [onT_tup]
    show (outP (setAllP is ps π1) _).then f = _
    cases setAllP is ps π1 <;> rfl
  | _ => rfl
theorem c_par (is : List Nat) (es : Es) : (pS V (.par is es) π).then f = kk (pEs V es π) (fun ps π1 => onO (setAllP is ps π1) f .bad) .exc .bad := by
  rw [pS, out_kk, then_kk]
  refine kk_ext fun ps π1 => ?_
  cases setAllP is ps π1 <;> rfl
theorem c_setI (n : Nat) (i e : E) : (pS V (.setI (.var n) i e) π).then f = kk (pE V e π) (fun v π1 => ifB (ownQ n π1) (kk (pE V i π1) (fun y π2 => onN y (fun k => onL π2[n]? (fun qs => onO (L2.ixN qs.length k) (fun j => f (π2.set n (some (true, .lst (qs.set j v))))) .bad) .bad) .bad) .exc .bad) .bad) .exc .bad := by
  rw [pS]
  unfold pSI
  dsimp only
  rw [out_kk, then_kk]
  refine kk_ext fun v π1 => ?_
  unfold ifB
  rw [then_if]
  split
  · rw [out_kk, then_kk]
    refine kk_ext fun y π2 => ?_
    cases y with
    | int k =>
      dsimp only
      rw [onN_int]
      unfold lstUp onL
      generalize π2[n]? = o
      rcases o with _ | _ | ⟨_ | _, q⟩ <;> try rfl
      cases q <;> try rfl
      next qs =>
      dsimp only
      cases L2.ixN qs.length k <;> rfl
    | _ => rfl
  · rfl
theorem c_aug (i : Nat) (op : Bop) (e : E) : (pS V (.aug i op e) π).then f = vaK π[i]? (fun x => kk (pE V e π) (fun y π1 => onO (augP op x y) (fun r => f (π1.set i (some (false, r)))) .bad) .exc .bad) .bad := by
  rw [pS, out_kk, then_kk, k_va]
  refine vaK_ext fun x => ?_
  rw [out_kk, then_kk]
  refine kk_ext fun y π1 => ?_
  cases augP op x y <;> rfl
theorem c_ife (c : E) (p q : Ss) : (pS V (.ife c p q) π).then f = kk (pE V c π) (fun d π1 => onB d (fun k => ifB k ((pSs V p π1).then f) ((pSs V q π1).then f)) .bad) .exc .bad := by
  rw [pS, out_kk, then_kk]
  refine kk_ext fun d π1 => ?_
  cases d with
  | bl k => cases k <;> rfl
  | _ => rfl
theorem c_for (tg : Tg) (l : L) (p : Ss) : (pS V (.for_ tg l p) π).then f = kk (pLf V l π) (fun z π1 => (forP tg (pSs V p) z.1 π1).then f) .exc .bad := by rw [pS, out_kk, then_kk]
theorem l_var (i : Nat) {β : Type} (f : List P × PSrc → Pl → β) (g : Nat → P × Bool → Pl → β) (b : β) : kk (pLf V (.of (.var i)) π) f g b = shK π[i]? i π (fun p π1 => onO (srcP p) (fun z => f z π1) b) b := by
  unfold pLf
  dsimp only
  rw [kk_bind, k_sh]
  refine shK_ext fun p π1 => ?_
  rw [kk_orB]
def noVarL : L → Bool
  | .of (.var _) => false
  | _ => true
theorem l_exp (l : L) {β : Type} (f : List P × PSrc → Pl → β) (g : Nat → P × Bool → Pl → β) (b : β) (h : noVarL l = true) : kk (pLf V l π) f g b = kk (pL V l π) f g b := by
  cases l with
  | of e => cases e <;> first | rfl | cases h
  | _ => rfl
theorem c_whl (c : E) (p : Ss) : (pS V (.whl c p) π).then f = (whlP (pE V c) (pSs V p) V.fuel π).then f := by rw [pS]
theorem c_ret (e : E) : (pS V (.ret e) π).then f = pRt V e π := by
  rw [pS]
  unfold pRt
  split
  · split
    · rw [out_kk, then_kk]; rfl
    · split <;> rfl
  · rw [out_kk, then_kk]; rfl
theorem r_exp (e : E) (h : isVar e = none) : pRt V e π = kk (pF V e π) (fun z π1 => .ret z.1 z.2 π1) .exc .bad := by
  unfold pRt
  split
  · cases h
  · rw [out_kk]
/-- a name that is handed back -/
def rtK (o : Option (Option (Bool × P))) (i : Nat) (π : Pl) (ioc : Bool) : PO := match o with
  | some (some (true, p)) => if ioc = true then .ret p false (π.set i (some (false, p))) else .ret p true (π.set i none)
  | some (some (false, p)) => .ret p false π
  | _ => .bad
theorem rtK_f (p : P) (i : Nat) (ioc : Bool) : rtK (some (some (false, p))) i π ioc = .ret p false π := rfl
theorem rtK_t (p : P) (i : Nat) : rtK (some (some (true, p))) i π false = .ret p true (π.set i none) := rfl
theorem rtK_ti (p : P) (i : Nat) : rtK (some (some (true, p))) i π true = .ret p false (π.set i (some (false, p))) := rfl
theorem r_var (i : Nat) : pRt V (.var i) π = rtK π[i]? i π V.ioc := by
  unfold pRt rtK
  dsimp only
  cases hc : V.ioc with
  | true =>
    rw [if_pos rfl, out_kk, k_sh]
    unfold shK
    generalize π[i]? = o
    rcases o with _ | _ | ⟨_ | _, p⟩ <;> rfl
  | false =>
    rw [if_neg (by decide)]
    generalize π[i]? = o
    rcases o with _ | _ | ⟨_ | _, p⟩ <;> rfl
theorem c_retN : (pS V .retN π).then f = .ret .non false π := by rw [pS]; rfl
theorem c_rais (c : Nat) (e : E) : (pS V (.rais c e) π).then f = kk (pF V e π) (fun z π1 => .exc c z π1) .exc .bad := by rw [pS, out_kk, then_kk]; rfl
theorem c_pass : (pS V .pass π).then f = f π := by rw [pS]; rfl
theorem c_brk : (pS V .brk π).then f = .brk π := by rw [pS]; rfl
theorem c_cnt : (pS V .cnt π).then f = .cnt π := by rw [pS]; rfl
theorem c_try (p h : Ss) (c i : Nat) : (pS V (.try_ p c i h) π).then f = (catchP V c i (pSs V h) (pSs V p π)).then f := by rw [pS]
theorem c_nil : (pSs V (ss []) π).then f = f π := by show PO.then (pSs V .nil π) f = _; rw [pSs]; rfl
theorem then_then (o : PO) (h : Pl → PO) : (o.then h).then f = o.then fun π => (h π).then f := by cases o <;> rfl
theorem c_cons (s : Sm) (r : List Sm) : (pSs V (ss (s :: r)) π).then f = (pS V s π).then fun π1 => (pSs V (ss r) π1).then f := by show PO.then (pSs V (.cons s (ss r)) π) f = _; rw [pSs, then_then]
theorem then_id (o : PO) : o.then .nx = o := by cases o <;> rfl
theorem s_ss (p : List Sm) : pSs V (ss p) π = (pSs V (ss p) π).then .nx := (then_id _).symm
end
section
variable {V : PV} {π : Pl}
theorem v_var (i : Nat) : isVar (.var i) = some i := rfl
theorem v_lit (x1 : D) : isVar (.lit x1) = none := rfl
theorem v_gl (x1 : Nat) : isVar (.gl x1) = none := rfl
theorem v_tup (x1 : Es) : isVar (.tup x1) = none := rfl
theorem v_mk (x1 : L) : isVar (.mk x1) = none := rfl
theorem v_bin (x1 : Bop) (x2 x3 : E) : isVar (.bin x1 x2 x3) = none := rfl
theorem v_neg (x1 : E) : isVar (.neg x1) = none := rfl
theorem v_cmp (x1 : Cop) (x2 x3 : E) : isVar (.cmp x1 x2 x3) = none := rfl
theorem v_chn (x1 x2 : Cop) (x3 x4 x5 : E) : isVar (.chn x1 x2 x3 x4 x5) = none := rfl
theorem v_isn (x1 : E) : isVar (.isn x1) = none := rfl
theorem v_nsn (x1 : E) : isVar (.nsn x1) = none := rfl
theorem v_and_ (x1 x2 : E) : isVar (.and_ x1 x2) = none := rfl
theorem v_or_ (x1 x2 : E) : isVar (.or_ x1 x2) = none := rfl
theorem v_not_ (x1 : E) : isVar (.not_ x1) = none := rfl
theorem v_ife (x1 x2 x3 : E) : isVar (.ife x1 x2 x3) = none := rfl
theorem v_idx (x1 x2 : E) : isVar (.idx x1 x2) = none := rfl
theorem v_sli (x1 : E) (x2 x3 : Oe) : isVar (.sli x1 x2 x3) = none := rfl
theorem v_rev (x1 : E) : isVar (.rev x1) = none := rfl
theorem v_bi (x1 : Bi) (x2 : Es) : isVar (.bi x1 x2) = none := rfl
theorem v_bl (x1 : Bl) (x2 : L) : isVar (.bl x1 x2) = none := rfl
theorem v_isi (x1 : E) (x2 : Ty) : isVar (.isi x1 x2) = none := rfl
theorem v_isT (x1 : E) (x2 : List Ty) : isVar (.isT x1 x2) = none := rfl
theorem v_fld (x1 : E) (x2 : Nat) : isVar (.fld x1 x2) = none := rfl
theorem v_meth (x1 x2 : Nat) (x3 : E) (x4 : Es) : isVar (.meth x1 x2 x3 x4) = none := rfl
theorem v_make (x1 : Nat) (x2 : Es) : isVar (.make x1 x2) = none := rfl
theorem v_dct (x1 : List L2.Key) (x2 : Es) : isVar (.dct x1 x2) = none := rfl
theorem v_exv (x1 : Nat) (x2 : E) : isVar (.exv x1 x2) = none := rfl
theorem v_call (x1 : Nat) (x2 : Es) : isVar (.call x1 x2) = none := rfl
theorem v_callK (x1 : Nat) (x2 x3 : Es) (x4 : List Nat) : isVar (.callK x1 x2 x3 x4) = none := rfl
theorem v_app (x1 x2 : E) : isVar (.app x1 x2) = none := rfl
theorem v_ext (x1 x2 : E) : isVar (.ext x1 x2) = none := rfl
theorem f_var (x1 : Nat) {β : Type} (f : P × Bool → Pl → β) (g : Nat → P × Bool → Pl → β) (b : β) : kk (pF V (.var x1) π) f g b = kk (pE V (.var x1) π) (fun p π1 => f (p, false) π1) g b := f_exp _ f g b rfl
theorem f_lit (x1 : D) {β : Type} (f : P × Bool → Pl → β) (g : Nat → P × Bool → Pl → β) (b : β) : kk (pF V (.lit x1) π) f g b = kk (pE V (.lit x1) π) (fun p π1 => f (p, false) π1) g b := f_exp _ f g b rfl
theorem f_gl (x1 : Nat) {β : Type} (f : P × Bool → Pl → β) (g : Nat → P × Bool → Pl → β) (b : β) : kk (pF V (.gl x1) π) f g b = kk (pE V (.gl x1) π) (fun p π1 => f (p, false) π1) g b := f_exp _ f g b rfl
theorem f_tup (x1 : Es) {β : Type} (f : P × Bool → Pl → β) (g : Nat → P × Bool → Pl → β) (b : β) : kk (pF V (.tup x1) π) f g b = kk (pE V (.tup x1) π) (fun p π1 => f (p, false) π1) g b := f_exp _ f g b rfl
theorem f_mk (x1 : L) {β : Type} (f : P × Bool → Pl → β) (g : Nat → P × Bool → Pl → β) (b : β) : kk (pF V (.mk x1) π) f g b = kk (pE V (.mk x1) π) (fun p π1 => f (p, isLstP p) π1) g b := f_exp _ f g b rfl
theorem f_bin (x1 : Bop) (x2 x3 : E) {β : Type} (f : P × Bool → Pl → β) (g : Nat → P × Bool → Pl → β) (b : β) : kk (pF V (.bin x1 x2 x3) π) f g b = kk (pE V (.bin x1 x2 x3) π) (fun p π1 => f (p, isLstP p) π1) g b := f_exp _ f g b rfl
theorem f_neg (x1 : E) {β : Type} (f : P × Bool → Pl → β) (g : Nat → P × Bool → Pl → β) (b : β) : kk (pF V (.neg x1) π) f g b = kk (pE V (.neg x1) π) (fun p π1 => f (p, false) π1) g b := f_exp _ f g b rfl
theorem f_cmp (x1 : Cop) (x2 x3 : E) {β : Type} (f : P × Bool → Pl → β) (g : Nat → P × Bool → Pl → β) (b : β) : kk (pF V (.cmp x1 x2 x3) π) f g b = kk (pE V (.cmp x1 x2 x3) π) (fun p π1 => f (p, false) π1) g b := f_exp _ f g b rfl
theorem f_chn (x1 x2 : Cop) (x3 x4 x5 : E) {β : Type} (f : P × Bool → Pl → β) (g : Nat → P × Bool → Pl → β) (b : β) : kk (pF V (.chn x1 x2 x3 x4 x5) π) f g b = kk (pE V (.chn x1 x2 x3 x4 x5) π) (fun p π1 => f (p, false) π1) g b := f_exp _ f g b rfl
theorem f_isn (x1 : E) {β : Type} (f : P × Bool → Pl → β) (g : Nat → P × Bool → Pl → β) (b : β) : kk (pF V (.isn x1) π) f g b = kk (pE V (.isn x1) π) (fun p π1 => f (p, false) π1) g b := f_exp _ f g b rfl
theorem f_nsn (x1 : E) {β : Type} (f : P × Bool → Pl → β) (g : Nat → P × Bool → Pl → β) (b : β) : kk (pF V (.nsn x1) π) f g b = kk (pE V (.nsn x1) π) (fun p π1 => f (p, false) π1) g b := f_exp _ f g b rfl
theorem f_and_ (x1 x2 : E) {β : Type} (f : P × Bool → Pl → β) (g : Nat → P × Bool → Pl → β) (b : β) : kk (pF V (.and_ x1 x2) π) f g b = kk (pE V (.and_ x1 x2) π) (fun p π1 => f (p, false) π1) g b := f_exp _ f g b rfl
theorem f_or_ (x1 x2 : E) {β : Type} (f : P × Bool → Pl → β) (g : Nat → P × Bool → Pl → β) (b : β) : kk (pF V (.or_ x1 x2) π) f g b = kk (pE V (.or_ x1 x2) π) (fun p π1 => f (p, false) π1) g b := f_exp _ f g b rfl
theorem f_not_ (x1 : E) {β : Type} (f : P × Bool → Pl → β) (g : Nat → P × Bool → Pl → β) (b : β) : kk (pF V (.not_ x1) π) f g b = kk (pE V (.not_ x1) π) (fun p π1 => f (p, false) π1) g b := f_exp _ f g b rfl
theorem f_ife (x1 x2 x3 : E) {β : Type} (f : P × Bool → Pl → β) (g : Nat → P × Bool → Pl → β) (b : β) : kk (pF V (.ife x1 x2 x3) π) f g b = kk (pE V (.ife x1 x2 x3) π) (fun p π1 => f (p, false) π1) g b := f_exp _ f g b rfl
theorem f_idx (x1 x2 : E) {β : Type} (f : P × Bool → Pl → β) (g : Nat → P × Bool → Pl → β) (b : β) : kk (pF V (.idx x1 x2) π) f g b = kk (pE V (.idx x1 x2) π) (fun p π1 => f (p, false) π1) g b := f_exp _ f g b rfl
theorem f_sli (x1 : E) (x2 x3 : Oe) {β : Type} (f : P × Bool → Pl → β) (g : Nat → P × Bool → Pl → β) (b : β) : kk (pF V (.sli x1 x2 x3) π) f g b = kk (pE V (.sli x1 x2 x3) π) (fun p π1 => f (p, isLstP p) π1) g b := f_exp _ f g b rfl
theorem f_rev (x1 : E) {β : Type} (f : P × Bool → Pl → β) (g : Nat → P × Bool → Pl → β) (b : β) : kk (pF V (.rev x1) π) f g b = kk (pE V (.rev x1) π) (fun p π1 => f (p, isLstP p) π1) g b := f_exp _ f g b rfl
theorem f_bi (x1 : Bi) (x2 : Es) {β : Type} (f : P × Bool → Pl → β) (g : Nat → P × Bool → Pl → β) (b : β) : kk (pF V (.bi x1 x2) π) f g b = kk (pE V (.bi x1 x2) π) (fun p π1 => f (p, false) π1) g b := f_exp _ f g b rfl
theorem f_bl (x1 : Bl) (x2 : L) {β : Type} (f : P × Bool → Pl → β) (g : Nat → P × Bool → Pl → β) (b : β) : kk (pF V (.bl x1 x2) π) f g b = kk (pE V (.bl x1 x2) π) (fun p π1 => f (p, isLstP p) π1) g b := f_exp _ f g b rfl
theorem f_isi (x1 : E) (x2 : Ty) {β : Type} (f : P × Bool → Pl → β) (g : Nat → P × Bool → Pl → β) (b : β) : kk (pF V (.isi x1 x2) π) f g b = kk (pE V (.isi x1 x2) π) (fun p π1 => f (p, false) π1) g b := f_exp _ f g b rfl
theorem f_isT (x1 : E) (x2 : List Ty) {β : Type} (f : P × Bool → Pl → β) (g : Nat → P × Bool → Pl → β) (b : β) : kk (pF V (.isT x1 x2) π) f g b = kk (pE V (.isT x1 x2) π) (fun p π1 => f (p, false) π1) g b := f_exp _ f g b rfl
theorem f_fld (x1 : E) (x2 : Nat) {β : Type} (f : P × Bool → Pl → β) (g : Nat → P × Bool → Pl → β) (b : β) : kk (pF V (.fld x1 x2) π) f g b = kk (pE V (.fld x1 x2) π) (fun p π1 => f (p, false) π1) g b := f_exp _ f g b rfl
theorem f_meth (x1 x2 : Nat) (x3 : E) (x4 : Es) {β : Type} (f : P × Bool → Pl → β) (g : Nat → P × Bool → Pl → β) (b : β) : kk (pF V (.meth x1 x2 x3 x4) π) f g b = kk (pE V (.meth x1 x2 x3 x4) π) (fun p π1 => f (p, false) π1) g b := f_exp _ f g b rfl
theorem f_make (x1 : Nat) (x2 : Es) {β : Type} (f : P × Bool → Pl → β) (g : Nat → P × Bool → Pl → β) (b : β) : kk (pF V (.make x1 x2) π) f g b = kk (pE V (.make x1 x2) π) (fun p π1 => f (p, false) π1) g b := f_exp _ f g b rfl
theorem f_dct (x1 : List L2.Key) (x2 : Es) {β : Type} (f : P × Bool → Pl → β) (g : Nat → P × Bool → Pl → β) (b : β) : kk (pF V (.dct x1 x2) π) f g b = kk (pE V (.dct x1 x2) π) (fun p π1 => f (p, false) π1) g b := f_exp _ f g b rfl
theorem f_exv (x1 : Nat) (x2 : E) {β : Type} (f : P × Bool → Pl → β) (g : Nat → P × Bool → Pl → β) (b : β) : kk (pF V (.exv x1 x2) π) f g b = kk (pE V (.exv x1 x2) π) (fun p π1 => f (p, false) π1) g b := f_exp _ f g b rfl
theorem r_lit (x1 : D) : pRt V (.lit x1) π = kk (pF V (.lit x1) π) (fun z π1 => .ret z.1 z.2 π1) .exc .bad := r_exp _ rfl
theorem l_lit (x1 : D) {β : Type} (f : List P × PSrc → Pl → β) (g : Nat → P × Bool → Pl → β) (b : β) : kk (pLf V (.of (.lit x1)) π) f g b = kk (pL V (.of (.lit x1)) π) f g b := rfl
theorem r_gl (x1 : Nat) : pRt V (.gl x1) π = kk (pF V (.gl x1) π) (fun z π1 => .ret z.1 z.2 π1) .exc .bad := r_exp _ rfl
theorem l_gl (x1 : Nat) {β : Type} (f : List P × PSrc → Pl → β) (g : Nat → P × Bool → Pl → β) (b : β) : kk (pLf V (.of (.gl x1)) π) f g b = kk (pL V (.of (.gl x1)) π) f g b := rfl
theorem r_tup (x1 : Es) : pRt V (.tup x1) π = kk (pF V (.tup x1) π) (fun z π1 => .ret z.1 z.2 π1) .exc .bad := r_exp _ rfl
theorem l_tup (x1 : Es) {β : Type} (f : List P × PSrc → Pl → β) (g : Nat → P × Bool → Pl → β) (b : β) : kk (pLf V (.of (.tup x1)) π) f g b = kk (pL V (.of (.tup x1)) π) f g b := rfl
theorem r_mk (x1 : L) : pRt V (.mk x1) π = kk (pF V (.mk x1) π) (fun z π1 => .ret z.1 z.2 π1) .exc .bad := r_exp _ rfl
theorem l_mk (x1 : L) {β : Type} (f : List P × PSrc → Pl → β) (g : Nat → P × Bool → Pl → β) (b : β) : kk (pLf V (.of (.mk x1)) π) f g b = kk (pL V (.of (.mk x1)) π) f g b := rfl
theorem r_bin (x1 : Bop) (x2 x3 : E) : pRt V (.bin x1 x2 x3) π = kk (pF V (.bin x1 x2 x3) π) (fun z π1 => .ret z.1 z.2 π1) .exc .bad := r_exp _ rfl
theorem l_bin (x1 : Bop) (x2 x3 : E) {β : Type} (f : List P × PSrc → Pl → β) (g : Nat → P × Bool → Pl → β) (b : β) : kk (pLf V (.of (.bin x1 x2 x3)) π) f g b = kk (pL V (.of (.bin x1 x2 x3)) π) f g b := rfl
theorem r_neg (x1 : E) : pRt V (.neg x1) π = kk (pF V (.neg x1) π) (fun z π1 => .ret z.1 z.2 π1) .exc .bad := r_exp _ rfl
theorem l_neg (x1 : E) {β : Type} (f : List P × PSrc → Pl → β) (g : Nat → P × Bool → Pl → β) (b : β) : kk (pLf V (.of (.neg x1)) π) f g b = kk (pL V (.of (.neg x1)) π) f g b := rfl
theorem r_cmp (x1 : Cop) (x2 x3 : E) : pRt V (.cmp x1 x2 x3) π = kk (pF V (.cmp x1 x2 x3) π) (fun z π1 => .ret z.1 z.2 π1) .exc .bad := r_exp _ rfl
theorem l_cmp (x1 : Cop) (x2 x3 : E) {β : Type} (f : List P × PSrc → Pl → β) (g : Nat → P × Bool → Pl → β) (b : β) : kk (pLf V (.of (.cmp x1 x2 x3)) π) f g b = kk (pL V (.of (.cmp x1 x2 x3)) π) f g b := rfl
theorem r_chn (x1 x2 : Cop) (x3 x4 x5 : E) : pRt V (.chn x1 x2 x3 x4 x5) π = kk (pF V (.chn x1 x2 x3 x4 x5) π) (fun z π1 => .ret z.1 z.2 π1) .exc .bad := r_exp _ rfl
theorem l_chn (x1 x2 : Cop) (x3 x4 x5 : E) {β : Type} (f : List P × PSrc → Pl → β) (g : Nat → P × Bool → Pl → β) (b : β) : kk (pLf V (.of (.chn x1 x2 x3 x4 x5)) π) f g b = kk (pL V (.of (.chn x1 x2 x3 x4 x5)) π) f g b := rfl
theorem r_isn (x1 : E) : pRt V (.isn x1) π = kk (pF V (.isn x1) π) (fun z π1 => .ret z.1 z.2 π1) .exc .bad := r_exp _ rfl
theorem l_isn (x1 : E) {β : Type} (f : List P × PSrc → Pl → β) (g : Nat → P × Bool → Pl → β) (b : β) : kk (pLf V (.of (.isn x1)) π) f g b = kk (pL V (.of (.isn x1)) π) f g b := rfl
theorem r_nsn (x1 : E) : pRt V (.nsn x1) π = kk (pF V (.nsn x1) π) (fun z π1 => .ret z.1 z.2 π1) .exc .bad := r_exp _ rfl
theorem l_nsn (x1 : E) {β : Type} (f : List P × PSrc → Pl → β) (g : Nat → P × Bool → Pl → β) (b : β) : kk (pLf V (.of (.nsn x1)) π) f g b = kk (pL V (.of (.nsn x1)) π) f g b := rfl
theorem r_and_ (x1 x2 : E) : pRt V (.and_ x1 x2) π = kk (pF V (.and_ x1 x2) π) (fun z π1 => .ret z.1 z.2 π1) .exc .bad := r_exp _ rfl
theorem l_and_ (x1 x2 : E) {β : Type} (f : List P × PSrc → Pl → β) (g : Nat → P × Bool → Pl → β) (b : β) : kk (pLf V (.of (.and_ x1 x2)) π) f g b = kk (pL V (.of (.and_ x1 x2)) π) f g b := rfl
theorem r_or_ (x1 x2 : E) : pRt V (.or_ x1 x2) π = kk (pF V (.or_ x1 x2) π) (fun z π1 => .ret z.1 z.2 π1) .exc .bad := r_exp _ rfl
theorem l_or_ (x1 x2 : E) {β : Type} (f : List P × PSrc → Pl → β) (g : Nat → P × Bool → Pl → β) (b : β) : kk (pLf V (.of (.or_ x1 x2)) π) f g b = kk (pL V (.of (.or_ x1 x2)) π) f g b := rfl
theorem r_not_ (x1 : E) : pRt V (.not_ x1) π = kk (pF V (.not_ x1) π) (fun z π1 => .ret z.1 z.2 π1) .exc .bad := r_exp _ rfl
theorem l_not_ (x1 : E) {β : Type} (f : List P × PSrc → Pl → β) (g : Nat → P × Bool → Pl → β) (b : β) : kk (pLf V (.of (.not_ x1)) π) f g b = kk (pL V (.of (.not_ x1)) π) f g b := rfl
theorem r_ife (x1 x2 x3 : E) : pRt V (.ife x1 x2 x3) π = kk (pF V (.ife x1 x2 x3) π) (fun z π1 => .ret z.1 z.2 π1) .exc .bad := r_exp _ rfl
theorem l_ife (x1 x2 x3 : E) {β : Type} (f : List P × PSrc → Pl → β) (g : Nat → P × Bool → Pl → β) (b : β) : kk (pLf V (.of (.ife x1 x2 x3)) π) f g b = kk (pL V (.of (.ife x1 x2 x3)) π) f g b := rfl
theorem r_idx (x1 x2 : E) : pRt V (.idx x1 x2) π = kk (pF V (.idx x1 x2) π) (fun z π1 => .ret z.1 z.2 π1) .exc .bad := r_exp _ rfl
theorem l_idx (x1 x2 : E) {β : Type} (f : List P × PSrc → Pl → β) (g : Nat → P × Bool → Pl → β) (b : β) : kk (pLf V (.of (.idx x1 x2)) π) f g b = kk (pL V (.of (.idx x1 x2)) π) f g b := rfl
theorem r_sli (x1 : E) (x2 x3 : Oe) : pRt V (.sli x1 x2 x3) π = kk (pF V (.sli x1 x2 x3) π) (fun z π1 => .ret z.1 z.2 π1) .exc .bad := r_exp _ rfl
theorem l_sli (x1 : E) (x2 x3 : Oe) {β : Type} (f : List P × PSrc → Pl → β) (g : Nat → P × Bool → Pl → β) (b : β) : kk (pLf V (.of (.sli x1 x2 x3)) π) f g b = kk (pL V (.of (.sli x1 x2 x3)) π) f g b := rfl
theorem r_rev (x1 : E) : pRt V (.rev x1) π = kk (pF V (.rev x1) π) (fun z π1 => .ret z.1 z.2 π1) .exc .bad := r_exp _ rfl
theorem l_rev (x1 : E) {β : Type} (f : List P × PSrc → Pl → β) (g : Nat → P × Bool → Pl → β) (b : β) : kk (pLf V (.of (.rev x1)) π) f g b = kk (pL V (.of (.rev x1)) π) f g b := rfl
theorem r_bi (x1 : Bi) (x2 : Es) : pRt V (.bi x1 x2) π = kk (pF V (.bi x1 x2) π) (fun z π1 => .ret z.1 z.2 π1) .exc .bad := r_exp _ rfl
theorem l_bi (x1 : Bi) (x2 : Es) {β : Type} (f : List P × PSrc → Pl → β) (g : Nat → P × Bool → Pl → β) (b : β) : kk (pLf V (.of (.bi x1 x2)) π) f g b = kk (pL V (.of (.bi x1 x2)) π) f g b := rfl
theorem r_bl (x1 : Bl) (x2 : L) : pRt V (.bl x1 x2) π = kk (pF V (.bl x1 x2) π) (fun z π1 => .ret z.1 z.2 π1) .exc .bad := r_exp _ rfl
theorem l_bl (x1 : Bl) (x2 : L) {β : Type} (f : List P × PSrc → Pl → β) (g : Nat → P × Bool → Pl → β) (b : β) : kk (pLf V (.of (.bl x1 x2)) π) f g b = kk (pL V (.of (.bl x1 x2)) π) f g b := rfl
theorem r_isi (x1 : E) (x2 : Ty) : pRt V (.isi x1 x2) π = kk (pF V (.isi x1 x2) π) (fun z π1 => .ret z.1 z.2 π1) .exc .bad := r_exp _ rfl
theorem l_isi (x1 : E) (x2 : Ty) {β : Type} (f : List P × PSrc → Pl → β) (g : Nat → P × Bool → Pl → β) (b : β) : kk (pLf V (.of (.isi x1 x2)) π) f g b = kk (pL V (.of (.isi x1 x2)) π) f g b := rfl
theorem r_isT (x1 : E) (x2 : List Ty) : pRt V (.isT x1 x2) π = kk (pF V (.isT x1 x2) π) (fun z π1 => .ret z.1 z.2 π1) .exc .bad := r_exp _ rfl
theorem l_isT (x1 : E) (x2 : List Ty) {β : Type} (f : List P × PSrc → Pl → β) (g : Nat → P × Bool → Pl → β) (b : β) : kk (pLf V (.of (.isT x1 x2)) π) f g b = kk (pL V (.of (.isT x1 x2)) π) f g b := rfl
theorem r_fld (x1 : E) (x2 : Nat) : pRt V (.fld x1 x2) π = kk (pF V (.fld x1 x2) π) (fun z π1 => .ret z.1 z.2 π1) .exc .bad := r_exp _ rfl
theorem l_fld (x1 : E) (x2 : Nat) {β : Type} (f : List P × PSrc → Pl → β) (g : Nat → P × Bool → Pl → β) (b : β) : kk (pLf V (.of (.fld x1 x2)) π) f g b = kk (pL V (.of (.fld x1 x2)) π) f g b := rfl
theorem r_meth (x1 x2 : Nat) (x3 : E) (x4 : Es) : pRt V (.meth x1 x2 x3 x4) π = kk (pF V (.meth x1 x2 x3 x4) π) (fun z π1 => .ret z.1 z.2 π1) .exc .bad := r_exp _ rfl
theorem l_meth (x1 x2 : Nat) (x3 : E) (x4 : Es) {β : Type} (f : List P × PSrc → Pl → β) (g : Nat → P × Bool → Pl → β) (b : β) : kk (pLf V (.of (.meth x1 x2 x3 x4)) π) f g b = kk (pL V (.of (.meth x1 x2 x3 x4)) π) f g b := rfl
theorem r_make (x1 : Nat) (x2 : Es) : pRt V (.make x1 x2) π = kk (pF V (.make x1 x2) π) (fun z π1 => .ret z.1 z.2 π1) .exc .bad := r_exp _ rfl
theorem l_make (x1 : Nat) (x2 : Es) {β : Type} (f : List P × PSrc → Pl → β) (g : Nat → P × Bool → Pl → β) (b : β) : kk (pLf V (.of (.make x1 x2)) π) f g b = kk (pL V (.of (.make x1 x2)) π) f g b := rfl
theorem r_dct (x1 : List L2.Key) (x2 : Es) : pRt V (.dct x1 x2) π = kk (pF V (.dct x1 x2) π) (fun z π1 => .ret z.1 z.2 π1) .exc .bad := r_exp _ rfl
theorem l_dct (x1 : List L2.Key) (x2 : Es) {β : Type} (f : List P × PSrc → Pl → β) (g : Nat → P × Bool → Pl → β) (b : β) : kk (pLf V (.of (.dct x1 x2)) π) f g b = kk (pL V (.of (.dct x1 x2)) π) f g b := rfl
theorem r_exv (x1 : Nat) (x2 : E) : pRt V (.exv x1 x2) π = kk (pF V (.exv x1 x2) π) (fun z π1 => .ret z.1 z.2 π1) .exc .bad := r_exp _ rfl
theorem l_exv (x1 : Nat) (x2 : E) {β : Type} (f : List P × PSrc → Pl → β) (g : Nat → P × Bool → Pl → β) (b : β) : kk (pLf V (.of (.exv x1 x2)) π) f g b = kk (pL V (.of (.exv x1 x2)) π) f g b := rfl
theorem r_call (x1 : Nat) (x2 : Es) : pRt V (.call x1 x2) π = kk (pF V (.call x1 x2) π) (fun z π1 => .ret z.1 z.2 π1) .exc .bad := r_exp _ rfl
theorem l_call (x1 : Nat) (x2 : Es) {β : Type} (f : List P × PSrc → Pl → β) (g : Nat → P × Bool → Pl → β) (b : β) : kk (pLf V (.of (.call x1 x2)) π) f g b = kk (pL V (.of (.call x1 x2)) π) f g b := rfl
theorem r_callK (x1 : Nat) (x2 x3 : Es) (x4 : List Nat) : pRt V (.callK x1 x2 x3 x4) π = kk (pF V (.callK x1 x2 x3 x4) π) (fun z π1 => .ret z.1 z.2 π1) .exc .bad := r_exp _ rfl
theorem l_callK (x1 : Nat) (x2 x3 : Es) (x4 : List Nat) {β : Type} (f : List P × PSrc → Pl → β) (g : Nat → P × Bool → Pl → β) (b : β) : kk (pLf V (.of (.callK x1 x2 x3 x4)) π) f g b = kk (pL V (.of (.callK x1 x2 x3 x4)) π) f g b := rfl
theorem l_Ldisp (x1 : Es) {β : Type} (f : List P × PSrc → Pl → β) (g : Nat → P × Bool → Pl → β) (b : β) : kk (pLf V (.disp x1) π) f g b = kk (pL V (.disp x1) π) f g b := rfl
theorem l_Lrng1 (x1 : E) {β : Type} (f : List P × PSrc → Pl → β) (g : Nat → P × Bool → Pl → β) (b : β) : kk (pLf V (.rng1 x1) π) f g b = kk (pL V (.rng1 x1) π) f g b := rfl
theorem l_Lrng2 (x1 x2 : E) {β : Type} (f : List P × PSrc → Pl → β) (g : Nat → P × Bool → Pl → β) (b : β) : kk (pLf V (.rng2 x1 x2) π) f g b = kk (pL V (.rng2 x1 x2) π) f g b := rfl
theorem l_Lcomp (x1 : List Nat) (x2 : Tg) (x3 : L) (x4 : Es) (x5 : E) {β : Type} (f : List P × PSrc → Pl → β) (g : Nat → P × Bool → Pl → β) (b : β) : kk (pLf V (.comp x1 x2 x3 x4 x5) π) f g b = kk (pL V (.comp x1 x2 x3 x4 x5) π) f g b := rfl
theorem x_meth (x1 x2 : Nat) (x3 : E) (x4 : Es) (f : Pl → PO) : (pS V (.expr (.meth x1 x2 x3 x4)) π).then f = kk (pE V (.meth x1 x2 x3 x4) π) (fun _ π1 => f π1) .exc .bad := by rw [c_expr, x_exp _ _ rfl]
theorem x_call (x1 : Nat) (x2 : Es) (f : Pl → PO) : (pS V (.expr (.call x1 x2)) π).then f = kk (pE V (.call x1 x2) π) (fun _ π1 => f π1) .exc .bad := by rw [c_expr, x_exp _ _ rfl]
theorem x_callK (x1 : Nat) (x2 x3 : Es) (x4 : List Nat) (f : Pl → PO) : (pS V (.expr (.callK x1 x2 x3 x4)) π).then f = kk (pE V (.callK x1 x2 x3 x4) π) (fun _ π1 => f π1) .exc .bad := by rw [c_expr, x_exp _ _ rfl]
theorem i_non  : isLstP .non = false := rfl
theorem n_non  : isN .non = true := rfl
theorem i_bl (x1 : Bool) : isLstP (.bl x1) = false := rfl
theorem n_bl (x1 : Bool) : isN (.bl x1) = false := rfl
theorem i_int (x1 : Int) : isLstP (.int x1) = false := rfl
theorem n_int (x1 : Int) : isN (.int x1) = false := rfl
theorem i_str (x1 : Str) : isLstP (.str x1) = false := rfl
theorem n_str (x1 : Str) : isN (.str x1) = false := rfl
theorem i_tup (x1 : List P) : isLstP (.tup x1) = false := rfl
theorem n_tup (x1 : List P) : isN (.tup x1) = false := rfl
theorem i_lst (x1 : List P) : isLstP (.lst x1) = true := rfl
theorem n_lst (x1 : List P) : isN (.lst x1) = false := rfl
theorem i_frz (x1 : List P) : isLstP (.frz x1) = false := rfl
theorem n_frz (x1 : List P) : isN (.frz x1) = false := rfl
theorem i_dct (x1 : List (L2.Key × P)) : isLstP (.dct x1) = false := rfl
theorem n_dct (x1 : List (L2.Key × P)) : isN (.dct x1) = false := rfl
theorem i_ins (x1 : Nat) (x2 : List (Nat × P)) : isLstP (.ins x1 x2) = false := rfl
theorem n_ins (x1 : Nat) (x2 : List (Nat × P)) : isN (.ins x1 x2) = false := rfl
theorem i_exc (x1 : Nat) (x2 : P) : isLstP (.exc x1 x2) = false := rfl
theorem n_exc (x1 : Nat) (x2 : P) : isN (.exc x1 x2) = false := rfl
/-- is a name's list its own -/
def ownK : Option (Option (Bool × P)) → Bool
  | some (some (true, _)) => true
  | _ => false
theorem o_q (i : Nat) : ownQ i π = ownK π[i]? := by
  unfold ownQ ownK
  generalize π[i]? = o
  rcases o with _ | _ | ⟨_ | _, p⟩ <;> rfl
theorem th_nx (π : Pl) (f : Pl → PO) : (PO.nx π).then f = f π := rfl
theorem th_ret (p : P) (fr : Bool) (π : Pl) (f : Pl → PO) : (PO.ret p fr π).then f = .ret p fr π := rfl
theorem th_exc (c : Nat) (v : P × Bool) (π : Pl) (f : Pl → PO) : (PO.exc c v π).then f = .exc c v π := rfl
theorem th_brk (π : Pl) (f : Pl → PO) : (PO.brk π).then f = .brk π := rfl
theorem th_cnt (π : Pl) (f : Pl → PO) : (PO.cnt π).then f = .cnt π := rfl
/-- behind a handler -/
def ctH (i : Nat) (o : PO) : PO := match o with
  | .nx π2 => .nx (π2.set i none)
  | .ret p fr π2 => .ret p fr π2
  | .brk π2 => .brk (π2.set i none)
  | .cnt π2 => .cnt (π2.set i none)
  | _ => .bad
theorem ct_nx (c i : Nat) (h : Pl → PO) (π : Pl) : catchP V c i h (.nx π) = .nx π := rfl
theorem ct_ret (c i : Nat) (h : Pl → PO) (p : P) (fr : Bool) (π : Pl) : catchP V c i h (.ret p fr π) = .ret p fr π := rfl
theorem ct_exc (c i k : Nat) (h : List Sm) (v : P × Bool) (π : Pl) : catchP V c i (pSs V (ss h)) (.exc k v π) = ifB (V.sub k c) (ctH i ((pSs V (ss h) (π.set i (some (false, .exc k v.1)))).then .nx)) (.exc k v π) := by
  unfold catchP ifB ctH
  dsimp only
  rw [then_id]
  all_goals
    split
    · cases pSs V (ss h) (π.set i (some (false, .exc k v.1))) <;> rfl
    · rfl
theorem ch_nx (i : Nat) (π : Pl) : ctH i (.nx π) = .nx (π.set i none) := rfl
theorem c_tryX (p h : List Sm) (c i : Nat) (f : Pl → PO) : (pS V (.try_ (ss p) c i (ss h)) π).then f = (catchP V c i (pSs V (ss h)) ((pSs V (ss p) π).then .nx)).then f := by rw [pS, then_id]
/-- a turn's end -/
def lpK (tg : Tg) (g : Pl → PO) (xs : List P) (f : Pl → PO) (o : PO) : PO := match o with
  | .nx π2 => (forP tg g xs π2).then f
  | .cnt π2 => (forP tg g xs π2).then f
  | .brk π2 => f π2
  | .ret p fr π2 => .ret p fr π2
  | .exc c v π2 => .exc c v π2
  | .bad => .bad
theorem fp_nil (tg : Tg) (g : Pl → PO) (f : Pl → PO) : (forP tg g [] π).then f = f π := rfl
theorem fp_cons (tg : Tg) (b : List Sm) (x : P) (xs : List P) (f : Pl → PO) : (forP tg (pSs V (ss b)) (x :: xs) π).then f = onO (tgP tg x π) (fun π1 => lpK tg (pSs V (ss b)) xs f ((pSs V (ss b) π1).then .nx)) .bad := by
  rw [forP]
  cases tgP tg x π with
  | none => rfl
  | some π1 =>
    rw [onO_some, then_id]
    dsimp only
    unfold lpK
    cases pSs V (ss b) π1 <;> rfl
theorem lp_nx (tg : Tg) (g : Pl → PO) (xs : List P) (f : Pl → PO) (π : Pl) : lpK tg g xs f (.nx π) = (forP tg g xs π).then f := rfl
theorem lp_cnt (tg : Tg) (g : Pl → PO) (xs : List P) (f : Pl → PO) (π : Pl) : lpK tg g xs f (.cnt π) = (forP tg g xs π).then f := rfl
theorem lp_brk (tg : Tg) (g : Pl → PO) (xs : List P) (f : Pl → PO) (π : Pl) : lpK tg g xs f (.brk π) = f π := rfl
theorem lp_ret (tg : Tg) (g : Pl → PO) (xs : List P) (f : Pl → PO) (p : P) (fr : Bool) (π : Pl) : lpK tg g xs f (.ret p fr π) = .ret p fr π := rfl
theorem lp_exc (tg : Tg) (g : Pl → PO) (xs : List P) (f : Pl → PO) (c : Nat) (v : P × Bool) (π : Pl) : lpK tg g xs f (.exc c v π) = .exc c v π := rfl
theorem o_t (p : P) : ownK (some (some (true, p))) = true := rfl
theorem o_f (p : P) : ownK (some (some (false, p))) = false := rfl
theorem o_n : ownK (some none) = false := rfl
theorem h_of (i : Nat) : hidOf (.of (.var i)) π = cond (ownK π[i]?) [i] [] := by
  unfold hidOf ownK
  dsimp only
  generalize π[i]? = o
  rcases o with _ | _ | ⟨_ | _, p⟩ <;> rfl
theorem h_of_lit (x1 : D) : hidOf (.of (.lit x1)) π = [] := rfl
theorem h_of_gl (x1 : Nat) : hidOf (.of (.gl x1)) π = [] := rfl
theorem h_of_tup (x1 : Es) : hidOf (.of (.tup x1)) π = [] := rfl
theorem h_of_mk (x1 : L) : hidOf (.of (.mk x1)) π = [] := rfl
theorem h_of_bin (x1 : Bop) (x2 x3 : E) : hidOf (.of (.bin x1 x2 x3)) π = [] := rfl
theorem h_of_ife (x1 x2 x3 : E) : hidOf (.of (.ife x1 x2 x3)) π = [] := rfl
theorem h_of_idx (x1 x2 : E) : hidOf (.of (.idx x1 x2)) π = [] := rfl
theorem h_of_sli (x1 : E) (x2 x3 : Oe) : hidOf (.of (.sli x1 x2 x3)) π = [] := rfl
theorem h_of_rev (x1 : E) : hidOf (.of (.rev x1)) π = [] := rfl
theorem h_of_bi (x1 : Bi) (x2 : Es) : hidOf (.of (.bi x1 x2)) π = [] := rfl
theorem h_of_bl (x1 : Bl) (x2 : L) : hidOf (.of (.bl x1 x2)) π = [] := rfl
theorem h_of_fld (x1 : E) (x2 : Nat) : hidOf (.of (.fld x1 x2)) π = [] := rfl
theorem h_of_meth (x1 x2 : Nat) (x3 : E) (x4 : Es) : hidOf (.of (.meth x1 x2 x3 x4)) π = [] := rfl
theorem h_of_call (x1 : Nat) (x2 : Es) : hidOf (.of (.call x1 x2)) π = [] := rfl
theorem h_of_callK (x1 : Nat) (x2 x3 : Es) (x4 : List Nat) : hidOf (.of (.callK x1 x2 x3 x4)) π = [] := rfl
theorem h_disp (x1 : Es) : hidOf (.disp x1) π = [] := rfl
theorem h_rng1 (x1 : E) : hidOf (.rng1 x1) π = [] := rfl
theorem h_rng2 (x1 x2 : E) : hidOf (.rng2 x1 x2) π = [] := rfl
theorem h_comp (x1 : List Nat) (x2 : Tg) (x3 : L) (x4 : Es) (x5 : E) : hidOf (.comp x1 x2 x3 x4 x5) π = [] := rfl
theorem p_nil : freeP [] π = true := rfl
theorem p_cons (j : Nat) (r : List Nat) : freeP (j :: r) π = (!ownK π[j]? && freeP r π) := by
  unfold freeP
  rw [List.all_cons]
  congr 1
  unfold ownK
  generalize π[j]? = o
  rcases o with _ | _ | ⟨_ | _, p⟩ <;> rfl
/-- a slot set back -/
def bkK (o : Option (Option (Bool × P))) (j : Nat) (π : Pl) : Pl := match o with
  | some o => π.set j o
  | none => π
theorem bk_nil (π1 : Pl) : backP π1 [] π = π := rfl
theorem bk_cons (π1 : Pl) (j : Nat) (js : List Nat) : backP π1 (j :: js) π = backP π1 js (bkK π1[j]? j π) := rfl
theorem bk_s (o : Option (Bool × P)) (j : Nat) : bkK (some o) j π = π.set j o := rfl
theorem wp_nil : wipeP π [] = π := rfl
theorem wp_cons (j : Nat) (js : List Nat) : wipeP π (j :: js) = (wipeP π js).set j none := rfl
theorem tg_one (i : Nat) (p : P) : tgP (.one i) p π = some (π.set i (some (false, p))) := rfl
theorem tg_row (is : List Nat) (ps : List P) : tgP (.row is) (.tup ps) π = setAllP is ps π := rfl
theorem to_one (i : Nat) (own : List Nat) : tgOk (.one i) own = own.contains i := rfl
theorem to_row (is own : List Nat) : tgOk (.row is) own = is.all fun i => own.contains i := rfl
theorem sa_nil : setAllP [] [] π = some π := rfl
theorem sa_cons (i : Nat) (is : List Nat) (p : P) (ps : List P) : setAllP (i :: is) (p :: ps) π = setAllP is ps (π.set i (some (false, p))) := rfl
theorem lp_non : litP .non = some .non := rfl
theorem lp_bl (k : Bool) : litP (.bl k) = some (.bl k) := rfl
theorem lp_int (k : Int) : litP (.int k) = some (.int k) := rfl
theorem lp_str (k : Str) : litP (.str k) = some (.str k) := rfl
theorem lp_tup (k : List D) : litP (.tup k) = (litPs k).map .tup := by rw [litP]
theorem lps_nil : litPs [] = some [] := by rw [litPs]
theorem lps_cons (d : D) (k : List D) : litPs (d :: k) = consO (litP d) (litPs k) := by rw [litPs]
theorem co_ss {β : Type} (a : β) (r : List β) : consO (some a) (some r) = some (a :: r) := rfl
theorem ag_add (i j : Int) : augP .add (.int i) (.int j) = some (.int (i + j)) := rfl
theorem ag_sub (i j : Int) : augP .sub (.int i) (.int j) = some (.int (i - j)) := rfl
theorem e_ret (p : P) (fr : Bool) (π : Pl) : endP false (.ret p fr π) = .ok p fr none := rfl
theorem e_nx (π : Pl) : endP false (.nx π) = .ok .non false none := rfl
theorem e_exc (c : Nat) (v : P × Bool) (π : Pl) : endP false (.exc c v π) = .exc c v := rfl
theorem e_ret1 (p : P) (fr : Bool) (qs : List P) (π : Pl) : endP true (.ret p fr (some (true, .lst qs) :: π)) = .ok p fr (some qs) := rfl
theorem e_nx1 (qs : List P) (π : Pl) : endP true (.nx (some (true, .lst qs) :: π)) = .ok .non false (some qs) := rfl
end
theorem call_eq {Q : PProg} {w k n : Nat} {ps : List P} {F : Fn} {p : List Sm} {π : Pl} (h : Q.Pr.fns n = some F) (he : Q.ext n = none) (hb : F.body = ss p) (hl : ps.length = F.np) (hs : startP (Q.io n) F.ns ps = some π) : pcall Q w (k + 1) n ps = endP (Q.io n) ((pSs (pvOf Q w (pcall Q w k) k (Q.io n)) (ss p) π).then .nx) := by
  rw [then_id, pcall, he]
  dsimp only
  rw [h]
  dsimp only
  rw [if_pos hl, hs]
  dsimp only
  rw [hb]
theorem pv_call {Q : PProg} {w k : Nat} {c : Nat → List P → PC} {i : Bool} : (pvOf Q w c k i).call = c := rfl
theorem pv_io {Q : PProg} {w k : Nat} {c : Nat → List P → PC} {i : Bool} : (pvOf Q w c k i).io = Q.io := rfl
theorem pv_mk {Q : PProg} {w k n : Nat} {c : Nat → List P → PC} {i : Bool} {ps : List P} : (pvOf Q w c k i).mkC n ps = Q.mkC n k ps := rfl
theorem pv_gv {Q : PProg} {w k : Nat} {c : Nat → List P → PC} {i : Bool} : (pvOf Q w c k i).gv = Q.gv := rfl
theorem pv_sub {Q : PProg} {w k : Nat} {c : Nat → List P → PC} {i : Bool} : (pvOf Q w c k i).sub = Q.Pr.sub := rfl
theorem pv_fuel {Q : PProg} {w k : Nat} {c : Nat → List P → PC} {i : Bool} : (pvOf Q w c k i).fuel = w := rfl
theorem pv_ioc {Q : PProg} {w k : Nat} {c : Nat → List P → PC} {i : Bool} : (pvOf Q w c k i).ioc = i := rfl
end J
end Py
end
section
set_option linter.all false
set_option maxRecDepth 100000
/-! PuK: operators at values of a known kind. -/
namespace Py
open PySem
namespace J
section
variable {i j : Int} {xs ys : List P}
theorem q_add : binP .add (.int i) (.int j) = some (.int (i + j)) := rfl
theorem okIf_t {c : Prop} [Decidable c] {p : P} (h : c) : okIf c p = some p := if_pos h
theorem q_addT (h : xs.length + ys.length ≤ sizeLine) : binP .add (.tup xs) (.tup ys) = some (.tup (xs ++ ys)) := okIf_t h
theorem q_addL (h : xs.length + ys.length ≤ sizeLine) : binP .add (.lst xs) (.lst ys) = some (.lst (xs ++ ys)) := okIf_t h
theorem q_addS {x y : Str} (h : x.length + y.length ≤ sizeLine) : binP .add (.str x) (.str y) = some (.str (x ++ y)) := okIf_t h
theorem q_sub : binP .sub (.int i) (.int j) = some (.int (i - j)) := rfl
theorem q_mul (h : mulOk i j = true) : binP .mul (.int i) (.int j) = some (.int (i * j)) := okIf_t h
theorem q_mulR (h1 : -18446744073709551616 < j) (h2 : j < 18446744073709551616) : binP .mul (.int i) (.int j) = some (.int (i * j)) := q_mul (mulOk_r (by omega) (by omega))
theorem q_mulL (h1 : -18446744073709551616 < i) (h2 : i < 18446744073709551616) : binP .mul (.int i) (.int j) = some (.int (i * j)) := q_mul (mulOk_l (by omega) (by omega))
theorem q_mulLL (h : mulL j xs.length = true) : binP .mul (.lst xs) (.int j) = some (.lst (List.replicate j.toNat xs).flatten) := okIf_t (of_decide_eq_true h)
theorem q_div (h : divOk j = true) : binP .fdiv (.int i) (.int j) = some (.int (i / j)) := okIf_t h
theorem q_div64 (h1 : 0 < j) (h2 : j < 18446744073709551616) : binP .fdiv (.int i) (.int j) = some (.int (i / j)) := q_div (divOk_of (k := 64) h1 (by omega) (by decide))
theorem q_mod (h : 0 < j) : binP .mod (.int i) (.int j) = some (.int (i % j)) := okIf_t h
theorem q_pow (h0 : 0 ≤ j) (h1 : j ≤ 1000000) (h2 : -18446744073709551616 < i) (h3 : i < 18446744073709551616) : binP .pow (.int i) (.int j) = some (.int (i ^ j.toNat)) := okIf_t (by
    unfold powOk
    rw [decide_eq_true h0, decide_eq_true h1, decide_eq_true (show i.natAbs < 2 ^ 64 by omega)]; rfl)
theorem q_lt : cmpP .lt (.int i) (.int j) = some (decide (i < j)) := rfl
theorem q_le : cmpP .le (.int i) (.int j) = some (decide (i ≤ j)) := rfl
theorem q_gt : cmpP .gt (.int i) (.int j) = some (decide (j < i)) := rfl
theorem q_ge : cmpP .ge (.int i) (.int j) = some (decide (j ≤ i)) := rfl
theorem q_eq : cmpP .eq (.int i) (.int j) = some (decide (i = j)) := by
  show some (PyData.eqv (.int i) (.int j)) = _
  rw [eqv_int]
theorem q_ne : cmpP .ne (.int i) (.int j) = some (!decide (i = j)) := by
  show some (!PyData.eqv (.int i) (.int j)) = _
  rw [eqv_int]
theorem q_eqS {x y : Str} : cmpP .eq (.str x) (.str y) = some (decide (x = y)) := rfl
theorem q_neS {x y : Str} : cmpP .ne (.str x) (.str y) = some (!decide (x = y)) := rfl
theorem q_eqN {ys : List P} : cmpP .eq (.lst ys) (.lst []) = some ys.isEmpty := by
  cases ys with
  | nil => rfl
  | cons y ys => rfl
theorem q_lenT : biP .len [.tup xs] = some (.int xs.length) := rfl
theorem q_lenL : biP .len [.lst xs] = some (.int xs.length) := rfl
theorem q_lenF : biP .len [.frz xs] = some (.int xs.length) := rfl
theorem q_max : biP .max2 [.int i, .int j] = some (.int (max i j)) := by
  show some (P.int (if j > i then j else i)) = _
  rw [show (if j > i then j else i) = max i j by split <;> omega]
theorem q_min : biP .min2 [.int i, .int j] = some (.int (min i j)) := by
  show some (P.int (if j < i then j else i)) = _
  rw [show (if j < i then j else i) = min i j by split <;> omega]
/-- the size of a whole number -/
def abI (i : Int) : Int := if i < 0 then -i else i
theorem abI_pos (i : Int) : 0 ≤ abI i := by unfold abI; split <;> omega
theorem abI_of {i : Int} (h : 0 ≤ i) : abI i = i := if_neg (by omega)
theorem q_abs : biP .abs [.int i] = some (.int (abI i)) := rfl
theorem q_int : biP .int [.int i] = some (.int i) := rfl
theorem q_intB {k : Bool} : biP .int [.bl k] = some (.int (if k then 1 else 0)) := rfl
theorem q_idx : idxP (.tup xs) (.int i) = L2.atI xs i := rfl
theorem q_idxL : idxP (.lst xs) (.int i) = L2.atI xs i := rfl
theorem q_idxF : idxP (.frz xs) (.int i) = L2.atI xs i := rfl
theorem q_sliT {lo hi : Option Int} : sliP (.tup xs) lo hi = some (.tup (cut xs lo hi)) := rfl
theorem q_sliL {lo hi : Option Int} : sliP (.lst xs) lo hi = some (.lst (cut xs lo hi)) := rfl
theorem q_sliF {lo hi : Option Int} : sliP (.frz xs) lo hi = some (.lst (cut xs lo hi)) := rfl
theorem q_revT : revP (.tup xs) = some (.tup xs.reverse) := rfl
theorem q_revL : revP (.lst xs) = some (.lst xs.reverse) := rfl
theorem q_tupC : blP .tuple xs .fresh = some (.tup xs) := rfl
theorem q_tupT : blP .tuple xs .tuple = some (.tup xs) := rfl
theorem q_tupA : blP .tuple xs .at = some (.tup xs) := rfl
theorem q_tupR (h : rngT i j = true) : blP .tuple xs (.range i j) = some (.tup xs) := okIf_t h
theorem q_lstC : blP .list xs .fresh = some (.lst xs) := rfl
theorem q_lstT : blP .list xs .tuple = some (.lst xs) := rfl
theorem q_lstA : blP .list xs .at = some (.lst xs) := rfl
theorem q_lstR (h : rngT i j = true) : blP .list xs (.range i j) = some (.lst xs) := okIf_t h
theorem q_srcT : srcP (.tup xs) = some (xs, .tuple) := rfl
theorem q_srcL : srcP (.lst xs) = some (xs, .at) := rfl
theorem q_srcF : srcP (.frz xs) = some (xs, .at) := rfl
theorem q_rng : rngP (.int i) (.int j) = some (rngPs i j, .range i j) := rfl
theorem boolsP_bl {bs : List Bool} : boolsP (bs.map .bl) = some bs := by
  induction bs with
  | nil => rfl
  | cons d r ih =>
    show consO (boolP (.bl d)) (mapO boolP (r.map .bl)) = _
    rw [show mapO boolP (r.map .bl) = some r from ih]; rfl
theorem intsP_int {is : List Int} : intsP (is.map .int) = some is := by
  induction is with
  | nil => rfl
  | cons d r ih =>
    show consO (intP (.int d)) (mapO intP (r.map .int)) = _
    rw [show mapO intP (r.map .int) = some r from ih]; rfl
theorem q_all {α : Type} {h : α → Bool} {l : List α} : blP .all (l.map fun x => .bl (h x)) .fresh = some (.bl (l.all h)) := by
  show (boolsP (l.map fun x => P.bl (h x))).map _ = _
  rw [show (l.map fun x => P.bl (h x)) = (l.map h).map .bl by rw [List.map_map]; rfl, boolsP_bl, Option.map_some, all_id]
theorem q_any {α : Type} {h : α → Bool} {l : List α} : blP .any (l.map fun x => .bl (h x)) .fresh = some (.bl (l.any h)) := by
  show (boolsP (l.map fun x => P.bl (h x))).map _ = _
  rw [show (l.map fun x => P.bl (h x)) = (l.map h).map .bl by rw [List.map_map]; rfl, boolsP_bl, Option.map_some, List.any_map]
  rfl
end
theorem cst0 : ((0 : Nat) : Int) = 0 := rfl
theorem cst1 : ((1 : Nat) : Int) = 1 := rfl
theorem cst2 : ((2 : Nat) : Int) = 2 := rfl
theorem cst3 : ((3 : Nat) : Int) = 3 := rfl
theorem cst4 : ((4 : Nat) : Int) = 4 := rfl
theorem cst5 : ((5 : Nat) : Int) = 5 := rfl
theorem cst6 : ((6 : Nat) : Int) = 6 := rfl
theorem cst7 : ((7 : Nat) : Int) = 7 := rfl
theorem cst8 : ((8 : Nat) : Int) = 8 := rfl
theorem cst9 : ((9 : Nat) : Int) = 9 := rfl
theorem cst10 : ((10 : Nat) : Int) = 10 := rfl
theorem cst11 : ((11 : Nat) : Int) = 11 := rfl
theorem cst12 : ((12 : Nat) : Int) = 12 := rfl
theorem cst13 : ((13 : Nat) : Int) = 13 := rfl
def prK {α : Type} (a : Option α) (r : Option (List α)) : Option (List α) := match a, r with
  | some d, some r => some (d :: r)
  | _, _ => none
theorem pm_nil (ds : List P) : permP ds [] = some [] := rfl
theorem pm_cons (ds : List P) (i : Nat) (is : List Nat) : permP ds (i :: is) = prK ds[i]? (permP ds is) := by
  rw [permP]
  generalize ds[i]? = a
  generalize permP ds is = r
  cases a <;> cases r <;> rfl
theorem pm_s {α : Type} (d : α) (r : List α) : prK (some d) (some r) = some (d :: r) := rfl
theorem ifP_n {β : Type} {n : Nat} (p q : β) (h : n ≤ 1000000) : ifP (n ≤ sizeLine) p q = p := ifP_t p q (Nat.le_trans h (by decide))
theorem ix30 : L2.ixN 3 0 = some 0 := by rfl
theorem ix31 : L2.ixN 3 1 = some 1 := by rfl
theorem ix32 : L2.ixN 3 2 = some 2 := by rfl
/-! ### loops -/
theorem comp_map {f : P → Pl → PR (Option P)} {g : P → Option P} {π : Pl} : ∀ {xs acc : List P}, (∀ x ∈ xs, f x π = .ok (g x) π) → acc.length + xs.length ≤ sizeLine → compP f xs acc π = .ok (acc ++ xs.filterMap g) π
  | [], acc, _, _ => by unfold compP; rw [List.filterMap_nil, List.append_nil]
  | x :: xs, acc, hf, hl => by
    unfold compP
    rw [hf x List.mem_cons_self]
    have hl2 : acc.length + (xs.length + 1) ≤ sizeLine := hl
    cases e : g x with
    | none =>
      dsimp only
      rw [comp_map (fun y m => hf y (List.mem_cons_of_mem _ m)) (by omega), List.filterMap_cons_none e]
    | some y =>
      dsimp only
      rw [if_pos (by omega), comp_map (fun y m => hf y (List.mem_cons_of_mem _ m)) (by rw [List.length_append]; show acc.length + 1 + xs.length ≤ _; omega), List.filterMap_cons_some e, List.append_assoc]
      rfl
/-- turns that may leave the frame otherwise (a slot of their own) -/
theorem comp_map' {f : P → Pl → PR (Option P)} {g : P → Option P} (I : Pl → Prop) : ∀ {xs acc : List P} {π : Pl}, I π → (∀ x ∈ xs, ∀ π, I π → ∃ π', f x π = .ok (g x) π' ∧ I π') → acc.length + xs.length ≤ sizeLine → ∃ π', compP f xs acc π = .ok (acc ++ xs.filterMap g) π' ∧ I π'
  | [], acc, π, hI, _, _ => by unfold compP; exact ⟨π, by rw [List.filterMap_nil, List.append_nil], hI⟩
  | x :: xs, acc, π, hI, hf, hl => by
    unfold compP
    obtain ⟨π', e0, hI'⟩ := hf x List.mem_cons_self π hI
    rw [e0]
    have hl2 : acc.length + (xs.length + 1) ≤ sizeLine := hl
    cases e : g x with
    | none =>
      dsimp only
      rw [List.filterMap_cons_none e]
      exact comp_map' I hI' (fun y m => hf y (List.mem_cons_of_mem _ m)) (by omega)
    | some y =>
      dsimp only
      rw [if_pos (by omega), List.filterMap_cons_some e]
      obtain ⟨π2, e2, h2⟩ := comp_map' I (acc := acc ++ [y]) hI' (fun y m => hf y (List.mem_cons_of_mem _ m)) (by rw [List.length_append]; show acc.length + 1 + xs.length ≤ _; omega)
      exact ⟨π2, by rw [e2, List.append_assoc]; rfl, h2⟩
theorem comp_inv {f : P → Pl → PR (Option P)} (I : List P → List P → Pl → Prop)
    (step : ∀ x r acc π, I (x :: r) acc π → acc.length < sizeLine ∧ ∃ y π1, f x π = .ok (some y) π1 ∧ I r (acc ++ [y]) π1) : ∀ xs acc π, I xs acc π → ∃ acc' π', compP f xs acc π = .ok acc' π' ∧ I [] acc' π'
  | [], acc, π, h => by
    unfold compP
    exact ⟨acc, π, rfl, h⟩
  | x :: r, acc, π, h => by
    obtain ⟨h2, y, π1, h3, h4⟩ := step x r acc π h
    unfold compP
    rw [h3]
    dsimp only
    rw [if_pos h2]
    exact comp_inv I step r _ _ h4
theorem for_inv {tg : Tg} {f : Pl → PO} (I : List P → Pl → Prop) (R : PO → Prop)
    (step : ∀ x r π, I (x :: r) π → ∃ π1, tgP tg x π = some π1 ∧ ((∃ π2, f π1 = .nx π2 ∧ I r π2) ∨ (∃ p fr π2, f π1 = .ret p fr π2 ∧ R (.ret p fr π2)) ∨ ∃ π2, f π1 = .cnt π2 ∧ I r π2))
    (last : ∀ π, I [] π → R (.nx π)) : ∀ xs π, I xs π → R (forP tg f xs π)
  | [], π, h => by
    unfold forP
    exact last π h
  | x :: r, π, h => by
    obtain ⟨π1, h2, h3⟩ := step x r π h
    unfold forP
    rw [h2]
    dsimp only
    rcases h3 with ⟨π2, e, h4⟩ | ⟨p, fr, π2, e, h4⟩ | ⟨π2, e, h4⟩
    · rw [e]
      exact for_inv I R step last r π2 h4
    · rw [e]
      exact h4
    · rw [e]
      exact for_inv I R step last r π2 h4
theorem turn_kk {V : PV} {own : List Nat} {tg : Tg} {ifs : Es} {elt : E} {x : P} {π π3 : Pl} (h : tgP tg x (wipeP π own) = some π3) : turnP V own tg ifs elt x π = kk (pT V ifs π3) (fun k π4 => ifB k (kk (pE V elt π4) (fun y π5 => .ok (some y) π5) .exc .bad) (.ok none π4)) .exc .bad := by
  unfold turnP
  rw [h]
  dsimp only
  rw [bind_kk]
  refine kk_ext fun k π4 => ?_
  cases k
  · rfl
  · show PR.bind _ _ = _
    rw [bind_kk]; rfl
theorem kk_of {α β : Type} {r : PR α} {a : α} {π : Pl} (h : r = .ok a π) (f : α → Pl → β) (g : Nat → P × Bool → Pl → β) (b : β) : kk r f g b = f a π := by rw [h]; rfl
theorem exS {c k : Nat} (h : c ≤ k) : ∃ j, k = j + c := ⟨k - c, by omega⟩
/-- a well from which n draws are left -/
def WP (n : Nat) (q : List P) : Prop := ∃ a b c : Int, q = [.int a, .int b, .int c] ∧ 0 ≤ a ∧ 0 ≤ b ∧ b < 2 ^ 200 ∧ 0 ≤ c ∧ c + n ≤ 2 ^ 64
theorem WP.mono {n m : Nat} {q : List P} (h : WP n q) (l : m ≤ n) : WP m q := by
  obtain ⟨a, b, c, e, h1, h2, h3, h4, h5⟩ := h
  exact ⟨a, b, c, e, h1, h2, h3, h4, by omega⟩
end J
end Py
end
section
set_option linter.all false
set_option maxRecDepth 100000
/-! PuL: kinds of values, values that can be shown. -/
namespace Py
open PySem
namespace J
def numP : P → Bool
  | .int _ => true
  | .bl _ => true
  | _ => false
def isBlP : P → Bool
  | .bl _ => true
  | _ => false
def isTupP : P → Bool
  | .tup _ => true
  | _ => false
def isStrP : P → Bool
  | .str _ => true
  | _ => false
def isRowP : P → Bool
  | .lst _ => true
  | .frz _ => true
  | _ => false
def isDctP : P → Bool
  | .dct _ => true
  | _ => false
/-- no instance of a class of the program's own -/
def kP : P → Bool
  | .ins _ _ => false
  | _ => true
/-- no error, no instance -/
def eP : P → Bool
  | .ins _ _ => false
  | .exc _ _ => false
  | _ => true
section
variable {sub : Nat → Nat → Bool} {d : P}
theorem isi_int (h : kP d = true) : isiP sub d .int = some (numP d) := by cases d <;> first | rfl | cases h
theorem isi_bool (h : kP d = true) : isiP sub d .bool = some (isBlP d) := by cases d <;> first | rfl | cases h
theorem isi_tuple (h : kP d = true) : isiP sub d .tuple = some (isTupP d) := by cases d <;> first | rfl | cases h
theorem isi_list (h : kP d = true) : isiP sub d .list = some (isRowP d) := by cases d <;> first | rfl | cases h
theorem isi_str (h : kP d = true) : isiP sub d .str = some (isStrP d) := by cases d <;> first | rfl | cases h
theorem isi_dict (h : kP d = true) : isiP sub d .dict = some (isDctP d) := by cases d <;> first | rfl | cases h
end
/-- values of at most n levels, of lists and tuples that are not too long, without instances -/
def nic : Nat → P → Bool
  | _, .non => true
  | _, .bl _ => true
  | _, .int _ => true
  | _, .str _ => true
  | _, .dct _ => true
  | 0, _ => false
  | n + 1, .tup xs => decide (xs.length ≤ 1000000) && xs.all (nic n)
  | n + 1, .lst xs => decide (xs.length ≤ 1000000) && xs.all (nic n)
  | _, _ => false
theorem nic.k {n : Nat} {d : P} (h : nic n d = true) : kP d = true := by
  cases d <;> first | rfl | (cases n <;> cases h)
theorem nic.tup {n : Nat} {xs : List P} (h : nic n (.tup xs) = true) : ∃ m, n = m + 1 ∧ xs.length ≤ sizeLine ∧ ∀ x ∈ xs, nic m x = true := by
  cases n with
  | zero => cases h
  | succ m =>
    have z : (decide (xs.length ≤ 1000000) && xs.all (nic m)) = true := h
    rw [Bool.and_eq_true] at z
    exact ⟨m, rfl, Nat.le_trans (of_decide_eq_true z.1) (by decide), List.all_eq_true.mp z.2⟩
theorem nic.lst {n : Nat} {xs : List P} (h : nic n (.lst xs) = true) : ∃ m, n = m + 1 ∧ xs.length ≤ sizeLine ∧ ∀ x ∈ xs, nic m x = true := by
  cases n with
  | zero => cases h
  | succ m =>
    have z : (decide (xs.length ≤ 1000000) && xs.all (nic m)) = true := h
    rw [Bool.and_eq_true] at z
    exact ⟨m, rfl, Nat.le_trans (of_decide_eq_true z.1) (by decide), List.all_eq_true.mp z.2⟩
theorem nic.of_tup {n : Nat} {xs : List P} (hl : xs.length ≤ 1000000) (h : ∀ x ∈ xs, nic n x = true) : nic (n + 1) (.tup xs) = true := by
  show (decide (xs.length ≤ 1000000) && xs.all (nic n)) = true
  rw [decide_eq_true hl, Bool.true_and]
  exact List.all_eq_true.mpr h
theorem nic.of_lst {n : Nat} {xs : List P} (hl : xs.length ≤ 1000000) (h : ∀ x ∈ xs, nic n x = true) : nic (n + 1) (.lst xs) = true := by
  show (decide (xs.length ≤ 1000000) && xs.all (nic n)) = true
  rw [decide_eq_true hl, Bool.true_and]
  exact List.all_eq_true.mpr h
theorem nic.len {n : Nat} {xs : List P} (h : nic n (.tup xs) = true) : xs.length ≤ 1000000 := by
  cases n with
  | zero => cases h
  | succ m =>
    have z : (decide (xs.length ≤ 1000000) && xs.all (nic m)) = true := h
    rw [Bool.and_eq_true] at z
    exact of_decide_eq_true z.1
theorem nic.lenL {n : Nat} {xs : List P} (h : nic n (.lst xs) = true) : xs.length ≤ 1000000 := by
  cases n with
  | zero => cases h
  | succ m =>
    have z : (decide (xs.length ≤ 1000000) && xs.all (nic m)) = true := h
    rw [Bool.and_eq_true] at z
    exact of_decide_eq_true z.1
theorem nic.mono : ∀ {n m : Nat} {d : P}, nic n d = true → n ≤ m → nic m d = true
  | n, m, .non, h, l => by cases m <;> rfl
  | n, m, .bl _, h, l => by cases m <;> rfl
  | n, m, .int _, h, l => by cases m <;> rfl
  | n, m, .str _, h, l => by cases m <;> rfl
  | n, m, .dct _, h, l => by cases m <;> rfl
  | n, m, .frz _, h, l => by cases n <;> cases h
  | n, m, .ins _ _, h, l => by cases n <;> cases h
  | n, m, .exc _ _, h, l => by cases n <;> cases h
  | n, 0, .tup xs, h, l => by obtain ⟨k, rfl, _⟩ := nic.tup h; omega
  | n, 0, .lst xs, h, l => by obtain ⟨k, rfl, _⟩ := nic.lst h; omega
  | n, m + 1, .tup xs, h, l => by
    have h1 := nic.len h
    obtain ⟨k, rfl, _, h2⟩ := nic.tup h
    exact nic.of_tup h1 fun x mx => nic.mono (h2 x mx) (by omega)
  | n, m + 1, .lst xs, h, l => by
    have h1 := nic.lenL h
    obtain ⟨k, rfl, _, h2⟩ := nic.lst h
    exact nic.of_lst h1 fun x mx => nic.mono (h2 x mx) (by omega)
theorem numP.nic {d : P} (h : numP d = true) (n : Nat) : nic n d = true := by
  cases d <;> first | (cases n <;> rfl) | cases h
/-! ### repr -/
/-- width of a value's text, at most -/
def wd : Nat → P → Nat
  | _, .non => 4
  | _, .bl _ => 5
  | _, .int i => if i.natAbs < 10 ^ 40 then 41 else 1921
  | _, .str x => (reprText x).length
  | 0, _ => 0
  | n + 1, .tup xs => (xs.map fun x => wd n x + 2).sum + 3
  | n + 1, .lst xs => (xs.map fun x => wd n x + 2).sum + 2
  | n + 1, .dct kvs => (kvs.map fun kv => wid (keyPD kv.1) + wd n kv.2 + 4).sum + 2
  | _, _ => 0
/-- can be shown within n levels -/
def shw : Nat → P → Bool
  | _, .non => true
  | _, .bl _ => true
  | _, .int i => decide (i.natAbs.log2 < 1920)
  | _, .str _ => true
  | 0, _ => false
  | n + 1, .tup xs => xs.all (shw n)
  | n + 1, .lst xs => xs.all (shw n)
  | n + 1, .dct kvs => kvs.all fun kv => (keyPD kv.1).showable && shw n kv.2
  | _, _ => false
theorem showKv_iff : ∀ {ps : List (PyData × PyData)}, PyData.showableKv ps = true ↔ ∀ p ∈ ps, p.1.showable = true ∧ p.2.showable = true
  | [] => ⟨fun _ _ m => (nomatch m), fun _ => rfl⟩
  | (a, b) :: ps => by
    show (a.showable && b.showable && PyData.showableKv ps) = true ↔ _
    rw [Bool.and_eq_true, Bool.and_eq_true, showKv_iff, List.forall_mem_cons]
theorem widK_eq : ∀ ps : List (PyData × PyData), widK ps = (ps.map fun p => wid p.1 + wid p.2 + 4).sum
  | [] => rfl
  | (a, b) :: ps => by simp only [widK, widK_eq ps, List.map_cons, List.sum_cons]
theorem widL_eq : ∀ ps : List PyData, widL ps = (ps.map fun p => wid p + 2).sum
  | [] => rfl
  | a :: ps => by simp only [widL, widL_eq ps, List.map_cons, List.sum_cons]
theorem show_list {n : Nat} (ih : ∀ p, shw n p = true → ∃ d, prP n p = some d ∧ d.showable = true ∧ wid d = wd n p) : ∀ xs : List P, xs.all (shw n) = true → ∃ ds, mapO (prP n) xs = some ds ∧ PyData.showableAll ds = true ∧ widL ds = (xs.map fun x => wd n x + 2).sum
  | [], _ => ⟨[], rfl, rfl, rfl⟩
  | x :: xs, h => by
    rw [List.all_cons, Bool.and_eq_true] at h
    obtain ⟨d, d1, d2, d3⟩ := ih x h.1
    obtain ⟨ds, e1, e2, e3⟩ := show_list ih xs h.2
    refine ⟨d :: ds, by show consO (prP n x) (mapO (prP n) xs) = _; rw [d1, e1]; rfl, by show (d.showable && PyData.showableAll ds) = true; rw [d2, e2]; rfl, ?_⟩
    simp only [widL, e3, d3, List.map_cons, List.sum_cons]
theorem show_dct {n : Nat} (ih : ∀ p, shw n p = true → ∃ d, prP n p = some d ∧ d.showable = true ∧ wid d = wd n p) : ∀ xs : List (L2.Key × P), (xs.all fun kv => (keyPD kv.1).showable && shw n kv.2) = true → ∃ ds, mapO (pairPP (prP n)) xs = some ds ∧ PyData.showableKv ds = true ∧ widK ds = (xs.map fun kv => wid (keyPD kv.1) + wd n kv.2 + 4).sum
  | [], _ => ⟨[], rfl, rfl, rfl⟩
  | x :: xs, h => by
    rw [List.all_cons, Bool.and_eq_true, Bool.and_eq_true] at h
    obtain ⟨d, d1, d2, d3⟩ := ih x.2 h.1.2
    obtain ⟨ds, e1, e2, e3⟩ := show_dct ih xs h.2
    refine ⟨(keyPD x.1, d) :: ds, ?_, ?_, ?_⟩
    · have w : pairPP (prP n) x = some (keyPD x.1, d) := by unfold pairPP; rw [d1]
      show consO (pairPP (prP n) x) (mapO (pairPP (prP n)) xs) = _
      rw [w, e1]
      rfl
    · exact showKv_iff.mpr fun p mp => by
        rcases List.mem_cons.mp mp with rfl | mp
        · exact ⟨h.1.1, d2⟩
        · exact showKv_iff.mp e2 p mp
    · simp only [widK, e3, d3, List.map_cons, List.sum_cons]
theorem show_pr : ∀ (n : Nat) (p : P), shw n p = true → ∃ d, prP n p = some d ∧ d.showable = true ∧ wid d = wd n p
  | n, .non, h => by cases n <;> exact ⟨_, rfl, rfl, rfl⟩
  | n, .bl _, h => by cases n <;> exact ⟨_, rfl, rfl, rfl⟩
  | n, .int i, h => by
    have h2 : decide (i.natAbs.log2 < 1920) = true := by cases n <;> exact h
    have h3 := of_decide_eq_true h2
    refine ⟨.int i, by cases n <;> rfl, ?_, by cases n <;> simp only [wid, wd]⟩
    simpa [PyData.showable] using h3
  | n, .str _, h => by cases n <;> exact ⟨_, rfl, rfl, by simp only [wid, wd]⟩
  | 0, .tup xs, h => by cases h
  | 0, .lst xs, h => by cases h
  | 0, .dct xs, h => by cases h
  | n + 1, .tup xs, h => by
    obtain ⟨ds, e1, e2, e3⟩ := show_list (fun p => show_pr n p) xs h
    refine ⟨.tuple ds, by unfold prP; rw [e1]; rfl, by simpa only [PyData.showable] using e2, by simp only [wid, wd, e3]⟩
  | n + 1, .lst xs, h => by
    obtain ⟨ds, e1, e2, e3⟩ := show_list (fun p => show_pr n p) xs h
    refine ⟨.list ds, by unfold prP; rw [e1]; rfl, by simpa only [PyData.showable] using e2, by simp only [wid, wd, e3]⟩
  | n + 1, .dct xs, h => by
    obtain ⟨ds, e1, e2, e3⟩ := show_dct (fun p => show_pr n p) xs h
    refine ⟨.dict ds, by unfold prP; rw [e1]; rfl, by simpa only [PyData.showable] using e2, by simp only [wid, wd, e3]⟩
  | n, .frz _, h => by cases n <;> cases h
  | n, .ins _ _, h => by cases n <;> cases h
  | n, .exc _ _, h => by cases n <;> cases h
theorem prP_mono : ∀ {n m : Nat} {p : P} {d : PyData}, n ≤ m → prP n p = some d → prP m p = some d
  | n, m, .non, d, l, h => by cases n <;> (cases h; cases m <;> rfl)
  | n, m, .bl _, d, l, h => by cases n <;> (cases h; cases m <;> rfl)
  | n, m, .int _, d, l, h => by cases n <;> (cases h; cases m <;> rfl)
  | n, m, .str _, d, l, h => by cases n <;> (cases h; cases m <;> rfl)
  | n, m, .frz _, d, l, h => by cases n <;> cases h
  | n, m, .ins _ _, d, l, h => by cases n <;> cases h
  | n, m, .exc _ _, d, l, h => by cases n <;> cases h
  | 0, m, .tup xs, d, l, h => by cases h
  | 0, m, .lst xs, d, l, h => by cases h
  | 0, m, .dct xs, d, l, h => by cases h
  | n + 1, 0, _, d, l, h => by omega
  | n + 1, m + 1, .tup xs, d, l, h => by
    unfold prP at h ⊢
    cases e : mapO (prP n) xs with
    | none => rw [e] at h; cases h
    | some ps =>
      rw [e] at h
      rw [mapO_mono (fun x _ q hq => prP_mono (by omega) hq) e]
      exact h
  | n + 1, m + 1, .lst xs, d, l, h => by
    unfold prP at h ⊢
    cases e : mapO (prP n) xs with
    | none => rw [e] at h; cases h
    | some ps =>
      rw [e] at h
      rw [mapO_mono (fun x _ q hq => prP_mono (by omega) hq) e]
      exact h
  | n + 1, m + 1, .dct xs, d, l, h => by
    unfold prP at h ⊢
    cases e : mapO (pairPP (prP n)) xs with
    | none => rw [e] at h; cases h
    | some ps =>
      rw [e] at h
      rw [mapO_mono (g := pairPP (prP m)) (fun x _ q hq => by
        unfold pairPP at hq ⊢
        cases e2 : prP n x.2 with
        | none => rw [e2] at hq; cases hq
        | some y =>
          rw [e2] at hq
          rw [prP_mono (by omega) e2]
          exact hq) e]
      exact h
/-- repr's text of a value that can be shown -/
theorem repr_some {n : Nat} {p : P} (h : shw n p = true) (hn : n ≤ 60) (hw : wd n p ≤ sizeLine) : ∃ s, reprP p = some s := by
  obtain ⟨d, e1, e2, e3⟩ := show_pr n p h
  unfold reprP
  rw [prP_mono hn e1]
  dsimp only
  rw [if_pos (showOk_of e2 (by rw [e3]; exact hw))]
  exact ⟨_, rfl⟩
theorem q_repr {p : P} {s : Str} (h : reprP p = some s) : biP .repr [p] = some (.str s) := by
  show (reprP p).map _ = _
  rw [h]; rfl
/-- equal texts of equal values -/
theorem shw.mono : ∀ {n m : Nat} {p : P}, shw n p = true → n ≤ m → shw m p = true
  | n, m, .non, h, l => by cases m <;> rfl
  | n, m, .bl _, h, l => by cases m <;> rfl
  | n, m, .int _, h, l => by cases n <;> (cases m <;> exact h)
  | n, m, .str _, h, l => by cases m <;> rfl
  | n, m, .frz _, h, l => by cases n <;> cases h
  | n, m, .ins _ _, h, l => by cases n <;> cases h
  | n, m, .exc _ _, h, l => by cases n <;> cases h
  | 0, m, .tup xs, h, l => by cases h
  | 0, m, .lst xs, h, l => by cases h
  | 0, m, .dct xs, h, l => by cases h
  | n + 1, 0, _, h, l => by omega
  | n + 1, m + 1, .tup xs, h, l => List.all_eq_true.mpr fun x mx => shw.mono (List.all_eq_true.mp h x mx) (by omega)
  | n + 1, m + 1, .lst xs, h, l => List.all_eq_true.mpr fun x mx => shw.mono (List.all_eq_true.mp h x mx) (by omega)
  | n + 1, m + 1, .dct xs, h, l => List.all_eq_true.mpr fun x mx => by
    have z := List.all_eq_true.mp h x mx
    rw [Bool.and_eq_true] at z ⊢
    exact ⟨z.1, shw.mono z.2 (by omega)⟩
/-- a bound of widths -/
theorem sum_le {α : Type} {f : α → Nat} {c : Nat} : ∀ {xs : List α}, (∀ x ∈ xs, f x ≤ c) → (xs.map f).sum ≤ xs.length * c
  | [], _ => by simp
  | x :: xs, h => by
    rw [List.map_cons, List.sum_cons, List.length_cons, Nat.succ_mul]
    have := h x List.mem_cons_self
    have := sum_le (f := f) (c := c) (xs := xs) fun y m => h y (List.mem_cons_of_mem _ m)
    omega
section
variable {sub : Nat → Nat → Bool}
theorem t_non_int  : isiP sub .non .int = some false := rfl
theorem t_non_bool  : isiP sub .non .bool = some false := rfl
theorem t_non_str  : isiP sub .non .str = some false := rfl
theorem t_non_tuple  : isiP sub .non .tuple = some false := rfl
theorem t_non_list  : isiP sub .non .list = some false := rfl
theorem t_non_dict  : isiP sub .non .dict = some false := rfl
theorem t_non_own  (k : Nat) : isiP sub .non (.own k) = some false := rfl
theorem t_non_verr  : isiP sub .non .verr = some false := rfl
theorem t_bl_int (x1 : Bool) : isiP sub (.bl x1) .int = some true := rfl
theorem t_bl_bool (x1 : Bool) : isiP sub (.bl x1) .bool = some true := rfl
theorem t_bl_str (x1 : Bool) : isiP sub (.bl x1) .str = some false := rfl
theorem t_bl_tuple (x1 : Bool) : isiP sub (.bl x1) .tuple = some false := rfl
theorem t_bl_list (x1 : Bool) : isiP sub (.bl x1) .list = some false := rfl
theorem t_bl_dict (x1 : Bool) : isiP sub (.bl x1) .dict = some false := rfl
theorem t_bl_own (x1 : Bool) (k : Nat) : isiP sub (.bl x1) (.own k) = some false := rfl
theorem t_bl_verr (x1 : Bool) : isiP sub (.bl x1) .verr = some false := rfl
theorem t_int_int (x1 : Int) : isiP sub (.int x1) .int = some true := rfl
theorem t_int_bool (x1 : Int) : isiP sub (.int x1) .bool = some false := rfl
theorem t_int_str (x1 : Int) : isiP sub (.int x1) .str = some false := rfl
theorem t_int_tuple (x1 : Int) : isiP sub (.int x1) .tuple = some false := rfl
theorem t_int_list (x1 : Int) : isiP sub (.int x1) .list = some false := rfl
theorem t_int_dict (x1 : Int) : isiP sub (.int x1) .dict = some false := rfl
theorem t_int_own (x1 : Int) (k : Nat) : isiP sub (.int x1) (.own k) = some false := rfl
theorem t_int_verr (x1 : Int) : isiP sub (.int x1) .verr = some false := rfl
theorem t_str_int (x1 : Str) : isiP sub (.str x1) .int = some false := rfl
theorem t_str_bool (x1 : Str) : isiP sub (.str x1) .bool = some false := rfl
theorem t_str_str (x1 : Str) : isiP sub (.str x1) .str = some true := rfl
theorem t_str_tuple (x1 : Str) : isiP sub (.str x1) .tuple = some false := rfl
theorem t_str_list (x1 : Str) : isiP sub (.str x1) .list = some false := rfl
theorem t_str_dict (x1 : Str) : isiP sub (.str x1) .dict = some false := rfl
theorem t_str_own (x1 : Str) (k : Nat) : isiP sub (.str x1) (.own k) = some false := rfl
theorem t_str_verr (x1 : Str) : isiP sub (.str x1) .verr = some false := rfl
theorem t_tup_int (x1 : List P) : isiP sub (.tup x1) .int = some false := rfl
theorem t_tup_bool (x1 : List P) : isiP sub (.tup x1) .bool = some false := rfl
theorem t_tup_str (x1 : List P) : isiP sub (.tup x1) .str = some false := rfl
theorem t_tup_tuple (x1 : List P) : isiP sub (.tup x1) .tuple = some true := rfl
theorem t_tup_list (x1 : List P) : isiP sub (.tup x1) .list = some false := rfl
theorem t_tup_dict (x1 : List P) : isiP sub (.tup x1) .dict = some false := rfl
theorem t_tup_own (x1 : List P) (k : Nat) : isiP sub (.tup x1) (.own k) = some false := rfl
theorem t_tup_verr (x1 : List P) : isiP sub (.tup x1) .verr = some false := rfl
theorem t_lst_int (x1 : List P) : isiP sub (.lst x1) .int = some false := rfl
theorem t_lst_bool (x1 : List P) : isiP sub (.lst x1) .bool = some false := rfl
theorem t_lst_str (x1 : List P) : isiP sub (.lst x1) .str = some false := rfl
theorem t_lst_tuple (x1 : List P) : isiP sub (.lst x1) .tuple = some false := rfl
theorem t_lst_list (x1 : List P) : isiP sub (.lst x1) .list = some true := rfl
theorem t_lst_dict (x1 : List P) : isiP sub (.lst x1) .dict = some false := rfl
theorem t_lst_own (x1 : List P) (k : Nat) : isiP sub (.lst x1) (.own k) = some false := rfl
theorem t_lst_verr (x1 : List P) : isiP sub (.lst x1) .verr = some false := rfl
theorem t_frz_int (x1 : List P) : isiP sub (.frz x1) .int = some false := rfl
theorem t_frz_bool (x1 : List P) : isiP sub (.frz x1) .bool = some false := rfl
theorem t_frz_str (x1 : List P) : isiP sub (.frz x1) .str = some false := rfl
theorem t_frz_tuple (x1 : List P) : isiP sub (.frz x1) .tuple = some false := rfl
theorem t_frz_list (x1 : List P) : isiP sub (.frz x1) .list = some true := rfl
theorem t_frz_dict (x1 : List P) : isiP sub (.frz x1) .dict = some false := rfl
theorem t_frz_own (x1 : List P) (k : Nat) : isiP sub (.frz x1) (.own k) = some false := rfl
theorem t_frz_verr (x1 : List P) : isiP sub (.frz x1) .verr = some false := rfl
theorem t_dct_int (x1 : List (L2.Key × P)) : isiP sub (.dct x1) .int = some false := rfl
theorem t_dct_bool (x1 : List (L2.Key × P)) : isiP sub (.dct x1) .bool = some false := rfl
theorem t_dct_str (x1 : List (L2.Key × P)) : isiP sub (.dct x1) .str = some false := rfl
theorem t_dct_tuple (x1 : List (L2.Key × P)) : isiP sub (.dct x1) .tuple = some false := rfl
theorem t_dct_list (x1 : List (L2.Key × P)) : isiP sub (.dct x1) .list = some false := rfl
theorem t_dct_dict (x1 : List (L2.Key × P)) : isiP sub (.dct x1) .dict = some true := rfl
theorem t_dct_own (x1 : List (L2.Key × P)) (k : Nat) : isiP sub (.dct x1) (.own k) = some false := rfl
theorem t_dct_verr (x1 : List (L2.Key × P)) : isiP sub (.dct x1) .verr = some false := rfl
theorem t_exc_int (x1 : Nat) (x2 : P) : isiP sub (.exc x1 x2) .int = some false := rfl
theorem t_exc_bool (x1 : Nat) (x2 : P) : isiP sub (.exc x1 x2) .bool = some false := rfl
theorem t_exc_str (x1 : Nat) (x2 : P) : isiP sub (.exc x1 x2) .str = some false := rfl
theorem t_exc_tuple (x1 : Nat) (x2 : P) : isiP sub (.exc x1 x2) .tuple = some false := rfl
theorem t_exc_list (x1 : Nat) (x2 : P) : isiP sub (.exc x1 x2) .list = some false := rfl
theorem t_exc_dict (x1 : Nat) (x2 : P) : isiP sub (.exc x1 x2) .dict = some false := rfl
theorem t_exc_own (x1 : Nat) (x2 : P) (k : Nat) : isiP sub (.exc x1 x2) (.own k) = some (sub x1 k) := rfl
theorem t_exc_verr (x1 : Nat) (x2 : P) : isiP sub (.exc x1 x2) .verr = some true := rfl
/-- the first answer of a row of classes -/
theorem tt_nil (d : P) : isTP sub d [] = some false := rfl
def orT (o : Option Bool) (r : Option Bool) : Option Bool := match o with
  | some true => some true
  | some false => r
  | none => none
theorem tt_cons (d : P) (T : Ty) (Ts : List Ty) : isTP sub d (T :: Ts) = orT (isiP sub d T) (isTP sub d Ts) := by
  rw [isTP]
  rfl
theorem ot_t (r : Option Bool) : orT (some true) r = some true := rfl
theorem ot_f (r : Option Bool) : orT (some false) r = r := rfl
theorem fl_exc (c : Nat) (v : P) : fldP (.exc c v) 0 = some v := rfl
end
section
theorem numP_non  : numP .non = false := rfl
theorem numP_bl (x1 : Bool) : numP (.bl x1) = true := rfl
theorem numP_int (x1 : Int) : numP (.int x1) = true := rfl
theorem numP_str (x1 : Str) : numP (.str x1) = false := rfl
theorem numP_tup (x1 : List P) : numP (.tup x1) = false := rfl
theorem numP_lst (x1 : List P) : numP (.lst x1) = false := rfl
theorem numP_frz (x1 : List P) : numP (.frz x1) = false := rfl
theorem numP_dct (x1 : List (L2.Key × P)) : numP (.dct x1) = false := rfl
theorem numP_ins (x1 : Nat) (x2 : List (Nat × P)) : numP (.ins x1 x2) = false := rfl
theorem numP_exc (x1 : Nat) (x2 : P) : numP (.exc x1 x2) = false := rfl
theorem isBlP_non  : isBlP .non = false := rfl
theorem isBlP_bl (x1 : Bool) : isBlP (.bl x1) = true := rfl
theorem isBlP_int (x1 : Int) : isBlP (.int x1) = false := rfl
theorem isBlP_str (x1 : Str) : isBlP (.str x1) = false := rfl
theorem isBlP_tup (x1 : List P) : isBlP (.tup x1) = false := rfl
theorem isBlP_lst (x1 : List P) : isBlP (.lst x1) = false := rfl
theorem isBlP_frz (x1 : List P) : isBlP (.frz x1) = false := rfl
theorem isBlP_dct (x1 : List (L2.Key × P)) : isBlP (.dct x1) = false := rfl
theorem isBlP_ins (x1 : Nat) (x2 : List (Nat × P)) : isBlP (.ins x1 x2) = false := rfl
theorem isBlP_exc (x1 : Nat) (x2 : P) : isBlP (.exc x1 x2) = false := rfl
theorem isTupP_non  : isTupP .non = false := rfl
theorem isTupP_bl (x1 : Bool) : isTupP (.bl x1) = false := rfl
theorem isTupP_int (x1 : Int) : isTupP (.int x1) = false := rfl
theorem isTupP_str (x1 : Str) : isTupP (.str x1) = false := rfl
theorem isTupP_tup (x1 : List P) : isTupP (.tup x1) = true := rfl
theorem isTupP_lst (x1 : List P) : isTupP (.lst x1) = false := rfl
theorem isTupP_frz (x1 : List P) : isTupP (.frz x1) = false := rfl
theorem isTupP_dct (x1 : List (L2.Key × P)) : isTupP (.dct x1) = false := rfl
theorem isTupP_ins (x1 : Nat) (x2 : List (Nat × P)) : isTupP (.ins x1 x2) = false := rfl
theorem isTupP_exc (x1 : Nat) (x2 : P) : isTupP (.exc x1 x2) = false := rfl
theorem isStrP_non  : isStrP .non = false := rfl
theorem isStrP_bl (x1 : Bool) : isStrP (.bl x1) = false := rfl
theorem isStrP_int (x1 : Int) : isStrP (.int x1) = false := rfl
theorem isStrP_str (x1 : Str) : isStrP (.str x1) = true := rfl
theorem isStrP_tup (x1 : List P) : isStrP (.tup x1) = false := rfl
theorem isStrP_lst (x1 : List P) : isStrP (.lst x1) = false := rfl
theorem isStrP_frz (x1 : List P) : isStrP (.frz x1) = false := rfl
theorem isStrP_dct (x1 : List (L2.Key × P)) : isStrP (.dct x1) = false := rfl
theorem isStrP_ins (x1 : Nat) (x2 : List (Nat × P)) : isStrP (.ins x1 x2) = false := rfl
theorem isStrP_exc (x1 : Nat) (x2 : P) : isStrP (.exc x1 x2) = false := rfl
theorem isRowP_non  : isRowP .non = false := rfl
theorem isRowP_bl (x1 : Bool) : isRowP (.bl x1) = false := rfl
theorem isRowP_int (x1 : Int) : isRowP (.int x1) = false := rfl
theorem isRowP_str (x1 : Str) : isRowP (.str x1) = false := rfl
theorem isRowP_tup (x1 : List P) : isRowP (.tup x1) = false := rfl
theorem isRowP_lst (x1 : List P) : isRowP (.lst x1) = true := rfl
theorem isRowP_frz (x1 : List P) : isRowP (.frz x1) = true := rfl
theorem isRowP_dct (x1 : List (L2.Key × P)) : isRowP (.dct x1) = false := rfl
theorem isRowP_ins (x1 : Nat) (x2 : List (Nat × P)) : isRowP (.ins x1 x2) = false := rfl
theorem isRowP_exc (x1 : Nat) (x2 : P) : isRowP (.exc x1 x2) = false := rfl
theorem isDctP_non  : isDctP .non = false := rfl
theorem isDctP_bl (x1 : Bool) : isDctP (.bl x1) = false := rfl
theorem isDctP_int (x1 : Int) : isDctP (.int x1) = false := rfl
theorem isDctP_str (x1 : Str) : isDctP (.str x1) = false := rfl
theorem isDctP_tup (x1 : List P) : isDctP (.tup x1) = false := rfl
theorem isDctP_lst (x1 : List P) : isDctP (.lst x1) = false := rfl
theorem isDctP_frz (x1 : List P) : isDctP (.frz x1) = false := rfl
theorem isDctP_dct (x1 : List (L2.Key × P)) : isDctP (.dct x1) = true := rfl
theorem isDctP_ins (x1 : Nat) (x2 : List (Nat × P)) : isDctP (.ins x1 x2) = false := rfl
theorem isDctP_exc (x1 : Nat) (x2 : P) : isDctP (.exc x1 x2) = false := rfl
theorem kP_non  : kP .non = true := rfl
theorem kP_bl (x1 : Bool) : kP (.bl x1) = true := rfl
theorem kP_int (x1 : Int) : kP (.int x1) = true := rfl
theorem kP_str (x1 : Str) : kP (.str x1) = true := rfl
theorem kP_tup (x1 : List P) : kP (.tup x1) = true := rfl
theorem kP_lst (x1 : List P) : kP (.lst x1) = true := rfl
theorem kP_frz (x1 : List P) : kP (.frz x1) = true := rfl
theorem kP_dct (x1 : List (L2.Key × P)) : kP (.dct x1) = true := rfl
theorem kP_ins (x1 : Nat) (x2 : List (Nat × P)) : kP (.ins x1 x2) = false := rfl
theorem kP_exc (x1 : Nat) (x2 : P) : kP (.exc x1 x2) = true := rfl
end
end J
end Py
end
section
set_option linter.all false
set_option maxRecDepth 100000
/-! PuM: rows of values of a function of whole numbers. -/
namespace Py
open PySem
namespace J
/-- the item at a place -/
def gI (xs : List P) (i : Int) : P := (xs[i.toNat]?).getD .non
def rowA (f : Int → P) (a b : Int) : List P := (List.range (b - a).toNat).map fun (i : Nat) => f (a + (i : Int))
theorem atI_gI {xs : List P} {i : Int} (h0 : 0 ≤ i) (h1 : i < xs.length) : L2.atI xs i = some (gI xs i) := by
  rw [atI_nat h0 h1]
  unfold gI
  rw [List.getElem?_eq_getElem (by omega)]; rfl
theorem gI_mem {xs : List P} {i : Int} (h0 : 0 ≤ i) (h1 : i < xs.length) : gI xs i ∈ xs := by
  unfold gI
  rw [List.getElem?_eq_getElem (by omega)]
  exact List.getElem_mem _
theorem atI_gIm {xs : List P} {i : Int} (h : 1 ≤ xs.length) : L2.atI xs (i % (xs.length : Int)) = some (gI xs (i % (xs.length : Int))) :=
  atI_gI (Int.emod_nonneg _ (by omega)) (Int.emod_lt_of_pos _ (by omega))
theorem gI_memm {xs : List P} {i : Int} (h : 1 ≤ xs.length) : gI xs (i % (xs.length : Int)) ∈ xs :=
  gI_mem (Int.emod_nonneg _ (by omega)) (Int.emod_lt_of_pos _ (by omega))
section
variable {f g : Int → P} {a b c : Int}
theorem row_len : (rowA f a b).length = (b - a).toNat := by simp [rowA]
theorem row_nil (h : b ≤ a) : rowA f a b = [] := by
  unfold rowA
  rw [show (b - a).toNat = 0 by omega]; rfl
theorem row_get {i : Nat} (h : i < (b - a).toNat) : (rowA f a b)[i]? = some (f (a + i)) := by
  unfold rowA
  rw [List.getElem?_map, List.getElem?_range h]; rfl
theorem row_none {i : Nat} (h : (b - a).toNat ≤ i) : (rowA f a b)[i]? = none := List.getElem?_eq_none (by rw [row_len]; exact h)
theorem row_mem {x : P} (h : x ∈ rowA f a b) : ∃ i, a ≤ i ∧ i < b ∧ x = f i := by
  unfold rowA at h
  obtain ⟨i, hi, rfl⟩ := List.mem_map.mp h
  have := List.mem_range.mp hi
  exact ⟨a + i, by omega, by omega, rfl⟩
theorem mem_row {i : Int} (h0 : a ≤ i) (h1 : i < b) : f i ∈ rowA f a b := by
  unfold rowA
  refine List.mem_map.mpr ⟨(i - a).toNat, List.mem_range.mpr (by omega), ?_⟩
  rw [show a + (((i - a).toNat : Nat) : Int) = i by omega]
theorem row_ext {xs : List P} (hl : xs.length = (b - a).toNat) (h : ∀ i : Nat, i < (b - a).toNat → xs[i]? = some (f (a + i))) : xs = rowA f a b := by
  refine List.ext_getElem? fun i => ?_
  by_cases hi : i < (b - a).toNat
  · rw [h i hi, row_get hi]
  · rw [row_none (by omega), List.getElem?_eq_none (by omega)]
theorem row_congr (h : ∀ i, a ≤ i → i < b → f i = g i) : rowA f a b = rowA g a b :=
  row_ext row_len fun i hi => by rw [row_get hi, h _ (by omega) (by omega)]
theorem row_inj (h : rowA f a b = rowA g a b) {i : Int} (h0 : a ≤ i) (h1 : i < b) : f i = g i := by
  have e : (rowA f a b)[(i - a).toNat]? = (rowA g a b)[(i - a).toNat]? := by rw [h]
  rw [row_get (by omega), row_get (by omega)] at e
  rw [show a + (((i - a).toNat : Nat) : Int) = i by omega] at e
  exact Option.some.inj e
theorem row_app (h0 : a ≤ b) (h1 : b ≤ c) : rowA f a b ++ rowA f b c = rowA f a c := by
  refine row_ext (by rw [List.length_append, row_len, row_len]; omega) fun i hi => ?_
  by_cases c1 : i < (b - a).toNat
  · rw [List.getElem?_append_left (by rw [row_len]; exact c1), row_get c1]
  · rw [List.getElem?_append_right (by rw [row_len]; omega), row_len, row_get (by omega)]
    congr 2
    omega
theorem row_shift {k : Int} : rowA (fun i => f (i + k)) a b = rowA f (a + k) (b + k) := by
  refine row_ext (by rw [row_len]; omega) fun i hi => ?_
  rw [row_get (by omega)]
  congr 2
  omega
theorem row_sub {k : Int} : rowA (fun i => f (i - k)) a b = rowA f (a - k) (b - k) := row_shift (k := -k)
theorem row_one (h : b = a + 1) : rowA f a b = [f a] := by
  subst h
  unfold rowA
  rw [show (a + 1 - a).toNat = 1 by omega]
  simp
theorem row_drop {n : Nat} (h : n ≤ (b - a).toNat) : (rowA f a b).drop n = rowA f (a + n) b := by
  refine row_ext (by rw [List.length_drop, row_len]; omega) fun i hi => ?_
  rw [List.getElem?_drop, row_get (by omega)]
  congr 2
  omega
theorem row_take {n : Nat} (h : n ≤ (b - a).toNat) : (rowA f a b).take n = rowA f a (a + n) := by
  refine row_ext (by rw [List.length_take, row_len]; omega) fun i hi => ?_
  rw [List.getElem?_take_of_lt (by omega), row_get (by omega)]
theorem row_self {xs : List P} : rowA (gI xs) 0 xs.length = xs := (row_ext (by omega) fun i hi => by
  unfold gI
  rw [Int.zero_add, Int.toNat_natCast, List.getElem?_eq_getElem (by omega)]; rfl).symm
theorem gI_row {i : Int} (h0 : 0 ≤ i) (h1 : i < b - a) : gI (rowA f a b) i = f (a + i) := by
  unfold gI
  rw [row_get (by omega)]
  show f _ = _
  congr 1
  omega
end
theorem cut_mid {xs : List P} {x y : Int} (h0 : 0 ≤ x) (h1 : x ≤ y) (h2 : y ≤ xs.length) : cut xs (some x) (some y) = rowA (gI xs) x y := by
  rw [cut_in h0 h1 h2]
  refine row_ext (by rw [List.length_take, List.length_drop]; omega) fun i hi => ?_
  rw [List.getElem?_take_of_lt (by omega), List.getElem?_drop]
  unfold gI
  rw [show (x + (i : Int)).toNat = x.toNat + i by omega, List.getElem?_eq_getElem (by omega)]; rfl
theorem cut_low {xs : List P} {x : Int} (h0 : 0 ≤ x) (h1 : x ≤ xs.length) : cut xs (some x) none = rowA (gI xs) x xs.length := by
  rw [cut_from h0 h1]
  refine row_ext (by rw [List.length_drop]; omega) fun i hi => ?_
  rw [List.getElem?_drop]
  unfold gI
  rw [show (x + (i : Int)).toNat = x.toNat + i by omega, List.getElem?_eq_getElem (by omega)]; rfl
theorem cut_high {xs : List P} {y : Int} (h0 : 0 ≤ y) (h1 : y ≤ xs.length) : cut xs none (some y) = rowA (gI xs) 0 y := by
  rw [cut_to h0]
  refine row_ext (by rw [List.length_take]; omega) fun i hi => ?_
  rw [List.getElem?_take_of_lt (by omega)]
  unfold gI
  rw [show (0 + (i : Int)).toNat = i by omega, List.getElem?_eq_getElem (by omega)]; rfl
theorem rowmap {f : Int → P} {a b : Int} : (rngPs a b).map (fun x => match x with | .int i => f i | _ => .non) = rowA f a b := by
  unfold rngPs rowA
  rw [List.map_map]; rfl
def onI {β : Type} (f : Int → β) : P → Option β
  | .int i => some (f i)
  | _ => none
theorem rowfm {f : Int → P} {a b : Int} : (rngPs a b).filterMap (onI f) = rowA f a b := by
  unfold rngPs rowA
  rw [List.filterMap_map]
  exact filterMap_some (h := fun (i : Nat) => f (a + (i : Int)))
theorem rng_mem {a b : Int} {x : P} (h : x ∈ rngPs a b) : ∃ i, a ≤ i ∧ i < b ∧ x = .int i := by
  unfold rngPs at h
  obtain ⟨i, hi, rfl⟩ := List.mem_map.mp h
  have := List.mem_range.mp hi
  exact ⟨a + i, by omega, by omega, rfl⟩
theorem rng_len {a b : Int} : (rngPs a b).length = (b - a).toNat := by simp [rngPs]
/-! ### labels of a table -/
def labA (l : List P) (first : Int) (m r : List P) (day : Int) : P :=
  if day < first then gI l ((day - first) % (l.length : Int)) else if day - first < m.length then gI m (day - first) else gI r ((day - first - m.length) % (r.length : Int))
theorem labA_mem {l m r : List P} {first day : Int} (hl : 1 ≤ l.length) (hr : 1 ≤ r.length) : labA l first m r day ∈ l ∨ labA l first m r day ∈ m ∨ labA l first m r day ∈ r := by
  unfold labA
  split
  · exact Or.inl (gI_memm hl)
  · split
    · exact Or.inr (Or.inl (gI_mem (by omega) (by omega)))
    · exact Or.inr (Or.inr (gI_memm hr))
/-- a ring turned -/
theorem turn_row {rs : List P} {place many : Int} (hr : 1 ≤ rs.length) (hm : 0 ≤ many) : (List.replicate (many / (rs.length : Int) + 1).toNat (rs.drop (place % (rs.length : Int)).toNat ++ rs.take (place % (rs.length : Int)).toNat)).flatten.take many.toNat = rowA (fun i => gI rs (i % (rs.length : Int))) place (place + many) := by
  have pa := Int.emod_nonneg place (show (rs.length : Int) ≠ 0 by omega)
  have pb := Int.emod_lt_of_pos place (show (0 : Int) < rs.length by omega)
  have q0 := Int.ediv_nonneg hm (show (0 : Int) ≤ rs.length by omega)
  have q1 := Int.lt_ediv_add_one_mul_self many (show (0 : Int) < rs.length by omega)
  have hl : (rs.drop (place % (rs.length : Int)).toNat ++ rs.take (place % (rs.length : Int)).toNat).length = rs.length := by
    rw [List.length_append, List.length_drop, List.length_take]; omega
  have big : many.toNat < (many / (rs.length : Int) + 1).toNat * rs.length := by
    have e : (((many / (rs.length : Int) + 1).toNat * rs.length : Nat) : Int) = (many / (rs.length : Int) + 1) * rs.length := by
      rw [Int.natCast_mul, Int.toNat_of_nonneg (by omega)]
    omega
  have big2 : (List.replicate (many / (rs.length : Int) + 1).toNat (rs.drop (place % (rs.length : Int)).toNat ++ rs.take (place % (rs.length : Int)).toNat)).flatten.length = (many / (rs.length : Int) + 1).toNat * rs.length := by
    rw [List.length_flatten, List.map_replicate, List.sum_replicate_nat, hl]
  refine row_ext (by rw [List.length_take, big2]; omega) fun i hi => ?_
  rw [List.getElem?_take_of_lt (by omega), flat_get (by rw [hl]; omega), hl, rot_get (by omega) (Nat.mod_lt _ (by omega)), List.getElem?_eq_getElem (Nat.mod_lt _ (by omega))]
  unfold gI
  have a := Int.emod_nonneg (place + (i : Int)) (show (rs.length : Int) ≠ 0 by omega)
  have b := Int.emod_lt_of_pos (place + (i : Int)) (show (0 : Int) < rs.length by omega)
  have e : (((place % (rs.length : Int)).toNat + i % rs.length : Nat) : Int) = place % (rs.length : Int) + (i : Int) % (rs.length : Int) := by omega
  have e2 : ((((place % (rs.length : Int)).toNat + i % rs.length) % rs.length : Nat) : Int) = (place + (i : Int)) % (rs.length : Int) := by
    rw [Int.natCast_emod, e, ← Int.add_emod]
  have e3 : ((place % (rs.length : Int)).toNat + i % rs.length) % rs.length = ((place + (i : Int)) % (rs.length : Int)).toNat := by omega
  rw [← List.getElem?_eq_getElem (Nat.mod_lt _ (by omega)), e3, List.getElem?_eq_getElem (by omega)]; rfl
end J
end Py
end
section
set_option linter.all false
set_option maxRecDepth 100000
/-! PuN: values that the laws make: how deep, how wide. -/
namespace Py
open PySem
namespace J
/-- at most n levels, a text of at most c signs -/
def Gd (n c : Nat) (v : P) : Prop := nic n v = true ∧ shw n v = true ∧ wd n v ≤ c
theorem Gd.mono {n c c' : Nat} {v : P} (h : Gd n c v) (l : c ≤ c') : Gd n c' v := ⟨h.1, h.2.1, Nat.le_trans h.2.2 l⟩
theorem Gd.tup {n c l : Nat} {xs : List P} (h : ∀ x ∈ xs, Gd n c x) (hl : xs.length ≤ l) (hm : l ≤ 1000000) : Gd (n + 1) (l * (c + 2) + 3) (.tup xs) := by
  refine ⟨nic.of_tup (by omega) fun x m => (h x m).1, List.all_eq_true.mpr fun x m => (h x m).2.1, ?_⟩
  show (xs.map fun x => wd n x + 2).sum + 3 ≤ _
  have a := sum_le (f := fun x => wd n x + 2) (c := c + 2) (xs := xs) fun x m => Nat.add_le_add_right (h x m).2.2 2
  have b := Nat.mul_le_mul_right (c + 2) hl
  omega
theorem Gd.lst {n c l : Nat} {xs : List P} (h : ∀ x ∈ xs, Gd n c x) (hl : xs.length ≤ l) (hm : l ≤ 1000000) : Gd (n + 1) (l * (c + 2) + 3) (.lst xs) := by
  refine ⟨nic.of_lst (by omega) fun x m => (h x m).1, List.all_eq_true.mpr fun x m => (h x m).2.1, ?_⟩
  show (xs.map fun x => wd n x + 2).sum + 2 ≤ _
  have a := sum_le (f := fun x => wd n x + 2) (c := c + 2) (xs := xs) fun x m => Nat.add_le_add_right (h x m).2.2 2
  have b := Nat.mul_le_mul_right (c + 2) hl
  omega
theorem log_of {i : Int} (h1 : -(10 ^ 40) < i) (h2 : i < 10 ^ 40) : i.natAbs.log2 < 1920 := by
  have : i.natAbs < 2 ^ 200 := by omega
  have := log_lt this
  omega
theorem Gd.int {n : Nat} {i : Int} (h1 : -(10 ^ 40) < i) (h2 : i < 10 ^ 40) : Gd n 41 (.int i) := by
  have a := log_of h1 h2
  have w : wd n (.int i) ≤ 41 := by
    have e : wd n (.int i) = if i.natAbs < 10 ^ 40 then 41 else 1921 := by cases n <;> simp only [wd]
    rw [e, if_pos (by omega)]
    exact Nat.le_refl _
  refine ⟨by cases n <;> rfl, ?_, w⟩
  cases n <;> exact decide_eq_true a
theorem Gd.bl {n : Nat} {k : Bool} : Gd n 41 (.bl k) := by refine ⟨?_, ?_, ?_⟩ <;> cases n <;> first | rfl | (simp only [wd]; decide)
theorem Gd.non {n : Nat} : Gd n 41 .non := by refine ⟨?_, ?_, ?_⟩ <;> cases n <;> first | rfl | (simp only [wd]; decide)
theorem Gd.str {n c : Nat} {x : Str} (h : (reprText x).length ≤ c) : Gd n c (.str x) := by refine ⟨?_, ?_, ?_⟩ <;> cases n <;> first | rfl | (simp only [wd]; exact h)
theorem Gd.nil {n : Nat} : Gd (n + 1) 41 (.tup []) := ⟨rfl, rfl, by simp [wd]⟩
theorem Gd.dct {n : Nat} : Gd (n + 1) 41 (.dct []) := ⟨rfl, rfl, by simp [wd]⟩
theorem Gd.repr {n c : Nat} {v : P} (h : Gd n c v) (hn : n ≤ 60) (hc : c ≤ 10000000) : ∃ s, biP .repr [v] = some (.str s) := by
  obtain ⟨s, e⟩ := repr_some h.2.1 hn (Nat.le_trans h.2.2 (Nat.le_trans hc (by decide)))
  exact ⟨s, q_repr e⟩
theorem mem_cut {α : Type} {xs : List α} {lo hi : Option Int} {x : α} (h : x ∈ cut xs lo hi) : x ∈ xs := List.mem_of_mem_drop (List.mem_of_mem_take h)
theorem len_cut {α : Type} {xs : List α} {lo hi : Option Int} : (cut xs lo hi).length ≤ xs.length := by
  unfold cut
  rw [List.length_take, List.length_drop]
  omega
/-- a tuple of labels is no empty tuple -/
theorem pd_num {n : Nat} {x : P} (h : numP x = true) : ∃ d, pdP n x = some d := by
  cases x <;> first | (cases n <;> exact ⟨_, rfl⟩) | cases h
theorem pd_nums {n : Nat} : ∀ {xs : List P}, (∀ x ∈ xs, numP x = true) → ∃ ds, mapO (pdP n) xs = some ds ∧ ds.length = xs.length
  | [], _ => ⟨[], rfl, rfl⟩
  | x :: xs, h => by
    obtain ⟨d, e⟩ := pd_num (n := n) (h x List.mem_cons_self)
    obtain ⟨ds, e2, l⟩ := pd_nums (n := n) fun y m => h y (List.mem_cons_of_mem _ m)
    exact ⟨d :: ds, by show consO (pdP n x) (mapO (pdP n) xs) = _; rw [e, e2]; rfl, by rw [List.length_cons, l, List.length_cons]⟩
theorem q_neT {xs : List P} (h : ∀ x ∈ xs, numP x = true) : cmpP .ne (.tup xs) (.tup []) = some (!xs.isEmpty) := by
  obtain ⟨ds, e, l⟩ := pd_nums (n := 59) h
  have e1 : pdP 60 (.tup xs) = some (.tuple ds) := by unfold pdP; rw [e]; rfl
  show (eqP (.tup xs) (.tup [])).map _ = _
  have e2 : eqP (.tup xs) (.tup []) = some (PyData.eqv (.tuple ds) (.tuple [])) := by
    show (match pdP 60 (.tup xs), pdP 60 (.tup []) with
      | some p, some q => some (PyData.eqv p q)
      | _, _ => none) = _
    rw [e1]
    rfl
  rw [e2]
  cases xs with
  | nil =>
    cases ds with
    | nil => rfl
    | cons d ds => cases l
  | cons x xs =>
    cases ds with
    | nil => cases l
    | cons d ds => rfl
end J
end Py
end
section
set_option linter.all false
set_option maxRecDepth 100000
namespace Py
open PySem PySem.Spec PyProof.Rows L2
/-! ### the text by places -/
def tp (i : Nat) : Stmt := PySem.Challenge.pw_alldays_k01_tables_and_their_labels.main.body.getD i (.Pass ⟨0, 0, 0, 0⟩)
def df (i : Nat) (n : Str) : He.DefD := ⟨(n, none), n, n, defArgs (tp i), defBody (tp i), defScope (tp i), [], []⟩
def dm (i j : Nat) (c n q : Str) : He.DefD := ⟨(c, some n), n, q, defArgs (inClass (tp i) j), defBody (inClass (tp i) j), defScope (inClass (tp i) j), [], []⟩
def f_is_integer : Nat := 0
def f_is_tuple : Nat := 1
def f_anew : Nat := 2
def f_label_at : Nat := 3
def f_end_of : Nat := 4
def f_turned : Nat := 5
def f_stretch : Nat := 6
def f_are_labels : Nat := 7
def f_is_table : Nat := 8
def f_is_set_table : Nat := 9
def f_need_table : Nat := 10
def f_label : Nat := 11
def f_labels : Nat := 12
def f__law_well : Nat := 13
def f__law_draw : Nat := 14
def f__law_far : Nat := 15
def f__law_integer : Nat := 16
def f__law_part : Nat := 17
def f__law_table : Nat := 18
def f__law_are_labels : Nat := 19
def f__law_is_table : Nat := 20
def f__law_is_set : Nat := 21
def f__law_label : Nat := 22
def f__law_bent : Nat := 23
def f__law_said : Nat := 24
def f__law_refused : Nat := 25
def f__law_days : Nat := 26
def f__law_labels_right : Nat := 27
def f__law_known : Nat := 28
def f_law : Nat := 29
def c_DayError : Nat := 0
def c_InvalidTable : Nat := 1
def c_InvalidPairs : Nat := 2
def c_InvalidNumber : Nat := 3
def a_value : Nat := 0
def b_is_integer : List Sm := [
  (.ret (.and_ (.isi (.var 0) .int) (.not_ (.isi (.var 0) .bool))))]
def b_is_tuple : List Sm := [
  (.ret (.and_ (.isi (.var 0) .tuple) (.chn .le .le (.var 1) (.bi .len (.cons (.var 0) .nil)) (.var 2))))]
def b_anew : List Sm := [
  (.ife (.isi (.var 0) .list) (ss [
    (.ret (.mk (.comp [1] (.one 1) (.of (.var 0)) .nil (.call f_anew (.cons (.var 1) .nil)))))]) (ss [])), 
  (.ife (.isi (.var 0) .tuple) (ss [
    (.ret (.bl .tuple (.comp [1] (.one 1) (.of (.var 0)) .nil (.call f_anew (.cons (.var 1) .nil)))))]) (ss [])), 
  (.ret (.var 0))]
def b_label_at : List Sm := [
  (.unp [2, 3, 4, 5] (.var 0)), 
  (.ife (.cmp .lt (.var 1) (.var 3)) (ss [
    (.ret (.idx (.var 2) (.bin .mod (.bin .sub (.var 1) (.var 3)) (.bi .len (.cons (.var 2) .nil)))))]) (ss [])), 
  (.set 6 (.bin .sub (.var 1) (.var 3))), 
  (.ife (.cmp .lt (.var 6) (.bi .len (.cons (.var 4) .nil))) (ss [
    (.ret (.idx (.var 4) (.var 6)))]) (ss [])), 
  (.ret (.idx (.var 5) (.bin .mod (.bin .sub (.var 6) (.bi .len (.cons (.var 4) .nil))) (.bi .len (.cons (.var 5) .nil)))))]
def b_end_of : List Sm := [
  (.ret (.bin .add (.idx (.var 0) (.lit (.int (1)))) (.bi .len (.cons (.idx (.var 0) (.lit (.int (2)))) .nil))))]
def b_turned : List Sm := [
  (.set 3 (.bin .mod (.var 1) (.bi .len (.cons (.var 0) .nil)))), 
  (.set 4 (.bin .add (.bl .list (.of (.sli (.var 0) (.yes (.var 3)) .no))) (.bl .list (.of (.sli (.var 0) .no (.yes (.var 3))))))), 
  (.ret (.sli (.bin .mul (.var 4) (.bin .add (.bin .fdiv (.var 2) (.bi .len (.cons (.var 4) .nil))) (.lit (.int (1))))) .no (.yes (.var 2))))]
def b_stretch : List Sm := [
  (.unp [3, 4, 5, 6] (.var 0)), 
  (.set 7 (.call f_end_of (.cons (.var 0) .nil))), 
  (.set 8 (.mk (.disp .nil))), 
  (.ife (.cmp .lt (.var 1) (.var 4)) (ss [
    (.set 8 (.call f_turned (.cons (.var 3) (.cons (.bin .sub (.var 1) (.var 4)) (.cons (.bin .sub (.bi .min2 (.cons (.var 2) (.cons (.var 4) .nil))) (.var 1)) .nil)))))]) (ss [])), 
  (.par [9, 10] (.cons (.bi .max2 (.cons (.var 1) (.cons (.var 4) .nil))) (.cons (.bi .min2 (.cons (.var 2) (.cons (.var 7) .nil))) .nil))), 
  (.ife (.cmp .lt (.var 9) (.var 10)) (ss [
    (.set 8 (.bin .add (.var 8) (.bl .list (.of (.sli (.var 5) (.yes (.bin .sub (.var 9) (.var 4))) (.yes (.bin .sub (.var 10) (.var 4))))))))]) (ss [])), 
  (.set 9 (.bi .max2 (.cons (.var 1) (.cons (.var 7) .nil)))), 
  (.ife (.cmp .lt (.var 9) (.var 2)) (ss [
    (.set 8 (.bin .add (.var 8) (.call f_turned (.cons (.var 6) (.cons (.bin .sub (.var 9) (.var 7)) (.cons (.bin .sub (.var 2) (.var 9)) .nil))))))]) (ss [])), 
  (.ret (.var 8))]
def b_are_labels : List Sm := [
  (.ret (.and_ (.isi (.var 0) .tuple) (.and_ (.cmp .ge (.bi .len (.cons (.var 0) .nil)) (.var 1)) (.bl .all (.comp [2] (.one 2) (.of (.var 0)) .nil (.isi (.var 2) .int))))))]
def b_is_table : List Sm := [
  (.ife (.or_ (.not_ (.call f_is_tuple (.cons (.var 0) (.cons (.lit (.int (4))) (.cons (.lit (.int (4))) .nil))))) (.or_ (.not_ (.call f_are_labels (.cons (.idx (.var 0) (.lit (.int (0)))) (.cons (.lit (.int (1))) .nil)))) (.not_ (.call f_are_labels (.cons (.idx (.var 0) (.lit (.int (3)))) (.cons (.lit (.int (1))) .nil)))))) (ss [
    (.ret (.lit (.bl false)))]) (ss [])), 
  (.ret (.and_ (.call f_is_integer (.cons (.idx (.var 0) (.lit (.int (1)))) .nil)) (.call f_are_labels (.cons (.idx (.var 0) (.lit (.int (2)))) (.cons (.lit (.int (0))) .nil)))))]
def b_is_set_table : List Sm := [
  (.ife (.not_ (.call f_is_table (.cons (.var 0) .nil))) (ss [
    (.ret (.lit (.bl false)))]) (ss [])), 
  (.ret (.bl .all (.comp [2] (.one 2) (.of (.tup (.cons (.lit (.int (0))) (.cons (.lit (.int (2))) (.cons (.lit (.int (3))) .nil))))) .nil (.bl .all (.comp [1] (.one 1) (.of (.idx (.var 0) (.var 2))) .nil (.isi (.var 1) .bool))))))]
def b_need_table : List Sm := [
  (.ife (.not_ (.call f_is_table (.cons (.var 0) .nil))) (ss [
    (.rais c_InvalidTable (.call f_anew (.cons (.var 0) .nil)))]) (ss []))]
def b_label : List Sm := [
  (.expr (.call f_need_table (.cons (.var 0) .nil))), 
  (.ret (.call f_label_at (.cons (.var 0) (.cons (.var 1) .nil))))]
def b_labels : List Sm := [
  (.expr (.call f_need_table (.cons (.var 0) .nil))), 
  (.ife (.cmp .lt (.var 2) (.var 1)) (ss [
    (.rais c_InvalidNumber (.var 2))]) (ss [])), 
  (.ret (.call f_stretch (.cons (.var 0) (.cons (.var 1) (.cons (.var 2) .nil)))))]
def b__law_well_1 : List Sm := [
  (.set 3 (.bin .mod (.bi .int (.cons (.bin .add (.bin .mul (.var 3) (.lit (.int (5323)))) (.bin .mod (.bi .int (.cons (.var 4) .nil)) (.bin .add (.bin .pow (.lit (.int (10))) (.lit (.int (19)))) (.lit (.int (51)))))) .nil)) (.bin .add (.bin .pow (.lit (.int (10))) (.lit (.int (25)))) (.lit (.int (13))))))]
def b__law_well : List Sm := [
  (.set 2 (.ife (.cmp .lt (.var 1) (.bi .len (.cons (.var 0) .nil))) (.bi .int (.cons (.idx (.var 0) (.var 1)) .nil)) (.bin .add (.bin .mul (.lit (.int (71))) (.var 1)) (.lit (.int (37)))))), 
  (.set 3 (.bin .add (.lit (.int (29))) (.bi .len (.cons (.var 0) .nil)))), 
  (.for_ (.one 4) (.of (.var 0)) (ss b__law_well_1)), 
  (.set 5 (.bin .mod (.bi .int (.cons (.bin .add (.bin .add (.bin .add (.bin .mul (.bi .abs (.cons (.var 2) .nil)) (.lit (.int (7129)))) (.bin .mul (.var 3) (.lit (.int (41))))) (.bin .mul (.lit (.int (3))) (.bi .int (.cons (.cmp .lt (.var 2) (.lit (.int (0)))) .nil)))) (.bin .mul (.lit (.int (61))) (.var 1))) .nil)) (.bin .add (.bin .pow (.lit (.int (10))) (.lit (.int (28)))) (.lit (.int (331)))))), 
  (.ret (.mk (.disp (.cons (.bi .max2 (.cons (.lit (.int (0))) (.cons (.bin .sub (.bi .abs (.cons (.var 2) .nil)) (.bin .pow (.lit (.int (10))) (.lit (.int (18))))) .nil))) (.cons (.var 5) (.cons (.lit (.int (0))) .nil))))))]
def b__law_draw : List Sm := [
  (.ife (.cmp .gt (.idx (.var 0) (.lit (.int (0)))) (.lit (.int (0)))) (ss [
    (.set 2 (.bin .mod (.bi .int (.cons (.idx (.var 0) (.lit (.int (0)))) .nil)) (.var 1))), 
    (.setI (.var 0) (.lit (.int (0))) (.bin .fdiv (.idx (.var 0) (.lit (.int (0)))) (.var 1))), 
    (.ret (.var 2))]) (ss [])), 
  (.setI (.var 0) (.lit (.int (2))) (.bin .add (.idx (.var 0) (.lit (.int (2)))) (.lit (.int (1))))), 
  (.set 3 (.idx (.var 0) (.lit (.int (2))))), 
  (.set 4 (.bin .mod (.bi .int (.cons (.bin .add (.bin .add (.bin .mul (.bin .mul (.bin .add (.idx (.var 0) (.lit (.int (1)))) (.lit (.int (31)))) (.bin .add (.var 3) (.lit (.int (5))))) (.lit (.int (998244353)))) (.bin .mul (.bin .mul (.bin .mul (.var 3) (.var 3)) (.var 3)) (.lit (.int (424242427))))) (.lit (.int (77)))) .nil)) (.bin .add (.bin .pow (.lit (.int (10))) (.lit (.int (29)))) (.lit (.int (319)))))), 
  (.set 4 (.bin .mod (.bi .int (.cons (.bin .add (.bin .add (.bin .mul (.var 4) (.var 4)) (.bin .mul (.idx (.var 0) (.lit (.int (1)))) (.lit (.int (7))))) (.var 3)) .nil)) (.bin .add (.bin .pow (.lit (.int (10))) (.lit (.int (31)))) (.lit (.int (33)))))), 
  (.set 4 (.bin .mod (.bi .int (.cons (.bin .add (.bin .mul (.bin .mul (.var 4) (.var 4)) (.lit (.int (3)))) (.bin .mul (.var 4) (.lit (.int (11))))) .nil)) (.bin .add (.bin .pow (.lit (.int (10))) (.lit (.int (33)))) (.lit (.int (603)))))), 
  (.ret (.bin .mod (.bi .int (.cons (.bin .fdiv (.var 4) (.lit (.int (50021)))) .nil)) (.var 1)))]
def b__law_far : List Sm := [
  (.set 1 (.idx (.mk (.disp (.cons (.lit (.int (9))) (.cons (.lit (.int (60))) (.cons (.lit (.int (1000))) (.cons (.bin .pow (.lit (.int (10))) (.lit (.int (6)))) (.cons (.bin .pow (.lit (.int (10))) (.lit (.int (18)))) .nil))))))) (.call f__law_draw (.cons (.var 0) (.cons (.lit (.int (5))) .nil))))), 
  (.set 2 (.call f__law_draw (.cons (.var 0) (.cons (.var 1) .nil)))), 
  (.ife (.and_ (.cmp .eq (.var 1) (.bin .pow (.lit (.int (10))) (.lit (.int (18))))) (.cmp .eq (.call f__law_draw (.cons (.var 0) (.cons (.lit (.int (2))) .nil))) (.lit (.int (0))))) (ss [
    (.set 2 (.bin .add (.bin .mul (.var 2) (.bin .pow (.lit (.int (10))) (.lit (.int (11))))) (.call f__law_draw (.cons (.var 0) (.cons (.bin .pow (.lit (.int (10))) (.lit (.int (11)))) .nil)))))]) (ss [])), 
  (.ret (.ife (.cmp .eq (.call f__law_draw (.cons (.var 0) (.cons (.lit (.int (2))) .nil))) (.lit (.int (0)))) (.neg (.var 2)) (.var 2)))]
def b__law_integer : List Sm := [
  (.ret (.and_ (.isi (.var 0) .int) (.not_ (.isi (.var 0) .bool))))]
def b__law_part : List Sm := [
  (.set 3 (.idx (.mk (.disp (.cons (.mk (.disp (.cons (.lit (.bl true)) (.cons (.lit (.bl false)) .nil)))) (.cons (.mk (.disp (.cons (.lit (.int (0))) (.cons (.lit (.int (1))) .nil)))) (.cons (.mk (.disp (.cons (.lit (.bl true)) (.cons (.lit (.int (1))) (.cons (.lit (.bl false)) (.cons (.lit (.int (0))) .nil)))))) (.cons (.mk (.disp (.cons (.lit (.int (2))) (.cons (.neg (.lit (.int (3)))) (.cons (.bin .pow (.lit (.int (10))) (.lit (.int (12)))) (.cons (.lit (.int (0))) .nil)))))) .nil)))))) (.var 1))), 
  (.ret (.bl .tuple (.comp [4] (.one 4) (.rng1 (.var 2)) .nil (.idx (.var 3) (.call f__law_draw (.cons (.var 0) (.cons (.bi .len (.cons (.var 3) .nil)) .nil)))))))]
def b__law_table : List Sm := [
  (.set 1 (.call f__law_draw (.cons (.var 0) (.cons (.lit (.int (4))) .nil)))), 
  (.par [2, 3] (.cons (.call f__law_part (.cons (.var 0) (.cons (.var 1) (.cons (.bin .add (.lit (.int (1))) (.call f__law_draw (.cons (.var 0) (.cons (.lit (.int (12))) .nil)))) .nil)))) (.cons (.call f__law_part (.cons (.var 0) (.cons (.var 1) (.cons (.bin .add (.lit (.int (1))) (.call f__law_draw (.cons (.var 0) (.cons (.lit (.int (12))) .nil)))) .nil)))) .nil))), 
  (.ret (.tup (.cons (.var 2) (.cons (.call f__law_far (.cons (.var 0) .nil)) (.cons (.call f__law_part (.cons (.var 0) (.cons (.var 1) (.cons (.call f__law_draw (.cons (.var 0) (.cons (.lit (.int (13))) .nil))) .nil)))) (.cons (.var 3) .nil))))))]
def b__law_are_labels : List Sm := [
  (.ife (.or_ (.not_ (.isi (.var 0) .tuple)) (.cmp .lt (.bi .len (.cons (.var 0) .nil)) (.var 1))) (ss [
    (.ret (.lit (.bl false)))]) (ss [])), 
  (.ret (.cmp .eq (.mk (.comp [2] (.one 2) (.of (.var 0)) (.cons (.not_ (.isi (.var 2) .int)) .nil) (.var 2))) (.mk (.disp .nil))))]
def b__law_is_table : List Sm := [
  (.ife (.or_ (.not_ (.isi (.var 0) .tuple)) (.cmp .ne (.bi .len (.cons (.var 0) .nil)) (.lit (.int (4))))) (ss [
    (.ret (.lit (.bl false)))]) (ss [])), 
  (.ife (.or_ (.not_ (.call f__law_are_labels (.cons (.idx (.var 0) (.lit (.int (0)))) (.cons (.lit (.int (1))) .nil)))) (.or_ (.not_ (.call f__law_are_labels (.cons (.idx (.var 0) (.lit (.int (2)))) (.cons (.lit (.int (0))) .nil)))) (.not_ (.call f__law_are_labels (.cons (.idx (.var 0) (.lit (.int (3)))) (.cons (.lit (.int (1))) .nil)))))) (ss [
    (.ret (.lit (.bl false)))]) (ss [])), 
  (.ret (.call f__law_integer (.cons (.idx (.var 0) (.lit (.int (1)))) .nil)))]
def b__law_is_set : List Sm := [
  (.ife (.not_ (.call f__law_is_table (.cons (.var 0) .nil))) (ss [
    (.ret (.lit (.bl false)))]) (ss [])), 
  (.ret (.cmp .eq (.mk (.comp [1] (.one 1) (.of (.bin .add (.bin .add (.idx (.var 0) (.lit (.int (0)))) (.idx (.var 0) (.lit (.int (2))))) (.idx (.var 0) (.lit (.int (3)))))) (.cons (.not_ (.isi (.var 1) .bool)) .nil) (.var 1))) (.mk (.disp .nil))))]
def b__law_label : List Sm := [
  (.unp [2, 3, 4, 5] (.var 0)), 
  (.ife (.cmp .lt (.var 1) (.var 3)) (ss [
    (.ret (.idx (.var 2) (.bin .mod (.bi .int (.cons (.bin .sub (.var 1) (.var 3)) .nil)) (.bi .len (.cons (.var 2) .nil)))))]) (ss [])), 
  (.ife (.cmp .lt (.var 1) (.bin .add (.var 3) (.bi .len (.cons (.var 4) .nil)))) (ss [
    (.ret (.idx (.var 4) (.bin .sub (.var 1) (.var 3))))]) (ss [])), 
  (.ret (.idx (.var 5) (.bin .mod (.bi .int (.cons (.bin .sub (.bin .sub (.var 1) (.var 3)) (.bi .len (.cons (.var 4) .nil))) .nil)) (.bi .len (.cons (.var 5) .nil)))))]
def b__law_bent : List Sm := [
  (.par [2, 3] (.cons (.call f__law_draw (.cons (.var 0) (.cons (.lit (.int (4))) .nil))) (.cons (.call f__law_draw (.cons (.var 0) (.cons (.lit (.int (6))) .nil))) .nil))), 
  (.set 4 (.mk (.disp (.cons (.lit (.non)) (.cons (.lit (.str "1")) (.cons (.tup (.cons (.lit (.int (0))) .nil)) (.cons (.mk (.disp (.cons (.lit (.int (0))) .nil))) (.cons (.lit (.bl true)) (.cons (.lit (.str "")) (.cons (.tup .nil) (.cons (.dct [] .nil) (.cons (.neg (.lit (.int (1)))) (.cons (.bin .sub (.bin .pow (.lit (.int (10))) (.lit (.int (30)))) (.lit (.int (1)))) (.cons (.bin .sub (.lit (.int (1))) (.bin .pow (.lit (.int (10))) (.lit (.int (30))))) .nil)))))))))))))), 
  (.ife (.cmp .eq (.var 3) (.lit (.int (0)))) (ss [
    (.set 5 (.mk (.disp (.cons (.bl .list (.of (.var 1))) (.cons (.sli (.var 1) .no (.yes (.lit (.int (3))))) (.cons (.bin .add (.var 1) (.tup (.cons (.tup (.cons (.lit (.int (0))) .nil)) .nil))) (.cons (.tup (.cons (.var 1) .nil)) (.cons (.lit (.non)) (.cons (.lit (.int (0))) (.cons (.lit (.str "table")) (.cons (.mk (.disp (.cons (.var 1) .nil))) (.cons (.dct [] .nil) (.cons (.rev (.var 1)) .nil))))))))))))), 
    (.ret (.idx (.var 5) (.call f__law_draw (.cons (.var 0) (.cons (.bi .len (.cons (.var 5) .nil)) .nil)))))]) (ss [])), 
  (.set 6 (.idx (.var 1) (.var 2))), 
  (.ife (.or_ (.cmp .eq (.var 3) (.lit (.int (1)))) (.cmp .eq (.var 2) (.lit (.int (1))))) (ss [
    (.set 6 (.idx (.var 4) (.call f__law_draw (.cons (.var 0) (.cons (.bi .len (.cons (.var 4) .nil)) .nil)))))]) (ss [
    (.ife (.cmp .eq (.var 3) (.lit (.int (2)))) (ss [
      (.set 6 (.bl .list (.of (.var 6))))]) (ss [
      (.ife (.cmp .eq (.var 3) (.lit (.int (3)))) (ss [
        (.set 6 (.tup .nil))]) (ss [
        (.ife (.cmp .ne (.var 6) (.tup .nil)) (ss [
          (.set 7 (.call f__law_draw (.cons (.var 0) (.cons (.bi .len (.cons (.var 6) .nil)) .nil)))), 
          (.set 6 (.bin .add (.bin .add (.sli (.var 6) .no (.yes (.var 7))) (.tup (.cons (.idx (.var 4) (.call f__law_draw (.cons (.var 0) (.cons (.bi .len (.cons (.var 4) .nil)) .nil)))) .nil))) (.sli (.var 6) (.yes (.bin .add (.var 7) (.lit (.int (1))))) .no)))]) (ss []))]))]))])), 
  (.ret (.bin .add (.bin .add (.sli (.var 1) .no (.yes (.var 2))) (.tup (.cons (.var 6) .nil))) (.sli (.var 1) (.yes (.bin .add (.var 2) (.lit (.int (1))))) .no)))]
def b__law_said : List Sm := [
  (.par [4, 5] (.cons (.lit (.non)) (.cons (.lit (.non)) .nil))), 
  (.try_ (ss [
    (.ife (.cmp .eq (.var 0) (.lit (.int (0)))) (ss [
      (.set 4 (.call f_label (.cons (.var 1) (.cons (.var 2) .nil))))]) (ss [
      (.ife (.cmp .eq (.var 0) (.lit (.int (1)))) (ss [
        (.set 4 (.callK f_label .nil (.cons (.var 2) (.cons (.var 1) .nil)) [1, 0]))]) (ss [
        (.ife (.cmp .eq (.var 0) (.lit (.int (2)))) (ss [
          (.set 4 (.call f_labels (.cons (.var 1) (.cons (.var 2) (.cons (.var 3) .nil)))))]) (ss [
          (.set 4 (.callK f_labels .nil (.cons (.var 3) (.cons (.var 2) (.cons (.var 1) .nil))) [2, 1, 0]))]))]))]))]) c_DayError 6 (ss [
    (.set 5 (.var 6))])), 
  (.ret (.tup (.cons (.var 4) (.cons (.var 5) .nil))))]
def b__law_refused_1 : List Sm := [
  (.set 6 (.bi .repr (.cons (.ife (.cmp .gt (.var 5) (.lit (.int (1)))) (.var 4) (.var 1)) .nil))), 
  (.unp [7, 8] (.call f__law_said (.cons (.var 5) (.cons (.ife (.cmp .gt (.var 5) (.lit (.int (1)))) (.var 4) (.var 1)) (.cons (.var 2) (.cons (.var 3) .nil)))))), 
  (.ife (.or_ (.not_ (.isi (.var 8) (.own c_InvalidTable))) (.isT (.var 8) [(.own c_InvalidNumber), (.own c_InvalidPairs)])) (ss [
    (.ret (.lit (.bl false)))]) (ss [])), 
  (.ife (.cmp .ne (.bi .repr (.cons (.fld (.var 8) a_value) .nil)) (.var 6)) (ss [
    (.ret (.lit (.bl false)))]) (ss [])), 
  (.ife (.cmp .gt (.var 5) (.lit (.int (1)))) (ss [
    (.expr (.app (.fld (.var 8) a_value) (.lit (.str "told")))), 
    (.ife (.cmp .ne (.bi .repr (.cons (.var 4) .nil)) (.var 6)) (ss [
      (.ret (.lit (.bl false)))]) (ss []))]) (ss []))]
def b__law_refused : List Sm := [
  (.set 4 (.mk (.disp (.cons (.var 1) (.cons (.mk (.disp (.cons (.lit (.str "own")) .nil))) .nil))))), 
  (.for_ (.one 5) (.rng1 (.lit (.int (4)))) (ss b__law_refused_1)), 
  (.ret (.lit (.bl true)))]
def b__law_days : List Sm := [
  (.par [2, 3] (.cons (.idx (.var 1) (.lit (.int (1)))) (.cons (.bin .add (.idx (.var 1) (.lit (.int (1)))) (.bi .len (.cons (.idx (.var 1) (.lit (.int (2)))) .nil))) .nil))), 
  (.ret (.mk (.disp (.cons (.bin .sub (.var 2) (.lit (.int (1)))) (.cons (.var 2) (.cons (.var 3) (.cons (.bin .sub (.var 3) (.lit (.int (1)))) (.cons (.bin .sub (.bin .sub (.var 2) (.lit (.int (1)))) (.call f__law_draw (.cons (.var 0) (.cons (.lit (.int (40))) .nil)))) (.cons (.bin .add (.var 3) (.call f__law_draw (.cons (.var 0) (.cons (.lit (.int (40))) .nil)))) (.cons (.call f__law_far (.cons (.var 0) .nil)) .nil))))))))))]
def b__law_labels_right_1 : List Sm := [
  (.ife (.cmp .ne (.bi .repr (.cons (.call f__law_said (.cons (.var 3) (.cons (.var 1) (.cons (.var 2) (.cons (.lit (.int (0))) .nil))))) .nil)) (.bi .repr (.cons (.tup (.cons (.call f__law_label (.cons (.var 1) (.cons (.var 2) .nil))) (.cons (.lit (.non)) .nil))) .nil))) (ss [
    (.ret (.lit (.bl false)))]) (ss []))]
def b__law_labels_right_2 : List Sm := [
  (.set 10 (.idx (.call f__law_said (.cons (.var 3) (.cons (.var 1) (.cons (.var 4) (.cons (.var 9) .nil))))) (.lit (.int (1))))), 
  (.ife (.or_ (.not_ (.isi (.var 10) (.own c_InvalidNumber))) (.or_ (.isi (.var 10) (.own c_InvalidTable)) (.cmp .ne (.fld (.var 10) a_value) (.var 9)))) (ss [
    (.ret (.lit (.bl false)))]) (ss []))]
def b__law_labels_right_3 : List Sm := [
  (.for_ (.one 3) (.of (.tup (.cons (.lit (.int (0))) (.cons (.lit (.int (1))) .nil)))) (ss b__law_labels_right_1)), 
  (.set 4 (.bin .sub (.var 2) (.call f__law_draw (.cons (.var 0) (.cons (.lit (.int (9))) .nil))))), 
  (.set 5 (.bin .add (.var 4) (.call f__law_draw (.cons (.var 0) (.cons (.lit (.int (30))) .nil))))), 
  (.set 6 (.bi .repr (.cons (.mk (.comp [7] (.one 7) (.rng2 (.var 4) (.var 5)) .nil (.call f__law_label (.cons (.var 1) (.cons (.var 7) .nil))))) .nil))), 
  (.set 8 (.call f_labels (.cons (.var 1) (.cons (.var 4) (.cons (.var 5) .nil))))), 
  (.ife (.or_ (.not_ (.isi (.var 8) .list)) (.cmp .ne (.bi .repr (.cons (.var 8) .nil)) (.var 6))) (ss [
    (.ret (.lit (.bl false)))]) (ss [])), 
  (.expr (.app (.var 8) (.lit (.int (5))))), 
  (.ife (.cmp .ne (.bi .repr (.cons (.callK f_labels .nil (.cons (.var 4) (.cons (.var 5) (.cons (.var 1) .nil))) [2, 0, 1]) .nil)) (.var 6)) (ss [
    (.ret (.lit (.bl false)))]) (ss [])), 
  (.set 9 (.bin .sub (.bin .sub (.var 4) (.lit (.int (1)))) (.call f__law_draw (.cons (.var 0) (.cons (.lit (.int (5))) .nil))))), 
  (.for_ (.one 3) (.of (.tup (.cons (.lit (.int (2))) (.cons (.lit (.int (3))) .nil)))) (ss b__law_labels_right_2))]
def b__law_labels_right : List Sm := [
  (.for_ (.one 2) (.of (.call f__law_days (.cons (.var 0) (.cons (.var 1) .nil)))) (ss b__law_labels_right_3)), 
  (.ret (.lit (.bl true)))]
def b__law_known : List Sm := [
  (.set 2 (.bi .repr (.cons (.var 0) .nil))), 
  (.set 3 (.mk (.disp (.cons (.call f_is_table (.cons (.var 0) .nil)) (.cons (.call f_is_set_table (.cons (.var 0) .nil)) .nil))))), 
  (.ife (.cmp .eq (.var 1) (.lit (.int (1)))) (ss [
    (.set 3 (.mk (.disp (.cons (.callK f_is_table .nil (.cons (.var 0) .nil) [0]) (.cons (.callK f_is_set_table .nil (.cons (.var 0) .nil) [0]) .nil)))))]) (ss [])), 
  (.ret (.and_ (.cmp .eq (.bi .repr (.cons (.var 3) .nil)) (.bi .repr (.cons (.mk (.disp (.cons (.call f__law_is_table (.cons (.var 0) .nil)) (.cons (.call f__law_is_set (.cons (.var 0) .nil)) .nil)))) .nil))) (.cmp .eq (.bi .repr (.cons (.var 0) .nil)) (.var 2))))]
def b_law_1 : List Sm := [
  (.set 5 (.call f__law_bent (.cons (.var 2) (.cons (.var 3) .nil)))), 
  (.ife (.not_ (.call f__law_known (.cons (.var 5) (.cons (.bin .mod (.bi .int (.cons (.var 4) .nil)) (.lit (.int (2)))) .nil)))) (ss [
    (.ret (.lit (.bl false)))]) (ss [])), 
  (.ife (.and_ (.not_ (.call f__law_is_table (.cons (.var 5) .nil))) (.not_ (.call f__law_refused (.cons (.var 2) (.cons (.var 5) (.cons (.lit (.int (3))) (.cons (.lit (.int (1))) .nil))))))) (ss [
    (.ret (.lit (.bl false)))]) (ss []))]
def b_law_2 : List Sm := [
  (.set 2 (.call f__law_well (.cons (.var 0) (.cons (.var 1) .nil)))), 
  (.set 3 (.call f__law_table (.cons (.var 2) .nil))), 
  (.ife (.or_ (.not_ (.call f__law_labels_right (.cons (.var 2) (.cons (.var 3) .nil)))) (.not_ (.call f__law_known (.cons (.var 3) (.cons (.call f__law_draw (.cons (.var 2) (.cons (.lit (.int (2))) .nil))) .nil))))) (ss [
    (.ret (.lit (.bl false)))]) (ss [])), 
  (.for_ (.one 4) (.rng1 (.lit (.int (8)))) (ss b_law_1))]
def b_law : List Sm := [
  (.for_ (.one 1) (.rng1 (.bi .max2 (.cons (.lit (.int (1))) (.cons (.bi .min2 (.cons (.lit (.int (4))) (.cons (.bi .len (.cons (.var 0) .nil)) .nil))) .nil)))) (ss b_law_2)), 
  (.ret (.lit (.bl true)))]
def bs : List Ss := ([ss b_is_integer, ss b_is_tuple, ss b_anew, ss b_label_at, ss b_end_of, ss b_turned, ss b_stretch, ss b_are_labels, ss b_is_table, ss b_is_set_table, ss b_need_table, ss b_label, ss b_labels, ss b__law_well, ss b__law_draw, ss b__law_far, ss b__law_integer, ss b__law_part, ss b__law_table, ss b__law_are_labels, ss b__law_is_table, ss b__law_is_set, ss b__law_label, ss b__law_bent, ss b__law_said, ss b__law_refused, ss b__law_days, ss b__law_labels_right, ss b__law_known, ss b_law] : List Ss)

def tx0 : Tx where
  defs := ([df 1 "is_integer", df 2 "is_tuple", df 3 "anew", df 10 "label_at", df 11 "end_of", df 12 "turned", df 13 "stretch", df 15 "are_labels", df 16 "is_table", df 17 "is_set_table", df 18 "need_table", df 19 "label", df 20 "labels", df 22 "_law_well", df 23 "_law_draw", df 24 "_law_far", df 25 "_law_integer", df 26 "_law_part", df 27 "_law_table", df 28 "_law_are_labels", df 29 "_law_is_table", df 30 "_law_is_set", df 31 "_law_label", df 32 "_law_bent", df 33 "_law_said", df 34 "_law_refused", df 35 "_law_days", df 36 "_law_labels_right", df 37 "_law_known", df 38 "law"] : List He.DefD)
  Ns := ([["value"], ["value", "low", "high"], ["value", "part"], ["table", "day", "left", "first", "middle", "right", "place"], ["table"], ["ring", "place", "many", "at", "row"], ["table", "start", "end", "left", "first", "middle", "right", "behind", "found", "low", "high"], ["value", "low", "part"], ["value"], ["value", "one", "part"], ["table"], ["table", "day"], ["table", "start", "end"], ["script", "k", "cell", "whole", "part", "mixed"], ["well", "many", "found", "step", "mixed"], ["well", "size", "found"], ["value"], ["well", "kind", "many", "menu", "turn"], ["well", "kind", "left", "right"], ["value", "low", "part"], ["value"], ["value", "part"], ["table", "day", "left", "first", "middle", "right"], ["well", "table", "at", "way", "odd", "menu", "part", "place"], ["way", "value", "start", "end", "told", "caught", "error"], ["well", "value", "start", "end", "whole", "way", "before", "told", "caught"], ["well", "table", "first", "end"], ["well", "table", "day", "way", "start", "end", "due", "place", "told", "less", "caught"], ["value", "way", "before", "told"], ["script", "k", "well", "table", "turn", "value"]] : List (List Str))
  bodies := bs
  fns := ([("is_integer", 0), ("is_tuple", 1), ("anew", 2), ("label_at", 3), ("end_of", 4), ("turned", 5), ("stretch", 6), ("are_labels", 7), ("is_table", 8), ("is_set_table", 9), ("need_table", 10), ("label", 11), ("labels", 12), ("_law_well", 13), ("_law_draw", 14), ("_law_far", 15), ("_law_integer", 16), ("_law_part", 17), ("_law_table", 18), ("_law_are_labels", 19), ("_law_is_table", 20), ("_law_is_set", 21), ("_law_label", 22), ("_law_bent", 23), ("_law_said", 24), ("_law_refused", 25), ("_law_days", 26), ("_law_labels_right", 27), ("_law_known", 28), ("law", 29)] : List (Str × Nat))
  gcs := ([] : List (Str × D))
  cls := ([] : List (Str × Nat))
  exs := (["DayError", "InvalidTable", "InvalidPairs", "InvalidNumber"] : List Str)
  mts := ([] : List (Str × (Nat × Nat)))
  fls := ["value"]
  ini := dm 5 0 "DayError" "__init__" "DayError.__init__"
def looseN : List Str := (["is_integer", "is_tuple", "anew", "DayError", "InvalidTable", "InvalidPairs", "InvalidNumber", "label_at", "end_of", "turned", "stretch", "are_labels", "is_table", "is_set_table", "need_table", "label", "labels", "_law_well", "_law_draw", "_law_far", "_law_integer", "_law_part", "_law_table", "_law_are_labels", "_law_is_table", "_law_is_set", "_law_label", "_law_bent", "_law_said", "_law_refused"] : List Str) ++ (["_law_days", "_law_labels_right", "_law_known"] : List Str)
def lawAt : Nat := 38
def lawIx : Nat := 29
def labB (d : P) (lo : Int) : Bool := match d with
  | .tup xs => decide (lo ≤ xs.length) && xs.all J.numP
  | _ => false
def tabB (d : P) : Bool := match d with
  | .tup [a, b, c, e] => labB a 1 && labB e 1 && (J.numP b && !J.isBlP b) && labB c 0
  | _ => false
/-- objects that are no tables, and can be shown -/
def refOk (v : P) : Bool := !tabB v && J.nic 5 v && J.shw 5 v && decide (J.wd 5 v ≤ 1000000)
def refF (k : Nat) (ps : List P) : PC := match ps with
  | [.lst q, v, .int 3, .int 1] => if refOk v = true ∧ 14 ≤ k then .ok (.bl true) false (some q) else .bad
  | _ => .bad
def extL : Nat → Option (Nat → List P → PC) := fun f => if f = f__law_refused then some refF else none
def mkL : Nat → Nat → List P → PC := fun _ _ _ => .bad
def qx : PProg where
  Pr := tx0.P
  io := fun f => [14, 15, 17, 18, 23, 25, 26, 27].contains f
  ext := extL
  mkC := mkL
  gv := fun g => litP (tx0.P.gv g)
theorem fl_value (c : Nat) (v : P) : fldP (.exc c v) a_value = some v := rfl
theorem gv_qx {g : Nat} {p : P} (h : qx.gv g = some p) {A : Av} {S : Sto} : Rd A S (qx.Pr.gv g) p := lit_pu h

theorem fn_is_integer : tx0.P.fns f_is_integer = some ⟨1, 1, ss b_is_integer⟩ := by kernel_rfl
theorem io_is_integer : qx.io f_is_integer = false := rfl
theorem go_is_integer {w k : Nat} {d0 : P} : pcall qx w (k + 1) f_is_integer [d0] = endP false ((pSs (pvOf qx w (pcall qx w k) k false) (ss b_is_integer) [some (false, d0)]).then .nx) := J.call_eq fn_is_integer rfl rfl rfl rfl
theorem fn_is_tuple : tx0.P.fns f_is_tuple = some ⟨3, 3, ss b_is_tuple⟩ := by kernel_rfl
theorem io_is_tuple : qx.io f_is_tuple = false := rfl
theorem go_is_tuple {w k : Nat} {d0 d1 d2 : P} : pcall qx w (k + 1) f_is_tuple [d0, d1, d2] = endP false ((pSs (pvOf qx w (pcall qx w k) k false) (ss b_is_tuple) [some (false, d0), some (false, d1), some (false, d2)]).then .nx) := J.call_eq fn_is_tuple rfl rfl rfl rfl
theorem fn_anew : tx0.P.fns f_anew = some ⟨1, 2, ss b_anew⟩ := by kernel_rfl
theorem io_anew : qx.io f_anew = false := rfl
theorem go_anew {w k : Nat} {d0 : P} : pcall qx w (k + 1) f_anew [d0] = endP false ((pSs (pvOf qx w (pcall qx w k) k false) (ss b_anew) [some (false, d0), none]).then .nx) := J.call_eq fn_anew rfl rfl rfl rfl
theorem fn_label_at : tx0.P.fns f_label_at = some ⟨2, 7, ss b_label_at⟩ := by kernel_rfl
theorem io_label_at : qx.io f_label_at = false := rfl
theorem go_label_at {w k : Nat} {d0 d1 : P} : pcall qx w (k + 1) f_label_at [d0, d1] = endP false ((pSs (pvOf qx w (pcall qx w k) k false) (ss b_label_at) [some (false, d0), some (false, d1), none, none, none, none, none]).then .nx) := J.call_eq fn_label_at rfl rfl rfl rfl
theorem fn_end_of : tx0.P.fns f_end_of = some ⟨1, 1, ss b_end_of⟩ := by kernel_rfl
theorem io_end_of : qx.io f_end_of = false := rfl
theorem go_end_of {w k : Nat} {d0 : P} : pcall qx w (k + 1) f_end_of [d0] = endP false ((pSs (pvOf qx w (pcall qx w k) k false) (ss b_end_of) [some (false, d0)]).then .nx) := J.call_eq fn_end_of rfl rfl rfl rfl
theorem fn_turned : tx0.P.fns f_turned = some ⟨3, 5, ss b_turned⟩ := by kernel_rfl
theorem io_turned : qx.io f_turned = false := rfl
theorem go_turned {w k : Nat} {d0 d1 d2 : P} : pcall qx w (k + 1) f_turned [d0, d1, d2] = endP false ((pSs (pvOf qx w (pcall qx w k) k false) (ss b_turned) [some (false, d0), some (false, d1), some (false, d2), none, none]).then .nx) := J.call_eq fn_turned rfl rfl rfl rfl
theorem fn_stretch : tx0.P.fns f_stretch = some ⟨3, 11, ss b_stretch⟩ := by kernel_rfl
theorem io_stretch : qx.io f_stretch = false := rfl
theorem go_stretch {w k : Nat} {d0 d1 d2 : P} : pcall qx w (k + 1) f_stretch [d0, d1, d2] = endP false ((pSs (pvOf qx w (pcall qx w k) k false) (ss b_stretch) [some (false, d0), some (false, d1), some (false, d2), none, none, none, none, none, none, none, none]).then .nx) := J.call_eq fn_stretch rfl rfl rfl rfl
theorem fn_are_labels : tx0.P.fns f_are_labels = some ⟨2, 3, ss b_are_labels⟩ := by kernel_rfl
theorem io_are_labels : qx.io f_are_labels = false := rfl
theorem go_are_labels {w k : Nat} {d0 d1 : P} : pcall qx w (k + 1) f_are_labels [d0, d1] = endP false ((pSs (pvOf qx w (pcall qx w k) k false) (ss b_are_labels) [some (false, d0), some (false, d1), none]).then .nx) := J.call_eq fn_are_labels rfl rfl rfl rfl
theorem fn_is_table : tx0.P.fns f_is_table = some ⟨1, 1, ss b_is_table⟩ := by kernel_rfl
theorem io_is_table : qx.io f_is_table = false := rfl
theorem go_is_table {w k : Nat} {d0 : P} : pcall qx w (k + 1) f_is_table [d0] = endP false ((pSs (pvOf qx w (pcall qx w k) k false) (ss b_is_table) [some (false, d0)]).then .nx) := J.call_eq fn_is_table rfl rfl rfl rfl
theorem fn_is_set_table : tx0.P.fns f_is_set_table = some ⟨1, 3, ss b_is_set_table⟩ := by kernel_rfl
theorem io_is_set_table : qx.io f_is_set_table = false := rfl
theorem go_is_set_table {w k : Nat} {d0 : P} : pcall qx w (k + 1) f_is_set_table [d0] = endP false ((pSs (pvOf qx w (pcall qx w k) k false) (ss b_is_set_table) [some (false, d0), none, none]).then .nx) := J.call_eq fn_is_set_table rfl rfl rfl rfl
theorem fn_need_table : tx0.P.fns f_need_table = some ⟨1, 1, ss b_need_table⟩ := by kernel_rfl
theorem io_need_table : qx.io f_need_table = false := rfl
theorem go_need_table {w k : Nat} {d0 : P} : pcall qx w (k + 1) f_need_table [d0] = endP false ((pSs (pvOf qx w (pcall qx w k) k false) (ss b_need_table) [some (false, d0)]).then .nx) := J.call_eq fn_need_table rfl rfl rfl rfl
theorem fn_label : tx0.P.fns f_label = some ⟨2, 2, ss b_label⟩ := by kernel_rfl
theorem io_label : qx.io f_label = false := rfl
theorem go_label {w k : Nat} {d0 d1 : P} : pcall qx w (k + 1) f_label [d0, d1] = endP false ((pSs (pvOf qx w (pcall qx w k) k false) (ss b_label) [some (false, d0), some (false, d1)]).then .nx) := J.call_eq fn_label rfl rfl rfl rfl
theorem fn_labels : tx0.P.fns f_labels = some ⟨3, 3, ss b_labels⟩ := by kernel_rfl
theorem io_labels : qx.io f_labels = false := rfl
theorem go_labels {w k : Nat} {d0 d1 d2 : P} : pcall qx w (k + 1) f_labels [d0, d1, d2] = endP false ((pSs (pvOf qx w (pcall qx w k) k false) (ss b_labels) [some (false, d0), some (false, d1), some (false, d2)]).then .nx) := J.call_eq fn_labels rfl rfl rfl rfl
theorem fn__law_well : tx0.P.fns f__law_well = some ⟨2, 6, ss b__law_well⟩ := by kernel_rfl
theorem io__law_well : qx.io f__law_well = false := rfl
theorem go__law_well {w k : Nat} {d0 d1 : P} : pcall qx w (k + 1) f__law_well [d0, d1] = endP false ((pSs (pvOf qx w (pcall qx w k) k false) (ss b__law_well) [some (false, d0), some (false, d1), none, none, none, none]).then .nx) := J.call_eq fn__law_well rfl rfl rfl rfl
theorem fn__law_draw : tx0.P.fns f__law_draw = some ⟨2, 5, ss b__law_draw⟩ := by kernel_rfl
theorem io__law_draw : qx.io f__law_draw = true := rfl
theorem go__law_draw {w k : Nat} {d0 : List P} {d1 : P} : pcall qx w (k + 1) f__law_draw [.lst d0, d1] = endP true ((pSs (pvOf qx w (pcall qx w k) k true) (ss b__law_draw) [some (true, .lst d0), some (false, d1), none, none, none]).then .nx) := J.call_eq fn__law_draw rfl rfl rfl rfl
theorem fn__law_far : tx0.P.fns f__law_far = some ⟨1, 3, ss b__law_far⟩ := by kernel_rfl
theorem io__law_far : qx.io f__law_far = true := rfl
theorem go__law_far {w k : Nat} {d0 : List P} : pcall qx w (k + 1) f__law_far [.lst d0] = endP true ((pSs (pvOf qx w (pcall qx w k) k true) (ss b__law_far) [some (true, .lst d0), none, none]).then .nx) := J.call_eq fn__law_far rfl rfl rfl rfl
theorem fn__law_integer : tx0.P.fns f__law_integer = some ⟨1, 1, ss b__law_integer⟩ := by kernel_rfl
theorem io__law_integer : qx.io f__law_integer = false := rfl
theorem go__law_integer {w k : Nat} {d0 : P} : pcall qx w (k + 1) f__law_integer [d0] = endP false ((pSs (pvOf qx w (pcall qx w k) k false) (ss b__law_integer) [some (false, d0)]).then .nx) := J.call_eq fn__law_integer rfl rfl rfl rfl
theorem fn__law_part : tx0.P.fns f__law_part = some ⟨3, 5, ss b__law_part⟩ := by kernel_rfl
theorem io__law_part : qx.io f__law_part = true := rfl
theorem go__law_part {w k : Nat} {d0 : List P} {d1 d2 : P} : pcall qx w (k + 1) f__law_part [.lst d0, d1, d2] = endP true ((pSs (pvOf qx w (pcall qx w k) k true) (ss b__law_part) [some (true, .lst d0), some (false, d1), some (false, d2), none, none]).then .nx) := J.call_eq fn__law_part rfl rfl rfl rfl
theorem fn__law_table : tx0.P.fns f__law_table = some ⟨1, 4, ss b__law_table⟩ := by kernel_rfl
theorem io__law_table : qx.io f__law_table = true := rfl
theorem go__law_table {w k : Nat} {d0 : List P} : pcall qx w (k + 1) f__law_table [.lst d0] = endP true ((pSs (pvOf qx w (pcall qx w k) k true) (ss b__law_table) [some (true, .lst d0), none, none, none]).then .nx) := J.call_eq fn__law_table rfl rfl rfl rfl
theorem fn__law_are_labels : tx0.P.fns f__law_are_labels = some ⟨2, 3, ss b__law_are_labels⟩ := by kernel_rfl
theorem io__law_are_labels : qx.io f__law_are_labels = false := rfl
theorem go__law_are_labels {w k : Nat} {d0 d1 : P} : pcall qx w (k + 1) f__law_are_labels [d0, d1] = endP false ((pSs (pvOf qx w (pcall qx w k) k false) (ss b__law_are_labels) [some (false, d0), some (false, d1), none]).then .nx) := J.call_eq fn__law_are_labels rfl rfl rfl rfl
theorem fn__law_is_table : tx0.P.fns f__law_is_table = some ⟨1, 1, ss b__law_is_table⟩ := by kernel_rfl
theorem io__law_is_table : qx.io f__law_is_table = false := rfl
theorem go__law_is_table {w k : Nat} {d0 : P} : pcall qx w (k + 1) f__law_is_table [d0] = endP false ((pSs (pvOf qx w (pcall qx w k) k false) (ss b__law_is_table) [some (false, d0)]).then .nx) := J.call_eq fn__law_is_table rfl rfl rfl rfl
theorem fn__law_is_set : tx0.P.fns f__law_is_set = some ⟨1, 2, ss b__law_is_set⟩ := by kernel_rfl
theorem io__law_is_set : qx.io f__law_is_set = false := rfl
theorem go__law_is_set {w k : Nat} {d0 : P} : pcall qx w (k + 1) f__law_is_set [d0] = endP false ((pSs (pvOf qx w (pcall qx w k) k false) (ss b__law_is_set) [some (false, d0), none]).then .nx) := J.call_eq fn__law_is_set rfl rfl rfl rfl
theorem fn__law_label : tx0.P.fns f__law_label = some ⟨2, 6, ss b__law_label⟩ := by kernel_rfl
theorem io__law_label : qx.io f__law_label = false := rfl
theorem go__law_label {w k : Nat} {d0 d1 : P} : pcall qx w (k + 1) f__law_label [d0, d1] = endP false ((pSs (pvOf qx w (pcall qx w k) k false) (ss b__law_label) [some (false, d0), some (false, d1), none, none, none, none]).then .nx) := J.call_eq fn__law_label rfl rfl rfl rfl
theorem fn__law_bent : tx0.P.fns f__law_bent = some ⟨2, 8, ss b__law_bent⟩ := by kernel_rfl
theorem io__law_bent : qx.io f__law_bent = true := rfl
theorem go__law_bent {w k : Nat} {d0 : List P} {d1 : P} : pcall qx w (k + 1) f__law_bent [.lst d0, d1] = endP true ((pSs (pvOf qx w (pcall qx w k) k true) (ss b__law_bent) [some (true, .lst d0), some (false, d1), none, none, none, none, none, none]).then .nx) := J.call_eq fn__law_bent rfl rfl rfl rfl
theorem fn__law_said : tx0.P.fns f__law_said = some ⟨4, 7, ss b__law_said⟩ := by kernel_rfl
theorem io__law_said : qx.io f__law_said = false := rfl
theorem go__law_said {w k : Nat} {d0 d1 d2 d3 : P} : pcall qx w (k + 1) f__law_said [d0, d1, d2, d3] = endP false ((pSs (pvOf qx w (pcall qx w k) k false) (ss b__law_said) [some (false, d0), some (false, d1), some (false, d2), some (false, d3), none, none, none]).then .nx) := J.call_eq fn__law_said rfl rfl rfl rfl
theorem fn__law_refused : tx0.P.fns f__law_refused = some ⟨4, 9, ss b__law_refused⟩ := by kernel_rfl
theorem io__law_refused : qx.io f__law_refused = true := rfl
theorem fn__law_days : tx0.P.fns f__law_days = some ⟨2, 4, ss b__law_days⟩ := by kernel_rfl
theorem io__law_days : qx.io f__law_days = true := rfl
theorem go__law_days {w k : Nat} {d0 : List P} {d1 : P} : pcall qx w (k + 1) f__law_days [.lst d0, d1] = endP true ((pSs (pvOf qx w (pcall qx w k) k true) (ss b__law_days) [some (true, .lst d0), some (false, d1), none, none]).then .nx) := J.call_eq fn__law_days rfl rfl rfl rfl
theorem fn__law_labels_right : tx0.P.fns f__law_labels_right = some ⟨2, 11, ss b__law_labels_right⟩ := by kernel_rfl
theorem io__law_labels_right : qx.io f__law_labels_right = true := rfl
theorem go__law_labels_right {w k : Nat} {d0 : List P} {d1 : P} : pcall qx w (k + 1) f__law_labels_right [.lst d0, d1] = endP true ((pSs (pvOf qx w (pcall qx w k) k true) (ss b__law_labels_right) [some (true, .lst d0), some (false, d1), none, none, none, none, none, none, none, none, none]).then .nx) := J.call_eq fn__law_labels_right rfl rfl rfl rfl
theorem fn__law_known : tx0.P.fns f__law_known = some ⟨2, 4, ss b__law_known⟩ := by kernel_rfl
theorem io__law_known : qx.io f__law_known = false := rfl
theorem go__law_known {w k : Nat} {d0 d1 : P} : pcall qx w (k + 1) f__law_known [d0, d1] = endP false ((pSs (pvOf qx w (pcall qx w k) k false) (ss b__law_known) [some (false, d0), some (false, d1), none, none]).then .nx) := J.call_eq fn__law_known rfl rfl rfl rfl
theorem fn_law : tx0.P.fns f_law = some ⟨1, 6, ss b_law⟩ := by kernel_rfl
theorem io_law : qx.io f_law = false := rfl
theorem go_law {w k : Nat} {d0 : P} : pcall qx w (k + 1) f_law [d0] = endP false ((pSs (pvOf qx w (pcall qx w k) k false) (ss b_law) [some (false, d0), none, none, none, none, none]).then .nx) := J.call_eq fn_law rfl rfl rfl rfl

theorem sub_DayError_DayError : qx.Pr.sub c_DayError c_DayError = true := by kernel_rfl
theorem sub_DayError_InvalidTable : qx.Pr.sub c_DayError c_InvalidTable = false := by kernel_rfl
theorem sub_DayError_InvalidPairs : qx.Pr.sub c_DayError c_InvalidPairs = false := by kernel_rfl
theorem sub_DayError_InvalidNumber : qx.Pr.sub c_DayError c_InvalidNumber = false := by kernel_rfl
theorem sub_InvalidTable_DayError : qx.Pr.sub c_InvalidTable c_DayError = true := by kernel_rfl
theorem sub_InvalidTable_InvalidTable : qx.Pr.sub c_InvalidTable c_InvalidTable = true := by kernel_rfl
theorem sub_InvalidTable_InvalidPairs : qx.Pr.sub c_InvalidTable c_InvalidPairs = false := by kernel_rfl
theorem sub_InvalidTable_InvalidNumber : qx.Pr.sub c_InvalidTable c_InvalidNumber = false := by kernel_rfl
theorem sub_InvalidPairs_DayError : qx.Pr.sub c_InvalidPairs c_DayError = true := by kernel_rfl
theorem sub_InvalidPairs_InvalidTable : qx.Pr.sub c_InvalidPairs c_InvalidTable = false := by kernel_rfl
theorem sub_InvalidPairs_InvalidPairs : qx.Pr.sub c_InvalidPairs c_InvalidPairs = true := by kernel_rfl
theorem sub_InvalidPairs_InvalidNumber : qx.Pr.sub c_InvalidPairs c_InvalidNumber = false := by kernel_rfl
theorem sub_InvalidNumber_DayError : qx.Pr.sub c_InvalidNumber c_DayError = true := by kernel_rfl
theorem sub_InvalidNumber_InvalidTable : qx.Pr.sub c_InvalidNumber c_InvalidTable = false := by kernel_rfl
theorem sub_InvalidNumber_InvalidPairs : qx.Pr.sub c_InvalidNumber c_InvalidPairs = false := by kernel_rfl
theorem sub_InvalidNumber_InvalidNumber : qx.Pr.sub c_InvalidNumber c_InvalidNumber = true := by kernel_rfl
end Py
end
section
set_option linter.all false
set_option maxRecDepth 100000
set_option maxHeartbeats 4000000
namespace Py
open PySem
local macro_rules | `(tactic| walk_at "pu") => `(tactic| simp only [↓J.c_cons, ↓J.c_nil, ↓J.c_set, ↓J.c_app, ↓J.c_ext, ↓J.c_unp, ↓J.c_par, ↓J.c_setI, ↓J.c_aug, ↓J.c_ife, ↓J.c_for, ↓J.c_ret, ↓J.c_retN, ↓J.c_rais, ↓J.c_pass, ↓J.c_brk, ↓J.c_cnt, ↓J.c_tryX, ↓J.fp_nil, ↓J.fp_cons, ↓J.r_var, ↓J.r_lit, ↓J.r_gl, ↓J.r_tup, ↓J.r_mk, ↓J.r_bin, ↓J.r_neg, ↓J.r_cmp, ↓J.r_chn, ↓J.r_isn, ↓J.r_nsn, ↓J.r_and_, ↓J.r_or_, ↓J.r_not_, ↓J.r_ife, ↓J.r_idx, ↓J.r_sli, ↓J.r_rev, ↓J.r_bi, ↓J.r_bl, ↓J.r_isi, ↓J.r_isT, ↓J.r_fld, ↓J.r_meth, ↓J.r_make, ↓J.r_dct, ↓J.r_exv, ↓J.r_call, ↓J.r_callK, ↓J.l_var, ↓J.l_lit, ↓J.l_gl, ↓J.l_tup, ↓J.l_mk, ↓J.l_bin, ↓J.l_neg, ↓J.l_cmp, ↓J.l_chn, ↓J.l_isn, ↓J.l_nsn, ↓J.l_and_, ↓J.l_or_, ↓J.l_not_, ↓J.l_ife, ↓J.l_idx, ↓J.l_sli, ↓J.l_rev, ↓J.l_bi, ↓J.l_bl, ↓J.l_isi, ↓J.l_isT, ↓J.l_fld, ↓J.l_meth, ↓J.l_make, ↓J.l_dct, ↓J.l_exv, ↓J.l_call, ↓J.l_callK, ↓J.l_Ldisp, ↓J.l_Lrng1, ↓J.l_Lrng2, ↓J.l_Lcomp, ↓J.x_meth, ↓J.x_call, ↓J.x_callK, ↓J.f_callX, ↓J.f_callKX, ↓J.io_var, ↓J.f_var, ↓J.f_lit, ↓J.f_gl, ↓J.f_tup, ↓J.f_mk, ↓J.f_bin, ↓J.f_neg, ↓J.f_cmp, ↓J.f_chn, ↓J.f_isn, ↓J.f_nsn, ↓J.f_and_, ↓J.f_or_, ↓J.f_not_, ↓J.f_ife, ↓J.f_idx, ↓J.f_sli, ↓J.f_rev, ↓J.f_bi, ↓J.f_bl, ↓J.f_isi, ↓J.f_isT, ↓J.f_fld, ↓J.f_meth, ↓J.f_make, ↓J.f_dct, ↓J.f_exv, ↓J.th_nx, ↓J.th_ret, ↓J.th_exc, ↓J.th_brk, ↓J.th_cnt, J.pm_nil, J.pm_cons, J.pm_s, J.ct_nx, J.ct_ret, J.ct_exc, J.ch_nx, J.lp_nx, J.lp_cnt, J.lp_brk, J.lp_ret, J.lp_exc, ↓J.kk_ok, ↓J.kk_exc, ↓J.kk_bad, ↓J.k_pk, ↓J.k_var, ↓J.k_lit, ↓J.k_gl, ↓J.k_tup, ↓J.k_mk, ↓J.k_pk2, ↓J.k_bin, ↓J.k_neg, ↓J.k_cmp, ↓J.k_chn, ↓J.k_isn, ↓J.k_nsn, ↓J.k_and, ↓J.k_or, ↓J.k_not, ↓J.k_ife, ↓J.k_idx, ↓J.k_sli, ↓J.k_rev, ↓J.k_callX, ↓J.k_callKX, ↓J.k_bi, ↓J.k_blt, ↓J.k_isi, ↓J.k_isT, ↓J.k_fld, ↓J.k_methX, ↓J.k_make, ↓J.k_dct0, ↓J.k_exv, ↓J.k_nil, ↓J.k_cons, ↓J.k_knil, ↓J.k_kone, ↓J.k_kcons, ↓J.k_no, ↓J.k_yes, ↓J.k_tnil, ↓J.k_tcons, ↓J.k_disp, ↓J.k_of, ↓J.k_rng1, ↓J.k_rng2, ↓J.k_comp, io_is_integer, io_is_tuple, io_anew, io_label_at, io_end_of, io_turned, io_stretch, io_are_labels, io_is_table, io_is_set_table, io_need_table, io_label, io_labels, io__law_well, io__law_draw, io__law_far, io__law_integer, io__law_part, io__law_table, io__law_are_labels, io__law_is_table, io__law_is_set, io__law_label, io__law_bent, io__law_said, io__law_refused, io__law_days, io__law_labels_right, io__law_known, io_law, fl_value, sub_DayError_DayError, sub_DayError_InvalidTable, sub_DayError_InvalidPairs, sub_DayError_InvalidNumber, sub_InvalidTable_DayError, sub_InvalidTable_InvalidTable, sub_InvalidTable_InvalidPairs, sub_InvalidTable_InvalidNumber, sub_InvalidPairs_DayError, sub_InvalidPairs_InvalidTable, sub_InvalidPairs_InvalidPairs, sub_InvalidPairs_InvalidNumber, sub_InvalidNumber_DayError, sub_InvalidNumber_InvalidTable, sub_InvalidNumber_InvalidPairs, sub_InvalidNumber_InvalidNumber, J.v_var, J.v_lit, J.v_gl, J.v_tup, J.v_mk, J.v_bin, J.v_neg, J.v_cmp, J.v_chn, J.v_isn, J.v_nsn, J.v_and_, J.v_or_, J.v_not_, J.v_ife, J.v_idx, J.v_sli, J.v_rev, J.v_bi, J.v_bl, J.v_isi, J.v_isT, J.v_fld, J.v_meth, J.v_make, J.v_dct, J.v_exv, J.v_call, J.v_callK, J.v_app, J.v_ext, J.i_non, J.n_non, J.i_bl, J.n_bl, J.i_int, J.n_int, J.i_str, J.n_str, J.i_tup, J.n_tup, J.i_lst, J.n_lst, J.i_frz, J.n_frz, J.i_dct, J.n_dct, J.i_ins, J.n_ins, J.i_exc, J.n_exc, J.o_q, J.o_t, J.o_f, J.o_n, J.h_of, J.h_of_lit, J.h_of_gl, J.h_of_tup, J.h_of_mk, J.h_of_bin, J.h_of_ife, J.h_of_idx, J.h_of_sli, J.h_of_rev, J.h_of_bi, J.h_of_bl, J.h_of_fld, J.h_of_meth, J.h_of_call, J.h_of_callK, J.h_disp, J.h_rng1, J.h_rng2, J.h_comp, J.p_nil, J.p_cons, J.bk_nil, J.bk_cons, J.bk_s, J.wp_nil, J.wp_cons, J.tg_one, J.tg_row, J.to_one, J.to_row, J.sa_nil, J.sa_cons, J.lp_non, J.lp_bl, J.lp_int, J.lp_str, J.lp_tup, J.lps_nil, J.lps_cons, J.co_ss, J.ag_add, J.ag_sub, J.e_ret, J.e_nx, J.e_exc, J.e_ret1, J.e_nx1, cond_true, cond_false, J.rtK_f, J.rtK_t, J.rtK_ti, J.pv_call, J.pv_io, J.pv_mk, J.pv_gv, J.pv_sub, J.pv_fuel, J.pv_ioc, J.shK_t, J.shK_f, J.vaK_s, J.frK_f, J.onC_ok, J.onC_io, J.onC_exc, J.onB_bl, J.onN_int, J.onL_own, J.onM_ins, J.onT_tup, J.onK_lst, onO_some, onO_none, ifB_t, ifB_f, ifP_true, ifP_false, ↓ifP_len, J.ifP_n, ↓reduceIte, Option.map_some, Option.map_none, List.getElem?_cons_zero, List.getElem?_cons_succ, List.set_cons_zero, List.set_cons_succ, List.all_cons, List.all_nil, List.contains_cons, List.append_nil, List.nil_append, List.cons_append, List.length_cons, List.length_nil, Nat.reduceAdd, Nat.zero_add, Nat.reduceLeDiff, Nat.reduceEqDiff, Nat.reduceBEq, beq_self_eq_true, Bool.not_true, Bool.not_false, Bool.and_true, Bool.and_false, Bool.true_and, Bool.false_and, Bool.or_false, Bool.or_true, Bool.false_or, Bool.true_or, Bool.false_eq_true, J.q_add, J.q_addT, J.q_addL, J.q_addS, J.q_sub, J.q_mulR, J.q_mulL, J.q_mul, J.q_div64, J.q_div, J.q_mod, J.q_pow, J.q_mulLL, J.q_lt, J.q_le, J.q_gt, J.q_ge, J.q_eq, J.q_ne, J.q_eqS, J.q_neS, J.q_eqN, J.q_lenT, J.q_lenL, J.q_lenF, J.q_max, J.q_min, J.q_abs, J.q_int, J.q_intB, J.q_idx, J.q_idxL, J.q_idxF, J.q_sliT, J.q_sliL, J.q_sliF, J.q_revT, J.q_revL, J.q_tupC, J.q_tupT, J.q_tupA, J.q_tupR, J.q_lstC, J.q_lstT, J.q_lstA, J.q_lstR, J.q_srcT, J.q_srcL, J.q_srcF, J.q_rng, J.t_non_int, J.t_non_bool, J.t_non_str, J.t_non_tuple, J.t_non_list, J.t_non_dict, J.t_non_own, J.t_non_verr, J.t_bl_int, J.t_bl_bool, J.t_bl_str, J.t_bl_tuple, J.t_bl_list, J.t_bl_dict, J.t_bl_own, J.t_bl_verr, J.t_int_int, J.t_int_bool, J.t_int_str, J.t_int_tuple, J.t_int_list, J.t_int_dict, J.t_int_own, J.t_int_verr, J.t_str_int, J.t_str_bool, J.t_str_str, J.t_str_tuple, J.t_str_list, J.t_str_dict, J.t_str_own, J.t_str_verr, J.t_tup_int, J.t_tup_bool, J.t_tup_str, J.t_tup_tuple, J.t_tup_list, J.t_tup_dict, J.t_tup_own, J.t_tup_verr, J.t_lst_int, J.t_lst_bool, J.t_lst_str, J.t_lst_tuple, J.t_lst_list, J.t_lst_dict, J.t_lst_own, J.t_lst_verr, J.t_frz_int, J.t_frz_bool, J.t_frz_str, J.t_frz_tuple, J.t_frz_list, J.t_frz_dict, J.t_frz_own, J.t_frz_verr, J.t_dct_int, J.t_dct_bool, J.t_dct_str, J.t_dct_tuple, J.t_dct_list, J.t_dct_dict, J.t_dct_own, J.t_dct_verr, J.t_exc_int, J.t_exc_bool, J.t_exc_str, J.t_exc_tuple, J.t_exc_list, J.t_exc_dict, J.t_exc_own, J.t_exc_verr, J.tt_nil, J.tt_cons, J.ot_t, J.ot_f, J.fl_exc, J.numP_non, J.numP_bl, J.numP_int, J.numP_str, J.numP_tup, J.numP_lst, J.numP_frz, J.numP_dct, J.numP_ins, J.numP_exc, J.isBlP_non, J.isBlP_bl, J.isBlP_int, J.isBlP_str, J.isBlP_tup, J.isBlP_lst, J.isBlP_frz, J.isBlP_dct, J.isBlP_ins, J.isBlP_exc, J.isTupP_non, J.isTupP_bl, J.isTupP_int, J.isTupP_str, J.isTupP_tup, J.isTupP_lst, J.isTupP_frz, J.isTupP_dct, J.isTupP_ins, J.isTupP_exc, J.isStrP_non, J.isStrP_bl, J.isStrP_int, J.isStrP_str, J.isStrP_tup, J.isStrP_lst, J.isStrP_frz, J.isStrP_dct, J.isStrP_ins, J.isStrP_exc, J.isRowP_non, J.isRowP_bl, J.isRowP_int, J.isRowP_str, J.isRowP_tup, J.isRowP_lst, J.isRowP_frz, J.isRowP_dct, J.isRowP_ins, J.isRowP_exc, J.isDctP_non, J.isDctP_bl, J.isDctP_int, J.isDctP_str, J.isDctP_tup, J.isDctP_lst, J.isDctP_frz, J.isDctP_dct, J.isDctP_ins, J.isDctP_exc, J.kP_non, J.kP_bl, J.kP_int, J.kP_str, J.kP_tup, J.kP_lst, J.kP_frz, J.kP_dct, J.kP_ins, J.kP_exc, atI_0, atI_1, atI_2, atI_3, J.ix30, J.ix31, J.ix32, decide_eq_true_eq, decide_true, decide_false, decide_eq_false_iff_not, J.cst0, J.cst1, J.cst2, J.cst3, J.cst4, J.cst5, J.cst6, J.cst7, J.cst8, J.cst9, J.cst10, J.cst11, J.cst12, J.cst13, eq_self, Int.reduceEq, Int.reduceLE, Int.reduceLT, Int.reduceNeg, Int.reduceAdd, Int.reduceSub, Int.reduceMul, Int.reducePow, Int.reduceToNat, Int.natCast_add, *])
theorem draw_ok {w k n : Nat} {q : List P} {many : Int} (hk : 1 ≤ k) (hw : J.WP (n + 1) q) (h0 : 0 < many) (hd : divOk many = true) :
    ∃ i q', pcall qx w k f__law_draw [.lst q, .int many] = .ok (.int i) false (some q') ∧ 0 ≤ i ∧ i < many ∧ J.WP n q' := by
  obtain ⟨k, rfl⟩ := J.exS hk
  obtain ⟨a, b, c, rfl, h1, h2, h3, h4, h5⟩ := hw
  rw [go__law_draw, b__law_draw]
  have hm := fun x : Int => Int.emod_nonneg x (show many ≠ 0 by omega)
  have hm' := fun x : Int => Int.emod_lt_of_pos x h0
  by_cases hp : 0 < a
  · walk_at "pu"
    exact ⟨_, _, rfl, hm a, hm' a, _, _, _, rfl, Int.ediv_nonneg h1 (by omega), h2, h3, h4, by omega⟩
  · have m1 : mulOk (b + 31) (c + 1 + 5) = true := mulOk_p 201 65 (by omega) (by omega) (by omega) (by omega) (by decide)
    have m2 : mulOk (c + 1) (c + 1) = true := mulOk_p 65 65 (by omega) (by omega) (by omega) (by omega) (by decide)
    have m3 : mulOk ((c + 1) * (c + 1)) (c + 1) = true := by
      refine mulOk_p 130 65 (Int.mul_nonneg (by omega) (by omega)) ?_ (by omega) (by omega) (by decide)
      have : (c + 1) * (c + 1) ≤ (2 ^ 64 + 1) * (2 ^ 64 + 1) := Int.mul_le_mul (by omega) (by omega) (by omega) (by omega)
      omega
    have m4 : ∀ y : Int, mulOk (y % 100000000000000000000000000319) (y % 100000000000000000000000000319) = true := fun y => mulOk_sq 200 (by omega) (by omega) (by decide)
    have m5 : ∀ y : Int, mulOk (y % 10000000000000000000000000000033) (y % 10000000000000000000000000000033) = true := fun y => mulOk_sq 200 (by omega) (by omega) (by decide)
    walk_at "pu"
    exact ⟨_, _, rfl, hm _, hm' _, _, _, _, rfl, h1, h2, h3, by omega, by omega⟩
theorem is_integer_ok {w k : Nat} {d : P} (hk : 1 ≤ k) (h : J.kP d = true) : pcall qx w k f_is_integer [d] = .ok (.bl (J.numP d && !J.isBlP d)) false none := by
  obtain ⟨k, rfl⟩ := J.exS hk
  have e1 := J.isi_int (sub := qx.Pr.sub) h
  have e2 := J.isi_bool (sub := qx.Pr.sub) h
  rw [go_is_integer, b_is_integer]
  cases e : J.numP d
  · walk_at "pu"
  · walk_at "pu"
def tupB (d : P) (lo hi : Int) : Bool := match d with
  | .tup xs => decide (lo ≤ xs.length) && decide ((xs.length : Int) ≤ hi)
  | _ => false
theorem is_tuple_ok {w k : Nat} {d : P} {lo hi : Int} (hk : 1 ≤ k) (h : J.kP d = true) : pcall qx w k f_is_tuple [d, .int lo, .int hi] = .ok (.bl (tupB d lo hi)) false none := by
  obtain ⟨k, rfl⟩ := J.exS hk
  have e1 := J.isi_tuple (sub := qx.Pr.sub) h
  rw [go_is_tuple, b_is_tuple]
  cases d with
  | tup xs =>
    unfold tupB
    dsimp only
    by_cases z : lo ≤ xs.length
    · walk_at "pu"
    · walk_at "pu"
  | _ =>
    unfold tupB
    walk_at "pu"
theorem are_labels_ok {w k n : Nat} {d : P} {lo : Int} (hk : 1 ≤ k) (h : J.nic n d = true) : pcall qx w k f_are_labels [d, .int lo] = .ok (.bl (labB d lo)) false none := by
  obtain ⟨k, rfl⟩ := J.exS hk
  have e1 := J.isi_tuple (sub := qx.Pr.sub) (J.nic.k h)
  rw [go_are_labels, b_are_labels]
  cases d with
  | tup xs =>
    obtain ⟨m, rfl, hl, hx⟩ := J.nic.tup h
    unfold labB
    dsimp only
    by_cases z : lo ≤ xs.length
    · walk_at "pu"
      obtain ⟨π', c, _⟩ := J.comp_map' (f := turnP (pvOf qx w (pcall qx w k) k false) [2] (.one 2) .nil (.isi (.var 2) .int)) (g := fun x => some (.bl (J.numP x))) (fun π => ∃ o, π = [some (false, P.tup xs), some (false, P.int lo), o]) (xs := xs) (acc := []) (π := [some (false, P.tup xs), some (false, P.int lo), none]) ⟨_, rfl⟩ (fun x hm π ⟨o, e⟩ => by
        subst e
        have e2 := J.isi_int (sub := qx.Pr.sub) (J.nic.k (hx x hm))
        rw [J.turn_kk rfl]
        walk_at "pu"
        exact ⟨_, rfl, _, rfl⟩) (by simpa using hl)
      rw [J.kk_of c, List.nil_append, filterMap_some, J.q_all]
      walk_at "pu"
    · walk_at "pu"
  | _ =>
    unfold labB
    walk_at "pu"
theorem label_at_ok {w k : Nat} {l m r : List P} {first day : Int} (hk : 1 ≤ k) (hl : 1 ≤ l.length) (hr : 1 ≤ r.length) :
    pcall qx w k f_label_at [.tup [.tup l, .int first, .tup m, .tup r], .int day] = .ok (J.labA l first m r day) false none := by
  obtain ⟨k, rfl⟩ := J.exS hk
  have e1 := J.atI_gIm (i := day - first) hl
  have e3 := J.atI_gIm (i := day - first - m.length) hr
  have hl0 : (0 : Int) < l.length := by omega
  have hr0 : (0 : Int) < r.length := by omega
  rw [go_label_at, b_label_at]
  unfold J.labA
  by_cases c1 : day < first
  · walk_at "pu"
  · by_cases c2 : day - first < m.length
    · have e2 := J.atI_gI (xs := m) (i := day - first) (by omega) c2
      walk_at "pu"
    · walk_at "pu"
theorem end_of_ok {w k : Nat} {l r : P} {m : List P} {first : Int} (hk : 1 ≤ k) : pcall qx w k f_end_of [.tup [l, .int first, .tup m, r]] = .ok (.int (first + m.length)) false none := by
  obtain ⟨k, rfl⟩ := J.exS hk
  rw [go_end_of, b_end_of]
  walk_at "pu"
theorem turned_ok {w k : Nat} {rs : List P} {place many : Int} (hk : 1 ≤ k) (hr : 1 ≤ rs.length) (hm : 0 ≤ many) (hs : many + rs.length ≤ sizeLine) :
    pcall qx w k f_turned [.tup rs, .int place, .int many] = .ok (.lst (J.rowA (fun i => J.gI rs (i % (rs.length : Int))) place (place + many))) true none := by
  obtain ⟨k, rfl⟩ := J.exS hk
  have hz : sizeLine = 16777216 := by decide
  have h0 : (0 : Int) < rs.length := by omega
  have h1 : (rs.length : Int) < 18446744073709551616 := by omega
  have pa := Int.emod_nonneg place (show (rs.length : Int) ≠ 0 by omega)
  have pb := Int.emod_lt_of_pos place (show (0 : Int) < rs.length by omega)
  have c1 : cut rs (some (place % (rs.length : Int))) none = rs.drop (place % (rs.length : Int)).toNat := cut_from pa (by omega)
  have c2 : cut rs none (some (place % (rs.length : Int))) = rs.take (place % (rs.length : Int)).toNat := cut_to pa
  have hl : (rs.drop (place % (rs.length : Int)).toNat ++ rs.take (place % (rs.length : Int)).toNat).length = rs.length := by
    rw [List.length_append, List.length_drop, List.length_take]; omega
  have hl2 : (rs.drop (place % (rs.length : Int)).toNat).length + (rs.take (place % (rs.length : Int)).toNat).length ≤ sizeLine := by
    rw [List.length_drop, List.length_take]; omega
  have q0 := Int.ediv_nonneg hm (show (0 : Int) ≤ rs.length by omega)
  have q1 := Int.ediv_mul_le many (show (rs.length : Int) ≠ 0 by omega)
  have hq : mulL (many / (rs.length : Int) + 1) rs.length = true := by
    refine mulL_of (by omega) ?_ ?_
    · have : many / (rs.length : Int) ≤ many := Int.ediv_le_self _ hm
      omega
    · have e : (((rs.length * (many / (rs.length : Int) + 1).toNat : Nat)) : Int) = many / (rs.length : Int) * rs.length + rs.length := by
        rw [Int.natCast_mul, Int.toNat_of_nonneg (by omega), Int.mul_add, Int.mul_one, Int.mul_comm]
      omega
  rw [go_turned, b_turned]
  have c3 : ∀ ys : List P, cut ys none (some many) = ys.take many.toNat := fun ys => cut_to hm
  clear hz
  walk_at "pu"
  rw [J.turn_row hr hm]
theorem stretch_ok {w k : Nat} {l m r : List P} {first start stop : Int} (hk : 2 ≤ k) (hl : 1 ≤ l.length) (hr : 1 ≤ r.length)
    (hs : start ≤ stop) (hz : (stop - start) + l.length + m.length + r.length ≤ sizeLine) :
    pcall qx w k f_stretch [.tup [.tup l, .int first, .tup m, .tup r], .int start, .int stop] = .ok (.lst (J.rowA (J.labA l first m r) start stop)) true none := by
  obtain ⟨k, rfl⟩ := J.exS hk
  have e1 := end_of_ok (w := w) (k := k + 1) (l := .tup l) (r := .tup r) (m := m) (first := first) (by omega)
  have t1 := turned_ok (w := w) (k := k + 1) (rs := l) (place := start - first) (many := min stop first - start) (by omega) hl
  have t2 := turned_ok (w := w) (k := k + 1) (rs := r) (place := max start (first + m.length) - (first + m.length)) (many := stop - max start (first + m.length)) (by omega) hr
  -- the three parts as rows of labels
  have p1 : ∀ {b : Int}, start ≤ b → b ≤ first → J.rowA (fun i => J.gI l (i % (l.length : Int))) (start - first) (b - first) = J.rowA (J.labA l first m r) start b := fun {b} h1 h2 => by
    rw [← J.row_sub]
    refine J.row_congr fun i h3 h4 => ?_
    unfold J.labA
    rw [if_pos (by omega)]
  have p2 : ∀ {a b : Int}, first ≤ a → b ≤ first + m.length → a ≤ b → cut m (some (a - first)) (some (b - first)) = J.rowA (J.labA l first m r) a b := fun {a b} h1 h2 h3 => by
    rw [J.cut_mid (by omega) (by omega) (by omega), ← J.row_sub]
    refine J.row_congr fun i h3 h4 => ?_
    unfold J.labA
    rw [if_neg (by omega), if_pos (by omega)]
  have p3 : ∀ {a : Int}, first + m.length ≤ a → J.rowA (fun i => J.gI r (i % (r.length : Int))) (a - (first + m.length)) (stop - (first + m.length)) = J.rowA (J.labA l first m r) a stop := fun {a} h1 => by
    rw [← J.row_sub]
    refine J.row_congr fun i h3 h4 => ?_
    unfold J.labA
    rw [if_neg (by omega), if_neg (by omega)]
    congr 2
    omega
  have z3 : (stop - start).toNat ≤ sizeLine := by omega
  rw [go_stretch, b_stretch]
  have n1 : ∀ {a b c : Int}, a ≤ b → b ≤ c → J.rowA (J.labA l first m r) a b ++ J.rowA (J.labA l first m r) b c = J.rowA (J.labA l first m r) a c := fun h1 h2 => J.row_app h1 h2
  have ln : ∀ {a b : Int}, (J.rowA (J.labA l first m r) a b).length = (b - a).toNat := J.row_len
  by_cases hA : start < first
  · replace t1 := t1 (by omega) (by omega)
    rw [show start - first + (min stop first - start) = min stop first - first by omega, p1 (by omega) (by omega)] at t1
    by_cases hB : max start first < min stop (first + m.length)
    · have c2 := p2 (a := max start first) (b := min stop (first + m.length)) (by omega) (by omega) (by omega)
      have z1 : (min stop first - start).toNat + (min stop (first + m.length) - max start first).toNat ≤ sizeLine := by omega
      have a1 : J.rowA (J.labA l first m r) start (min stop first) ++ J.rowA (J.labA l first m r) (max start first) (min stop (first + m.length)) = J.rowA (J.labA l first m r) start (min stop (first + m.length)) := by
        rw [show max start first = min stop first by omega, n1 (by omega) (by omega)]
      by_cases hC : max start (first + m.length) < stop
      · replace t2 := t2 (by omega) (by omega)
        rw [show max start (first + m.length) - (first + m.length) + (stop - max start (first + m.length)) = stop - (first + m.length) by omega, p3 (by omega)] at t2
        have z2 : (min stop (first + m.length) - start).toNat + (stop - max start (first + m.length)).toNat ≤ sizeLine := by omega
        have a2 : J.rowA (J.labA l first m r) start (min stop (first + m.length)) ++ J.rowA (J.labA l first m r) (max start (first + m.length)) stop = J.rowA (J.labA l first m r) start stop := by
          rw [show max start (first + m.length) = min stop (first + m.length) by omega, n1 (by omega) (by omega)]
        clear hz p1 p2 p3 n1
        walk_at "pu"
      · have a2 : min stop (first + m.length) = stop := by omega
        rw [a2] at a1 z1 c2 hB
        clear hz p1 p2 p3 n1 t2
        walk_at "pu"
    · by_cases hC : max start (first + m.length) < stop
      · replace t2 := t2 (by omega) (by omega)
        rw [show max start (first + m.length) - (first + m.length) + (stop - max start (first + m.length)) = stop - (first + m.length) by omega, p3 (by omega)] at t2
        have z2 : (min stop first - start).toNat + (stop - max start (first + m.length)).toNat ≤ sizeLine := by omega
        have a2 : J.rowA (J.labA l first m r) start (min stop first) ++ J.rowA (J.labA l first m r) (max start (first + m.length)) stop = J.rowA (J.labA l first m r) start stop := by
          rw [show max start (first + m.length) = min stop first by omega, n1 (by omega) (by omega)]
        clear hz p1 p2 p3 n1
        walk_at "pu"
      · have a2 : min stop first = stop := by omega
        rw [a2] at t1
        clear hz p1 p2 p3 n1 t2
        walk_at "pu"
  · clear t1
    by_cases hB : max start first < min stop (first + m.length)
    · have c2 := p2 (a := max start first) (b := min stop (first + m.length)) (by omega) (by omega) (by omega)
      have z1 : (min stop (first + m.length) - max start first).toNat ≤ sizeLine := by omega
      by_cases hC : max start (first + m.length) < stop
      · replace t2 := t2 (by omega) (by omega)
        rw [show max start (first + m.length) - (first + m.length) + (stop - max start (first + m.length)) = stop - (first + m.length) by omega, p3 (by omega)] at t2
        have z2 : (min stop (first + m.length) - max start first).toNat + (stop - max start (first + m.length)).toNat ≤ sizeLine := by omega
        have a2 : J.rowA (J.labA l first m r) (max start first) (min stop (first + m.length)) ++ J.rowA (J.labA l first m r) (max start (first + m.length)) stop = J.rowA (J.labA l first m r) start stop := by
          rw [show max start (first + m.length) = min stop (first + m.length) by omega, n1 (by omega) (by omega), show max start first = start by omega]
        clear hz p1 p2 p3 n1
        walk_at "pu"
      · have a1 : J.rowA (J.labA l first m r) (max start first) (min stop (first + m.length)) = J.rowA (J.labA l first m r) start stop := by
          rw [show max start first = start by omega, show min stop (first + m.length) = stop by omega]
        clear hz p1 p2 p3 n1 t2
        walk_at "pu"
    · by_cases hC : max start (first + m.length) < stop
      · replace t2 := t2 (by omega) (by omega)
        rw [show max start (first + m.length) - (first + m.length) + (stop - max start (first + m.length)) = stop - (first + m.length) by omega, p3 (by omega)] at t2
        have z2 : (stop - max start (first + m.length)).toNat ≤ sizeLine := by omega
        have a2 : J.rowA (J.labA l first m r) (max start (first + m.length)) stop = J.rowA (J.labA l first m r) start stop := by
          rw [show max start (first + m.length) = start by omega]
        clear hz p1 p2 p3 n1
        walk_at "pu"
      · have a2 : J.rowA (J.labA l first m r) start stop = [] := J.row_nil (by omega)
        clear hz p1 p2 p3 n1 t2
        walk_at "pu"
theorem tabB_tup {d : P} (h : tabB d = true) : ∃ l first m r, d = .tup [.tup l, .int first, .tup m, .tup r] ∧ 1 ≤ l.length ∧ 1 ≤ r.length ∧ (∀ x ∈ l, J.numP x = true) ∧ (∀ x ∈ m, J.numP x = true) ∧ ∀ x ∈ r, J.numP x = true := by
  unfold tabB at h
  split at h
  · next a b c e =>
    rw [Bool.and_eq_true, Bool.and_eq_true, Bool.and_eq_true] at h
    obtain ⟨⟨⟨h1, h2⟩, h3⟩, h4⟩ := h
    have out : ∀ {d : P} {lo : Int}, labB d lo = true → ∃ xs, d = .tup xs ∧ lo ≤ xs.length ∧ ∀ x ∈ xs, J.numP x = true := fun {d lo} z => by
      cases d with
      | tup xs =>
        have z2 : (decide (lo ≤ xs.length) && xs.all J.numP) = true := z
        rw [Bool.and_eq_true] at z2
        exact ⟨xs, rfl, of_decide_eq_true z2.1, List.all_eq_true.mp z2.2⟩
      | _ => cases z
    obtain ⟨l, rfl, l1, l2⟩ := out h1
    obtain ⟨r, rfl, r1, r2⟩ := out h2
    obtain ⟨m, rfl, m1, m2⟩ := out h4
    cases b with
    | int first => exact ⟨l, first, m, r, rfl, by omega, by omega, l2, m2, r2⟩
    | bl _ => cases h3
    | _ => cases h3
  · cases h
theorem tabB_of {l m r : List P} {first : Int} (hl : 1 ≤ l.length) (hr : 1 ≤ r.length) (h1 : ∀ x ∈ l, J.numP x = true) (h2 : ∀ x ∈ m, J.numP x = true) (h3 : ∀ x ∈ r, J.numP x = true) : tabB (.tup [.tup l, .int first, .tup m, .tup r]) = true := by
  unfold tabB labB
  dsimp only
  rw [decide_eq_true (show (1 : Int) ≤ l.length by omega), decide_eq_true (show (1 : Int) ≤ r.length by omega), decide_eq_true (show (0 : Int) ≤ m.length by omega), List.all_eq_true.mpr h1, List.all_eq_true.mpr h2, List.all_eq_true.mpr h3]
  rfl
theorem len4 {xs : List P} (h : xs.length = 4) : ∃ a b c e, xs = [a, b, c, e] := by
  match xs, h with
  | [a, b, c, e], _ => exact ⟨a, b, c, e, rfl⟩
theorem is_table_ok {w k n : Nat} {d : P} (hk : 2 ≤ k) (h : J.nic n d = true) : pcall qx w k f_is_table [d] = .ok (.bl (tabB d)) false none := by
  obtain ⟨k, rfl⟩ := J.exS hk
  have e1 := is_tuple_ok (w := w) (k := k + 1) (lo := 4) (hi := 4) (by omega) (J.nic.k h)
  rw [go_is_table, b_is_table]
  by_cases z : ∃ a b c e, d = .tup [a, b, c, e]
  · obtain ⟨a, b, c, e, rfl⟩ := z
    obtain ⟨m, rfl, hl, hx⟩ := J.nic.tup h
    have ea := are_labels_ok (w := w) (k := k + 1) (lo := 1) (by omega) (hx a (by simp))
    have ee := are_labels_ok (w := w) (k := k + 1) (lo := 1) (by omega) (hx e (by simp))
    have ec := are_labels_ok (w := w) (k := k + 1) (lo := 0) (by omega) (hx c (by simp))
    have eb := is_integer_ok (w := w) (k := k + 1) (by omega) (J.nic.k (hx b (by simp)))
    have e2 : tupB (.tup [a, b, c, e]) 4 4 = true := rfl
    clear hx h
    unfold tabB
    dsimp only
    cases za : labB a 1
    · walk_at "pu"
    · cases ze : labB e 1
      · walk_at "pu"
      · cases zb : J.numP b && !J.isBlP b
        · walk_at "pu"
        · walk_at "pu"
  · have e2 : tupB d 4 4 = false := by
      cases d with
      | tup xs =>
        unfold tupB
        dsimp only
        by_cases hl : xs.length = 4
        · obtain ⟨a, b, c, e, rfl⟩ := len4 hl
          exact absurd ⟨a, b, c, e, rfl⟩ z
        · by_cases h4 : (4 : Int) ≤ xs.length
          · rw [decide_eq_false (show ¬ (xs.length : Int) ≤ 4 by omega), Bool.and_false]
          · rw [decide_eq_false h4]; rfl
      | _ => rfl
    have e3 : tabB d = false := by
      unfold tabB
      split
      · exact absurd ⟨_, _, _, _, rfl⟩ z
      · rfl
    walk_at "pu"
def setB (d : P) : Bool := tabB d && (match d with
  | .tup [.tup l, _, .tup m, .tup r] => l.all J.isBlP && m.all J.isBlP && r.all J.isBlP
  | _ => false)
theorem is_set_table_ok {w k n : Nat} {d : P} (hk : 3 ≤ k) (h : J.nic n d = true) : pcall qx w k f_is_set_table [d] = .ok (.bl (setB d)) false none := by
  obtain ⟨k, rfl⟩ := J.exS hk
  have e1 := is_table_ok (w := w) (k := k + 2) (by omega) h
  rw [go_is_set_table, b_is_set_table]
  cases ht : tabB d with
  | false =>
    have e2 : setB d = false := by unfold setB; rw [ht]; rfl
    walk_at "pu"
  | true =>
    obtain ⟨l, first, m, r, rfl, l1, r1, _⟩ := tabB_tup ht
    have e2 : setB (.tup [.tup l, .int first, .tup m, .tup r]) = (l.all J.isBlP && m.all J.isBlP && r.all J.isBlP) := by unfold setB; rw [ht]; rfl
    obtain ⟨n1, rfl, _, hx⟩ := J.nic.tup h
    have hl := J.nic.tup (hx (.tup l) (by simp))
    have hm := J.nic.tup (hx (.tup m) (by simp))
    have hr := J.nic.tup (hx (.tup r) (by simp))
    have row : ∀ (xs : List P) (v : Int) (o : Option (Bool × P)), (∃ n, n1 = n + 1 ∧ xs.length ≤ sizeLine ∧ ∀ x ∈ xs, J.nic n x = true) → L2.atI [P.tup l, P.int first, P.tup m, P.tup r] v = some (.tup xs) →
        ∃ π', turnP (pvOf qx w (pcall qx w (k + 2)) (k + 2) false) [2] (.one 2) .nil (.bl .all (.comp [1] (.one 1) (.of (.idx (.var 0) (.var 2))) .nil (.isi (.var 1) .bool))) (.int v) [some (false, .tup [.tup l, .int first, .tup m, .tup r]), none, o] = .ok (some (.bl (xs.all J.isBlP))) π' ∧ ∃ o, π' = [some (false, .tup [.tup l, .int first, .tup m, .tup r]), none, o] := fun xs v o hxs hv => by
      obtain ⟨n2, _, hln, hn⟩ := hxs
      rw [J.turn_kk rfl]
      walk_at "pu"
      obtain ⟨π', c, o1, rfl⟩ := J.comp_map' (f := turnP (pvOf qx w (pcall qx w (k + 2)) (k + 2) false) [1] (.one 1) .nil (.isi (.var 1) .bool)) (g := fun x => some (.bl (J.isBlP x))) (fun π => ∃ o, π = [some (false, P.tup [.tup l, .int first, .tup m, .tup r]), o, some (false, .int v)]) (xs := xs) (acc := []) (π := [some (false, P.tup [.tup l, .int first, .tup m, .tup r]), none, some (false, .int v)]) ⟨_, rfl⟩ (fun x hm π ⟨o, e⟩ => by
        subst e
        have e2 := J.isi_bool (sub := qx.Pr.sub) (J.nic.k (hn x hm))
        rw [J.turn_kk rfl]
        walk_at "pu"
        exact ⟨_, rfl, _, rfl⟩) (by simpa using hln)
      rw [J.kk_of c, List.nil_append, filterMap_some, J.q_all]
      walk_at "pu"
      exact ⟨_, rfl, _, rfl⟩
    walk_at "pu"
    obtain ⟨_, c1, o1, rfl⟩ := row l 0 none hl atI_0
    obtain ⟨_, c2, o2, rfl⟩ := row m 2 o1 hm atI_2
    obtain ⟨_, c3, o3, rfl⟩ := row r 3 o2 hr atI_3
    have cc : compP (turnP (pvOf qx w (pcall qx w (k + 2)) (k + 2) false) [2] (.one 2) .nil (.bl .all (.comp [1] (.one 1) (.of (.idx (.var 0) (.var 2))) .nil (.isi (.var 1) .bool)))) [.int 0, .int 2, .int 3] [] [some (false, .tup [.tup l, .int first, .tup m, .tup r]), none, none] = .ok [.bl (l.all J.isBlP), .bl (m.all J.isBlP), .bl (r.all J.isBlP)] [some (false, .tup [.tup l, .int first, .tup m, .tup r]), none, o3] := by
      have sz : sizeLine = 16777216 := by decide
      simp only [compP, c1, c2, c3, List.length_nil, List.length_cons, List.nil_append, List.cons_append, sz]
      rfl
    rw [J.kk_of cc]
    have al : blP .all [.bl (l.all J.isBlP), .bl (m.all J.isBlP), .bl (r.all J.isBlP)] .fresh = some (.bl (l.all J.isBlP && m.all J.isBlP && r.all J.isBlP)) := by
      have z := J.q_all (h := id) (l := [l.all J.isBlP, m.all J.isBlP, r.all J.isBlP])
      simp only [List.map_cons, List.map_nil, List.all_cons, List.all_nil, Bool.and_true, id] at z
      rw [z, Bool.and_assoc]
    walk_at "pu"
theorem anew_ok {w : Nat} : ∀ (n : Nat) {k : Nat} {d : P}, n + 1 ≤ k → J.nic n d = true → pcall qx w k f_anew [d] = .ok d (isLstP d) none := by
  intro n
  induction n with
  | zero =>
    intro k d hk h
    obtain ⟨k, rfl⟩ := J.exS hk
    have e1 := J.isi_list (sub := qx.Pr.sub) (J.nic.k h)
    have e2 := J.isi_tuple (sub := qx.Pr.sub) (J.nic.k h)
    rw [go_anew, b_anew]
    cases d <;> first | (cases h; done) | walk_at "pu"
  | succ n ih =>
    intro k d hk h
    obtain ⟨k, rfl⟩ := J.exS hk
    have item : ∀ (xs : List P) (x0 : P), xs.length ≤ sizeLine → (∀ x ∈ xs, J.nic n x = true) → ∃ π', compP (turnP (pvOf qx w (pcall qx w (k + (n + 1))) (k + (n + 1)) false) [1] (.one 1) .nil (.call f_anew (.cons (.var 1) .nil))) xs [] [some (false, x0), none] = .ok xs π' ∧ ∃ o, π' = [some (false, x0), o] := fun xs x0 hl hx => by
      obtain ⟨π', c, o1, rfl⟩ := J.comp_map' (f := turnP (pvOf qx w (pcall qx w (k + (n + 1))) (k + (n + 1)) false) [1] (.one 1) .nil (.call f_anew (.cons (.var 1) .nil))) (g := fun x => some x) (fun π => ∃ o, π = [some (false, x0), o]) (xs := xs) (acc := []) (π := [some (false, x0), none]) ⟨_, rfl⟩ (fun x hm π ⟨o, e⟩ => by
        subst e
        have e2 := ih (k := k + (n + 1)) (d := x) (by omega) (hx x hm)
        clear ih
        rw [J.turn_kk rfl]
        walk_at "pu"
        exact ⟨_, rfl, _, rfl⟩) (by simpa using hl)
      rw [List.nil_append, List.filterMap_some] at c
      exact ⟨_, c, _, rfl⟩
    rw [show k + (n + 1 + 1) = (k + (n + 1)) + 1 from rfl, go_anew, b_anew]
    cases d with
    | tup xs =>
      obtain ⟨m, e, hl, hx⟩ := J.nic.tup h
      cases e
      obtain ⟨_, c, o, rfl⟩ := item xs (.tup xs) hl hx
      clear ih item hx
      walk_at "pu"
      try (rw [J.kk_of c]; try walk_at "pu")
    | lst xs =>
      obtain ⟨m, e, hl, hx⟩ := J.nic.lst h
      cases e
      obtain ⟨_, c, o, rfl⟩ := item xs (.lst xs) hl hx
      clear ih item hx
      walk_at "pu"
      try (rw [J.kk_of c]; try walk_at "pu")
    | frz _ => cases h
    | ins _ _ => cases h
    | exc _ _ => cases h
    | _ => clear ih item; walk_at "pu"
theorem need_table_ok {w k n : Nat} {d : P} (hk : 3 ≤ k) (h : J.nic n d = true) (ht : tabB d = true) : pcall qx w k f_need_table [d] = .ok .non false none := by
  obtain ⟨k, rfl⟩ := J.exS hk
  have e1 := is_table_ok (w := w) (k := k + 2) (by omega) h
  rw [go_need_table, b_need_table]
  walk_at "pu"
theorem need_table_no {w k n : Nat} {d : P} (hk : n + 3 ≤ k) (h : J.nic n d = true) (ht : tabB d = false) : pcall qx w k f_need_table [d] = .exc c_InvalidTable (d, isLstP d) := by
  obtain ⟨k, rfl⟩ := J.exS hk
  have e1 := is_table_ok (w := w) (k := k + n + 2) (by omega) h
  have e2 := anew_ok (w := w) n (k := k + n + 2) (by omega) h
  rw [show k + (n + 3) = (k + n + 2) + 1 by omega, go_need_table, b_need_table]
  walk_at "pu"
theorem label_ok {w k n : Nat} {l m r : List P} {first day : Int} (hk : 4 ≤ k) (h : J.nic n (.tup [.tup l, .int first, .tup m, .tup r]) = true) (ht : tabB (.tup [.tup l, .int first, .tup m, .tup r]) = true) (hl : 1 ≤ l.length) (hr : 1 ≤ r.length) :
    pcall qx w k f_label [.tup [.tup l, .int first, .tup m, .tup r], .int day] = .ok (J.labA l first m r day) false none := by
  obtain ⟨k, rfl⟩ := J.exS hk
  have e1 := need_table_ok (w := w) (k := k + 3) (by omega) h ht
  have e2 := label_at_ok (w := w) (k := k + 3) (m := m) (first := first) (day := day) (by omega) hl hr
  rw [go_label, b_label]
  walk_at "pu"
theorem label_no {w k n : Nat} {d x : P} (hk : n + 4 ≤ k) (h : J.nic n d = true) (ht : tabB d = false) : pcall qx w k f_label [d, x] = .exc c_InvalidTable (d, isLstP d) := by
  obtain ⟨k, rfl⟩ := J.exS hk
  have e1 := need_table_no (w := w) (k := k + n + 3) (by omega) h ht
  rw [show k + (n + 4) = (k + n + 3) + 1 by omega, go_label, b_label]
  walk_at "pu"
theorem labels_no {w k n : Nat} {d x y : P} (hk : n + 4 ≤ k) (h : J.nic n d = true) (ht : tabB d = false) : pcall qx w k f_labels [d, x, y] = .exc c_InvalidTable (d, isLstP d) := by
  obtain ⟨k, rfl⟩ := J.exS hk
  have e1 := need_table_no (w := w) (k := k + n + 3) (by omega) h ht
  rw [show k + (n + 4) = (k + n + 3) + 1 by omega, go_labels, b_labels]
  walk_at "pu"
theorem labels_less {w k n : Nat} {d : P} {start stop : Int} (hk : 4 ≤ k) (h : J.nic n d = true) (ht : tabB d = true) (hs : stop < start) : pcall qx w k f_labels [d, .int start, .int stop] = .exc c_InvalidNumber (.int stop, false) := by
  obtain ⟨k, rfl⟩ := J.exS hk
  have e1 := need_table_ok (w := w) (k := k + 3) (by omega) h ht
  rw [go_labels, b_labels]
  walk_at "pu"
theorem labels_ok {w k n : Nat} {l m r : List P} {first start stop : Int} (hk : 4 ≤ k) (h : J.nic n (.tup [.tup l, .int first, .tup m, .tup r]) = true) (ht : tabB (.tup [.tup l, .int first, .tup m, .tup r]) = true) (hl : 1 ≤ l.length) (hr : 1 ≤ r.length)
    (hs : start ≤ stop) (hz : (stop - start) + l.length + m.length + r.length ≤ sizeLine) :
    pcall qx w k f_labels [.tup [.tup l, .int first, .tup m, .tup r], .int start, .int stop] = .ok (.lst (J.rowA (J.labA l first m r) start stop)) true none := by
  obtain ⟨k, rfl⟩ := J.exS hk
  have e1 := need_table_ok (w := w) (k := k + 3) (by omega) h ht
  have e2 := stretch_ok (w := w) (k := k + 3) (first := first) (by omega) hl hr hs hz
  have hn : ¬ stop < start := by omega
  rw [go_labels, b_labels]
  walk_at "pu"
theorem intsN {ns : List Int} {v : Int} (h0 : 0 ≤ v) (h1 : v < ns.length) : ∃ i, L2.atI (ns.map P.int) v = some (.int i) := by
  rw [J.atI_gI h0 (by rw [List.length_map]; exact h1)]
  unfold J.gI
  rw [List.getElem?_eq_getElem (by rw [List.length_map]; omega), List.getElem_map]
  exact ⟨_, rfl⟩
theorem WP_of {n : Nat} {a b : Int} (ha : 0 ≤ a) (hb : 0 ≤ b) (hb2 : b < 10000000000000000000000000331) (hn : n ≤ 2 ^ 60) : J.WP n [.int a, .int b, .int 0] :=
  ⟨a, b, 0, rfl, ha, hb, by omega, by omega, by omega⟩
theorem well_ok {w k n : Nat} {ns : List Int} {v : Int} (hk : 1 ≤ k) (hn : n ≤ 2 ^ 60) (hl : ns.length ≤ 63) (h0 : 0 ≤ v) (h1 : v < 1000) : ∃ q, pcall qx w k f__law_well [.frz (ns.map .int), .int v] = .ok (.lst q) true none ∧ J.WP n q := by
  obtain ⟨k, rfl⟩ := J.exS hk
  rw [go__law_well, b__law_well]
  have len : (ns.map P.int).length = ns.length := List.length_map ..
  have turn : ∀ (c W m : Int) (o : Option (Bool × P)), pSs (pvOf qx w (pcall qx w k) k false) (ss b__law_well_1) [some (false, .frz (ns.map .int)), some (false, .int v), some (false, .int c), some (false, .int W), some (false, .int m), none] = .nx [some (false, .frz (ns.map .int)), some (false, .int v), some (false, .int c), some (false, .int ((W * 5323 + m % 10000000000000000051) % 10000000000000000000000013)), some (false, .int m), none] := fun c W m o => by
    rw [J.s_ss, b__law_well_1]
    clear len hn hl h0 h1
    walk_at "pu"
  have loop : ∀ (c : Int) (ms : List Int) (W : Int) (o : Option (Bool × P)), 0 ≤ W → W < 2 ^ 100 → ∃ W' o', 0 ≤ W' ∧ W' < 2 ^ 100 ∧ forP (.one 4) (pSs (pvOf qx w (pcall qx w k) k false) (ss b__law_well_1)) (ms.map P.int) [some (false, .frz (ns.map .int)), some (false, .int v), some (false, .int c), some (false, .int W), o, none] = .nx [some (false, .frz (ns.map .int)), some (false, .int v), some (false, .int c), some (false, .int W'), o', none] := by
    intro c ms
    induction ms with
    | nil => intro W o a b; exact ⟨W, o, a, b, rfl⟩
    | cons m ms ih =>
      intro W o a b
      have pa := Int.emod_nonneg (W * 5323 + m % 10000000000000000051) (show (10000000000000000000000013 : Int) ≠ 0 by omega)
      have pb := Int.emod_lt_of_pos (W * 5323 + m % 10000000000000000051) (show (0 : Int) < 10000000000000000000000013 by omega)
      obtain ⟨W', o', a', b', e⟩ := ih ((W * 5323 + m % 10000000000000000051) % 10000000000000000000000013) (some (false, .int m)) pa (by omega)
      refine ⟨W', o', a', b', ?_⟩
      rw [List.map_cons, forP, J.tg_one]
      dsimp only [List.set_cons_succ, List.set_cons_zero]
      rw [turn c W m o]
      exact e
  have fin : ∀ x : Int, 0 ≤ x % 10000000000000000000000000331 ∧ x % 10000000000000000000000000331 < 10000000000000000000000000331 := fun x => ⟨Int.emod_nonneg _ (by omega), Int.emod_lt_of_pos _ (by omega)⟩
  by_cases hc : v < ns.length
  · obtain ⟨c, ec⟩ := intsN h0 hc
    obtain ⟨W, o, a, b, e⟩ := loop c ns (29 + ns.length) none (by omega) (by omega)
    clear loop turn
    walk_at "pu"
    exact ⟨_, rfl, WP_of (by omega) (fin _).1 (fin _).2 hn⟩
  · obtain ⟨W, o, a, b, e⟩   := loop (71 * v + 37) ns (29 + ns.length) none (by omega) (by omega)
    clear loop turn
    walk_at "pu"
    exact ⟨_, rfl, WP_of (by omega) (fin _).1 (fin _).2 hn⟩
theorem far_ok {w k n : Nat} {q : List P} (hk : 2 ≤ k) (hw : J.WP (n + 5) q) : ∃ i q', pcall qx w k f__law_far [.lst q] = .ok (.int i) false (some q') ∧ -(10 ^ 30) < i ∧ i < 10 ^ 30 ∧ J.WP n q' := by
  obtain ⟨k, rfl⟩ := J.exS hk
  obtain ⟨a, q1, e1, a0, a1, w1⟩ := draw_ok (w := w) (k := k + 1) (many := 5) (by omega) hw (by omega) (by decide)
  have size : ∃ s : Int, L2.atI [P.int 9, P.int 60, P.int 1000, P.int 1000000, P.int 1000000000000000000] a = some (.int s) ∧ 0 < s ∧ s ≤ 1000000000000000000 := by
    obtain rfl | rfl | rfl | rfl | rfl : a = 0 ∨ a = 1 ∨ a = 2 ∨ a = 3 ∨ a = 4 := by omega
    · exact ⟨9, rfl, by omega, by omega⟩
    · exact ⟨60, rfl, by omega, by omega⟩
    · exact ⟨1000, rfl, by omega, by omega⟩
    · exact ⟨1000000, rfl, by omega, by omega⟩
    · exact ⟨1000000000000000000, rfl, by omega, by omega⟩
  obtain ⟨s, es, s0, s1⟩ := size
  obtain ⟨b, q2, e2, b0, b1, w2⟩ := draw_ok (w := w) (k := k + 1) (many := s) (by omega) w1 s0 (divOk_of (k := 64) s0 (by omega) (by decide))
  rw [go__law_far, b__law_far]
  obtain ⟨c, q3, e3, c0, c1, w3⟩ := draw_ok (w := w) (k := k + 1) (many := 2) (by omega) w2 (by omega) (by decide)
  by_cases hs : s = 1000000000000000000
  · by_cases hc : c = 0
    · obtain ⟨d, q4, e4, d0, d1, w4⟩ := draw_ok (w := w) (k := k + 1) (many := 100000000000) (by omega) w3 (by omega) (by decide)
      obtain ⟨f, q5, e5, f0, f1, w5⟩ := draw_ok (w := w) (k := k + 1) (many := 2) (by omega) w4 (by omega) (by decide)
      subst hs hc
      clear w1 w2 w3 w4 s0 s1 a0 a1 c0 c1 hw
      by_cases hf : f = 0
      · walk_at "pu"
        exact ⟨_, _, rfl, by omega, by omega, w5.mono (by omega)⟩
      · walk_at "pu"
        exact ⟨_, _, rfl, by omega, by omega, w5.mono (by omega)⟩
    · obtain ⟨f, q5, e5, f0, f1, w5⟩ := draw_ok (w := w) (k := k + 1) (many := 2) (by omega) w3 (by omega) (by decide)
      subst hs
      clear w1 w2 w3 s0 s1 a0 a1 c0 c1 hw
      by_cases hf : f = 0
      · walk_at "pu"
        exact ⟨_, _, rfl, by omega, by omega, w5.mono (by omega)⟩
      · walk_at "pu"
        exact ⟨_, _, rfl, by omega, by omega, w5.mono (by omega)⟩
  · clear w1 a0 a1 c0 c1 hw
    by_cases hc : c = 0
    · walk_at "pu"
      exact ⟨_, _, rfl, by omega, by omega, w3.mono (by omega)⟩
    · walk_at "pu"
      exact ⟨_, _, rfl, by omega, by omega, w3.mono (by omega)⟩
/-- an item of a list, each of which is good -/
theorem pick {xs : List P} {v : Int} (h0 : 0 ≤ v) (h1 : v < xs.length) : ∃ x ∈ xs, L2.atI xs v = some x := ⟨_, J.gI_mem h0 h1, J.atI_gI h0 h1⟩
def nmP (x : P) : Bool := J.numP x && (match x with
  | .int i => decide (-(10 ^ 30) < i) && decide (i < 10 ^ 30)
  | _ => true)
theorem part_ok {w k n : Nat} {q : List P} {kind many : Int} (hk : 2 ≤ k) (h0 : 0 ≤ kind) (h1 : kind < 4) (m0 : 0 ≤ many) (m1 : many ≤ 13) (hw : J.WP (n + 13) q) :
    ∃ xs q', pcall qx w k f__law_part [.lst q, .int kind, .int many] = .ok (.tup xs) false (some q') ∧ (xs.length : Int) = many ∧ (∀ x ∈ xs, nmP x = true) ∧ J.WP n q' := by
  obtain ⟨k, rfl⟩ := J.exS hk
  have menu : ∃ ms : List P, L2.atI [P.lst [.bl true, .bl false], .lst [.int 0, .int 1], .lst [.bl true, .int 1, .bl false, .int 0], .lst [.int 2, .int (-3), .int 1000000000000, .int 0]] kind = some (.lst ms) ∧ (2 ≤ ms.length ∧ ms.length ≤ 4) ∧ ∀ x ∈ ms, nmP x = true := by
    obtain rfl | rfl | rfl | rfl : kind = 0 ∨ kind = 1 ∨ kind = 2 ∨ kind = 3 := by omega
    · exact ⟨_, rfl, by decide, by decide⟩
    · exact ⟨_, rfl, by decide, by decide⟩
    · exact ⟨_, rfl, by decide, by decide⟩
    · exact ⟨_, rfl, by decide, by decide⟩
  obtain ⟨ms, em, ml, mn⟩ := menu
  rw [go__law_part, b__law_part]
  have turn : ∀ (x : P) (π : Pl) (q : List P) (o : Option (Bool × P)) (N : Nat), J.WP (N + 1) q → π = [some (true, .lst q), some (false, .int kind), some (false, .int many), some (false, .lst ms), o] → ∃ y q' o', turnP (pvOf qx w (pcall qx w (k + 1)) (k + 1) true) [4] (.one 4) .nil (.idx (.var 3) (.call f__law_draw (.cons (.var 0) (.cons (.bi .len (.cons (.var 3) .nil)) .nil)))) x π = .ok (some y) [some (true, .lst q'), some (false, .int kind), some (false, .int many), some (false, .lst ms), o'] ∧ y ∈ ms ∧ J.WP N q' := fun x π q o N hw e => by
    subst e
    obtain ⟨a, q1, e1, a0, a1, w1⟩ := draw_ok (w := w) (k := k + 1) (many := ms.length) (by omega) hw (by omega) (divOk_of (k := 64) (by omega) (by omega) (by decide))
    obtain ⟨y, my, ey⟩ := pick a0 a1
    rw [J.turn_kk rfl]
    clear hw mn
    walk_at "pu"
    exact ⟨y, q1, _, rfl, my, w1⟩
  have loop := J.comp_inv (f := turnP (pvOf qx w (pcall qx w (k + 1)) (k + 1) true) [4] (.one 4) .nil (.idx (.var 3) (.call f__law_draw (.cons (.var 0) (.cons (.bi .len (.cons (.var 3) .nil)) .nil)))))
    (fun r acc π => (∃ q o, π = [some (true, .lst q), some (false, .int kind), some (false, .int many), some (false, .lst ms), o] ∧ J.WP (n + r.length) q) ∧ (acc.length + r.length : Int) = many ∧ ∀ x ∈ acc, x ∈ ms)
    (fun x r acc π ⟨⟨q, o, e, hw⟩, hl, ha⟩ => by
      have hz : sizeLine = 16777216 := by decide
      rw [List.length_cons] at hl
      obtain ⟨y, q', o', e1, my, w1⟩ := turn x π q o (n + r.length) hw e
      refine ⟨by omega, y, _, e1, ⟨q', o', rfl, w1⟩, by rw [List.length_append, List.length_singleton]; omega, fun z mz => ?_⟩
      rcases List.mem_append.mp mz with u | u
      · exact ha z u
      · rw [List.mem_singleton.mp u]; exact my)
    (rngPs 0 many) [] [some (true, .lst q), some (false, .int kind), some (false, .int many), some (false, .lst ms), none]
    ⟨⟨q, none, rfl, hw.mono (by unfold rngPs; rw [List.length_map, List.length_range]; omega)⟩, by unfold rngPs; rw [List.length_map, List.length_range, List.length_nil]; omega, fun x m => by cases m⟩
  obtain ⟨ys, π', ec, ⟨q', o', rfl, w'⟩, hl, ha⟩ := loop
  have er : rngP (.int 0) (.int many) = some (rngPs 0 many, .range 0 many) := J.q_rng
  clear turn hw
  walk_at "pu"
  exact ⟨ys, q', rfl, by simpa using hl, fun x m => mn x (ha x m), w'⟩
theorem table_ok {w k n : Nat} {q : List P} (hk : 3 ≤ k) (hw : J.WP (n + 60) q) :
    ∃ l m r first q', pcall qx w k f__law_table [.lst q] = .ok (.tup [.tup l, .int first, .tup m, .tup r]) false (some q') ∧ 1 ≤ l.length ∧ l.length ≤ 12 ∧ m.length ≤ 12 ∧ 1 ≤ r.length ∧ r.length ≤ 12 ∧ (∀ x ∈ l, nmP x = true) ∧ (∀ x ∈ m, nmP x = true) ∧ (∀ x ∈ r, nmP x = true) ∧ -(10 ^ 30) < first ∧ first < 10 ^ 30 ∧ J.WP n q' := by
  obtain ⟨k, rfl⟩ := J.exS hk
  obtain ⟨a, q1, e1, a0, a1, w1⟩ := draw_ok (w := w) (k := k + 2) (many := 4) (by omega) hw (by omega) (by decide)
  obtain ⟨b, q2, e2, b0, b1, w2⟩ := draw_ok (w := w) (k := k + 2) (many := 12) (by omega) w1 (by omega) (by decide)
  obtain ⟨l, q3, e3, l1, l2, w3⟩ := part_ok (w := w) (k := k + 2) (n := n + 45) (kind := a) (many := 1 + b) (by omega) a0 a1 (by omega) (by omega) (w2.mono (by omega))
  obtain ⟨c, q4, e4, c0, c1, w4⟩ := draw_ok (w := w) (k := k + 2) (many := 12) (by omega) w3 (by omega) (by decide)
  obtain ⟨r, q5, e5, r1, r2, w5⟩ := part_ok (w := w) (k := k + 2) (n := n + 31) (kind := a) (many := 1 + c) (by omega) a0 a1 (by omega) (by omega) (w4.mono (by omega))
  obtain ⟨f, q6, e6, f0, f1, w6⟩ := far_ok (w := w) (k := k + 2) (n := n + 26) (by omega) (w5.mono (by omega))
  obtain ⟨d, q7, e7, d0, d1, w7⟩ := draw_ok (w := w) (k := k + 2) (many := 13) (by omega) w6 (by omega) (by decide)
  obtain ⟨m, q8, e8, m1, m2, w8⟩ := part_ok (w := w) (k := k + 2) (n := n) (kind := a) (many := d) (by omega) a0 a1 (by omega) (by omega) (w7.mono (by omega))
  rw [go__law_table, b__law_table]
  clear w1 w2 w3 w4 w5 w6 w7 hw a0 a1
  refine ⟨l, m, r, f, q8, ?_, by omega, by omega, by omega, by omega, by omega, l2, m2, r2, f0, f1, w8⟩
  clear l2 m2 r2 f0 f1 w8 b0 b1 c0 c1 d0 d1
  walk_at "pu"
theorem law_integer_ok {w k : Nat} {d : P} (hk : 1 ≤ k) (h : J.kP d = true) : pcall qx w k f__law_integer [d] = .ok (.bl (J.numP d && !J.isBlP d)) false none := by
  obtain ⟨k, rfl⟩ := J.exS hk
  have e1 := J.isi_int (sub := qx.Pr.sub) h
  have e2 := J.isi_bool (sub := qx.Pr.sub) h
  rw [go__law_integer, b__law_integer]
  cases e : J.numP d
  · walk_at "pu"
  · walk_at "pu"
theorem none_of {f : P → Bool} {xs : List P} : (xs.filterMap fun x => if f x = true then none else some x).isEmpty = xs.all f := by
  induction xs with
  | nil => rfl
  | cons x xs ih =>
    rw [List.all_cons]
    cases h : f x with
    | true => rw [List.filterMap_cons_none (by rw [h]; rfl), ih]; rfl
    | false => rw [List.filterMap_cons_some (by rw [h]; rfl)]; rfl
theorem law_are_labels_ok {w k n : Nat} {d : P} {lo : Int} (hk : 1 ≤ k) (h : J.nic n d = true) : pcall qx w k f__law_are_labels [d, .int lo] = .ok (.bl (labB d lo)) false none := by
  obtain ⟨k, rfl⟩ := J.exS hk
  have e1 := J.isi_tuple (sub := qx.Pr.sub) (J.nic.k h)
  rw [go__law_are_labels, b__law_are_labels]
  cases d with
  | tup xs =>
    obtain ⟨m, rfl, hl, hx⟩ := J.nic.tup h
    unfold labB
    dsimp only
    by_cases z : (xs.length : Int) < lo
    · have z2 : ¬ lo ≤ xs.length := by omega
      clear hx h
      walk_at "pu"
    · have z2 : lo ≤ xs.length := by omega
      obtain ⟨π', c, o1, rfl⟩ := J.comp_map' (f := turnP (pvOf qx w (pcall qx w k) k false) [2] (.one 2) (.cons (.not_ (.isi (.var 2) .int)) .nil) (.var 2)) (g := fun x => if J.numP x = true then none else some x) (fun π => ∃ o, π = [some (false, P.tup xs), some (false, P.int lo), o]) (xs := xs) (acc := []) (π := [some (false, P.tup xs), some (false, P.int lo), none]) ⟨_, rfl⟩ (fun x hm π ⟨o, e⟩ => by
        subst e
        have e2 := J.isi_int (sub := qx.Pr.sub) (J.nic.k (hx x hm))
        rw [J.turn_kk rfl]
        clear hx h
        cases e3 : J.numP x
        · walk_at "pu"
          exact ⟨_, rfl, _, rfl⟩
        · walk_at "pu"
          exact ⟨_, rfl, _, rfl⟩) (by simpa using hl)
      rw [List.nil_append] at c
      have nn := none_of (f := J.numP) (xs := xs)
      clear hx h
      walk_at "pu"
  | _ =>
    unfold labB
    walk_at "pu"
theorem law_is_table_ok {w k n : Nat} {d : P} (hk : 2 ≤ k) (h : J.nic n d = true) : pcall qx w k f__law_is_table [d] = .ok (.bl (tabB d)) false none := by
  obtain ⟨k, rfl⟩ := J.exS hk
  have e1 := J.isi_tuple (sub := qx.Pr.sub) (J.nic.k h)
  rw [go__law_is_table, b__law_is_table]
  cases d with
  | tup xs =>
    by_cases z : xs.length = 4
    · obtain ⟨a, b, c, e, rfl⟩ := len4 z
      obtain ⟨m, rfl, hl, hx⟩ := J.nic.tup h
      have ea := law_are_labels_ok (w := w) (k := k + 1) (lo := 1) (by omega) (hx a (by simp))
      have ee := law_are_labels_ok (w := w) (k := k + 1) (lo := 1) (by omega) (hx e (by simp))
      have ec := law_are_labels_ok (w := w) (k := k + 1) (lo := 0) (by omega) (hx c (by simp))
      have eb := law_integer_ok (w := w) (k := k + 1) (by omega) (J.nic.k (hx b (by simp)))
      have n4 : (3 : Int) + 1 = 4 := by rfl
      clear hx h
      unfold tabB
      dsimp only
      cases za : labB a 1
      · walk_at "pu"
      · cases zc : labB c 0
        · walk_at "pu"
        · cases ze : labB e 1
          · walk_at "pu"
          · walk_at "pu"
    · have z2 : ¬ (xs.length : Int) = 4 := by omega
      have e3 : tabB (.tup xs) = false := by
        unfold tabB
        split
        · next a b c e => cases ‹P.tup xs = _›; exact absurd rfl z
        · rfl
      walk_at "pu"
  | _ =>
    unfold tabB
    walk_at "pu"
theorem law_is_set_ok {w k n : Nat} {d : P} (hk : 3 ≤ k) (h : J.nic n d = true) : pcall qx w k f__law_is_set [d] = .ok (.bl (setB d)) false none := by
  obtain ⟨k, rfl⟩ := J.exS hk
  have e1 := law_is_table_ok (w := w) (k := k + 2) (by omega) h
  rw [go__law_is_set, b__law_is_set]
  cases ht : tabB d with
  | false =>
    have e2 : setB d = false := by unfold setB; rw [ht]; rfl
    walk_at "pu"
  | true =>
    obtain ⟨l, first, m, r, rfl, l1, r1, _⟩ := tabB_tup ht
    have e2 : setB (.tup [.tup l, .int first, .tup m, .tup r]) = (l.all J.isBlP && m.all J.isBlP && r.all J.isBlP) := by unfold setB; rw [ht]; rfl
    obtain ⟨n1, rfl, _, hx⟩ := J.nic.tup h
    have hl := J.nic.len (hx (.tup l) (by simp))
    have hm := J.nic.len (hx (.tup m) (by simp))
    have hr := J.nic.len (hx (.tup r) (by simp))
    have hz : sizeLine = 16777216 := by decide
    have z1 : l.length + m.length ≤ sizeLine := by omega
    have z2 : (l ++ m).length + r.length ≤ sizeLine := by rw [List.length_append]; omega
    have kk : ∀ x ∈ l ++ m ++ r, J.kP x = true := fun x mx => by
      obtain ⟨n2, _, _, xl⟩ := J.nic.tup (hx (.tup l) (by simp))
      obtain ⟨n3, _, _, xm⟩ := J.nic.tup (hx (.tup m) (by simp))
      obtain ⟨n4, _, _, xr⟩ := J.nic.tup (hx (.tup r) (by simp))
      rcases List.mem_append.mp mx with u | u
      · rcases List.mem_append.mp u with v | v
        · exact J.nic.k (xl x v)
        · exact J.nic.k (xm x v)
      · exact J.nic.k (xr x u)
    obtain ⟨π', c, o1, rfl⟩ := J.comp_map' (f := turnP (pvOf qx w (pcall qx w (k + 2)) (k + 2) false) [1] (.one 1) (.cons (.not_ (.isi (.var 1) .bool)) .nil) (.var 1)) (g := fun x => if J.isBlP x = true then none else some x) (fun π => ∃ o, π = [some (false, P.tup [.tup l, .int first, .tup m, .tup r]), o]) (xs := l ++ m ++ r) (acc := []) (π := [some (false, P.tup [.tup l, .int first, .tup m, .tup r]), none]) ⟨_, rfl⟩ (fun x hm π ⟨o, e⟩ => by
      subst e
      have e2 := J.isi_bool (sub := qx.Pr.sub) (kk x hm)
      rw [J.turn_kk rfl]
      clear hx h kk
      cases e3 : J.isBlP x
      · walk_at "pu"
        exact ⟨_, rfl, _, rfl⟩
      · walk_at "pu"
        exact ⟨_, rfl, _, rfl⟩) (by rw [List.length_append, List.length_append, List.length_nil]; omega)
    rw [List.nil_append] at c
    have nn := none_of (f := J.isBlP) (xs := l ++ m ++ r)
    rw [List.all_append, List.all_append] at nn
    clear hx h kk hz
    walk_at "pu"
theorem law_label_ok {w k : Nat} {l m r : List P} {first day : Int} (hk : 1 ≤ k) (hl : 1 ≤ l.length) (hr : 1 ≤ r.length) :
    pcall qx w k f__law_label [.tup [.tup l, .int first, .tup m, .tup r], .int day] = .ok (J.labA l first m r day) false none := by
  obtain ⟨k, rfl⟩ := J.exS hk
  have e1 := J.atI_gIm (i := day - first) hl
  have e3 := J.atI_gIm (i := day - first - m.length) hr
  have hl0 : (0 : Int) < l.length := by omega
  have hr0 : (0 : Int) < r.length := by omega
  rw [go__law_label, b__law_label]
  unfold J.labA
  by_cases c1 : day < first
  · walk_at "pu"
  · by_cases c2 : day - first < m.length
    · have e2 := J.atI_gI (xs := m) (i := day - first) (by omega) c2
      have c3 : day < first + m.length := by omega
      walk_at "pu"
    · have c3 : ¬ day < first + m.length := by omega
      walk_at "pu"
theorem nmP.gd {x : P} (h : nmP x = true) (n : Nat) : J.Gd n 41 x := by
  cases x with
  | int i =>
    have z : (true && (decide (-(10 ^ 30) < i) && decide (i < 10 ^ 30))) = true := h
    rw [Bool.true_and, Bool.and_eq_true] at z
    have a := of_decide_eq_true z.1
    have b := of_decide_eq_true z.2
    exact .int (by omega) (by omega)
  | bl k => exact .bl
  | _ => cases h
theorem nmP.num {x : P} (h : nmP x = true) : J.numP x = true := by
  unfold nmP at h
  rw [Bool.and_eq_true] at h
  exact h.1
theorem part_gd {xs : List P} (h : ∀ x ∈ xs, nmP x = true) (hl : xs.length ≤ 12) (n : Nat) : J.Gd (n + 1) 600 (.tup xs) := (J.Gd.tup (fun x m => nmP.gd (h x m) n) hl (by omega)).mono (by omega)
/-- a table as the law draws it -/
structure Tbl (l m r : List P) (first : Int) : Prop where
  l1 : 1 ≤ l.length
  l2 : l.length ≤ 12
  m2 : m.length ≤ 12
  r1 : 1 ≤ r.length
  r2 : r.length ≤ 12
  ln : ∀ x ∈ l, nmP x = true
  mn : ∀ x ∈ m, nmP x = true
  rn : ∀ x ∈ r, nmP x = true
  f1 : -(10 ^ 30) < first
  f2 : first < 10 ^ 30
abbrev tbV (l m r : List P) (first : Int) : P := .tup [.tup l, .int first, .tup m, .tup r]
theorem Tbl.items {l m r : List P} {first : Int} (h : Tbl l m r first) (n : Nat) : ∀ x ∈ [P.tup l, P.int first, P.tup m, P.tup r], J.Gd (n + 1) 600 x := by
  have f1 := h.f1
  have f2 := h.f2
  simp only [List.mem_cons, List.not_mem_nil, or_false, forall_eq_or_imp, forall_eq]
  exact ⟨part_gd h.ln h.l2 n, (J.Gd.int (by omega) (by omega)).mono (by omega), part_gd h.mn h.m2 n, part_gd h.rn h.r2 n⟩
theorem Tbl.gd {l m r : List P} {first : Int} (h : Tbl l m r first) (n : Nat) : J.Gd (n + 2) 3000 (tbV l m r first) := (J.Gd.tup (h.items n) (l := 4) (by simp) (by omega)).mono (by omega)
theorem Tbl.tab {l m r : List P} {first : Int} (h : Tbl l m r first) : tabB (tbV l m r first) = true := tabB_of h.l1 h.r1 (fun x m => nmP.num (h.ln x m)) (fun x m => nmP.num (h.mn x m)) (fun x m => nmP.num (h.rn x m))
def oddL : List P := [.non, .str "1", .tup [.int 0], .lst [.int 0], .bl true, .str "", .tup [], .dct [], .int (-1), .int (1000000000000000000000000000000 - 1), .int (1 - 1000000000000000000000000000000)]
theorem odd_gd (n : Nat) : ∀ x ∈ oddL, J.Gd (n + 1) 70 x := by
  unfold oddL
  simp only [List.mem_cons, List.not_mem_nil, or_false, forall_eq_or_imp, forall_eq]
  have z : ∀ x ∈ [P.int 0], J.Gd n 41 x := by
    simp only [List.mem_cons, List.not_mem_nil, or_false, forall_eq]
    exact .int (by omega) (by omega)
  exact ⟨J.Gd.non.mono (by omega), J.Gd.str (by decide +kernel), (J.Gd.tup z (l := 1) (by simp) (by omega)).mono (by omega), (J.Gd.lst z (l := 1) (by simp) (by omega)).mono (by omega), J.Gd.bl.mono (by omega), J.Gd.str (by decide +kernel), J.Gd.nil.mono (by omega), J.Gd.dct.mono (by omega), (J.Gd.int (by omega) (by omega)).mono (by omega), (J.Gd.int (by omega) (by omega)).mono (by omega), (J.Gd.int (by omega) (by omega)).mono (by omega)⟩
def menuL (T : List P) (Tv : P) : List P := [.lst T, .tup (cut T none (some 3)), .tup (T ++ [.tup [.int 0]]), .tup [Tv], .non, .int 0, .str "table", .lst [Tv], .dct [], .tup T.reverse]
theorem menu_gd {l m r : List P} {first : Int} (h : Tbl l m r first) : ∀ x ∈ menuL [P.tup l, P.int first, P.tup m, P.tup r] (tbV l m r first), J.Gd 5 10000 x := by
  unfold menuL
  simp only [List.mem_cons, List.not_mem_nil, or_false, forall_eq_or_imp, forall_eq]
  have i4 := h.items 3
  have g := h.gd 2
  have one : ∀ x ∈ [tbV l m r first], J.Gd 4 3000 x := by simpa using g
  have z : ∀ x ∈ [P.tup l, P.int first, P.tup m, P.tup r] ++ [P.tup [P.int 0]], J.Gd 4 600 x := fun x mx => by
    rcases List.mem_append.mp mx with u | u
    · exact i4 x u
    · rw [List.mem_singleton.mp u]
      exact (J.Gd.tup (n := 3) (xs := [P.int 0]) (c := 41) (l := 1) (fun y my => by rw [List.mem_singleton.mp my]; exact .int (by omega) (by omega)) (by simp) (by omega)).mono (by omega)
  exact ⟨(J.Gd.lst i4 (l := 4) (by simp) (by omega)).mono (by omega), (J.Gd.tup (fun x mx => i4 x (J.mem_cut mx)) (l := 4) (Nat.le_trans J.len_cut (by simp)) (by omega)).mono (by omega), (J.Gd.tup z (l := 5) (by simp) (by omega)).mono (by omega), (J.Gd.tup one (l := 1) (by simp) (by omega)).mono (by omega), J.Gd.non.mono (by omega), (J.Gd.int (by omega) (by omega)).mono (by omega), J.Gd.str (by decide +kernel), (J.Gd.lst one (l := 1) (by simp) (by omega)).mono (by omega), J.Gd.dct.mono (by omega), (J.Gd.tup (fun x mx => i4 x (List.mem_reverse.mp mx)) (l := 4) (by simp) (by omega)).mono (by omega)⟩
/-- a table with one part exchanged -/
theorem bent_gd {T : List P} {part : P} {a : Int} (hT : ∀ x ∈ T, J.Gd 4 600 x) (hl : T.length = 4) (hp : J.Gd 4 2000 part) : J.Gd 5 100000 (.tup (cut T none (some a) ++ [part] ++ cut T (some (a + 1)) none)) := by
  refine (J.Gd.tup (l := 9) (c := 2000) (fun x mx => ?_) ?_ (by omega)).mono (by omega)
  · rcases List.mem_append.mp mx with u | u
    · rcases List.mem_append.mp u with v | v
      · exact (hT x (J.mem_cut v)).mono (by omega)
      · rw [List.mem_singleton.mp v]; exact hp
    · exact (hT x (J.mem_cut u)).mono (by omega)
  · rw [List.length_append, List.length_append, List.length_singleton]
    have := J.len_cut (xs := T) (lo := none) (hi := some a)
    have := J.len_cut (xs := T) (lo := some (a + 1)) (hi := none)
    omega
theorem wd_mono : ∀ {n m : Nat} {p : P}, J.shw n p = true → n ≤ m → J.wd m p = J.wd n p
  | n, m, .non, h, l => by cases n <;> cases m <;> rfl
  | n, m, .bl _, h, l => by cases n <;> cases m <;> rfl
  | n, m, .int _, h, l => by cases n <;> cases m <;> simp only [J.wd]
  | n, m, .str _, h, l => by cases n <;> cases m <;> simp only [J.wd]
  | n, m, .frz _, h, l => by cases n <;> cases h
  | n, m, .ins _ _, h, l => by cases n <;> cases h
  | n, m, .exc _ _, h, l => by cases n <;> cases h
  | 0, m, .tup xs, h, l => by cases h
  | 0, m, .lst xs, h, l => by cases h
  | 0, m, .dct xs, h, l => by cases h
  | n + 1, 0, _, h, l => by omega
  | n + 1, m + 1, .tup xs, h, l => by
    simp only [J.wd]
    rw [List.map_congr_left fun x mx => by rw [wd_mono (List.all_eq_true.mp h x mx) (by omega)]]
  | n + 1, m + 1, .lst xs, h, l => by
    simp only [J.wd]
    rw [List.map_congr_left fun x mx => by rw [wd_mono (List.all_eq_true.mp h x mx) (by omega)]]
  | n + 1, m + 1, .dct xs, h, l => by
    simp only [J.wd]
    have e : xs.map (fun kv => wid (keyPD kv.1) + J.wd m kv.2 + 4) = xs.map (fun kv => wid (keyPD kv.1) + J.wd n kv.2 + 4) := List.map_congr_left fun x mx => by
      have z := List.all_eq_true.mp h x mx
      rw [Bool.and_eq_true] at z
      rw [wd_mono z.2 (by omega)]
    rw [e]
theorem bent_ok {w k n : Nat} {q l m r : List P} {first : Int} (hk : 2 ≤ k) (hT : Tbl l m r first) (hw : J.WP (n + 10) q) :
    ∃ v q', pcall qx w k f__law_bent [.lst q, tbV l m r first] = .ok v false (some q') ∧ J.Gd 5 100000 v ∧ J.WP n q' := by
  obtain ⟨k, rfl⟩ := J.exS hk
  obtain ⟨a, q1, e1, a0, a1, w1⟩ := draw_ok (w := w) (k := k + 1) (many := 4) (by omega) hw (by omega) (by decide)
  obtain ⟨b, q2, e2, b0, b1, w2⟩ := draw_ok (w := w) (k := k + 1) (many := 6) (by omega) w1 (by omega) (by decide)
  obtain ⟨c, q3, e3, c0, c1, w3⟩ := draw_ok (w := w) (k := k + 1) (many := 10) (by omega) w2 (by omega) (by decide)
  obtain ⟨c', q3', e3', c0', c1', w3'⟩ := draw_ok (w := w) (k := k + 1) (many := 11) (by omega) w2 (by omega) (by decide)
  have sz : sizeLine = 16777216 := by decide
  have iT := hT.items 3
  rw [go__law_bent, b__law_bent]
  have oddE : ∀ v : Int, 0 ≤ v → v < 11 → ∃ x, L2.atI [P.non, .str "1", .tup [.int 0], .lst [.int 0], .bl true, .str "", .tup [], .dct [], .int (-1), .int 999999999999999999999999999999, .int (-999999999999999999999999999999)] v = some x ∧ J.Gd 2 70 x := fun v h0 h1 => by
    obtain ⟨x, mx, ex⟩ := pick (xs := oddL) (v := v) h0 (by show v < ((11 : Nat) : Int); omega)
    exact ⟨x, ex, odd_gd 1 x mx⟩
  have fin : ∀ {v : P} {q' : List P} {N : Nat}, J.Gd 5 100000 v → J.WP N q' → n ≤ N → ∃ v1 q1, PC.ok v false (some q') = .ok v1 false (some q1) ∧ J.Gd 5 100000 v1 ∧ J.WP n q1 := fun g h l => ⟨_, _, rfl, g, h.mono l⟩
  by_cases hb : b = 0
  · subst hb
    obtain ⟨x, mx, ex⟩ := pick (xs := menuL [P.tup l, P.int first, P.tup m, P.tup r] (tbV l m r first)) (v := c) c0 (by show c < ((10 : Nat) : Int); omega)
    have gx := menu_gd hT x mx
    unfold menuL at ex
    simp only [List.cons_append, List.nil_append] at ex
    have z5 : 4 + 1 ≤ sizeLine := by omega
    clear iT oddE hw w1 w2 w3' hT sz mx a0 a1 b0 b1 c0 c1 c0' c1' e3'
    walk_at "pu"
    exact fin (gx.mono (by omega)) w3 (by omega)
  · obtain ⟨part, mp, ep⟩ := pick (xs := [P.tup l, P.int first, P.tup m, P.tup r]) (v := a) a0 (by show a < ((4 : Nat) : Int); omega)
    have gp := iT part mp
    have last : ∀ {part : P} {q' : List P} {N : Nat}, J.Gd 4 2000 part → J.WP N q' → n ≤ N → ∃ v1 q1, PC.ok (.tup (cut [P.tup l, P.int first, P.tup m, P.tup r] none (some a) ++ [part] ++ cut [P.tup l, P.int first, P.tup m, P.tup r] (some (a + 1)) none)) false (some q') = .ok v1 false (some q1) ∧ J.Gd 5 100000 v1 ∧ J.WP n q1 := fun g h l => fin (bent_gd iT rfl g) h l
    have zA : ∀ x : P, (cut [P.tup l, P.int first, P.tup m, P.tup r] none (some a)).length + 1 ≤ sizeLine := fun x => by
      have := J.len_cut (xs := [P.tup l, P.int first, P.tup m, P.tup r]) (lo := none) (hi := some a)
      simp only [List.length_cons, List.length_nil] at this
      omega
    have zB : ∀ x : P, (cut [P.tup l, P.int first, P.tup m, P.tup r] none (some a) ++ [x]).length + (cut [P.tup l, P.int first, P.tup m, P.tup r] (some (a + 1)) none).length ≤ sizeLine := fun x => by
      have := J.len_cut (xs := [P.tup l, P.int first, P.tup m, P.tup r]) (lo := none) (hi := some a)
      have := J.len_cut (xs := [P.tup l, P.int first, P.tup m, P.tup r]) (lo := some (a + 1)) (hi := none)
      rw [List.length_append, List.length_singleton]
      simp only [List.length_cons, List.length_nil] at *
      omega
    replace zA := zA .non
    have gd4 : ∀ {x : P} {c : Nat}, J.Gd 2 c x → c ≤ 2000 → J.Gd 4 2000 x := fun {x c} g hc => ⟨J.nic.mono g.1 (by omega), J.shw.mono g.2.1 (by omega), by rw [wd_mono g.2.1 (by omega)]; have := g.2.2; omega⟩
    by_cases h1 : b = 1 ∨ a = 1
    · obtain ⟨x, ex, gx⟩ := oddE c' c0' c1'
      have zx := zB x
      have gx4 := gd4 gx (by omega)
      clear iT oddE hw w1 w2 w3 hT sz mp a0 a1 b0 b1 c0 c1 c0' c1' e3 zB gp gx gd4
      by_cases h2 : b = 1
      · clear h1
        walk_at "pu"
        exact last gx4 w3' (by omega)
      · have h3 : a = 1 := by omega
        clear h1
        subst h3
        walk_at "pu"
        exact last gx4 w3' (by omega)
    · have h2 : ¬ b = 1 := fun z => h1 (Or.inl z)
      have h3 : ¬ a = 1 := fun z => h1 (Or.inr z)
      have pt : ∃ xs, part = .tup xs ∧ (∀ x ∈ xs, nmP x = true) ∧ xs.length ≤ 12 := by
        obtain rfl | rfl | rfl : a = 0 ∨ a = 2 ∨ a = 3 := by omega
        · cases ep; exact ⟨l, rfl, hT.ln, hT.l2⟩
        · cases ep; exact ⟨m, rfl, hT.mn, hT.m2⟩
        · cases ep; exact ⟨r, rfl, hT.rn, hT.r2⟩
      obtain ⟨xs, rfl, xn, xl⟩ := pt
      clear h1
      by_cases h4 : b = 2
      · have zx := zB (.lst xs)
        have g : J.Gd 4 2000 (.lst xs) := (J.Gd.lst (n := 3) (fun x mx => nmP.gd (xn x mx) 3) xl (by omega)).mono (by omega)
        subst h4
        clear iT oddE hw w1 w3 w3' hT sz mp a0 a1 b0 b1 c0 c1 c0' c1' e3 e3' zB gp gd4 xn xl h2
        walk_at "pu"
        exact last g w2 (by omega)
      · by_cases h5 : b = 3
        · have zx := zB (.tup [])
          have g : J.Gd 4 2000 (.tup []) := (J.Gd.nil).mono (by omega)
          subst h5
          clear iT oddE hw w1 w3 w3' hT sz mp a0 a1 b0 b1 c0 c1 c0' c1' e3 e3' zB gp gd4 xn xl h2 h4
          walk_at "pu"
          exact last g w2 (by omega)
        · have ne := J.q_neT (xs := xs) fun x mx => nmP.num (xn x mx)
          cases hx : xs.isEmpty with
          | true =>
            have zx := zB (.tup xs)
            have g : J.Gd 4 2000 (.tup xs) := gp.mono (by omega)
            clear iT oddE hw w1 w3 w3' hT sz mp a0 a1 b0 b1 c0 c1 c0' c1' e3 e3' zB gp gd4 xn xl
            walk_at "pu"
            exact last g w2 (by omega)
          | false =>
            have x1 : 1 ≤ xs.length := by
              cases xs with
              | nil => cases hx
              | cons x xs => rw [List.length_cons]; omega
            obtain ⟨d, q4, e4, d0, d1, w4⟩ := draw_ok (w := w) (k := k + 1) (many := xs.length) (by omega) w2 (by omega) (divOk_of (k := 64) (by omega) (by omega) (by decide))
            obtain ⟨f, q5, e5, f0, f1, w5⟩ := draw_ok (w := w) (k := k + 1) (many := 11) (by omega) w4 (by omega) (by decide)
            obtain ⟨y, ey, gy⟩ := oddE f f0 f1
            have zx := zB (.tup (cut xs none (some d) ++ [y] ++ cut xs (some (d + 1)) none))
            have lc1 := J.len_cut (xs := xs) (lo := none) (hi := some d)
            have lc2 := J.len_cut (xs := xs) (lo := some (d + 1)) (hi := none)
            have zC : (cut xs none (some d)).length + 1 ≤ sizeLine := by omega
            have zD : (cut xs none (some d) ++ [y]).length + (cut xs (some (d + 1)) none).length ≤ sizeLine := by
              rw [List.length_append, List.length_singleton]; omega
            have g : J.Gd 4 2000 (.tup (cut xs none (some d) ++ [y] ++ cut xs (some (d + 1)) none)) := by
              refine (J.Gd.tup (n := 3) (l := 25) (c := 41 + 36) (fun x mx => ?_) ?_ (by omega)).mono (by omega)
              · rcases List.mem_append.mp mx with u | u
                · rcases List.mem_append.mp u with v | v
                  · exact (nmP.gd (xn x (J.mem_cut v)) 3).mono (by omega)
                  · rw [List.mem_singleton.mp v]
                    exact ⟨J.nic.mono gy.1 (by omega), J.shw.mono gy.2.1 (by omega), by rw [wd_mono gy.2.1 (by omega)]; exact Nat.le_trans gy.2.2 (by omega)⟩
                · exact (nmP.gd (xn x (J.mem_cut u)) 3).mono (by omega)
              · rw [List.length_append, List.length_append, List.length_singleton]; omega
            clear iT oddE hw w1 w2 w3 w3' w4 hT sz mp a0 a1 b0 b1 c0 c1 c0' c1' e3 e3' zB gp gd4 xn xl lc1 lc2 d0 d1 f0 f1 gy x1
            walk_at "pu"
            exact last g w5 (by omega)
theorem said_label {w k n : Nat} {l m r : List P} {first day : Int} {v x : P} (hk : 5 ≤ k) (h : J.nic n (tbV l m r first) = true) (ht : tabB (tbV l m r first) = true) (hl : 1 ≤ l.length) (hr : 1 ≤ r.length) (hv : v = .int 0 ∨ v = .int 1) :
    pcall qx w k f__law_said [v, tbV l m r first, .int day, x] = .ok (.tup [J.labA l first m r day, .non]) false none := by
  obtain ⟨k, rfl⟩ := J.exS hk
  have e1 := label_ok (w := w) (k := k + 4) (day := day) (by omega) h ht hl hr
  rw [go__law_said, b__law_said]
  rcases hv with rfl | rfl
  · walk_at "pu"
  · walk_at "pu"
theorem said_less {w k n : Nat} {d v : P} {start stop : Int} (hk : 5 ≤ k) (h : J.nic n d = true) (ht : tabB d = true) (hs : stop < start) (hv : v = .int 2 ∨ v = .int 3) :
    pcall qx w k f__law_said [v, d, .int start, .int stop] = .ok (.tup [.non, .exc c_InvalidNumber (.int stop)]) false none := by
  obtain ⟨k, rfl⟩ := J.exS hk
  have e1 := labels_less (w := w) (k := k + 4) (start := start) (stop := stop) (by omega) h ht hs
  rw [go__law_said, b__law_said]
  rcases hv with rfl | rfl
  · walk_at "pu"
  · walk_at "pu"
theorem days_ok {w k n : Nat} {q l m r : List P} {first : Int} (hk : 3 ≤ k) (hw : J.WP (n + 7) q) : ∃ (ds : List Int) (q' : List P), pcall qx w k f__law_days [.lst q, tbV l m r first] = .ok (.lst (ds.map .int)) true (some q') ∧ ds.length = 7 ∧ J.WP n q' := by
  obtain ⟨k, rfl⟩ := J.exS hk
  obtain ⟨a, q1, e1, a0, a1, w1⟩ := draw_ok (w := w) (k := k + 2) (many := 40) (by omega) hw (by omega) (by decide)
  obtain ⟨b, q2, e2, b0, b1, w2⟩ := draw_ok (w := w) (k := k + 2) (many := 40) (by omega) w1 (by omega) (by decide)
  obtain ⟨c, q3, e3, c0, c1, w3⟩ := far_ok (w := w) (k := k + 2) (n := n) (by omega) w2
  rw [go__law_days, b__law_days]
  clear hw w1 w2
  walk_at "pu"
  exact ⟨[_, _, _, _, _, _, _], q3, rfl, rfl, w3⟩
theorem known_ok {w k n c : Nat} {d : P} {v : Int} (hk : 5 ≤ k) (h : J.Gd n c d) (hn : n ≤ 60) (hc : c ≤ 10000000) : pcall qx w k f__law_known [d, .int v] = .ok (.bl true) false none := by
  obtain ⟨k, rfl⟩ := J.exS hk
  have e1 := is_table_ok (w := w) (k := k + 4) (by omega) h.1
  have e2 := is_set_table_ok (w := w) (k := k + 4) (by omega) h.1
  have e3 := law_is_table_ok (w := w) (k := k + 4) (by omega) h.1
  have e4 := law_is_set_ok (w := w) (k := k + 4) (by omega) h.1
  obtain ⟨s, es⟩ := h.repr hn hc
  obtain ⟨s2, es2⟩ := (J.Gd.lst (n := 1) (c := 41) (l := 2) (xs := [.bl (tabB d), .bl (setB d)]) (fun x mx => by
    simp only [List.mem_cons, List.not_mem_nil, or_false] at mx
    rcases mx with rfl | rfl <;> exact .bl) (by simp) (by omega)).repr (by omega) (by omega)
  rw [go__law_known, b__law_known]
  clear h
  by_cases hv : v = 1
  · walk_at "pu"
  · walk_at "pu"
theorem right_turn {w k n : Nat} {q l m r : List P} {first day : Int} {o2 o3 o4 o5 o6 o7 o8 o9 o10 : Option (Bool × P)} (hT : Tbl l m r first) (hw : J.WP (n + 3) q) :
    ∃ q' a3 a4 a5 a6 a8 a9 a10, pSs (pvOf qx w (pcall qx w (k + 6)) (k + 6) true) (ss b__law_labels_right_3) [some (true, .lst q), some (false, tbV l m r first), some (false, .int day), o3, o4, o5, o6, none, o8, o9, o10] = .nx [some (true, .lst q'), some (false, tbV l m r first), some (false, .int day), a3, a4, a5, a6, none, a8, a9, a10] ∧ J.WP n q' := by
  obtain ⟨a, q1, e1, a0, a1, w1⟩ := draw_ok (w := w) (k := k + 6) (many := 9) (by omega) hw (by omega) (by decide)
  obtain ⟨b, q2, e2, b0, b1, w2⟩ := draw_ok (w := w) (k := k + 6) (many := 30) (by omega) w1 (by omega) (by decide)
  obtain ⟨c, q3, e3, c0, c1, w3⟩ := draw_ok (w := w) (k := k + 6) (many := 5) (by omega) w2 (by omega) (by decide)
  have hn := (hT.gd 0).1
  have ht := hT.tab
  have hl := hT.l1
  have hr := hT.r1
  have hz : sizeLine = 16777216 := by decide
  have l2 := hT.l2
  have m2 := hT.m2
  have r2 := hT.r2
  have s0 := said_label (w := w) (k := k + 6) (day := day) (x := .int 0) (by omega) hn ht hl hr (Or.inl rfl)
  have s1 := said_label (w := w) (k := k + 6) (day := day) (x := .int 0) (by omega) hn ht hl hr (Or.inr rfl)
  have s2 := said_less (w := w) (k := k + 6) (start := day - a) (stop := day - a - 1 - c) (by omega) hn ht (by omega) (Or.inl rfl)
  have s3 := said_less (w := w) (k := k + 6) (start := day - a) (stop := day - a - 1 - c) (by omega) hn ht (by omega) (Or.inr rfl)
  have el := law_label_ok (w := w) (k := k + 6) (m := m) (first := first) (day := day) (by omega) hl hr
  have ls := labels_ok (w := w) (k := k + 6) (start := day - a) (stop := day - a + b) (by omega) hn ht hl hr (by omega) (by omega)
  have lg : ∀ d : Int, J.Gd 1 41 (J.labA l first m r d) := fun d => by
    rcases J.labA_mem (m := m) (first := first) (day := d) hl hr with z | z | z
    · exact nmP.gd (hT.ln _ z) 1
    · exact nmP.gd (hT.mn _ z) 1
    · exact nmP.gd (hT.rn _ z) 1
  obtain ⟨t1, r1⟩ := (J.Gd.tup (n := 1) (c := 41) (l := 2) (xs := [J.labA l first m r day, .non]) (fun x mx => by
    simp only [List.mem_cons, List.not_mem_nil, or_false] at mx
    rcases mx with rfl | rfl
    · exact lg day
    · exact .non) (by simp) (by omega)).repr (by omega) (by omega)
  obtain ⟨t2, r2'⟩ := (J.Gd.lst (n := 1) (c := 41) (l := 30) (xs := J.rowA (J.labA l first m r) (day - a) (day - a + b)) (fun x mx => by
    obtain ⟨i, _, _, rfl⟩ := J.row_mem mx
    exact lg i) (by rw [J.row_len]; omega) (by omega)).repr (by omega) (by omega)
  have lnr : (J.rowA (J.labA l first m r) (day - a) (day - a + b)).length < sizeLine := by rw [J.row_len]; omega
  have cc : ∃ o7, compP (turnP (pvOf qx w (pcall qx w (k + 6)) (k + 6) true) [7] (.one 7) .nil (.call f__law_label (.cons (.var 1) (.cons (.var 7) .nil)))) (rngPs (day - a) (day - a + b)) [] [some (true, .lst q2), some (false, tbV l m r first), some (false, .int day), some (false, .int 1), some (false, .int (day - a)), some (false, .int (day - a + b)), o6, none, o8, o9, o10] = .ok (J.rowA (J.labA l first m r) (day - a) (day - a + b)) [some (true, .lst q2), some (false, tbV l m r first), some (false, .int day), some (false, .int 1), some (false, .int (day - a)), some (false, .int (day - a + b)), o6, o7, o8, o9, o10] := by
    obtain ⟨π', c, o, rfl⟩ := J.comp_map' (f := turnP (pvOf qx w (pcall qx w (k + 6)) (k + 6) true) [7] (.one 7) .nil (.call f__law_label (.cons (.var 1) (.cons (.var 7) .nil)))) (g := J.onI (J.labA l first m r)) (fun π => ∃ o, π = [some (true, .lst q2), some (false, tbV l m r first), some (false, .int day), some (false, .int 1), some (false, .int (day - a)), some (false, .int (day - a + b)), o6, o, o8, o9, o10]) (xs := rngPs (day - a) (day - a + b)) (acc := []) ⟨none, rfl⟩ (fun x mx π ⟨o, e⟩ => by
      subst e
      obtain ⟨i, _, _, rfl⟩ := J.rng_mem mx
      have el := law_label_ok (w := w) (k := k + 6) (m := m) (first := first) (day := i) (by omega) hl hr
      rw [J.turn_kk rfl]
      clear hT hw w1 w2 lg hn ht hl hr hz l2 m2 r2 s0 s1 s2 s3 ls e1 e2 e3
      walk_at "pu"
      exact ⟨_, rfl, _, rfl⟩) (by rw [J.rng_len, List.length_nil]; omega)
    rw [J.rowfm, List.nil_append] at c
    exact ⟨o, c⟩
  obtain ⟨o7, cc⟩ := cc
  rw [J.s_ss]
  unfold b__law_labels_right_3 b__law_labels_right_1 b__law_labels_right_2
  clear hT hw w1 w2 lg hn ht hl hr hz l2 m2 r2
  walk_at "pu"
  exact ⟨_, _, _, _, _, _, _, _, rfl, w3⟩
theorem right_ok {w k n : Nat} {q l m r : List P} {first : Int} (hk : 7 ≤ k) (hT : Tbl l m r first) (hw : J.WP (n + 40) q) : ∃ q', pcall qx w k f__law_labels_right [.lst q, tbV l m r first] = .ok (.bl true) false (some q') ∧ J.WP n q' := by
  obtain ⟨k, rfl⟩ := J.exS hk
  obtain ⟨ds, q1, e1, dl, w1⟩ := days_ok (w := w) (k := k + 6) (n := n + 21) (l := l) (m := m) (r := r) (first := first) (by omega) (hw.mono (by omega))
  have loop : ∀ (ds : List Int) (q : List P) (N : Nat) (o2 o3 o4 o5 o6 o8 o9 o10 : Option (Bool × P)), J.WP (N + 3 * ds.length) q → ∃ q' a2 a3 a4 a5 a6 a8 a9 a10, forP (.one 2) (pSs (pvOf qx w (pcall qx w (k + 6)) (k + 6) true) (ss b__law_labels_right_3)) (ds.map P.int) [some (true, .lst q), some (false, tbV l m r first), o2, o3, o4, o5, o6, none, o8, o9, o10] = .nx [some (true, .lst q'), some (false, tbV l m r first), a2, a3, a4, a5, a6, none, a8, a9, a10] ∧ J.WP N q' := by
    intro ds
    induction ds with
    | nil => intro q N o2 o3 o4 o5 o6 o8 o9 o10 h; exact ⟨q, _, _, _, _, _, _, _, _, rfl, h⟩
    | cons d ds ih =>
      intro q N o2 o3 o4 o5 o6 o8 o9 o10 h
      rw [List.length_cons] at h
      obtain ⟨q', a3, a4, a5, a6, a8, a9, a10, e, h'⟩ := right_turn (w := w) (k := k) (day := d) (o2 := o2) (o3 := o3) (o4 := o4) (o5 := o5) (o6 := o6) (o8 := o8) (o9 := o9) (o10 := o10) (o7 := none) (n := N + 3 * ds.length) hT (h.mono (by omega))
      obtain ⟨q2, b2, b3, b4, b5, b6, b8, b9, b10, e2, h2⟩ := ih q' N (some (false, .int d)) a3 a4 a5 a6 a8 a9 a10 h'
      refine ⟨q2, b2, b3, b4, b5, b6, b8, b9, b10, ?_, h2⟩
      rw [List.map_cons, forP, J.tg_one]
      dsimp only [List.set_cons_succ, List.set_cons_zero]
      rw [e]
      exact e2
  obtain ⟨q2, b2, b3, b4, b5, b6, b8, b9, b10, e2, h2⟩ := loop ds q1 n none none none none none none none none (w1.mono (by omega))
  rw [go__law_labels_right, b__law_labels_right]
  clear loop hT hw w1
  walk_at "pu"
  exact ⟨_, rfl, h2⟩
theorem refused_ok {w k : Nat} {q : List P} {v : P} (hk : 14 ≤ k) (h : J.Gd 5 100000 v) (ht : tabB v = false) : pcall qx w k f__law_refused [.lst q, v, .int 3, .int 1] = .ok (.bl true) false (some q) := by
  obtain ⟨k, rfl⟩ := J.exS hk
  have e : pcall qx w (k + 13 + 1) f__law_refused [.lst q, v, .int 3, .int 1] = refF (k + 13 + 1) [.lst q, v, .int 3, .int 1] := rfl
  rw [show k + 14 = k + 13 + 1 from rfl, e]
  have e2 : refF (k + 13 + 1) [.lst q, v, .int 3, .int 1] = if refOk v = true ∧ 14 ≤ k + 13 + 1 then .ok (.bl true) false (some q) else .bad := rfl
  rw [e2, if_pos]
  refine ⟨?_, by omega⟩
  unfold refOk
  rw [ht, h.1, h.2.1, decide_eq_true (Nat.le_trans h.2.2 (by omega))]
  rfl
/-- a turn with a bent table -/
theorem bent_turn {w k n : Nat} {q l m r : List P} {first t : Int} {s : P} {kk : Int} {o5 : Option (Bool × P)} (hT : Tbl l m r first) (hw : J.WP (n + 10) q) :
    ∃ q' a5, pSs (pvOf qx w (pcall qx w (k + 14)) (k + 14) false) (ss b_law_1) [some (false, s), some (false, .int kk), some (true, .lst q), some (false, tbV l m r first), some (false, .int t), o5] = .nx [some (false, s), some (false, .int kk), some (true, .lst q'), some (false, tbV l m r first), some (false, .int t), a5] ∧ J.WP n q' := by
  obtain ⟨v, q1, e1, gv, w1⟩ := bent_ok (w := w) (k := k + 14) (by omega) hT hw
  have e2 := known_ok (w := w) (k := k + 14) (v := t % 2) (by omega) gv (by omega) (by omega)
  have e3 := law_is_table_ok (w := w) (k := k + 14) (by omega) gv.1
  rw [J.s_ss, b_law_1]
  cases ht : tabB v with
  | true =>
    clear hT hw gv
    walk_at "pu"
    exact ⟨_, _, rfl, w1⟩
  | false =>
    have e4 := refused_ok (w := w) (k := k + 14) (q := q1) (by omega) gv ht
    clear hT hw gv
    walk_at "pu"
    exact ⟨_, _, rfl, w1⟩
/-- a turn of the law -/
theorem law_turn {w k : Nat} {ns : List Int} {kk : Int} {o2 o3 o4 o5 : Option (Bool × P)} (hl : ns.length ≤ 63) (h0 : 0 ≤ kk) (h1 : kk < 4) :
    ∃ a2 a3 a4 a5, pSs (pvOf qx w (pcall qx w (k + 14)) (k + 14) false) (ss b_law_2) [some (false, .frz (ns.map .int)), some (false, .int kk), o2, o3, o4, o5] = .nx [some (false, .frz (ns.map .int)), some (false, .int kk), a2, a3, a4, a5] := by
  obtain ⟨q, e1, w1⟩ := well_ok (w := w) (k := k + 14) (n := 1000) (v := kk) (by omega) (by omega) hl h0 (by omega)
  obtain ⟨l, m, r, first, q1, e2, l1, l2, m2, r1, r2, ln, mn, rn, f1, f2, w2⟩ := table_ok (w := w) (k := k + 14) (n := 900) (by omega) (w1.mono (by omega))
  have hT : Tbl l m r first := ⟨l1, l2, m2, r1, r2, ln, mn, rn, f1, f2⟩
  obtain ⟨q2, e3, w3⟩ := right_ok (w := w) (k := k + 14) (n := 800) (by omega) hT (w2.mono (by omega))
  obtain ⟨a, q3, e4, a0, a1, w4⟩ := draw_ok (w := w) (k := k + 14) (n := 799) (many := 2) (by omega) w3 (by omega) (by decide)
  have e5 := known_ok (w := w) (k := k + 14) (v := a) (by omega) (hT.gd 0) (by omega) (by omega)
  have loop : ∀ (ts : List P) (q : List P) (o4 o5 : Option (Bool × P)), (∀ x ∈ ts, ∃ i, x = P.int i) → J.WP (10 * ts.length) q → ∃ q' a4 a5, forP (.one 4) (pSs (pvOf qx w (pcall qx w (k + 14)) (k + 14) false) (ss b_law_1)) ts [some (false, .frz (ns.map .int)), some (false, .int kk), some (true, .lst q), some (false, tbV l m r first), o4, o5] = .nx [some (false, .frz (ns.map .int)), some (false, .int kk), some (true, .lst q'), some (false, tbV l m r first), a4, a5] := by
    intro ts
    induction ts with
    | nil => intro q o4 o5 _ h; exact ⟨q, _, _, rfl⟩
    | cons t ts ih =>
      intro q o4 o5 hi h
      rw [List.length_cons] at h
      obtain ⟨i, rfl⟩ := hi t List.mem_cons_self
      obtain ⟨q', a5, e, h'⟩ := bent_turn (w := w) (k := k) (t := i) (s := .frz (ns.map .int)) (kk := kk) (o5 := o5) (n := 10 * ts.length) hT (h.mono (by omega))
      obtain ⟨q2, b4, b5, e2⟩ := ih q' (some (false, .int i)) a5 (fun x m => hi x (List.mem_cons_of_mem _ m)) h'
      refine ⟨q2, b4, b5, ?_⟩
      rw [forP, J.tg_one]
      dsimp only [List.set_cons_succ, List.set_cons_zero]
      rw [e]
      exact e2
  obtain ⟨q5, b4, b5, e6⟩ := loop (rngPs 0 8) q3 o4 o5 (fun x m => by
    obtain ⟨i, _, _, e⟩ := J.rng_mem m
    exact ⟨i, e⟩) (w4.mono (by rw [J.rng_len]; omega))
  rw [J.s_ss, b_law_2]
  clear loop hT w1 w2 w3 w4 ln mn rn f1 f2 l1 l2 m2 r1 r2 h0 h1 hl a0 a1
  walk_at "pu"
  exact ⟨_, _, _, _, rfl⟩
theorem law_ok {w k : Nat} {ns : List Int} (hk : 15 ≤ k) (hl : ns.length ≤ 63) : pcall qx w k f_law [.frz (ns.map .int)] = .ok (.bl true) false none := by
  obtain ⟨k, rfl⟩ := J.exS hk
  have loop : ∀ (ts : List P) (o1 o2 o3 o4 o5 : Option (Bool × P)), (∀ x ∈ ts, ∃ i, x = P.int i ∧ 0 ≤ i ∧ i < 4) → ∃ a1 a2 a3 a4 a5, forP (.one 1) (pSs (pvOf qx w (pcall qx w (k + 14)) (k + 14) false) (ss b_law_2)) ts [some (false, .frz (ns.map .int)), o1, o2, o3, o4, o5] = .nx [some (false, .frz (ns.map .int)), a1, a2, a3, a4, a5] := by
    intro ts
    induction ts with
    | nil => intro o1 o2 o3 o4 o5 _; exact ⟨_, _, _, _, _, rfl⟩
    | cons t ts ih =>
      intro o1 o2 o3 o4 o5 hi
      obtain ⟨i, rfl, i0, i1⟩ := hi t List.mem_cons_self
      obtain ⟨a2, a3, a4, a5, e⟩ := law_turn (w := w) (k := k) (o2 := o2) (o3 := o3) (o4 := o4) (o5 := o5) hl i0 i1
      obtain ⟨b1, b2, b3, b4, b5, e2⟩ := ih (some (false, .int i)) a2 a3 a4 a5 (fun x m => hi x (List.mem_cons_of_mem _ m))
      refine ⟨b1, b2, b3, b4, b5, ?_⟩
      rw [forP, J.tg_one]
      dsimp only [List.set_cons_succ, List.set_cons_zero]
      rw [e]
      exact e2
  obtain ⟨b1, b2, b3, b4, b5, e⟩ := loop (rngPs 0 (max 1 (min 4 ns.length))) none none none none none (fun x m => by
    obtain ⟨i, i0, i1, e⟩ := J.rng_mem m
    exact ⟨i, e, i0, by omega⟩)
  have len : (ns.map P.int).length = ns.length := List.length_map ..
  rw [go_law, b_law]
  clear loop hl
  walk_at "pu"
end Py
end
section
set_option linter.all false
set_option maxRecDepth 100000
set_option maxHeartbeats 4000000
namespace Py
open PySem
theorem e_try {V : Ev} {σ : Sl} {S : Sto} (p h : List Sm) (c i : Nat) (f : Sl → Sto → Out) : (evS V (.try_ (ss p) c i (ss h)) σ S).then f = (catchD V c i (evSs V (ss h)) ((evSs V (ss p) σ S).then .nx)).then f := by rw [evS, then_id]
def ctE (i : Nat) (o : Out) : Out := match o with
  | .nx σ S => .nx (σ.set i none) S
  | .ret d S => .ret d S
  | .brk σ S => .brk (σ.set i none) S
  | .cnt σ S => .cnt (σ.set i none) S
  | _ => .bad
theorem e_exc {V : Ev} (c i k : Nat) (h : List Sm) (v : D) (σ : Sl) (S : Sto) : catchD V c i (evSs V (ss h)) (.exc k v σ S) = ifB (V.sub k c) (ctE i ((evSs V (ss h) (σ.set i (some (.ref S.length))) (S ++ [.exc k v])).then .nx)) (.exc k v σ S) := by
  unfold catchD ifB ctE
  dsimp only
  rw [then_id]
  split
  · cases evSs V (ss h) (σ.set i (some (.ref S.length))) (S ++ [.exc k v]) <;> rfl
  · rfl
theorem e_nx (i : Nat) (σ : Sl) (S : Sto) : ctE i (.nx σ S) = .nx (σ.set i none) S := rfl
theorem pd_nil (ds : List D) : permD ds [] = some [] := rfl
theorem pd_cons (ds : List D) (i : Nat) (is : List Nat) : permD ds (i :: is) = J.prK ds[i]? (permD ds is) := by
  rw [permD]
  generalize ds[i]? = a
  generalize permD ds is = r
  cases a <;> cases r <;> rfl
theorem p_reprO {β : Type} {S : Sto} (f : D → Sto → β) (g : Nat → D → Sto → β) (b : β) {d : D} : (biD .repr [d] S).kk f g b = onO (reprD S d) (fun s => f (.str s) S) b := by
  show Res.kk (orBad ((reprD S d).map .str) S) f g b = _
  cases reprD S d <;> rfl
local macro_rules | `(tactic| walk_at "ev") => `(tactic| simp only [↓c_cons, ↓c_nil, ↓c_ret, ↓c_set, ↓c_ife, ↓c_expr, ↓c_unp, ↓c_par, ↓c_setI, ↓c_rais, ↓c_retN, ↓c_for, ↓e_try, ↓r_rng, J.ifP_n, ↓p_reprO, e_exc, e_nx, Out.then_nx, Out.then_ret, Out.then_exc, pd_nil, pd_cons, J.pm_s, eq_self, Int.reduceEq, evOf_sub, ↓k_var, ↓k_lit, ↓k_gl, ↓k_tup, ↓k_mk, ↓k_bin, ↓k_neg, ↓k_cmp, ↓k_chn, ↓k_isn, ↓k_nsn, ↓k_and, ↓k_or, ↓k_not, ↓k_ife, ↓k_idx, ↓k_sli, ↓k_rev, ↓k_call, ↓k_callK, ↓k_bi, ↓k_blt, ↓k_isi, ↓k_isT, ↓k_fld, ↓k_app, ↓k_dct, ↓k_nil, ↓k_cons, ↓k_no, ↓k_yes, ↓k_disp, ↓k_of, ↓k_rng1, ↓k_rng2, ↓k_comp, ↓k_tnil, ↓k_tcons, ↓b_allm, ↓b_all, ↓kk_ok, ↓kk_exc, ↓kk_bad, ↓kk_if, ↓reduceIte, ↓ifP_len, List.length_cons, List.length_nil, Nat.reduceAdd, Nat.zero_add, Nat.reduceLeDiff,  varD, List.getElem?_cons_zero, List.getElem?_cons_succ, List.set_cons_zero, List.set_cons_succ, evOf_call, evOf_gv, evOf_sub, setAll, unpD, wipeD, ↓p_add, ↓p_sub, ↓p_mulR, ↓p_mulL, ↓p_mul, ↓p_div64, ↓p_div, ↓p_mod, ↓p_pow, ↓p_lt, ↓p_le, ↓p_gt, ↓p_ge, ↓p_eq, ↓p_ne, ↓p_eqS, ↓p_neS, ↓p_idxT, ↓p_idxR, onO_some, onO_none, onL_lst, onI_lst, onI_frz, ifB_t, ifB_f, ifP_true, ifP_false, lenO_lst, lenO_frz, ↓p_lenT, ↓p_lenR, ↓p_max, ↓p_min, ↓p_abs, ↓p_int, ↓p_intB, ↓p_sliT, ↓p_sliR, ↓p_addR, ↓p_mulLR, List.append_assoc, List.cons_append, List.nil_append, List.length_append, at_new0, at_new, ↓p_appR, ↓p_revT, ↓b_tupleC, ↓b_tupleT, ↓b_tupleA, ↓b_listC, ↓b_listT, ↓b_listA, ↓sr_tup, ↓sr_R, setIx_R, ↓ixN_0, ↓ixN_1, ↓ixN_2, Option.map_some, Option.map_none, List.set_set, List.getElem?_set_self,  atI_0, atI_1, atI_2, atI_3, Bool.not_true, Bool.not_false, Bool.false_eq_true, decide_eq_true_eq, decide_true, decide_false, Int.reduceLE, Int.reduceLT, Int.reduceNeg, Int.reduceAdd, Int.reduceSub, Int.reduceMul, Int.reducePow, Int.reduceToNat, *])
abbrev A0 : Av := fun _ => False
theorem fn_eq {w k n : Nat} {ds : List D} {S : Sto} {F : Fn} {p : List Sm} (h : qx.Pr.fns n = some F) (hb : F.body = ss p) (hl : ds.length = F.np) : callI qx.Pr w (k + 1) n ds S = endD S.length ((evSs (evOf qx.Pr w k) (ss p) (startD F.ns ds) S).then .nx) := call_eq h hb hl
/-- the law's own try, at an object that is no table -/
theorem said_no {w k m : Nat} {S : Sto} {x : D} {p : P} {way : Int} (ih : ∀ j, j ≤ k → ∀ g, SoundF (callI qx.Pr w j g) (pcall qx w j g) (qx.io g)) (hk : m + 4 ≤ k) (r : Rd A0 S x p) (hn : J.nic m p = true) (ht : tabB p = false) (hw : way = 0 ∨ way = 1 ∨ way = 2 ∨ way = 3) :
    ∃ y S' e, callI qx.Pr w (k + 1) f__law_said [.int way, x, .int 3, .int 1] S = .ok (.tup [.non, .ref e]) S' ∧ S'[e]? = some (.exc c_InvalidTable y) ∧ Same1 none S S' ∧ Rd A0 S' y p ∧ (isLstP p = true → ∃ h, y = .ref h ∧ S.length ≤ h ∧ h < S'.length) := by
  have zl := (ih k (Nat.le_refl k) f_label).no rfl (A := A0) (S := S) (ds := [x, .int 3]) (ps := [p, .int 3]) (fun _ z => z.elim) (Rds.cons r (.int .nil))
  rw [label_no (w := w) (k := k) hk hn ht] at zl
  have zs := (ih k (Nat.le_refl k) f_labels).no rfl (A := A0) (S := S) (ds := [x, .int 3, .int 1]) (ps := [p, .int 3, .int 1]) (fun _ z => z.elim) (Rds.cons r (.int (.int .nil)))
  rw [labels_no (w := w) (k := k) hk hn ht] at zs
  have fin : ∀ {d : D} {S1 : Sto}, Same1 none S S1 → Rx A0 S S1 d (p, isLstP p) → ∃ y S' e, tidy S.length (.tup [.non, .ref S1.length]) (S1 ++ [.exc c_InvalidTable d]) = .ok (.tup [.non, .ref e]) S' ∧ S'[e]? = some (.exc c_InvalidTable y) ∧ Same1 none S S' ∧ Rd A0 S' y p ∧ (isLstP p = true → ∃ h, y = .ref h ∧ S.length ≤ h ∧ h < S'.length) := fun {d S1} s1 rx => by
    refine ⟨d, S1 ++ [.exc c_InvalidTable d], S1.length, ?_, at_new0, ⟨by rw [List.length_append]; have := s1.1; omega, fun m hm hh => ?_⟩, Rds.pre rx.1 Pre.push, fun hl => ?_⟩
    · unfold tidy
      have nb : (D.tup [.non, .ref S1.length]).bd S.length = false := by
        show (true && (decide (S1.length < S.length) && true)) = false
        rw [decide_eq_false (by have := s1.1; omega)]; rfl
      rw [nb]
      split <;> rfl
    · rw [List.getElem?_append_left (by have := s1.1; omega)]
      exact s1.2 m hm hh
    · obtain ⟨h, e, l⟩ := rx.2 hl
      refine ⟨h, e, l, ?_⟩
      subst e
      have := rx.1
      have lt : h < S1.length := by
        cases this <;> (rename_i e _ ; first | exact lt_of_get e | (rename_i e2; exact lt_of_get e2))
      rw [List.length_append]; omega
  have su : qx.Pr.sub c_InvalidTable c_DayError = true := sub_InvalidTable_DayError
  obtain ⟨_, d1, S1, c1, s1, x1⟩ := zl
  obtain ⟨_, d2, S2, c2, s2, x2⟩ := zs
  have f1 := fin s1 x1
  have f2 := fin s2 x2
  have st : startD 7 [D.int way, x, .int 3, .int 1] = [some (.int way), some x, some (.int 3), some (.int 1), none, none, none] := rfl
  rw [fn_eq fn__law_said rfl rfl, b__law_said]
  dsimp only
  rw [st]
  clear ih hk hn ht fin s1 s2 x1 x2 r st
  obtain rfl | rfl | rfl | rfl := hw
  · clear f2 c2
    walk_at "ev"
    exact f1
  · clear f2 c2
    walk_at "ev"
    exact f1
  · clear f1 c1
    walk_at "ev"
    exact f2
  · clear f1 c1
    walk_at "ev"
    exact f2
theorem same_trans {S S' S'' : Sto} (h : Same1 none S S') (h' : Same1 none S' S'') : Same1 none S S'' := ⟨Nat.le_trans h.1 h'.1, fun m hm n => (h'.2 m (Nat.lt_of_lt_of_le hm h.1) n).trans (h.2 m hm n)⟩
theorem same_rds {A : Av} {S S' : Sto} {ds : List D} {ps : List P} (h : Same1 none S S') (r : Rds A S ds ps) : Rds A S' ds ps := r.sto fun m hm _ => h.2 m hm (by simp)
theorem ref_turn {w k : Nat} {S2 S : Sto} {d0 x W : D} {p : P} {way : Int} {o6 o7 o8 : Option D} (ih : ∀ j, j ≤ k → ∀ g, SoundF (callI qx.Pr w j g) (pcall qx w j g) (qx.io g)) (hk : 11 ≤ k)
    (r : Rd A0 S2 x p) (rW : Rd A0 S2 W (.lst [p, .lst [.str "own"]])) (hn : J.nic 5 p = true) (ht : tabB p = false) {t tw : Str} (et : reprP p = some t) (ew : reprP (.lst [p, .lst [.str "own"]]) = some tw)
    (hw : way = 0 ∨ way = 1 ∨ way = 2 ∨ way = 3) (sm : Same1 none S2 S) :
    ∃ a6 a7 a8 S', evSs (evOf qx.Pr w k) (ss b__law_refused_1) [some d0, some x, some (.int 3), some (.int 1), some W, some (.int way), o6, o7, o8] S = .nx [some d0, some x, some (.int 3), some (.int 1), some W, some (.int way), a6, a7, a8] S' ∧ Same1 none S2 S' := by
  obtain ⟨k, rfl⟩ := J.exS (show 1 ≤ k by omega)
  have nW : J.nic 6 (.lst [p, .lst [.str "own"]]) = true := J.nic.of_lst (by simp) fun y my => by
    simp only [List.mem_cons, List.not_mem_nil, or_false] at my
    rcases my with rfl | rfl
    · exact hn
    · exact J.nic.of_lst (by simp) fun z mz => by rw [List.mem_singleton.mp mz]; rfl
  have kinds : ∀ {S' : Sto} {e : Nat} {y : D}, S'[e]? = some (.exc c_InvalidTable y) → isiD (evOf qx.Pr w (k + 1)) (.ref e) (.own c_InvalidTable) S' = some true ∧ isTD (evOf qx.Pr w (k + 1)) (.ref e) S' [.own c_InvalidNumber, .own c_InvalidPairs] = some false ∧ fldD (.ref e) a_value S' = .ok y S' := fun {S' e y} h => by
    have q1 : (evOf qx.Pr w (k + 1)).sub c_InvalidTable c_InvalidTable = true := sub_InvalidTable_InvalidTable
    have q2 : (evOf qx.Pr w (k + 1)).sub c_InvalidTable c_InvalidNumber = false := sub_InvalidTable_InvalidNumber
    have q3 : (evOf qx.Pr w (k + 1)).sub c_InvalidTable c_InvalidPairs = false := sub_InvalidTable_InvalidPairs
    refine ⟨?_, ?_, ?_⟩
    · unfold isiD; dsimp only; rw [h]; dsimp only; rw [q1]
    · unfold isTD isTD isTD isiD; dsimp only; rw [h]; dsimp only; rw [q2, q3]
    · unfold fldD; dsimp only; rw [h]; rfl
  have ih' : ∀ j, j ≤ k → ∀ g, SoundF (callI qx.Pr w j g) (pcall qx w j g) (qx.io g) := fun j hj g => ih j (by omega) g
  rw [s_ss, b__law_refused_1]
  by_cases c : way = 0 ∨ way = 1
  · obtain ⟨y, S', e, c1, c2, c3, c4, c5⟩ := said_no (w := w) (m := 5) ih' (by omega) (same_rds sm r) hn ht hw
    obtain ⟨k1, k2, k3⟩ := kinds c2
    have r1 : reprD S x = some t := (repr_pu (Rd.rt (same_rds sm r))).trans et
    have r2 : reprD S' y = some t := (repr_pu (Rd.rt c4)).trans et
    have g : ¬ 1 < way := by omega
    have s' := same_trans sm c3
    clear ih ih' kinds nW hn ht r rW c4 c5 hw sm et ew c2 c3
    walk_at "ev"
    exact ⟨_, _, _, _, rfl, s'⟩
  · obtain ⟨y, S', e, c1, c2, c3, c4, c5⟩ := said_no (w := w) (m := 6) ih' (by omega) (same_rds sm rW) nW rfl hw
    obtain ⟨k1, k2, k3⟩ := kinds c2
    obtain ⟨h, rfl, h1, h2⟩ := c5 rfl
    have r1 : reprD S W = some tw := (repr_pu (Rd.rt (same_rds sm rW))).trans ew
    have r2 : reprD S' (.ref h) = some tw := (repr_pu (Rd.rt c4)).trans ew
    obtain ⟨h', ys, eh, e2, ry⟩ := (Rd.rt c4).lst
    cases eh
    have g : 1 < way := by omega
    have lq : lstQ (.ref h) S' = true := lstQ_l e2
    have yl : ys.length < sizeLine := by rw [ry.len]; show 2 < sizeLine; decide
    have s' := same_trans sm c3
    have s3 : Same1 none S2 (S'.set h (.lst (ys ++ [.str "told"]))) := ⟨by rw [List.length_set]; exact s'.1, fun m hm n => by
      rw [List.getElem?_set_ne (by have := sm.1; omega)]
      exact s'.2 m hm n⟩
    have r3 : reprD (S'.set h (.lst (ys ++ [.str "told"]))) W = some tw := (repr_pu (Rd.rt (same_rds s3 rW))).trans ew
    clear ih ih' kinds nW hn ht r rW c4 c5 hw sm et ew c2 c3 ry h1 h2 s' c
    walk_at "ev"
    exact ⟨_, _, _, _, rfl, s3⟩
theorem ref_ext {w k : Nat} (ih : ∀ j, j ≤ k → ∀ g, SoundF (callI qx.Pr w j g) (pcall qx w j g) (qx.io g)) : SoundF (callI qx.Pr w (k + 1) f__law_refused) (refF (k + 1)) true := by
  refine ⟨fun z => (by cases z), fun _ {A S n xs qs ds ps} hA hn e0 r0 r => ?_⟩
  by_cases cs : ∃ p, ps = [p, .int 3, .int 1] ∧ refOk p = true ∧ 14 ≤ k + 1
  · obtain ⟨p, rfl, h1, h2⟩ := cs
    have e : refF (k + 1) (.lst qs :: [p, .int 3, .int 1]) = .ok (.bl true) false (some qs) := by
      have e2 : refF (k + 1) (.lst qs :: [p, .int 3, .int 1]) = if refOk p = true ∧ 14 ≤ k + 1 then .ok (.bl true) false (some qs) else .bad := rfl
      rw [e2, if_pos ⟨h1, h2⟩]
    rw [e]
    obtain ⟨x, ds, rfl, rx, r⟩ := r.outp
    obtain ⟨d2, ds, rfl, ra, r⟩ := r.outp
    obtain ⟨d3, ds, rfl, rb, r⟩ := r.outp
    cases r
    obtain rfl := (Rd.rt ra).int
    obtain rfl := (Rd.rt rb).int
    unfold refOk at h1
    rw [Bool.and_eq_true, Bool.and_eq_true, Bool.and_eq_true] at h1
    obtain ⟨⟨⟨ht, hn5⟩, hs⟩, hw⟩ := h1
    have ht : tabB p = false := by simpa using ht
    have gp : J.Gd 5 1000000 p := ⟨hn5, hs, of_decide_eq_true hw⟩
    have gw : J.Gd 6 3000000 (.lst [p, .lst [.str "own"]]) := by
      refine (J.Gd.lst (n := 5) (c := 1000000) (l := 2) (fun y my => ?_) (by simp) (by omega)).mono (by omega)
      simp only [List.mem_cons, List.not_mem_nil, or_false] at my
      rcases my with rfl | rfl
      · exact gp
      · exact (J.Gd.lst (n := 4) (c := 100) (l := 1) (fun z mz => by rw [List.mem_singleton.mp mz]; exact J.Gd.str (by decide +kernel)) (by simp) (by omega)).mono (by omega)
    obtain ⟨t, et⟩ := J.repr_some gp.2.1 (by omega) (Nat.le_trans gp.2.2 (by decide))
    obtain ⟨tw, ew⟩ := J.repr_some gw.2.1 (by omega) (Nat.le_trans gw.2.2 (by decide))
    have rx0 : Rd A0 S x p := Rds.mono rx fun n z => z.elim
    -- the store with the object in a list of the law's own
    obtain ⟨S2, hS2⟩ : ∃ S2 : Sto, S2 = S ++ [.lst [.str "own"], .lst [x, .ref S.length]] := ⟨_, rfl⟩
    have sm2 : Same1 none S S2 := by
      subst hS2
      exact ⟨by rw [List.length_append]; omega, fun m hm _ => List.getElem?_append_left hm⟩
    have rx2 : Rd A0 S2 x p := same_rds sm2 rx0
    have rW : Rd A0 S2 (.ref (S.length + 1)) (.lst [p, .lst [.str "own"]]) := by
      refine .lst id (by subst hS2; exact at_new) (Rds.cons rx2 (.lst id (by subst hS2; exact at_new0) (.str .nil) .nil)) .nil
    have turn : ∀ (way : Int) (o6 o7 o8 : Option D) (S' : Sto), (way = 0 ∨ way = 1 ∨ way = 2 ∨ way = 3) → Same1 none S2 S' → _ := fun way o6 o7 o8 S' hw sm => ref_turn (w := w) (k := k) (d0 := .ref n) (o6 := o6) (o7 := o7) (o8 := o8) ih (by omega) rx2 rW hn5 ht et ew hw sm
    obtain ⟨a6, a7, a8, S3, e3, s3⟩ := turn 0 none none none S2 (by simp) ⟨Nat.le_refl _, fun _ _ _ => rfl⟩
    obtain ⟨b6, b7, b8, S4, e4, s4⟩ := turn 1 a6 a7 a8 S3 (by simp) s3
    obtain ⟨c6, c7, c8, S5, e5, s5⟩ := turn 2 b6 b7 b8 S4 (by simp) s4
    obtain ⟨f6, f7, f8, S6, e6, s6⟩ := turn 3 c6 c7 c8 S5 (by simp) s5
    have run : (forGo (.range 0 4) (.one 5) (evSs (evOf qx.Pr w k) (ss b__law_refused_1)) (rngD 0 4) [some (.ref n), some x, some (.int 3), some (.int 1), some (.ref (S.length + 1)), none, none, none, none] S2) = .nx [some (.ref n), some x, some (.int 3), some (.int 1), some (.ref (S.length + 1)), some (.int 3), f6, f7, f8] S6 := by
      have er : rngD 0 4 = [.int 0, .int 1, .int 2, .int 3] := rfl
      rw [er]
      simp only [forGo, still_range, if_true, tgD, List.set_cons_succ, List.set_cons_zero, e3, e4, e5, e6]
    have fin := tidy_pu (n := S.length) (A := A) (S' := S6) (d := .bl true) (p := .bl true) hA (Nat.le_trans sm2.1 s6.1) (.bl .nil)
    obtain ⟨d', T', t1, t2, t3, t4, _, _⟩ := fin
    have body : callI qx.Pr w (k + 1) f__law_refused [.ref n, x, .int 3, .int 1] S = .ok d' T' := by
      rw [fn_eq fn__law_refused rfl rfl, b__law_refused]
      dsimp only
      rw [show startD 9 [D.ref n, x, .int 3, .int 1] = [some (.ref n), some x, some (.int 3), some (.int 1), none, none, none, none, none] from rfl]
      clear ih turn e3 e4 e5 e6 s3 s4 s5 s6 et ew gp gw hs hw hn5 ht rx rx0 rx2 rW r0 e t2 t3 t4 sm2
      subst hS2
      have ln : (S ++ [Ob.lst [D.str "own"]]).length = S.length + 1 := by rw [List.length_append]; rfl
      have t1' : endD S.length (.ret (.bl true) S6) = .ok d' T' := t1
      walk_at "ev"
    have sa : ∀ m, m < S.length → T'[m]? = S[m]? := fun m hm => (t3 m hm).trans ((s6.2 m (Nat.lt_of_lt_of_le hm sm2.1) (by simp)).trans (sm2.2 m hm (by simp)))
    exact ⟨d', T', body, ⟨t2, fun m hm _ => sa m hm⟩, t4, xs, (sa n (hA n hn)).trans e0, r0.sto fun m hm _ => sa m hm, fun z => by cases z⟩
  · have e : refF (k + 1) (.lst qs :: ps) = .bad := by
      unfold refF
      split
      · next q v heq =>
        cases heq
        rw [if_neg fun z => cs ⟨v, rfl, z⟩]
      · rfl
    rw [e]
    trivial
theorem qx_ok (w : Nat) : QOk qx w where
  gv := fun h => gv_qx h
  ext := fun {f F} h k ih => by
    have h2 : (if f = f__law_refused then some refF else none) = some F := h
    split at h2
    · next e => cases h2; subst e; exact ref_ext ih
    · cases h2
  mkS := fun c k _ => fun {A S ds ps p fr} _ _ e => by cases e
def depth : Nat := 15
def turns : Nat := 15
theorem main : ∀ ns : List Int, ns.length ≤ 63 → (∀ i ∈ ns, Builtin.Int.intBits i ≤ 1048576) → ∃ S', callI tx0.P turns depth lawIx [.ref 0] [.frz (ns.map .int)] = .ok (.bl true) S' := fun ns hl _ => law_pu (Q := qx) (qx_ok 15) rfl (law_ok (w := 15) (k := 15) (by omega) hl)
end Py
end
namespace Py
open PySem PySem.Spec PyProof.Rows L2
abbrev lrow : PySem.W.OpenRow := PySem.W.OpenLaw.row PySem.Challenge.rw_alldays_k01_tables_and_their_labels
def fileN : Str := PySem.Challenge.pw_alldays_k01_tables_and_their_labels.main.file
def ob (s : PySem.W.SharedT) : Tx.Al := tx0.obsG fileN 5 (HandSHeadRun.getT s)
theorem ob_eq (s : PySem.W.SharedT) : ob s = (tx0.hook fileN 5).obs s.abs := by
  show tx0.obsG fileN 5 (HandSHeadRun.getT s) = tx0.obsG fileN 5 s.abs.heap.get?
  rw [show HandSHeadRun.getT s = s.abs.heap.get? from funext (HandSHeadRun.getT_eq s)]
theorem run (w : World) : HandSHeadRun.RunEq lrow (PySem.W.view lrow.prog [lawAt]) (tx0.hook fileN 5) ob 4000 looseN w := by
  intro os
  kernel_rfl
theorem tr_eq : tx0.tr = tx0.bodies.map some := by kernel_rfl
theorem st_eq : tx0.stB = true := by kernel_rfl
end Py
open PySem PySem.W PySem.Calls PyProof.Rows
theorem PySem.Challenge.cw_alldays_k01_tables_and_their_labels_holds : PySem.Challenge.rw_alldays_k01_tables_and_their_labels.Holds := by
  w_on; o_law
  refine HandSHeadRun.head_any (r := OpenLaw.row PySem.Challenge.rw_alldays_k01_tables_and_their_labels) (q := view (OpenLaw.row PySem.Challenge.rw_alldays_k01_tables_and_their_labels).prog [Py.lawAt]) (H := Py.tx0.hook Py.fileN 5) (ob := Py.ob) (M := 4000) (loose := Py.looseN) (d := HandSHeadRun.topDef (OpenLaw.row PySem.Challenge.rw_alldays_k01_tables_and_their_labels).prog Py.lawAt) (kwd := []) Py.ob_eq
    (by kernel_rfl) (fun s => by kernel_rfl) Py.run (by kernel_rfl) (by kernel_rfl) (by kernel_rfl) (by rfl) (by first | assumption | decide +kernel) (by decide +kernel) ⟨rfl, rfl, rfl, rfl, rfl, by decide +kernel⟩ ?hw ?hc
  case hw => w_witness2
  case hc => exact Py.law_end (l := PySem.Challenge.rw_alldays_k01_tables_and_their_labels) (x := Py.tx0) (li := Py.lawIx) (k := Py.depth) (fu := Py.turns) rfl (by decide) (by kernel_rfl) ⟨by decide, by decide, by decide⟩ Py.st_eq Py.tr_eq (by kernel_rfl) (by kernel_rfl) (by kernel_rfl) Py.main
