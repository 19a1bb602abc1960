import PyProof.Rows.All
import HandS.ForMost
import HandS.IsInst
import HandS.TupAny
import HandS.Deep
import HandS.Conv
import HandS.Strs
import HandS.Flow
import HandS.Rev
import HandS.Zip
import HandS.More
import KE.SortData
import KE.DataMinMax
import HandS.ExcOwn
import HandS.TryMany
import HandS.WordsExc
import HandS.WordsList
import HandS.SetFor
import HandS.TupSets
import KE.GoesEnum
import HandS.Head0
import HandS.Head1
import HandS.Head2
import HandS.HeadEnd
import HandS.HeadHook1
import HandS.HeadHook2
import Wide.All
import OpenK.AllK
import Wide.FinOn
import KE.KStateDown
import Lean
import HandS.Base
import HandS.Call
import HandS.Ends
import HandS.Words
import HandS.Defaults
import PySem.Challenge.RW_lotsthatlead_k16_judges_and_odd_things_h
set_option Elab.async false
set_option linter.all false
set_option maxRecDepth 100000
/-! Pv, part A: a small language of plain values, and what its terms compute (no machine in sight). -/
namespace Pv
open PySem PySem.Spec PyProof.Rows L2

/-- a value: nothing, a bool, an int, a text, a tuple, a pair in the hand of zip or enumerate, a list, the script's own list, a def of the text, a dict -/
inductive D where
  | non | bl (b : Bool) | int (i : Int) | str (x : Str) | tup (xs : List D) | pr (xs : List D) | lst (xs : List D) | scr (xs : List Int) | fn (g : Nat) | dic (kvs : List (D × D))

mutual
/-- without defs, dicts, the script -/
def D.plain : D → Bool
  | .non => true
  | .bl _ => true
  | .int _ => true
  | .str _ => true
  | .tup xs => D.plains xs
  | .pr _ => false
  | .lst xs => D.plains xs
  | .scr _ => false
  | .fn _ => false
  | .dic _ => false
def D.plains : List D → Bool
  | [] => true
  | d :: ds => d.plain && D.plains ds
end
mutual
def D.py : D → PyData
  | .non => .none
  | .bl b => .bool b
  | .int i => .int i
  | .str x => .str x
  | .tup xs => .tuple (D.pys xs)
  | .pr _ => .none
  | .lst xs => .list (D.pys xs)
  | .scr _ => .none
  | .fn _ => .none
  | .dic _ => .none
def D.pys : List D → List PyData
  | [] => []
  | d :: ds => d.py :: D.pys ds
end

/-- whence a value comes: it stands still; it is a list or dict just made; it is what the i-th name holds and may change -/
inductive Kd where
  | z | f | s (i : Nat)
structure R where
  d : D
  k : Kd
/-- what the names hold; true: a list or dict that only this name holds, which may change -/
abbrev Env := List (Option (D × Bool))
inductive Out (α : Type) where
  | ok (a : α) | exc (n : Nat) | bad
def M (α : Type) := Env → Out α × Env
@[reducible] def M.pure {α : Type} (a : α) : M α := fun ρ => (.ok a, ρ)
@[reducible] def M.bad {α : Type} : M α := fun ρ => (.bad, ρ)
@[reducible] def M.exc {α : Type} (n : Nat) : M α := fun ρ => (.exc n, ρ)
def M.bind {α β : Type} (m : M α) (f : α → M β) : M β := fun ρ =>
  match m ρ with
  | (.ok a, ρ') => f a ρ'
  | (.exc n, ρ') => (.exc n, ρ')
  | (.bad, ρ') => (.bad, ρ')
def ofO {α : Type} : Option α → M α
  | some a => M.pure a
  | none => M.bad

def look (ρ : Env) (r : R) : Option D := match r.k with
  | .s i => match ρ[i]? with
    | some (some (d, _)) => some d
    | _ => none
  | _ => some r.d
def pk (r : R) : M D := fun ρ => match look ρ r with
  | some d => (.ok d, ρ)
  | none => (.bad, ρ)
/-- the i-th name holds its value for good -/
def frzS (i : Nat) (ρ : Env) : Env := match ρ[i]? with
  | some (some (d, _)) => ρ.set i (some (d, false))
  | _ => ρ
def frz (r : R) : M D := fun ρ => match r.k with
  | .s i => match ρ[i]? with
    | some (some (d, _)) => (.ok d, ρ.set i (some (d, false)))
    | _ => (.bad, ρ)
  | _ => (.ok r.d, ρ)
def pks : List R → M (List D)
  | [] => M.pure []
  | r :: rs => M.bind (pk r) fun d => M.bind (pks rs) fun ds => M.pure (d :: ds)
def frzs : List R → M (List D)
  | [] => M.pure []
  | r :: rs => M.bind (frz r) fun d => M.bind (frzs rs) fun ds => M.pure (d :: ds)

/-! ### operations on values -/
def intsOf : List D → Option (List Int)
  | [] => some []
  | .int i :: r => (intsOf r).map (i :: ·)
  | _ :: _ => none
def blsOf : List D → Option (List Bool)
  | [] => some []
  | .bl b :: r => (blsOf r).map (b :: ·)
  | _ :: _ => none
def D.items : D → Option (List D)
  | .tup xs => some xs
  | .lst xs => some xs
  | .scr xs => some (xs.map D.int)
  | _ => none
def okEq (a b : D) : Bool := a.plain && b.plain && SeqAt.shaped a.py && SeqAt.shaped b.py
def eqD (a b : D) : Bool := PyData.eqv a.py b.py
def zR (d : D) : Option R := some ⟨d, .z⟩
def small64 (i : Int) : Bool := decide (-(2 ^ 64) < i) && decide (i < 2 ^ 64)
inductive O2 where
  | add | sub | mul | fdiv | mod | pow | shl | shr | band | bor | bxor
  | eq | ne | lt | le | gt | ge | «in» | notin
  deriving DecidableEq
def dicGet (k : D) : List (D × D) → Option D
  | [] => none
  | (a, v) :: r => if eqD a k then some v else dicGet k r
/-- keys that are ints -/
def keyI : D → Option Int
  | .int i => some i
  | _ => none
def O2.run (o : O2) (x y : D) : Option R := match o with
  | .add => match x, y with
    | .int i, .int j => zR (.int (i + j))
    | .lst a, .lst b => if a.length + b.length ≤ sizeLine then some ⟨.lst (a ++ b), .f⟩ else none
    | .tup a, .tup b => if a.length + b.length ≤ sizeLine then zR (.tup (a ++ b)) else none
    | .str a, .str b => if a.length + b.length ≤ sizeLine then zR (.str (a ++ b)) else none
    | _, _ => none
  | .sub => match x, y with
    | .int i, .int j => zR (.int (i - j))
    | _, _ => none
  | .mul => match x, y with
    | .int i, .int j => if small64 i || small64 j then zR (.int (i * j)) else none
    | .lst a, .int k => if -(2 ^ 63) ≤ k ∧ k < 2 ^ 63 ∧ a.length * k.toNat ≤ sizeLine then some ⟨.lst (List.replicate k.toNat a).flatten, .f⟩ else none
    | _, _ => none
  | .fdiv => match x, y with
    | .int i, .int j => if 0 < j ∧ j < 1073741824 then zR (.int (i / j)) else none
    | _, _ => none
  | .mod => match x, y with
    | .int i, .int j => if 0 < j then zR (.int (i % j)) else none
    | _, _ => none
  | .pow => match x, y with
    | .int i, .int j => if 0 ≤ j ∧ j ≤ 1000000 ∧ i.natAbs < 2 ^ 64 then zR (.int (i ^ j.toNat)) else none
    | _, _ => none
  | .shl => match x, y with
    | .int i, .int j => if 0 ≤ j ∧ j ≤ 1000000 ∧ i.natAbs < 2 ^ 64 then zR (.int (i * 2 ^ j.toNat)) else none
    | _, _ => none
  | .shr => match x, y with
    | .int i, .int j => if 0 ≤ j then zR (.int (i / 2 ^ j.toNat)) else none
    | _, _ => none
  | .band => match x, y with
    | .int i, .int j => zR (.int (Builtin.bitAnd i j))
    | _, _ => none
  | .bor => match x, y with
    | .int i, .int j => zR (.int (Builtin.bitOr i j))
    | _, _ => none
  | .bxor => match x, y with
    | .int i, .int j => zR (.int (Builtin.bitXor i j))
    | _, _ => none
  | .eq => if okEq x y then zR (.bl (eqD x y)) else none
  | .ne => if okEq x y then zR (.bl (!eqD x y)) else none
  | .lt => match x, y with
    | .int i, .int j => zR (.bl (decide (i < j)))
    | .tup a, .tup b => match intsOf a, intsOf b with
      | some m, some n => zR (.bl (HT.lexLt m n))
      | _, _ => none
    | _, _ => none
  | .le => match x, y with
    | .int i, .int j => zR (.bl (decide (i ≤ j)))
    | _, _ => none
  | .gt => match x, y with
    | .int i, .int j => zR (.bl (decide (j < i)))
    | _, _ => none
  | .ge => match x, y with
    | .int i, .int j => zR (.bl (decide (j ≤ i)))
    | _, _ => none
  | .in => match y with
    | .tup a => if okEq x (.tup a) then zR (.bl (a.any fun z => eqD z x)) else none
    | .lst a => if okEq x (.lst a) then zR (.bl (a.any fun z => eqD z x)) else none
    | .dic kvs => (keyI x).bind fun _ => zR (.bl (dicGet x kvs).isSome)
    | _ => none
  | .notin => match y with
    | .tup a => if okEq x (.tup a) then zR (.bl (!a.any fun z => eqD z x)) else none
    | .lst a => if okEq x (.lst a) then zR (.bl (!a.any fun z => eqD z x)) else none
    | .dic kvs => (keyI x).bind fun _ => zR (.bl (!(dicGet x kvs).isSome))
    | _ => none
/-- built-in functions by their values -/
inductive B where
  | len | all | any | abs | int | tuple | list | sum | max1 | min1 | max2 | min2 | sorted
  deriving DecidableEq
def insI (x : Int) : List Int → List Int
  | [] => [x]
  | y :: r => if x < y then x :: y :: r else if x = y then y :: r else y :: insI x r
/-- the ints of a list, ascending, none twice -/
def setI : List Int → List Int
  | [] => []
  | x :: r => insI x (setI r)
/-- may be sorted: alike at each place, tuples with items or no tuples -/
def sortable (xs : List D) : Bool :=
  D.plains xs && xs.all (fun a => xs.all fun b => W.alike a.py b.py) && xs.all (fun a => decide (a.py.depth ≤ 60)) &&
  (xs.all (fun a => match a with | .tup (_ :: _) => true | _ => false) || xs.all (fun a => match a with | .tup _ => false | .non => false | _ => true))
def insD (x : D) : List D → List D
  | [] => [x]
  | y :: r => if W.dataLe false D.py x y then x :: y :: r else y :: insD x r
/-- sorted by the values' own order -/
def sortD : List D → List D
  | [] => []
  | x :: r => insD x (sortD r)
theorem insD_mid (x : D) (l₁ l₂ : List D) (h1 : ∀ b, b ∈ l₁ → (!W.dataLe false D.py x b) = true) (h2 : ∀ b, b ∈ l₂ → W.dataLe false D.py x b = true) : insD x (l₁ ++ l₂) = l₁ ++ x :: l₂ := by
  induction l₁ with
  | nil =>
    cases l₂ with
    | nil => rfl
    | cons y r => show (if W.dataLe false D.py x y then _ else _) = _; rw [if_pos (h2 y (.head _))]; rfl
  | cons y r ih =>
    have q := h1 y (.head _)
    show (if W.dataLe false D.py x y then _ else _) = _
    rw [if_neg (by intro e; rw [e] at q; cases q)]
    exact congrArg (y :: ·) (ih fun b hb => h1 b (.tail _ hb))
theorem sortD_eq (xs : List D) : sortD xs = xs.mergeSort fun a b => W.dataLe false D.py a b := by
  have T : W.TotalLe (W.dataLe false D.py) := W.sortLe_total _ _ _
  induction xs with
  | nil => rw [List.mergeSort_nil]; rfl
  | cons x r ih =>
    have tr : ∀ a b c : D, W.dataLe false D.py a b = true → W.dataLe false D.py b c = true → W.dataLe false D.py a c = true := T.trans
    have to : ∀ a b : D, (W.dataLe false D.py a b || W.dataLe false D.py b a) = true := fun a b => by rcases T.total a b with e | e <;> rw [e] <;> simp
    obtain ⟨l₁, l₂, e1, e2, h⟩ := List.mergeSort_cons (le := fun a b => W.dataLe false D.py a b) tr to x r
    show insD x (sortD r) = _
    rw [ih, e1, e2]
    have pw := List.pairwise_mergeSort (le := fun a b => W.dataLe false D.py a b) tr to (x :: r)
    rw [e1] at pw
    have p2 := (List.pairwise_append.mp pw).2.1
    exact insD_mid x l₁ l₂ h fun b hb => (List.pairwise_cons.mp p2).1 b hb
def bLen : List D → Option R
  | [.tup a] => zR (.int a.length)
  | [.lst a] => zR (.int a.length)
  | [.scr a] => zR (.int a.length)
  | [.dic a] => zR (.int a.length)
  | [.str a] => if a.length ≤ sizeLine then zR (.int a.length) else none
  | _ => none
def bAll : List D → Option R
  | [.lst a] => (blsOf a).bind fun bs => zR (.bl (bs.all id))
  | _ => none
def bAny : List D → Option R
  | [.lst a] => (blsOf a).bind fun bs => zR (.bl (bs.any id))
  | _ => none
def bAbs : List D → Option R
  | [.int i] => zR (.int (if i < 0 then -i else i))
  | _ => none
def bInt : List D → Option R
  | [.int i] => zR (.int i)
  | [.bl b] => zR (.int (if b then 1 else 0))
  | _ => none
def bTuple : List D → Option R
  | [.lst a] => zR (.tup a)
  | [.tup a] => zR (.tup a)
  | _ => none
def bList : List D → Option R
  | [.lst a] => some ⟨.lst a, .f⟩
  | [.tup a] => some ⟨.lst a, .f⟩
  | [.scr a] => some ⟨.lst (a.map D.int), .f⟩
  | _ => none
def bSum : List D → Option R
  | [.lst a] => (intsOf a).bind fun ns => zR (.int ns.sum)
  | _ => none
def bMax1 : List D → Option R
  | [.lst a] => match intsOf a with
    | some (n :: ns) => zR (.int (ns.foldl max n))
    | _ => none
  | _ => none
def bMin1 : List D → Option R
  | [.lst a] => match intsOf a with
    | some (n :: ns) => zR (.int (ns.foldl min n))
    | _ => none
  | _ => none
def bMax2 : List D → Option R
  | [.int i, .int j] => zR (.int (if j > i then j else i))
  | _ => none
def bMin2 : List D → Option R
  | [.int i, .int j] => zR (.int (if j < i then j else i))
  | _ => none
def bSorted : List D → Option R
  | [.lst a] => if sortable a then some ⟨.lst (sortD a), .f⟩ else none
  | [.tup a] => if sortable a then some ⟨.lst (sortD a), .f⟩ else none
  | _ => none
def D.seq : D → Option (List D)
  | .tup xs => some xs
  | .lst xs => some xs
  | _ => none
def bLenset : List D → Option R
  | [x] => (x.seq.bind intsOf).bind fun ns => if ns.length < 4000 then zR (.int (setI ns).length) else none
  | _ => none
def bSortedset : List D → Option R
  | [x] => (x.seq.bind intsOf).bind fun ns => if ns.length < 64 then some ⟨.lst ((setI ns).map D.int), .f⟩ else none
  | _ => none
def B.run (b : B) (xs : List D) : Option R := match b with
  | .len => bLen xs
  | .all => bAll xs
  | .any => bAny xs
  | .abs => bAbs xs
  | .int => bInt xs
  | .tuple => bTuple xs
  | .list => bList xs
  | .sum => bSum xs
  | .max1 => bMax1 xs
  | .min1 => bMin1 xs
  | .max2 => bMax2 xs
  | .min2 => bMin2 xs
  | .sorted => bSorted xs
/-- tuples of ints -/
def tupsOf : List D → Option (List (List Int))
  | [] => some []
  | .tup a :: r => match intsOf a, tupsOf r with
    | some m, some ms => some (m :: ms)
    | _, _ => none
  | _ :: _ => none
def insTs (x : List Int) : List (List Int) → List (List Int)
  | [] => [x]
  | y :: r => if HT.lexLt x y then x :: y :: r else if x = y then y :: r else y :: insTs x r
/-- the rows of ints, ascending, none twice -/
def setTs : List (List Int) → List (List Int)
  | [] => []
  | x :: r => insTs x (setTs r)
def setOk (ts : List (List Int)) : Bool := decide (ts.length < 64) && (match ts with
  | [] => true
  | t :: _ => decide (1 ≤ t.length) && ts.all fun u => decide (u.length = t.length)) && ts.all fun u => u.all fun n => decide (0 ≤ n) && decide (n < 2 ^ 62)
/-- sorted(set(x)) -/
def bSset (x : D) : Option R := match bSortedset [x] with
  | some r => some r
  | none => (x.seq.bind tupsOf).bind fun ts => if setOk ts then some ⟨.lst ((setTs ts).map fun t => D.tup (t.map D.int)), .f⟩ else none
/-- x[i] -/
def ixD (x i : D) : Option R := match x, i with
  | .tup a, .int j => (atI a j).bind zR
  | .lst a, .int j => (atI a j).bind zR
  | .scr a, .int j => (atI a j).bind fun n => zR (.int n)
  | .dic kvs, .int j => (dicGet (.int j) kvs).bind zR
  | _, _ => none
def cutD {α : Type} (xs : List α) (lo hi : Option Int) : List α := (xs.drop (HT.sIx xs.length 0 lo)).take (HT.sIx xs.length xs.length hi - HT.sIx xs.length 0 lo)
/-- x[lo:hi] -/
def slD (x : D) (lo hi : Option Int) : Option R := match x with
  | .tup a => zR (.tup (cutD a lo hi))
  | .lst a => some ⟨.lst (cutD a lo hi), .f⟩
  | .scr a => some ⟨.lst (cutD (a.map D.int) lo hi), .f⟩
  | _ => none
def zipOf : D → D → Option Unit
  | .lst _, .lst _ => some ()
  | .tup _, .tup _ => some ()
  | _, _ => none
/-- x.index(y) -/
def idxD (x y : D) : Option R := match x with
  | .lst a => if okEq y (.lst a) then (a.findIdx? fun z => eqD z y).bind fun j => zR (.int (j : Int)) else none
  | .tup a => if okEq y (.tup a) then (a.findIdx? fun z => eqD z y).bind fun j => zR (.int (j : Int)) else none
  | _ => none
/-- isinstance -/
def tyD : D → Option String
  | .non => some "NoneType"
  | .bl _ => some "bool"
  | .int _ => some "int"
  | .str _ => some "str"
  | .tup _ => some "tuple"
  | .pr _ => none
  | .lst _ => some "list"
  | .scr _ => none
  | .fn _ => none
  | .dic _ => some "dict"
def isiD (x : D) (ts : List String) : Option Bool := (tyD x).map fun t => ts.any fun u => t == u || (t == "bool" && u == "int")
/-- the ints of range -/
def rngI (lo hi : Int) : List Int := (List.range (hi - lo).toNat).map fun (k : Nat) => lo + (k : Int)
def rngOk (lo hi : Int) : Bool := decide (-(2 ^ 62) ≤ lo) && decide (lo < 2 ^ 62) && decide (-(2 ^ 62) ≤ hi) && decide (hi < 2 ^ 62) && decide ((hi - lo).toNat ≤ sizeLine)
def rngD : List D → Option (List D)
  | [.int j] => if rngOk 0 j then some ((rngI 0 j).map D.int) else none
  | [.int i, .int j] => if rngOk i j then some ((rngI i j).map D.int) else none
  | _ => none
def truD : D → Option Bool
  | .bl b => some b
  | .int i => some (i != 0)
  | .non => some false
  | .lst a => some (!a.isEmpty)
  | .tup a => some (!a.isEmpty)
  | _ => none

/-! ### calls -/
abbrev Fn := List D → Out (D × Bool) × D
/-- call a def: io: its first parameter is a list of the caller's that it may change -/
def callF (io : Bool) (φ : Fn) (rs : List R) : M R :=
  if io then match rs with
    | ⟨_, .s i⟩ :: rest => M.bind (frzs rest) fun ds => fun ρ => match ρ[i]? with
      | some (some (c, true)) => match φ (c :: ds) with
        | (.ok (d, fr), c') => (.ok ⟨d, if fr then .f else .z⟩, ρ.set i (some (c', true)))
        | (.exc n, c') => (.exc n, ρ.set i (some (c', true)))
        | (.bad, _) => (.bad, ρ)
      | _ => (.bad, ρ)
    | _ => M.bad
  else M.bind (frzs rs) fun ds => fun ρ => match (φ ds).1 with
    | .ok (d, fr) => (.ok ⟨d, if fr then .f else .z⟩, ρ)
    | .exc n => (.exc n, ρ)
    | .bad => (.bad, ρ)
end Pv

set_option Elab.async false
set_option linter.all false
set_option maxRecDepth 100000
set_option autoImplicit false
set_option maxHeartbeats 2000000
/-! Pv, part B: how plain values stand in the heap; states. -/
namespace Pv
open PySem PySem.Spec PyProof.Rows L2
/-- a tuple that has no dict -/
def TupF (F : Hp) (a : Addr) (vs : List V) : Prop := ∃ o : Obj, F a = some (.frz o (.tup vs)) ∧ o.dict = none
theorem TupF.mono {F F' : Hp} {a : Addr} {vs : List V} (s : Same F F') : TupF F a vs → TupF F' a vs := fun ⟨o, h, d⟩ => ⟨o, s _ _ h, d⟩
theorem TupF.sq {K : PySem.W.Frag} {F H : Hp} {a : Addr} {vs : List V} (s : Same F H) : TupF F a vs → SqT K H a vs := fun ⟨o, h, _⟩ => .inl (.inr ⟨o, s _ _ h⟩)
section
variable (K : PySem.W.Frag) (nm : Nat → Option Addr)
mutual
inductive Rep (F : Hp) : V → D → Prop
  | non : Rep F .non .non
  | bl (b : Bool) : Rep F (.bl b) (.bl b)
  | int (i : Int) : Rep F (.int i) (.int i)
  | str (x : Str) : Rep F (.str x) (.str x)
  | tup {a : Addr} {vs : List V} {xs : List D} : TupF F a vs → vs.length ≤ sizeLine → Reps F vs xs → Rep F (.ref a) (.tup xs)
  | pr {a : Addr} {vs : List V} {xs : List D} : F a = some (.tup vs) → Reps F vs xs → Rep F (.ref a) (.pr xs)
  | lst {a : Addr} {vs : List V} {xs : List D} : F a = some (.lst vs) → vs.length ≤ sizeLine → Reps F vs xs → Rep F (.ref a) (.lst xs)
  | scr {a : Addr} {ns : List Int} : SqL K F a (ns.map V.int) → ns.length ≤ sizeLine → Rep F (.ref a) (.scr ns)
  | fn {g : Nat} {a : Addr} : nm g = some a → Rep F (.ref a) (.fn g)
  | dic {a : Addr} {kvs : List (Key × V)} {ds : List (D × D)} : F a = some (.dK kvs) → kvs.length ≤ sizeLine → KReps F kvs ds → Rep F (.ref a) (.dic ds)
inductive Reps (F : Hp) : List V → List D → Prop
  | nil : Reps F [] []
  | cons {v : V} {d : D} {vs : List V} {ds : List D} : Rep F v d → Reps F vs ds → Reps F (v :: vs) (d :: ds)
inductive KReps (F : Hp) : List (Key × V) → List (D × D) → Prop
  | nil : KReps F [] []
  | cons {i : Int} {v : V} {d : D} {kvs : List (Key × V)} {ds : List (D × D)} : Rep F v d → KReps F kvs ds → KReps F ((.inl i, v) :: kvs) ((.int i, d) :: ds)
end
def HRep (F : Hp) (o : Option HO) (d : D) : Prop := match d with
  | .lst xs => ∃ vs, o = some (.lst vs) ∧ vs.length ≤ sizeLine ∧ Reps K nm F vs xs
  | .dic ds => ∃ kvs, o = some (.dK kvs) ∧ kvs.length ≤ sizeLine ∧ KReps K nm F kvs ds
  | _ => False
end
section
variable {K : PySem.W.Frag} {nm : Nat → Option Addr} {F F' : Hp}
mutual
theorem Rep.mono (s : Same F F') : ∀ {v : V} {d : D}, Rep K nm F v d → Rep K nm F' v d
  | _, _, .non => .non
  | _, _, .bl b => .bl b
  | _, _, .int i => .int i
  | _, _, .str x => .str x
  | _, _, .tup h l r => .tup (h.mono s) l (Reps.mono s r)
  | _, _, .pr h r => .pr (s _ _ h) (Reps.mono s r)
  | _, _, .lst h l r => .lst (s _ _ h) l (Reps.mono s r)
  | _, _, .scr h l => .scr (s.seq h) l
  | _, _, .fn h => .fn h
  | _, _, .dic h l r => .dic (s _ _ h) l (KReps.mono s r)
theorem Reps.mono (s : Same F F') : ∀ {vs : List V} {ds : List D}, Reps K nm F vs ds → Reps K nm F' vs ds
  | _, _, .nil => .nil
  | _, _, .cons h r => .cons (Rep.mono s h) (Reps.mono s r)
theorem KReps.mono (s : Same F F') : ∀ {kvs : List (Key × V)} {ds : List (D × D)}, KReps K nm F kvs ds → KReps K nm F' kvs ds
  | _, _, .nil => .nil
  | _, _, .cons h r => .cons (Rep.mono s h) (KReps.mono s r)
end
theorem HRep.mono (s : Same F F') {o : Option HO} {d : D} (h : HRep K nm F o d) : HRep K nm F' o d := by
  cases d with
  | lst xs => obtain ⟨vs, e, l, r⟩ := h; exact ⟨vs, e, l, r.mono s⟩
  | dic ds => obtain ⟨vs, e, l, r⟩ := h; exact ⟨vs, e, l, r.mono s⟩
  | _ => exact h.elim
theorem HRep.obj {o : Option HO} {d : D} (h : HRep K nm F o d) : ∃ u, o = some u := by
  cases d with
  | lst xs => obtain ⟨vs, e, l, r⟩ := h; exact ⟨_, e⟩
  | dic ds => obtain ⟨vs, e, l, r⟩ := h; exact ⟨_, e⟩
  | _ => exact h.elim
theorem Reps.length {vs : List V} {ds : List D} : Reps K nm F vs ds → vs.length = ds.length := by
  intro h
  induction ds generalizing vs with
  | nil => cases h; rfl
  | cons d ds ih => cases h with | cons h r => rw [List.length_cons, List.length_cons, ih r]
theorem Reps.append {vs ws : List V} {ds es : List D} (h : Reps K nm F vs ds) (g : Reps K nm F ws es) : Reps K nm F (vs ++ ws) (ds ++ es) := by
  induction ds generalizing vs with
  | nil => cases h; exact g
  | cons d ds ih => cases h with | cons h r => exact .cons h (ih r)
theorem Reps.get {vs : List V} {ds : List D} (h : Reps K nm F vs ds) {i : Nat} {v : V} {d : D} (e : vs[i]? = some v) (e' : ds[i]? = some d) : Rep K nm F v d := by
  induction ds generalizing vs i with
  | nil => simp at e'
  | cons d' ds ih =>
    cases h with
    | cons h r =>
      cases i with
      | zero => simp at e e'; rw [← e, ← e']; exact h
      | succ i => simp at e e'; exact ih r e e'
theorem Reps.at_ {vs : List V} {ds : List D} (h : Reps K nm F vs ds) {i : Nat} {d : D} (e' : ds[i]? = some d) : ∃ v, vs[i]? = some v ∧ Rep K nm F v d := by
  have hi : i < vs.length := by rw [h.length]; exact (List.getElem?_eq_some_iff.mp e').1
  exact ⟨vs[i], by simp [hi], h.get (by simp [hi]) e'⟩
theorem Reps.take {vs : List V} {ds : List D} (h : Reps K nm F vs ds) (n : Nat) : Reps K nm F (vs.take n) (ds.take n) := by
  induction ds generalizing vs n with
  | nil => cases h; simp; exact .nil
  | cons d ds ih =>
    cases h with
    | cons h r =>
      cases n with
      | zero => simp; exact .nil
      | succ n => exact .cons h (ih r n)
theorem Reps.drop {vs : List V} {ds : List D} (h : Reps K nm F vs ds) (n : Nat) : Reps K nm F (vs.drop n) (ds.drop n) := by
  induction ds generalizing vs n with
  | nil => cases h; simp; exact .nil
  | cons d ds ih =>
    cases h with
    | cons h r =>
      cases n with
      | zero => exact .cons h r
      | succ n => exact ih r n
theorem Reps.set {vs : List V} {ds : List D} (h : Reps K nm F vs ds) (n : Nat) {v : V} {d : D} (g : Rep K nm F v d) : Reps K nm F (vs.set n v) (ds.set n d) := by
  induction ds generalizing vs n with
  | nil => cases h; exact .nil
  | cons d ds ih =>
    cases h with
    | cons h r =>
      cases n with
      | zero => exact .cons g r
      | succ n => exact .cons h (ih r n)
theorem Reps.eraseIdx {vs : List V} {ds : List D} (h : Reps K nm F vs ds) (n : Nat) : Reps K nm F (vs.eraseIdx n) (ds.eraseIdx n) := by
  induction ds generalizing vs n with
  | nil => cases h; exact .nil
  | cons d ds ih =>
    cases h with
    | cons h r =>
      cases n with
      | zero => exact r
      | succ n => exact .cons h (ih r n)
theorem Reps.dropLast {vs : List V} {ds : List D} (h : Reps K nm F vs ds) : Reps K nm F vs.dropLast ds.dropLast := by
  rw [List.dropLast_eq_take, List.dropLast_eq_take, ← h.length]; exact h.take _
theorem Reps.reverse {vs : List V} {ds : List D} (h : Reps K nm F vs ds) : Reps K nm F vs.reverse ds.reverse := by
  induction ds generalizing vs with
  | nil => cases h; exact .nil
  | cons d ds ih =>
    cases h with
    | cons h r => rw [List.reverse_cons, List.reverse_cons]; exact (ih r).append (.cons h .nil)
theorem Reps.rep {vs : List V} {ds : List D} (h : Reps K nm F vs ds) : ∀ n : Nat, Reps K nm F (List.replicate n vs).flatten (List.replicate n ds).flatten
  | 0 => .nil
  | n + 1 => by
    rw [List.replicate_succ, List.replicate_succ, List.flatten_cons, List.flatten_cons]
    exact h.append (Reps.rep h n)
theorem Reps.ints {vs : List V} {ds : List D} {ns : List Int} (h : Reps K nm F vs ds) (e : intsOf ds = some ns) : vs = ns.map V.int := by
  induction ds generalizing vs ns with
  | nil => cases h; simp [intsOf] at e; subst e; rfl
  | cons d ds ih =>
    cases h with
    | cons h r =>
      cases h <;> simp [intsOf] at e
      obtain ⟨m, e1, e2⟩ := e
      subst e2
      rw [ih r e1]; rfl
theorem Reps.bls {vs : List V} {ds : List D} {ns : List Bool} (h : Reps K nm F vs ds) (e : blsOf ds = some ns) : vs = ns.map V.bl := by
  induction ds generalizing vs ns with
  | nil => cases h; simp [blsOf] at e; subst e; rfl
  | cons d ds ih =>
    cases h with
    | cons h r =>
      cases h <;> simp [blsOf] at e
      obtain ⟨m, e1, e2⟩ := e
      subst e2
      rw [ih r e1]; rfl
theorem Reps.ofInts (ns : List Int) : Reps K nm F (ns.map V.int) (ns.map D.int) := by
  induction ns with
  | nil => exact .nil
  | cons n ns ih => exact .cons (.int n) ih
theorem intsOf_map (ns : List Int) : intsOf (ns.map D.int) = some ns := by
  induction ns with
  | nil => rfl
  | cons n ns ih => simp [intsOf, ih]
mutual
theorem Rep.dp {v : V} {d : D} (s : Same F F') : d.plain = true → Rep K nm F v d → Dp K F' v d.py
  | _, .non => .non
  | _, .bl b => .bl b
  | _, .int i => .int i
  | _, .str x => .str x
  | p, .pr h r => by simp [D.plain] at p
  | p, .tup h l r => .tup (h.sq s) (Reps.dp s (by simpa [D.plain] using p) r)
  | p, .lst h l r => .lst (.of (s _ _ h)) (Reps.dp s (by simpa [D.plain] using p) r)
  | p, .scr h l => by simp [D.plain] at p
  | p, .fn h => by simp [D.plain] at p
  | p, .dic h l r => by simp [D.plain] at p
theorem Reps.dp {vs : List V} {ds : List D} (s : Same F F') : D.plains ds = true → Reps K nm F vs ds → DpAll K F' vs (D.pys ds)
  | _, .nil => .nil
  | p, .cons h r => .cons (Rep.dp s (by simp [D.plains] at p; exact p.1) h) (Reps.dp s (by simp [D.plains] at p; exact p.2) r)
end
end
section
variable (K : PySem.W.Frag) (nm : Nat → Option Addr)
/-- a list or dict at a, that only one knows -/
def Own (F G H : Hp) (a : Addr) (d : D) : Prop := F a = none ∧ G a = none ∧ HRep K nm F (H a) d
/-- the names' values ρ stand in the slots σ over H; F: what stands for good; F0 what did at the start; G: what others hold -/
structure SR (F0 G F : Hp) (ρ : Env) (σ : L2.St) (H : Hp) : Prop where
  len : ρ.length = σ.length
  fh : Same F H
  gh : Same G H
  ff : Same F0 F
  new : ∀ b o, F b = some o → (∃ u, F0 b = some u) ∨ G b = none
  fz : ∀ (i : Nat) (d : D), ρ[i]? = some (some (d, false)) → ∃ v, σ[i]? = some (some v) ∧ Rep K nm F v d
  mu : ∀ (i : Nat) (d : D), ρ[i]? = some (some (d, true)) → ∃ a, σ[i]? = some (some (.ref a)) ∧ Own K nm F G H a d
  ap : ∀ (i j : Nat) (d e : D) (a : Addr), ρ[i]? = some (some (d, true)) → ρ[j]? = some (some (e, true)) → σ[i]? = some (some (.ref a)) → σ[j]? = some (some (.ref a)) → i = j
/-- no name that may change holds a -/
def Apart (ρ : Env) (σ : L2.St) (a : Addr) : Prop := ∀ (i : Nat) (d : D), ρ[i]? = some (some (d, true)) → σ[i]? ≠ some (some (V.ref a))
def RR (F G H : Hp) (ρ : Env) (σ : L2.St) (r : R) (v : V) : Prop := match r.k with
  | .z => Rep K nm F v r.d
  | .f => ∃ a, v = .ref a ∧ Own K nm F G H a r.d ∧ Apart ρ σ a
  | .s i => σ[i]? = some (some v)
/-- the same, where what was just made may stand for good meanwhile -/
def WR (F G H : Hp) (ρ : Env) (σ : L2.St) (r : R) (v : V) : Prop := match r.k with
  | .z => Rep K nm F v r.d
  | .f => Rep K nm F v r.d ∨ ∃ a, v = .ref a ∧ G a = none ∧ HRep K nm F (H a) r.d ∧ Apart ρ σ a
  | .s i => σ[i]? = some (some v)
/-- to be read: v is d -/
def Lk (F H : Hp) (v : V) (d : D) : Prop := Rep K nm F v d ∨ ∃ a, v = .ref a ∧ HRep K nm F (H a) d
end
section
variable {K : PySem.W.Frag} {nm : Nat → Option Addr} {F0 G F F' H H' : Hp} {ρ : Env} {σ : L2.St} {r : R} {v : V} {d : D}
theorem RR.wr (h : RR K nm F G H ρ σ r v) : WR K nm F G H ρ σ r v := by
  obtain ⟨d, k⟩ := r
  cases k with
  | z => exact h
  | f => obtain ⟨a, e, ⟨_, g, q⟩, p⟩ := h; exact .inr ⟨a, e, g, q, p⟩
  | s i => exact h
/-- what a look tells -/
theorem WR.lk (S : SR K nm F0 G F ρ σ H) (h : WR K nm F G H ρ σ r v) (e : look ρ r = some d) : Lk K nm F H v d := by
  obtain ⟨rd, k⟩ := r
  cases k with
  | z => simp [look] at e; subst e; exact .inl h
  | f =>
    simp [look] at e; subst e
    rcases h with h | ⟨a, e, g, q, p⟩
    · exact .inl h
    · exact .inr ⟨a, e, q⟩
  | s i =>
    simp only [look] at e
    split at e
    · rename_i d' b q
      cases e
      have h : σ[i]? = some (some v) := h
      cases b with
      | false =>
        obtain ⟨v', e', r'⟩ := S.fz i d q
        rw [h] at e'; cases e'
        exact .inl r'
      | true =>
        obtain ⟨a, e', o⟩ := S.mu i d q
        rw [h] at e'; cases e'
        exact .inr ⟨a, rfl, o.2.2⟩
    · cases e
theorem Lk.lst (S : Same F H) {xs : List D} (h : Lk K nm F H v (.lst xs)) : ∃ a vs, v = .ref a ∧ H a = some (.lst vs) ∧ vs.length ≤ sizeLine ∧ Reps K nm F vs xs := by
  rcases h with h | ⟨a, e, vs, q, l, r⟩
  · cases h with | lst h l r => exact ⟨_, _, rfl, S _ _ h, l, r⟩
  · exact ⟨a, vs, e, q, l, r⟩
theorem Lk.tup (S : Same F H) {xs : List D} (h : Lk K nm F H v (.tup xs)) : ∃ a vs, v = .ref a ∧ TupF F a vs ∧ vs.length ≤ sizeLine ∧ Reps K nm F vs xs := by
  rcases h with h | ⟨a, e, q⟩
  · cases h with | tup h l r => exact ⟨_, _, rfl, h, l, r⟩
  · exact q.elim
theorem Lk.dic (S : Same F H) {xs : List (D × D)} (h : Lk K nm F H v (.dic xs)) : ∃ a kvs, v = .ref a ∧ H a = some (.dK kvs) ∧ kvs.length ≤ sizeLine ∧ KReps K nm F kvs xs := by
  rcases h with h | ⟨a, e, vs, q, l, r⟩
  · cases h with | dic h l r => exact ⟨_, _, rfl, S _ _ h, l, r⟩
  · exact ⟨a, vs, e, q, l, r⟩
theorem Lk.scr (S : Same F H) {xs : List Int} (h : Lk K nm F H v (.scr xs)) : ∃ a, v = .ref a ∧ SqL K H a (xs.map V.int) ∧ xs.length ≤ sizeLine := by
  rcases h with h | ⟨a, e, q⟩
  · cases h with | scr h l => exact ⟨_, rfl, S.seq h, l⟩
  · exact q.elim
theorem Lk.int {i : Int} (h : Lk K nm F H v (.int i)) : v = .int i := by
  rcases h with h | ⟨a, e, q⟩
  · cases h; rfl
  · exact q.elim
theorem Lk.bl {i : Bool} (h : Lk K nm F H v (.bl i)) : v = .bl i := by
  rcases h with h | ⟨a, e, q⟩
  · cases h; rfl
  · exact q.elim
theorem Lk.str {i : Str} (h : Lk K nm F H v (.str i)) : v = .str i := by
  rcases h with h | ⟨a, e, q⟩
  · cases h; rfl
  · exact q.elim
theorem Lk.non (h : Lk K nm F H v .non) : v = .non := by
  rcases h with h | ⟨a, e, q⟩
  · cases h; rfl
  · exact q.elim
theorem Lk.dp (S : Same F H) (p : d.plain = true) (h : Lk K nm F H v d) : Dp K H v d.py := by
  rcases h with h | ⟨a, e, q⟩
  · exact h.dp S p
  · subst e
    cases d with
    | lst xs =>
      obtain ⟨vs, e, l, r⟩ := q
      exact .lst (.of e) (r.dp S (by simpa [D.plain] using p))
    | dic ds => simp [D.plain] at p
    | _ => exact q.elim
/-- a part of F that others hold is theirs -/
theorem upd_same_old {a : Addr} {o : HO} (h : ∀ u, F a = some u → u = o) : Same F (upd F a o) := fun b u e => by
  by_cases hb : b = a
  · subst hb; rw [upd_same, h u e]
  · rw [upd_ne hb]; exact e
theorem same_new {a : Addr} {o : HO} (h : F a = none) : Same F (upd F a o) := upd_same_old fun u e => by rw [h] at e; cases e
/-- a new object, that stands for good (a tuple) -/
theorem SR.alloc (S : SR K nm F0 G F ρ σ H) {a : Addr} (n : H a = none) (o : HO) : SR K nm F0 G (upd F a o) ρ σ (upd H a o) := by
  have fn : F a = none := by
    cases e : F a with
    | none => rfl
    | some u => rw [S.fh a u e] at n; cases n
  have gn : G a = none := by
    cases e : G a with
    | none => rfl
    | some u => rw [S.gh a u e] at n; cases n
  have sF : Same F (upd F a o) := same_new fn
  have sH : Same H (upd H a o) := same_new n
  refine ⟨S.len, fun b u e => ?_, fun b u e => sH b u (S.gh b u e), fun b u e => sF b u (S.ff b u e), fun b u e => ?_, fun i d e => ?_, fun i d e => ?_, S.ap⟩
  · by_cases hb : b = a
    · subst hb; rw [upd_same] at e ⊢; exact e
    · rw [upd_ne hb] at e ⊢; exact S.fh b u e
  · by_cases hb : b = a
    · subst hb; exact .inr gn
    · rw [upd_ne hb] at e; exact S.new b u e
  · obtain ⟨v, e1, r⟩ := S.fz i d e; exact ⟨v, e1, r.mono sF⟩
  · obtain ⟨b, e1, f1, g1, h1⟩ := S.mu i d e
    have hb : b ≠ a := by
      rintro rfl
      obtain ⟨u, q⟩ := h1.obj
      rw [n] at q; cases q
    exact ⟨b, e1, by rw [upd_ne hb]; exact f1, g1, by rw [upd_ne hb]; exact h1.mono sF⟩
/-- a new object, not yet for good -/
theorem SR.fresh (S : SR K nm F0 G F ρ σ H) {a : Addr} (n : H a = none) (o : HO) : SR K nm F0 G F ρ σ (upd H a o) ∧ F a = none ∧ G a = none ∧ Apart ρ σ a := by
  have fn : F a = none := by
    cases e : F a with
    | none => rfl
    | some u => rw [S.fh a u e] at n; cases n
  have gn : G a = none := by
    cases e : G a with
    | none => rfl
    | some u => rw [S.gh a u e] at n; cases n
  have sH : Same H (upd H a o) := same_new n
  refine ⟨⟨S.len, fun b u e => sH b u (S.fh b u e), fun b u e => sH b u (S.gh b u e), S.ff, S.new, S.fz, fun i d e => ?_, S.ap⟩, fn, gn, fun i d e q => ?_⟩
  · obtain ⟨b, e1, f1, g1, h1⟩ := S.mu i d e
    have hb : b ≠ a := by
      rintro rfl
      obtain ⟨u, q⟩ := h1.obj
      rw [n] at q; cases q
    exact ⟨b, e1, f1, g1, by rw [upd_ne hb]; exact h1⟩
  · obtain ⟨b, e1, f1, g1, h1⟩ := S.mu i d e
    rw [q] at e1; cases e1
    obtain ⟨u, q⟩ := h1.obj
    rw [n] at q; cases q
end
end Pv

set_option Elab.async false
set_option linter.all false
set_option maxRecDepth 100000
set_option maxHeartbeats 2000000
set_option autoImplicit false
/-! Pv, part C: readings by what terms compute. -/
namespace Pv
open PySem PySem.Spec PyProof.Rows L2
theorem PE.imp {X : Cx} {e : Expr} {t t' : TE} (h : PE X e t) (i : ∀ σ H Q, t' σ H Q → t σ H Q) : PE X e t' := ⟨fun pins s σ H Q I q => h.run pins s σ H Q I (i σ H Q q)⟩
theorem PT.imp {X : Cx} {e : Expr} {t t' : TT} (h : PT X e t) (i : ∀ σ H Q, t' σ H Q → t σ H Q) : PT X e t' := ⟨fun pins s σ H Q I q => h.run pins s σ H Q I (i σ H Q q)⟩
theorem PW.imp {X : Cx} {e : Expr} {t t' : TT} (h : PW X e t) (i : ∀ σ H Q, t' σ H Q → t σ H Q) : PW X e t' := ⟨fun wh pins s σ H Q I q => h.run wh pins s σ H Q I (i σ H Q q)⟩
theorem PA.imp {X : Cx} {e : List Expr} {t t' : TA} (h : PA X e t) (i : ∀ σ H Q, t' σ H Q → t σ H Q) : PA X e t' := ⟨fun p pins s σ H Q I q => h.run p pins s σ H Q I (i σ H Q q)⟩
theorem PI.imp {X : Cx} {tg e : Expr} {t t' : TI} (h : PI X tg e t) (i : ∀ σ H Q, t' σ H Q → t σ H Q) : PI X tg e t' := ⟨fun pins s σ H Q I q => h.run pins s σ H Q I (i σ H Q q)⟩
theorem PO.imp {X : Cx} {e : Option Expr} {t t' : TO} (h : PO X e t) (i : ∀ σ H Q, t' σ H Q → t σ H Q) : PO X e t' := ⟨fun pins s σ H Q I q => h.run pins s σ H Q I (i σ H Q q)⟩
theorem PS.imp {X : Cx} {e : Stmt} {t t' : TS} (h : PS X e t) (i : ∀ D σ H, t' D σ H → t D σ H) : PS X e t' := ⟨fun pins s σ H D I q => h.run pins s σ H D I (i D σ H q)⟩
theorem PSs.imp {X : Cx} {e : List Stmt} {t t' : TS} (h : PSs X e t) (i : ∀ D σ H, t' D σ H → t D σ H) : PSs X e t' := ⟨fun pins s σ H D I q => h.run pins s σ H D I (i D σ H q)⟩

/-- what is walked gives these values, one by one; F: what stands for good meanwhile -/
def ItOk (K : PySem.W.Frag) (nm : Nat → Option Addr) (F : Hp) (J : It) (xs : List D) : Prop :=
  (∀ H, Same F H → J.stop xs.length H) ∧ ∀ (i : Nat) (d : D), xs[i]? = some d → ∀ H, Same F H → J.go i H ∧
    ∀ x H', J.yld i H x H' → (H' = H ∧ ∀ F1, Same F F1 → Same F1 H → Rep K nm F1 x d) ∨ ∃ T vs, H T = none ∧ H' = upd H T (.tup vs) ∧ x = .ref T ∧ ∀ F1, Same F F1 → Same F1 H → F1 T = none → Rep K nm (upd F1 T (.tup vs)) x d
theorem ItOk.mono {K : PySem.W.Frag} {nm : Nat → Option Addr} {F F' : Hp} {J : It} {xs : List D} (h : ItOk K nm F J xs) (s : Same F F') : ItOk K nm F' J xs :=
  ⟨fun H hH => h.1 H (s.trans hH), fun i d e H hH => ⟨(h.2 i d e H (s.trans hH)).1, fun x H' y => by
    rcases (h.2 i d e H (s.trans hH)).2 x H' y with ⟨e1, q⟩ | ⟨T, vs, n, e1, e2, q⟩
    · exact .inl ⟨e1, fun F1 a b => q F1 (s.trans a) b⟩
    · exact .inr ⟨T, vs, n, e1, e2, fun F1 a b c => q F1 (s.trans a) b c⟩⟩⟩

section
variable (K : PySem.W.Frag) (nm : Nat → Option Addr) (ex : Nat → Value) (W : WX)
def Po {α : Type} (F0 G F : Hp) (σ : L2.St) (o : Out α × Env) (k : α → Env → Hp → Hp → Prop) : Prop := match o with
  | (.ok a, ρ') => ∀ F' H', SR K nm F0 G F' ρ' σ H' → Same F F' → k a ρ' F' H'
  | (.exc n, ρ') => ∀ F' H', SR K nm F0 G F' ρ' σ H' → Same F F' → W (ex n) none σ H'
  | (.bad, _) => False
def WRs (F G H : Hp) (ρ : Env) (σ : L2.St) : List R → List V → Prop
  | [], [] => True
  | r :: rs, v :: vs => WR K nm F G H ρ σ r v ∧ WRs F G H ρ σ rs vs
  | _, _ => False
def tE (m : M R) : TE := fun σ H Q => ∃ F0 G F ρ, SR K nm F0 G F ρ σ H ∧ Po K nm ex W F0 G F σ (m ρ) fun r ρ' F' H' => ∀ v, RR K nm F' G H' ρ' σ r v → Q v H'
def tT (m : M Bool) : TT := fun σ H Q => ∃ F0 G F ρ, SR K nm F0 G F ρ σ H ∧ Po K nm ex W F0 G F σ (m ρ) fun b _ _ H' => Q b H'
def tA (m : M (List R)) : TA := fun σ H Q => ∃ F0 G F ρ, SR K nm F0 G F ρ σ H ∧ Po K nm ex W F0 G F σ (m ρ) fun rs ρ' F' H' => ∀ vs, WRs K nm F' G H' ρ' σ rs vs → Q vs H'
def tI (m : M (List D)) : TI := fun σ H Q => ∃ F0 G F ρ, SR K nm F0 G F ρ σ H ∧ Po K nm ex W F0 G F σ (m ρ) fun xs _ F' H' => ∀ J, ItOk K nm F' J xs → Q J H'
def tO (m : M (Option Int)) : TO := fun σ H Q => ∃ F0 G F ρ, SR K nm F0 G F ρ σ H ∧ Po K nm ex W F0 G F σ (m ρ) fun i _ _ H' => Q i H'
end
section
variable {K : PySem.W.Frag} {nm : Nat → Option Addr} {ex : Nat → Value} {W : WX} {F0 G F F' H H' : Hp} {ρ : Env} {σ : L2.St} {r q : R} {v : V} {d : D} {α β : Type}
theorem Po.weak {o : Out α × Env} {k : α → Env → Hp → Hp → Prop} (s : Same F F') (h : Po K nm ex W F0 G F σ o k) : Po K nm ex W F0 G F' σ o k := by
  obtain ⟨o, ρ'⟩ := o
  cases o with
  | ok a => exact fun F1 H1 S s1 => h F1 H1 S (s.trans s1)
  | exc n => exact fun F1 H1 S s1 => h F1 H1 S (s.trans s1)
  | bad => exact h
theorem Po.bind {m : M α} {f : α → M β} {k : β → Env → Hp → Hp → Prop} (h : Po K nm ex W F0 G F σ (M.bind m f ρ) k) : Po K nm ex W F0 G F σ (m ρ) fun a ρ' F' H' => Po K nm ex W F0 G F' σ (f a ρ') k := by
  unfold M.bind at h
  cases e : m ρ with
  | mk o ρ' =>
    rw [e] at h
    cases o with
    | ok a => exact fun F1 H1 S s1 => Po.weak s1 h
    | exc n => exact h
    | bad => exact h
theorem Po.pk {f : D → M β} {k : β → Env → Hp → Hp → Prop} (h : Po K nm ex W F0 G F σ (M.bind (pk r) f ρ) k) : ∃ d, look ρ r = some d ∧ Po K nm ex W F0 G F σ (f d ρ) k := by
  unfold M.bind Pv.pk at h
  cases e : look ρ r with
  | none => rw [e] at h; exact h.elim
  | some d => rw [e] at h; exact ⟨d, rfl, h⟩
theorem Po.ofO {o : Option α} {f : α → M β} {k : β → Env → Hp → Hp → Prop} (h : Po K nm ex W F0 G F σ (M.bind (ofO o) f ρ) k) : ∃ a, o = some a ∧ Po K nm ex W F0 G F σ (f a ρ) k := by
  cases o with
  | none => exact h.elim
  | some a => exact ⟨a, rfl, h⟩
theorem Po.ofO' {o : Option α} {k : α → Env → Hp → Hp → Prop} (h : Po K nm ex W F0 G F σ (Pv.ofO o ρ) k) : ∃ a, o = some a ∧ ∀ F' H', SR K nm F0 G F' ρ σ H' → Same F F' → k a ρ F' H' := by
  cases o with
  | none => exact h.elim
  | some a => exact ⟨a, rfl, h⟩
theorem SR.re (S : SR K nm F0 G F ρ σ H) : SR K nm F G F ρ σ H := ⟨S.len, S.fh, S.gh, Same.refl _, fun b o e => .inl ⟨o, e⟩, S.fz, S.mu, S.ap⟩
/-- what was just made is kept while more is reckoned -/
theorem prot {r : R} {x : V} (S : SR K nm F0 G F ρ σ H) (h : RR K nm F G H ρ σ r x) : ∃ G1, SR K nm F G1 F ρ σ H ∧ (∀ a, r.k = .f → x = .ref a → G1 a ≠ none) ∧ ∀ F2 H2 ρ2, SR K nm F G1 F2 ρ2 σ H2 →
    SR K nm F0 G F2 ρ2 σ H2 ∧ RR K nm F2 G H2 ρ2 σ r x ∧ (∀ a, G1 a = none → G a = none) ∧ ∀ q y, RR K nm F2 G1 H2 ρ2 σ q y → RR K nm F2 G H2 ρ2 σ q y := by
  obtain ⟨rd, k⟩ := r
  have back : ∀ G1, (∀ b, G1 b = none → G b = none) → (Same G G1) → ∀ F2 H2 ρ2, SR K nm F G1 F2 ρ2 σ H2 → SR K nm F0 G F2 ρ2 σ H2 ∧ ∀ q y, RR K nm F2 G1 H2 ρ2 σ q y → RR K nm F2 G H2 ρ2 σ q y := by
    intro G1 hn hs F2 H2 ρ2 S2
    refine ⟨⟨S2.len, S2.fh, hs.trans S2.gh, S.ff.trans S2.ff, fun b o e => ?_, S2.fz, fun i d e => ?_, S2.ap⟩, fun q y hq => ?_⟩
    · rcases S2.new b o e with ⟨u, e1⟩ | e1
      · exact S.new b u e1
      · exact .inr (hn b e1)
    · obtain ⟨a, e1, f1, g1, h1⟩ := S2.mu i d e
      exact ⟨a, e1, f1, hn a g1, h1⟩
    · obtain ⟨qd, qk⟩ := q
      cases qk with
      | z => exact hq
      | f => obtain ⟨a, e1, ⟨f1, g1, h1⟩, p1⟩ := hq; exact ⟨a, e1, ⟨f1, hn a g1, h1⟩, p1⟩
      | s i => exact hq
  cases k with
  | z =>
    refine ⟨G, S.re, (fun a e => by cases e), fun F2 H2 ρ2 S2 => ?_⟩
    obtain ⟨b1, b2⟩ := back G (fun _ e => e) (Same.refl _) F2 H2 ρ2 S2
    exact ⟨b1, Rep.mono S2.ff (show Rep K nm F x rd from h), fun _ e => e, b2⟩
  | s i =>
    refine ⟨G, S.re, (fun a e => by cases e), fun F2 H2 ρ2 S2 => ?_⟩
    obtain ⟨b1, b2⟩ := back G (fun _ e => e) (Same.refl _) F2 H2 ρ2 S2
    exact ⟨b1, h, fun _ e => e, b2⟩
  | f =>
    obtain ⟨a, rfl, ⟨f1, g1, h1⟩, p1⟩ := h
    obtain ⟨u, hu⟩ := h1.obj
    have hn : ∀ b, upd G a u b = none → G b = none := fun b e => by
      by_cases hb : b = a
      · subst hb; exact g1
      · rw [upd_ne hb] at e; exact e
    have hs : Same G (upd G a u) := same_new g1
    refine ⟨upd G a u, ⟨S.len, S.fh, fun b o e => ?_, Same.refl _, fun b o e => .inl ⟨o, e⟩, S.fz, fun i d e => ?_, S.ap⟩, (fun b _ e => by cases e; rw [upd_same]; exact fun z => nomatch z), fun F2 H2 ρ2 S2 => ?_⟩
    · by_cases hb : b = a
      · subst hb; rw [upd_same] at e; cases e; exact hu
      · rw [upd_ne hb] at e; exact S.gh b o e
    · obtain ⟨b, e1, f2, g2, h2⟩ := S.mu i d e
      have hb : b ≠ a := fun z => p1 i d e (z ▸ e1)
      exact ⟨b, e1, f2, by rw [upd_ne hb]; exact g2, h2⟩
    · obtain ⟨b1, b2⟩ := back _ hn hs F2 H2 ρ2 S2
      have ha : H2 a = some u := S2.gh a u upd_same
      refine ⟨b1, ⟨a, rfl, ⟨?_, g1, ?_⟩, fun i d e z => ?_⟩, hn, b2⟩
      · cases q : F2 a with
        | none => rfl
        | some o =>
          rcases S2.new a o q with ⟨u', e1⟩ | e1
          · rw [f1] at e1; cases e1
          · rw [upd_same] at e1; cases e1
      · rw [ha, ← hu]; exact h1.mono S2.ff
      · obtain ⟨b, e1, f2, g2, h2⟩ := S2.mu i d e
        rw [z] at e1; cases e1
        rw [upd_same] at g2; cases g2
theorem WR.mono {F2 H2 : Hp} (s : Same F F2) (hH : ∀ a, G a = none → (∃ u, H a = some u) → Apart ρ σ a → H2 a = H a) (h : WR K nm F G H ρ σ r v) : WR K nm F2 G H2 ρ σ r v := by
  obtain ⟨rd, k⟩ := r
  cases k with
  | z => exact Rep.mono s (show Rep K nm F v rd from h)
  | s i => exact h
  | f =>
    rcases h with h | ⟨a, e, g, q, p⟩
    · exact .inl (h.mono s)
    · exact .inr ⟨a, e, g, by rw [hH a g q.obj p]; exact q.mono s, p⟩
/-- one after the other -/
theorem one {ma : M R} {f : R → M α} {k : α → Env → Hp → Hp → Prop} {T : V → Hp → Prop} (S : SR K nm F0 G F ρ σ H) (P : Po K nm ex W F0 G F σ (M.bind ma f ρ) k)
    (fin : ∀ r ρ2 F2 H2 x, SR K nm F0 G F2 ρ2 σ H2 → Same F F2 → RR K nm F2 G H2 ρ2 σ r x → Po K nm ex W F0 G F2 σ (f r ρ2) k → T x H2) : tE K nm ex W ma σ H T := by
  refine ⟨F0, G, F, ρ, S, ?_⟩
  have P1 := P.bind
  cases e : ma ρ with
  | mk o ρ' =>
    rw [e] at P1
    cases o with
    | ok r => exact fun F1 H1 S1 s1 x hx => fin r ρ' F1 H1 x S1 s1 hx (P1 F1 H1 S1 s1)
    | exc n => exact P1
    | bad => exact P1
theorem oneT {ma : M Bool} {f : Bool → M α} {k : α → Env → Hp → Hp → Prop} {T : Bool → Hp → Prop} (S : SR K nm F0 G F ρ σ H) (P : Po K nm ex W F0 G F σ (M.bind ma f ρ) k)
    (fin : ∀ b ρ2 F2 H2, SR K nm F0 G F2 ρ2 σ H2 → Same F F2 → Po K nm ex W F0 G F2 σ (f b ρ2) k → T b H2) : tT K nm ex W ma σ H T := by
  refine ⟨F0, G, F, ρ, S, ?_⟩
  have P1 := P.bind
  cases e : ma ρ with
  | mk o ρ' =>
    rw [e] at P1
    cases o with
    | ok r => exact fun F1 H1 S1 s1 => fin r ρ' F1 H1 S1 s1 (P1 F1 H1 S1 s1)
    | exc n => exact P1
    | bad => exact P1
theorem oneI {ma : M (List D)} {f : List D → M α} {k : α → Env → Hp → Hp → Prop} {T : It → Hp → Prop} (S : SR K nm F0 G F ρ σ H) (P : Po K nm ex W F0 G F σ (M.bind ma f ρ) k)
    (fin : ∀ b ρ2 F2 H2, SR K nm F0 G F2 ρ2 σ H2 → Same F F2 → Po K nm ex W F0 G F2 σ (f b ρ2) k → ∀ J, ItOk K nm F2 J b → T J H2) : tI K nm ex W ma σ H T := by
  refine ⟨F0, G, F, ρ, S, ?_⟩
  have P1 := P.bind
  cases e : ma ρ with
  | mk o ρ' =>
    rw [e] at P1
    cases o with
    | ok r => exact fun F1 H1 S1 s1 => fin r ρ' F1 H1 S1 s1 (P1 F1 H1 S1 s1)
    | exc n => exact P1
    | bad => exact P1
theorem oneO {ma : M (Option Int)} {f : Option Int → M α} {k : α → Env → Hp → Hp → Prop} {T : Option Int → Hp → Prop} (S : SR K nm F0 G F ρ σ H) (P : Po K nm ex W F0 G F σ (M.bind ma f ρ) k)
    (fin : ∀ b ρ2 F2 H2, SR K nm F0 G F2 ρ2 σ H2 → Same F F2 → Po K nm ex W F0 G F2 σ (f b ρ2) k → T b H2) : tO K nm ex W ma σ H T := by
  refine ⟨F0, G, F, ρ, S, ?_⟩
  have P1 := P.bind
  cases e : ma ρ with
  | mk o ρ' =>
    rw [e] at P1
    cases o with
    | ok r => exact fun F1 H1 S1 s1 => fin r ρ' F1 H1 S1 s1 (P1 F1 H1 S1 s1)
    | exc n => exact P1
    | bad => exact P1
theorem manyA {ma : M (List R)} {f : List R → M α} {k : α → Env → Hp → Hp → Prop} {T : List V → Hp → Prop} (S : SR K nm F0 G F ρ σ H) (P : Po K nm ex W F0 G F σ (M.bind ma f ρ) k)
    (fin : ∀ rs ρ2 F2 H2 xs, SR K nm F0 G F2 ρ2 σ H2 → Same F F2 → WRs K nm F2 G H2 ρ2 σ rs xs → Po K nm ex W F0 G F2 σ (f rs ρ2) k → T xs H2) : tA K nm ex W ma σ H T := by
  refine ⟨F0, G, F, ρ, S, ?_⟩
  have P1 := P.bind
  cases e : ma ρ with
  | mk o ρ' =>
    rw [e] at P1
    cases o with
    | ok r => exact fun F1 H1 S1 s1 x hx => fin r ρ' F1 H1 x S1 s1 hx (P1 F1 H1 S1 s1)
    | exc n => exact P1
    | bad => exact P1
/-- behind r, more is reckoned: what is shown with r kept -/
theorem Po.under {r : R} {x : V} {o : Out α × Env} {k k' : α → Env → Hp → Hp → Prop} {G1 : Hp}
    (back : ∀ F2 H2 ρ2, SR K nm F G1 F2 ρ2 σ H2 → SR K nm F0 G F2 ρ2 σ H2) (h : Po K nm ex W F0 G F σ o k)
    (imp : ∀ a ρ2 F2 H2, SR K nm F G1 F2 ρ2 σ H2 → Same F F2 → k a ρ2 F2 H2 → k' a ρ2 F2 H2) : Po K nm ex W F G1 F σ o k' := by
  obtain ⟨o, ρ'⟩ := o
  cases o with
  | ok a => exact fun F1 H1 S s1 => imp a ρ' F1 H1 S s1 (h F1 H1 (back _ _ _ S) s1)
  | exc n => exact fun F1 H1 S s1 => h F1 H1 (back _ _ _ S) s1
  | bad => exact h
theorem two {ma mb : M R} {f : R → R → M α} {k : α → Env → Hp → Hp → Prop} {T : V → V → Hp → Prop} (S : SR K nm F0 G F ρ σ H) (P : Po K nm ex W F0 G F σ (M.bind ma (fun r => M.bind mb fun q => f r q) ρ) k)
    (fin : ∀ r q ρ2 F2 H2 x y, SR K nm F0 G F2 ρ2 σ H2 → Same F F2 → RR K nm F2 G H2 ρ2 σ r x → RR K nm F2 G H2 ρ2 σ q y → (∀ a b, r.k = .f → x = .ref a → q.k = .f → y = .ref b → a ≠ b) → Po K nm ex W F0 G F2 σ (f r q ρ2) k → T x y H2) :
    tE K nm ex W ma σ H fun x H1 => tE K nm ex W mb σ H1 fun y H2 => T x y H2 := by
  refine one S P fun r ρ1 F1 H1 x S1 s1 hx P1 => ?_
  obtain ⟨G1, Sp, hne, back⟩ := prot S1 hx
  refine ⟨F1, G1, F1, ρ1, Sp, ?_⟩
  refine Po.under (r := r) (x := x) (fun F2 H2 ρ2 S2 => (back F2 H2 ρ2 S2).1) P1.bind fun q ρ2 F2 H2 S2 s2 P2 y hy => ?_
  obtain ⟨b1, b2, b3, b4⟩ := back F2 H2 ρ2 S2
  refine fin r q ρ2 F2 H2 x y b1 (s1.trans s2) b2 (b4 q y hy) (fun a b e1 e2 e3 e4 z => ?_) P2
  obtain ⟨qd, qk⟩ := q
  cases e3
  obtain ⟨b', e5, ⟨f5, g5, h5⟩, p5⟩ := hy
  rw [e4] at e5; cases e5
  subst z
  exact hne a e1 e2 g5
end
end Pv

set_option Elab.async false
set_option linter.all false
set_option maxRecDepth 100000
set_option maxHeartbeats 2000000
set_option autoImplicit false
/-! Pv, part D: operations on values, by the machine's rules. -/
namespace Pv
open PySem PySem.Spec PyProof.Rows L2
section
variable (K : PySem.W.Frag) (nm : Nat → Option Addr)
/-- what an operation leaves: nothing new, or one new object -/
def Rz (F H : Hp) (r : R) (v : V) (H' : Hp) : Prop := match r.k with
  | .z => (H' = H ∧ Rep K nm F v r.d) ∨ ∃ p o, H p = none ∧ H' = upd H p o ∧ v = .ref p ∧ Rep K nm (upd F p o) v r.d
  | .f => ∃ p o, H p = none ∧ H' = upd H p o ∧ v = .ref p ∧ HRep K nm F (some o) r.d
  | .s _ => False
def rO (o : O2) : R2 := fun x y H Q => ∃ F dx dy r, Same F H ∧ Lk K nm F H x dx ∧ Lk K nm F H y dy ∧ o.run dx dy = some r ∧ ∀ v H', Rz K nm F H r v H' → Q v H'
def rB (b : B) : List V → Hp → VK → Prop := fun xs H Q => ∃ F ds r, Same F H ∧ List.length xs = List.length ds ∧ (∀ (i : Nat) (x : V) (d : D), xs[i]? = some x → ds[i]? = some d → Lk K nm F H x d) ∧ b.run ds = some r ∧ ∀ v H', Rz K nm F H r v H' → Q v H'
def rX : R2 := fun x y H Q => ∃ F dx dy r, Same F H ∧ Lk K nm F H x dx ∧ Lk K nm F H y dy ∧ ixD dx dy = some r ∧ ∀ v H', Rz K nm F H r v H' → Q v H'
def rSl (x : V) (lo hi : Option Int) (H : Hp) (Q : VK) : Prop := ∃ F dx r, Same F H ∧ Lk K nm F H x dx ∧ slD dx lo hi = some r ∧ ∀ v H', Rz K nm F H r v H' → Q v H'
end
section
variable {K : PySem.W.Frag} {nm : Nat → Option Addr} {F0 G F H H' : Hp} {ρ : Env} {σ : L2.St} {r : R} {v : V} {d : D}
theorem Rz.z0 (h : Rep K nm F v d) : Rz K nm F H ⟨d, .z⟩ v H := .inl ⟨rfl, h⟩
theorem Rz.z1 {p : Addr} {o : HO} (n : H p = none) (h : Rep K nm (upd F p o) (.ref p) d) : Rz K nm F H ⟨d, .z⟩ (.ref p) (upd H p o) := .inr ⟨p, o, n, rfl, rfl, h⟩
theorem Rz.f1 {p : Addr} {o : HO} (n : H p = none) (h : HRep K nm F (some o) d) : Rz K nm F H ⟨d, .f⟩ (.ref p) (upd H p o) := ⟨p, o, n, rfl, rfl, h⟩
theorem free_of (s : Same F H) {p : Addr} (n : H p = none) : F p = none := s.free n
theorem Rz.tup {p : Addr} {o : Obj} {vs : List V} {xs : List D} (s : Same F H) (n : H p = none) (hd : o.dict = none) (l : vs.length ≤ sizeLine) (h : Reps K nm F vs xs) : Rz K nm F H ⟨.tup xs, .z⟩ (.ref p) (upd H p (.frz o (.tup vs))) :=
  .z1 n (.tup ⟨o, upd_same, hd⟩ l (h.mono (same_new (free_of s n))))
theorem Rz.lst {p : Addr} {vs : List V} {xs : List D} (n : H p = none) (l : vs.length ≤ sizeLine) (h : Reps K nm F vs xs) : Rz K nm F H ⟨.lst xs, .f⟩ (.ref p) (upd H p (.lst vs)) :=
  .f1 n ⟨vs, rfl, l, h⟩
/-- the state behind an operation -/
theorem SR.op (S : SR K nm F0 G F ρ σ H) (h : Rz K nm F H r v H') : ∃ F', SR K nm F0 G F' ρ σ H' ∧ Same F F' ∧ RR K nm F' G H' ρ σ r v := by
  obtain ⟨d, k⟩ := r
  cases k with
  | z =>
    rcases h with ⟨rfl, h⟩ | ⟨p, o, n, rfl, rfl, h⟩
    · exact ⟨F, S, Same.refl _, h⟩
    · exact ⟨_, S.alloc n o, same_new (free_of S.fh n), h⟩
  | f =>
    obtain ⟨p, o, n, rfl, rfl, h⟩ := h
    obtain ⟨S1, f1, g1, a1⟩ := S.fresh n o
    exact ⟨F, S1, Same.refl _, p, rfl, ⟨f1, g1, by rw [upd_same]; exact h⟩, a1⟩
  | s i => exact h.elim
end

/-! ### tuples without a dict -/
theorem tupF_new {X : Cx} {pins : List (Addr × Obj)} {σ : L2.St} {H : Hp} {s : Shared} {its : List Value} {vs : List V} {t' : Nat} (I : Inv X pins σ H s) (r : Vals vs its) (hz : vs.length ≤ sizeLine) :
    Inv X pins σ (upd H s.heap.objs.size (.frz { cls := .type "tuple", data := .seq its.toArray } (.tup vs))) { s with heap := s.heap.push { cls := .type "tuple", data := .seq its.toArray }, toks := t' } :=
  I.laid (fun b ob q => Heap.get?_push_of_some _ q) (Nat.le_refl _) ⟨Heap.get?_push_size _ rfl, hz, its, r, IsTup.new _ _⟩
/-- a new tuple of these values, as a rule tells it -/
def newT (vs : List V) (H : Hp) (Q : VK) : Prop := ∀ (p : Addr) (o : Obj), H p = none → o.dict = none → Q (.ref p) (upd H p (.frz o (.tup vs)))
theorem newT_ep {X : Cx} {pins : List (Addr × Obj)} {σ : L2.St} {H : Hp} {s : Shared} {its : List Value} {vs : List V} {Q : VK} (I : Inv X pins σ H s) (r : Vals vs its) (hz : vs.length ≤ sizeLine) (q : newT vs H Q) :
    EP X pins σ Q (.ref s.heap.objs.size) { s with heap := s.heap.push { cls := .type "tuple", data := .seq its.toArray }, toks := s.toks } :=
  ⟨.ref s.heap.objs.size, _, tupF_new I r hz, rfl, q _ _ (I.hok.fresh (Nat.le_refl _)) rfl⟩
section
variable {X : Cx}
theorem op_catF : OpR X (binaryOp .Add) (fun x y H Q => ∃ a b xs ys, x = .ref a ∧ y = .ref b ∧ SqT X.K H a xs ∧ SqT X.K H b ys ∧ xs.length + ys.length ≤ sizeLine ∧
    (xs = [] → Q (.ref b) H) ∧ (xs ≠ [] → ys = [] → Q (.ref a) H) ∧ (xs ≠ [] → ys ≠ [] → newT (xs ++ ys) H Q)) := by
  intro pins s σ H x y v u Q I rx ry h
  obtain ⟨a, b, xs, ys, rfl, rfl, ha, hb, hz, q0, q1, q2⟩ := h
  by_cases hx : xs = []
  · exact op_catA pins s σ H _ _ v u Q I rx ry ⟨a, b, xs, ys, rfl, rfl, ha, hb, hz, q0, fun h => absurd hx h, fun h => absurd hx h⟩
  · cases rx
    cases ry
    obtain ⟨its, r1, p1, _⟩ := I.tuple ha
    obtain ⟨its2, r2, p2, _⟩ := I.tuple hb
    refine HT.cat_tup p1 p2 (fun z => hx (r1.nil_iff.mp z)) (fun z => ⟨.ref a, H, I, rfl, q1 hx (r2.nil_iff.mp z)⟩) (fun z => ?_) (by rw [← r1.length, ← r2.length]; exact hz)
    exact newT_ep I (r1.append r2) (by rw [List.length_append]; exact hz) (q2 hx fun w => z (r2.nil_iff.mpr w))
theorem sl_tupF : SlR X (fun x lo hi H Q => ∃ a xs, x = .ref a ∧ SqT X.K H a xs ∧
    (HT.sIx xs.length 0 lo = 0 ∧ HT.sIx xs.length xs.length hi = xs.length → Q (.ref a) H) ∧ (¬ (HT.sIx xs.length 0 lo = 0 ∧ HT.sIx xs.length xs.length hi = xs.length) → newT (cutV xs lo hi) H Q)) := by
  intro pins s σ H x v vl vu lo hi sl Q I rx hs pl pu h
  obtain ⟨a, xs, rfl, hx, q1, q2⟩ := h
  by_cases hw : HT.sIx xs.length 0 lo = 0 ∧ HT.sIx xs.length xs.length hi = xs.length
  · exact sl_tupA pins s σ H _ v vl vu lo hi sl Q I rx hs pl pu ⟨a, xs, rfl, hx, q1, fun h => absurd hw h⟩
  · cases rx
    obtain ⟨its, r, ht, hz⟩ := I.tuple hx
    have hlen : its.toArray.size = xs.length := by rw [List.size_toArray]; exact r.length.symm
    refine ⟨"tuple", _, PyProof.Rows.slot_tuple_getitem.lookup, ht.typeIs, ?_⟩
    refine HT.getItem_tuple_cut ht hs pl pu (by rw [hlen]; exact hw) ?_ (by rw [hlen]; exact hz)
    rw [hlen]
    exact newT_ep I ((r.drop (HT.sIx xs.length 0 lo)).take (HT.sIx xs.length xs.length hi - HT.sIx xs.length 0 lo)) (Nat.le_trans (cutV_length xs lo hi) hz) (q2 hw)
theorem call_tupleF : CallR X (.type "tuple") (fun xs H Q => ∃ p ys, xs = [.ref p] ∧ ((SqL X.K H p ys ∧ newT ys H Q) ∨ (SqT X.K H p ys ∧ Q (.ref p) H))) := by
  intro pins s σ H xs us Q I r h
  obtain ⟨p, ys, rfl, h⟩ := h
  rw [Vals.ref1 r]
  rcases h with ⟨hq, q⟩ | ⟨hq, q⟩
  · obtain ⟨its, r', pl, hz⟩ := I.list hq
    have hlen := r'.length
    refine call_tuple_list pl.isList (fun h' kp => ?_) (by simp only [List.size_toArray] <;> omega)
    exact newT_ep (I.kept (t' := s.toks) kp) r' hz q
  · obtain ⟨its, r', pl, hz⟩ := I.tuple hq
    exact call_tuple_same pl ⟨.ref p, H, I, rfl, q⟩
def tTupF (t : TA) : TE := fun σ H Q => t σ H fun xs H1 => xs.length ≤ sizeLine ∧ newT xs H1 Q
theorem pe_tupF {es : List Expr} {t : TA} {k : Nat} {pos : Pos} (h : PA X es t) : PE X (.Tuple es k pos) (tTupF t) := by
  refine ⟨fun pins s σ H Q I hq => ?_⟩
  exact wpAny_Tuple_spliced (thn (h.run pos pins s σ H _ I hq) fun us s1 ⟨xs, H1, I1, r, z, q⟩ => ⟨by rw [← r.length]; exact z, newT_ep I1 r z q⟩)
end
section
variable {X : Cx} {nm : Nat → Option Addr}
theorem b_add : OpR X (binaryOp .Add) (rO X.K nm .add) := by
  intro pins s σ H x y v u Q I rx ry h
  obtain ⟨F, dx, dy, r, sF, lx, ly, e, q⟩ := h
  simp only [O2.run] at e
  split at e
  · cases lx.int; cases ly.int; cases e
    exact op_add pins s σ H _ _ v u Q I rx ry ⟨_, _, rfl, rfl, q _ _ (.z0 (.int _))⟩
  · split at e
    · rename_i hl
      cases e
      obtain ⟨a, vs, rfl, ha, la, ra⟩ := lx.lst sF
      obtain ⟨b, ws, rfl, hb, lb, rb⟩ := ly.lst sF
      refine op_cat pins s σ H _ _ v u Q I rx ry ⟨a, b, vs, ws, rfl, rfl, ha, hb, by rw [ra.length, rb.length]; exact hl, fun p n => q _ _ (.lst n ?_ (ra.append rb))⟩
      rw [List.length_append, ra.length, rb.length]; exact hl
    · cases e
  · split at e
    · rename_i hl
      cases e
      obtain ⟨a, vs, rfl, ha, la, ra⟩ := lx.tup sF
      obtain ⟨b, ws, rfl, hb, lb, rb⟩ := ly.tup sF
      refine op_catF pins s σ H _ _ v u Q I rx ry ⟨a, b, vs, ws, rfl, rfl, ha.sq sF, hb.sq sF, by rw [ra.length, rb.length]; exact hl, fun e => ?_, fun e1 e2 => ?_, fun e1 e2 p o n hd => ?_⟩
      · subst e
        cases ra
        exact q _ _ (.z0 (.tup hb lb rb))
      · subst e2
        cases rb
        exact q _ _ (.z0 (.tup ha la (by rw [List.append_nil]; exact ra)))
      · exact q _ _ (.tup sF n hd (by rw [List.length_append, ra.length, rb.length]; exact hl) (ra.append rb))
    · cases e
  · split at e
    · rename_i hl
      cases lx.str; cases ly.str; cases e
      exact op_add_str pins s σ H _ _ v u Q I rx ry ⟨_, _, rfl, rfl, hl, q _ _ (.z0 (.str _))⟩
    · cases e
  · cases e
theorem b_sub : OpR X (binaryOp .Sub) (rO X.K nm .sub) := by
  intro pins s σ H x y v u Q I rx ry h
  obtain ⟨F, dx, dy, r, sF, lx, ly, e, q⟩ := h
  simp only [O2.run] at e
  split at e
  · cases lx.int; cases ly.int; cases e
    exact op_sub pins s σ H _ _ v u Q I rx ry ⟨_, _, rfl, rfl, q _ _ (.z0 (.int _))⟩
  · cases e
theorem small64_iff {i : Int} (h : small64 i = true) : -(2 ^ 64) < i ∧ i < 2 ^ 64 := by
  unfold small64 at h
  rw [Bool.and_eq_true] at h
  exact ⟨of_decide_eq_true h.1, of_decide_eq_true h.2⟩
theorem b_mul : OpR X (binaryOp .Mult) (rO X.K nm .mul) := by
  intro pins s σ H x y v u Q I rx ry h
  obtain ⟨F, dx, dy, r, sF, lx, ly, e, q⟩ := h
  simp only [O2.run] at e
  split at e
  · split at e
    · rename_i hl
      cases lx.int; cases ly.int; cases e
      refine op_mul pins s σ H _ _ v u Q I rx ry ⟨_, _, rfl, rfl, ?_, q _ _ (.z0 (.int _))⟩
      rcases Bool.or_eq_true_iff.mp hl with h | h
      · exact .inl (small64_iff h)
      · exact .inr (small64_iff h)
    · cases e
  · split at e
    · rename_i hl
      obtain ⟨h1, h2, h3⟩ := hl
      cases ly.int; cases e
      obtain ⟨a, vs, rfl, ha, la, ra⟩ := lx.lst sF
      refine op_rep pins s σ H _ _ v u Q I rx ry ⟨a, _, vs, rfl, rfl, ha, h1, h2, by rw [ra.length]; exact h3, fun p n => q _ _ (.lst n ?_ (ra.rep _))⟩
      rw [List.length_flatten]
      simp only [List.map_replicate, List.sum_replicate_nat]
      rw [ra.length, Nat.mul_comm]; exact h3
    · cases e
  · cases e
theorem b_fdiv : OpR X (binaryOp .FloorDiv) (rO X.K nm .fdiv) := by
  intro pins s σ H x y v u Q I rx ry h
  obtain ⟨F, dx, dy, r, sF, lx, ly, e, q⟩ := h
  simp only [O2.run] at e
  split at e
  · split at e
    · rename_i hl
      cases lx.int; cases ly.int; cases e
      exact op_fdiv pins s σ H _ _ v u Q I rx ry ⟨_, _, rfl, rfl, hl, q _ _ (.z0 (.int _))⟩
    · cases e
  · cases e
theorem b_mod : OpR X (binaryOp .Mod) (rO X.K nm .mod) := by
  intro pins s σ H x y v u Q I rx ry h
  obtain ⟨F, dx, dy, r, sF, lx, ly, e, q⟩ := h
  simp only [O2.run] at e
  split at e
  · split at e
    · rename_i hl
      cases lx.int; cases ly.int; cases e
      exact op_mod pins s σ H _ _ v u Q I rx ry ⟨_, _, rfl, rfl, hl, q _ _ (.z0 (.int _))⟩
    · cases e
  · cases e
theorem b_pow : OpR X (binaryOp .Pow) (rO X.K nm .pow) := by
  intro pins s σ H x y v u Q I rx ry h
  obtain ⟨F, dx, dy, r, sF, lx, ly, e, q⟩ := h
  simp only [O2.run] at e
  split at e
  · split at e
    · rename_i hl
      cases lx.int; cases ly.int; cases e
      exact op_pow pins s σ H _ _ v u Q I rx ry ⟨_, _, rfl, rfl, hl, q _ _ (.z0 (.int _))⟩
    · cases e
  · cases e
theorem b_shl : OpR X (binaryOp .LShift) (rO X.K nm .shl) := by
  intro pins s σ H x y v u Q I rx ry h
  obtain ⟨F, dx, dy, r, sF, lx, ly, e, q⟩ := h
  simp only [O2.run] at e
  split at e
  · split at e
    · rename_i hl
      cases lx.int; cases ly.int; cases e
      exact op_shl pins s σ H _ _ v u Q I rx ry ⟨_, _, rfl, rfl, hl, q _ _ (.z0 (.int _))⟩
    · cases e
  · cases e
theorem b_shr : OpR X (binaryOp .RShift) (rO X.K nm .shr) := by
  intro pins s σ H x y v u Q I rx ry h
  obtain ⟨F, dx, dy, r, sF, lx, ly, e, q⟩ := h
  simp only [O2.run] at e
  split at e
  · split at e
    · rename_i hl
      cases lx.int; cases ly.int; cases e
      exact op_shr pins s σ H _ _ v u Q I rx ry ⟨_, _, rfl, rfl, hl, q _ _ (.z0 (.int _))⟩
    · cases e
  · cases e
theorem b_band : OpR X (binaryOp .BitAnd) (rO X.K nm .band) := by
  intro pins s σ H x y v u Q I rx ry h
  obtain ⟨F, dx, dy, r, sF, lx, ly, e, q⟩ := h
  simp only [O2.run] at e
  split at e
  · cases lx.int; cases ly.int; cases e
    exact op_and pins s σ H _ _ v u Q I rx ry ⟨_, _, rfl, rfl, q _ _ (.z0 (.int _))⟩
  · cases e
theorem b_bor : OpR X (binaryOp .BitOr) (rO X.K nm .bor) := by
  intro pins s σ H x y v u Q I rx ry h
  obtain ⟨F, dx, dy, r, sF, lx, ly, e, q⟩ := h
  simp only [O2.run] at e
  split at e
  · cases lx.int; cases ly.int; cases e
    exact op_or pins s σ H _ _ v u Q I rx ry ⟨_, _, rfl, rfl, q _ _ (.z0 (.int _))⟩
  · cases e
theorem b_bxor : OpR X (binaryOp .BitXor) (rO X.K nm .bxor) := by
  intro pins s σ H x y v u Q I rx ry h
  obtain ⟨F, dx, dy, r, sF, lx, ly, e, q⟩ := h
  simp only [O2.run] at e
  split at e
  · cases lx.int; cases ly.int; cases e
    exact op_xor pins s σ H _ _ v u Q I rx ry ⟨_, _, rfl, rfl, q _ _ (.z0 (.int _))⟩
  · cases e
theorem okEq_of {a b : D} (h : okEq a b = true) : a.plain = true ∧ b.plain = true ∧ SeqAt.shaped a.py = true ∧ SeqAt.shaped b.py = true := by
  unfold okEq at h
  simp only [Bool.and_eq_true] at h
  exact ⟨h.1.1.1, h.1.1.2, h.1.2, h.2⟩
theorem c_eq (hu : X.A.units + 64 < cLine) : OpR X (compareOp .Eq) (rO X.K nm .eq) := by
  intro pins s σ H x y v u Q I rx ry h
  obtain ⟨F, dx, dy, r, sF, lx, ly, e, q⟩ := h
  simp only [O2.run] at e
  split at e
  · rename_i hl
    cases e
    obtain ⟨p1, p2, s1, s2⟩ := okEq_of hl
    exact op_eqD hu pins s σ H _ _ v u Q I rx ry ⟨_, _, lx.dp sF p1, ly.dp sF p2, s1, s2, q _ _ (.z0 (.bl _))⟩
  · cases e
theorem c_ne (hu : X.A.units + 64 < cLine) : OpR X (compareOp .NotEq) (rO X.K nm .ne) := by
  intro pins s σ H x y v u Q I rx ry h
  obtain ⟨F, dx, dy, r, sF, lx, ly, e, q⟩ := h
  simp only [O2.run] at e
  split at e
  · rename_i hl
    cases e
    obtain ⟨p1, p2, s1, s2⟩ := okEq_of hl
    exact op_neD hu pins s σ H _ _ v u Q I rx ry ⟨_, _, lx.dp sF p1, ly.dp sF p2, s1, s2, q _ _ (.z0 (.bl _))⟩
  · cases e
theorem c_lt (hu : X.A.units < cLine) : OpR X (compareOp .Lt) (rO X.K nm .lt) := by
  intro pins s σ H x y v u Q I rx ry h
  obtain ⟨F, dx, dy, r, sF, lx, ly, e, q⟩ := h
  simp only [O2.run] at e
  split at e
  · cases lx.int; cases ly.int; cases e
    exact op_lt pins s σ H _ _ v u Q I rx ry ⟨_, _, rfl, rfl, q _ _ (.z0 (.bl _))⟩
  · split at e
    · rename_i m n e1 e2
      cases e
      obtain ⟨a, vs, rfl, ha, la, ra⟩ := lx.tup sF
      obtain ⟨b, ws, rfl, hb, lb, rb⟩ := ly.tup sF
      cases ra.ints e1
      cases rb.ints e2
      exact op_ltT hu pins s σ H _ _ v u Q I rx ry ⟨a, b, _, _, rfl, rfl, ha.sq sF, hb.sq sF, q _ _ (.z0 (.bl _))⟩
    · cases e
  · cases e
theorem c_le : OpR X (compareOp .LtE) (rO X.K nm .le) := by
  intro pins s σ H x y v u Q I rx ry h
  obtain ⟨F, dx, dy, r, sF, lx, ly, e, q⟩ := h
  simp only [O2.run] at e
  split at e
  · cases lx.int; cases ly.int; cases e
    exact op_le pins s σ H _ _ v u Q I rx ry ⟨_, _, rfl, rfl, q _ _ (.z0 (.bl _))⟩
  · cases e
theorem c_gt : OpR X (compareOp .Gt) (rO X.K nm .gt) := by
  intro pins s σ H x y v u Q I rx ry h
  obtain ⟨F, dx, dy, r, sF, lx, ly, e, q⟩ := h
  simp only [O2.run] at e
  split at e
  · cases lx.int; cases ly.int; cases e
    exact op_gt pins s σ H _ _ v u Q I rx ry ⟨_, _, rfl, rfl, q _ _ (.z0 (.bl _))⟩
  · cases e
theorem c_ge : OpR X (compareOp .GtE) (rO X.K nm .ge) := by
  intro pins s σ H x y v u Q I rx ry h
  obtain ⟨F, dx, dy, r, sF, lx, ly, e, q⟩ := h
  simp only [O2.run] at e
  split at e
  · cases lx.int; cases ly.int; cases e
    exact op_ge pins s σ H _ _ v u Q I rx ry ⟨_, _, rfl, rfl, q _ _ (.z0 (.bl _))⟩
  · cases e
theorem anyD (x : D) : ∀ a : List D, (D.pys a).any (fun z => PyData.eqv z x.py) = a.any fun z => eqD z x
  | [] => rfl
  | d :: a => by
    show (PyData.eqv d.py x.py || (D.pys a).any fun z => PyData.eqv z x.py) = (eqD d x || a.any fun z => eqD z x)
    rw [anyD x a]
    rfl
theorem op_inT (hu : X.A.units + 65 < cLine) : OpR X (compareOp .In) (fun x y H Q => ∃ d ds, Dp X.K H x d ∧ Dp X.K H y (.tuple ds) ∧ SeqAt.shaped d = true ∧ SeqAt.shaped (.tuple ds) = true ∧ Q (.bl (ds.any fun z => PyData.eqv z d)) H) := by
  intro pins s σ H x y v u Q I rx ry h
  obtain ⟨d, ds, hd, he, sd, se, q⟩ := h
  obtain ⟨as, r1⟩ := Dp.reads I d x v hd rx
  obtain ⟨bs, r2⟩ := Dp.reads I (.tuple ds) y u he ry
  exact SeqAt.in_tuple_reads r2 r1 (SeqAt.canLay_of_shaped se) (SeqAt.canLay_of_shaped sd) (room_in_shaped sd hu) ⟨.bl _, H, I, rfl, q⟩
theorem op_notInT (hu : X.A.units + 65 < cLine) : OpR X (compareOp .NotIn) (fun x y H Q => ∃ d ds, Dp X.K H x d ∧ Dp X.K H y (.tuple ds) ∧ SeqAt.shaped d = true ∧ SeqAt.shaped (.tuple ds) = true ∧ Q (.bl (!ds.any fun z => PyData.eqv z d)) H) := by
  intro pins s σ H x y v u Q I rx ry h
  obtain ⟨d, ds, hd, he, sd, se, q⟩ := h
  obtain ⟨as, r1⟩ := Dp.reads I d x v hd rx
  obtain ⟨bs, r2⟩ := Dp.reads I (.tuple ds) y u he ry
  exact SeqAt.notIn_tuple_reads r2 r1 (SeqAt.canLay_of_shaped se) (SeqAt.canLay_of_shaped sd) (room_in_shaped sd hu) ⟨.bl _, H, I, rfl, q⟩
/-- what a dict with ints as keys holds -/
theorem kreps_get {K : PySem.W.Frag} {F : Hp} {j : Int} : ∀ {kvs : List (Key × V)} {ds : List (D × D)}, KReps K nm F kvs ds → match dicGet (.int j) ds with
    | some d => ∃ v, valV kvs (.inl j) = some v ∧ Rep K nm F v d
    | none => valV kvs (.inl j) = none := by
  intro kvs ds h
  induction ds generalizing kvs with
  | nil => cases h; rfl
  | cons p ds ih =>
    cases h with
    | @cons i v d kvs ds h r =>
      have ih := ih r
      have e1 : eqD (.int i) (.int j) = (i == j) := by simp [eqD, D.py, PyData.eqv]
      unfold dicGet
      rw [e1]
      by_cases hij : i = j
      · subst hij
        rw [if_pos (by simp)]
        exact ⟨v, by simp [valV], h⟩
      · rw [if_neg (by simp [hij])]
        have e2 : valV ((Sum.inl i, v) :: kvs) (Sum.inl j) = valV kvs (Sum.inl j) := by
          unfold valV
          simp [List.lookup, hij]
          try simp [Ne.symm hij]
        rw [e2]
        exact ih
end
end Pv

set_option Elab.async false
set_option linter.all false
set_option maxRecDepth 100000
set_option maxHeartbeats 2000000
set_option autoImplicit false
/-! Pv, part E: operations on values, continued. -/
namespace Pv
open PySem PySem.Spec PyProof.Rows L2
section
variable {X : Cx} {nm : Nat → Option Addr}
theorem c_in (hu : X.A.units + 65 < cLine) : OpR X (compareOp .In) (rO X.K nm .in) := by
  intro pins s σ H x y v u Q I rx ry h
  obtain ⟨F, dx, dy, r, sF, lx, ly, e, q⟩ := h
  simp only [O2.run] at e
  split at e
  · rename_i a
    split at e
    · rename_i hl
      cases e
      obtain ⟨p1, p2, s1, s2⟩ := okEq_of hl
      have q' := q _ _ (.z0 (.bl (a.any fun z => eqD z dx)))
      refine op_inT hu pins s σ H _ _ v u Q I rx ry ⟨_, D.pys a, lx.dp sF p1, ly.dp sF p2, s1, s2, ?_⟩
      rw [anyD]; exact q'
    · cases e
  · rename_i a
    split at e
    · rename_i hl
      cases e
      obtain ⟨p1, p2, s1, s2⟩ := okEq_of hl
      have q' := q _ _ (.z0 (.bl (a.any fun z => eqD z dx)))
      refine op_inD hu pins s σ H _ _ v u Q I rx ry ⟨_, D.pys a, lx.dp sF p1, ly.dp sF p2, s1, s2, ?_⟩
      rw [anyD]; exact q'
    · cases e
  · rename_i kvs
    cases dx with
    | int j =>
      cases e
      cases lx.int
      obtain ⟨a, ks, rfl, ha, la, ra⟩ := ly.dic sF
      have g := kreps_get (j := j) ra
      obtain rfl : u = Value.ref a := ry
      refine d_in (by omega) I (DGet.k (k := Sum.inl j) ha) rx fun s' I' => ⟨.bl _, H, I', rfl, ?_⟩
      have q' := q _ _ (.z0 (.bl (dicGet (.int j) kvs).isSome))
      cases e : dicGet (.int j) kvs with
      | none =>
        rw [e] at g q'
        dsimp only at g
        rw [g]; exact q'
      | some d =>
        rw [e] at g q'
        dsimp only at g
        obtain ⟨w, hw, _⟩ := g
        rw [hw]; exact q'
    | _ => cases e
  · cases e
theorem c_notin (hu : X.A.units + 65 < cLine) : OpR X (compareOp .NotIn) (rO X.K nm .notin) := by
  intro pins s σ H x y v u Q I rx ry h
  obtain ⟨F, dx, dy, r, sF, lx, ly, e, q⟩ := h
  simp only [O2.run] at e
  split at e
  · rename_i a
    split at e
    · rename_i hl
      cases e
      obtain ⟨p1, p2, s1, s2⟩ := okEq_of hl
      have q' := q _ _ (.z0 (.bl (!a.any fun z => eqD z dx)))
      refine op_notInT hu pins s σ H _ _ v u Q I rx ry ⟨_, D.pys a, lx.dp sF p1, ly.dp sF p2, s1, s2, ?_⟩
      rw [anyD]; exact q'
    · cases e
  · rename_i a
    split at e
    · rename_i hl
      cases e
      obtain ⟨p1, p2, s1, s2⟩ := okEq_of hl
      have q' := q _ _ (.z0 (.bl (!a.any fun z => eqD z dx)))
      refine op_notInD hu pins s σ H _ _ v u Q I rx ry ⟨_, D.pys a, lx.dp sF p1, ly.dp sF p2, s1, s2, ?_⟩
      rw [anyD]; exact q'
    · cases e
  · rename_i kvs
    cases dx with
    | int j =>
      cases e
      cases lx.int
      obtain ⟨a, ks, rfl, ha, la, ra⟩ := ly.dic sF
      have g := kreps_get (j := j) ra
      obtain rfl : u = Value.ref a := ry
      refine d_notIn (by omega) I (DGet.k (k := Sum.inl j) ha) rx fun s' I' => ⟨.bl _, H, I', rfl, ?_⟩
      have q' := q _ _ (.z0 (.bl (!(dicGet (.int j) kvs).isSome)))
      cases e : dicGet (.int j) kvs with
      | none =>
        rw [e] at g q'
        dsimp only at g
        rw [g]; exact q'
      | some d =>
        rw [e] at g q'
        dsimp only at g
        obtain ⟨w, hw, _⟩ := g
        rw [hw]; exact q'
    | _ => cases e
  · cases e
/-- which operator -/
def O2.bin : O2 → Option Operator
  | .add => some .Add
  | .sub => some .Sub
  | .mul => some .Mult
  | .fdiv => some .FloorDiv
  | .mod => some .Mod
  | .pow => some .Pow
  | .shl => some .LShift
  | .shr => some .RShift
  | .band => some .BitAnd
  | .bor => some .BitOr
  | .bxor => some .BitXor
  | _ => none
def O2.cmp : O2 → Option CmpOp
  | .eq => some .Eq
  | .ne => some .NotEq
  | .lt => some .Lt
  | .le => some .LtE
  | .gt => some .Gt
  | .ge => some .GtE
  | .in => some .In
  | .notin => some .NotIn
  | _ => none
theorem b_all {o : O2} {f : Operator} (h : o.bin = some f) : OpR X (binaryOp f) (rO X.K nm o) := by
  cases o <;> simp [O2.bin] at h <;> subst h
  · exact b_add
  · exact b_sub
  · exact b_mul
  · exact b_fdiv
  · exact b_mod
  · exact b_pow
  · exact b_shl
  · exact b_shr
  · exact b_band
  · exact b_bor
  · exact b_bxor
theorem c_all {o : O2} {f : CmpOp} (hu : X.A.units + 65 < cLine) (h : o.cmp = some f) : OpR X (compareOp f) (rO X.K nm o) := by
  cases o <;> simp [O2.cmp] at h <;> subst h
  · exact c_eq (by omega)
  · exact c_ne (by omega)
  · exact c_lt (by omega)
  · exact c_le
  · exact c_gt
  · exact c_ge
  · exact c_in hu
  · exact c_notin hu
/-! ### x[i], x[a:b] -/
theorem Reps.atI_ {K : PySem.W.Frag} {F : Hp} {vs : List V} {xs : List D} {j : Int} {d : D} (h : Reps K nm F vs xs) (e : atI xs j = some d) : ∃ v, atI vs j = some v ∧ Rep K nm F v d := by
  unfold atI at e ⊢
  rw [h.length]
  cases q : ixN xs.length j with
  | none => rw [q] at e; cases e
  | some k =>
    rw [q] at e
    exact h.at_ e
theorem ix_dict (hu : X.A.units + 1 < cLine) : IxR X (fun x y H Q => ∃ a v, x = .ref a ∧ DGet H a y (some v) ∧ Q v H) := by
  intro value slice pins s σ H x y v u Q I rx ry h hs
  obtain ⟨a, w, rfl, g, q⟩ := h
  obtain rfl : v = Value.ref a := rx
  exact tail_any (dict_typeIs I g) PySem.F.slot_dict_getitem.lookup (d_getItem hu I g ry fun w' s3 I3 rw' => ⟨w, H, I3, rw', q⟩) hs
theorem ix_all (hu : X.A.units + 1 < cLine) : IxR X (rX X.K nm) := by
  intro value slice pins s σ H x y v u Q I rx ry h hs
  obtain ⟨F, dx, dy, r, sF, lx, ly, e, q⟩ := h
  simp only [ixD] at e
  split at e
  · rename_i a j
    cases ly.int
    cases ea : atI a j with
    | none => rw [ea] at e; cases e
    | some d =>
      rw [ea] at e
      cases e
      obtain ⟨p, vs, rfl, ha, la, ra⟩ := lx.tup sF
      obtain ⟨w, hw, rw'⟩ := ra.atI_ ea
      exact ix_tup value slice pins s σ H _ _ v u Q I rx ry ⟨p, vs, _, w, rfl, rfl, ha.sq sF, hw, q _ _ (.z0 rw')⟩ hs
  · rename_i a j
    cases ly.int
    cases ea : atI a j with
    | none => rw [ea] at e; cases e
    | some d =>
      rw [ea] at e
      cases e
      obtain ⟨p, vs, rfl, ha, la, ra⟩ := lx.lst sF
      obtain ⟨w, hw, rw'⟩ := ra.atI_ ea
      exact ix_list value slice pins s σ H _ _ v u Q I rx ry ⟨p, vs, _, w, rfl, rfl, .of ha, hw, q _ _ (.z0 rw')⟩ hs
  · rename_i a j
    cases ly.int
    cases ea : atI a j with
    | none => rw [ea] at e; cases e
    | some n =>
      rw [ea] at e
      cases e
      obtain ⟨p, rfl, ha, la⟩ := lx.scr sF
      have ra : Reps X.K nm F (a.map V.int) (a.map D.int) := Reps.ofInts a
      have eb : atI (a.map D.int) j = some (.int n) := by
        unfold atI at ea ⊢
        rw [List.length_map]
        cases q2 : ixN a.length j with
        | none => rw [q2] at ea; cases ea
        | some k =>
          rw [q2] at ea
          have ea : a[k]? = some n := ea
          show (a.map D.int)[k]? = some (.int n)
          rw [List.getElem?_map, ea]; rfl
      obtain ⟨w, hw, rw'⟩ := ra.atI_ eb
      exact ix_list value slice pins s σ H _ _ v u Q I rx ry ⟨p, _, _, w, rfl, rfl, ha, hw, q _ _ (.z0 rw')⟩ hs
  · rename_i kvs j
    cases ly.int
    cases ea : dicGet (.int j) kvs with
    | none => rw [ea] at e; cases e
    | some d =>
      rw [ea] at e
      cases e
      obtain ⟨p, ks, rfl, ha, la, ra⟩ := lx.dic sF
      have g := kreps_get (j := j) ra
      rw [ea] at g
      obtain ⟨w, hw, rw'⟩ := g
      refine ix_dict hu value slice pins s σ H _ _ v u Q I rx ry ⟨p, w, rfl, ?_, q _ _ (.z0 rw')⟩ hs
      rw [← hw]
      exact DGet.k (k := Sum.inl j) ha
  · cases e
theorem cutV_eq (xs : List V) (lo hi : Option Int) : cutV xs lo hi = cutD xs lo hi := rfl
theorem Reps.cut {K : PySem.W.Frag} {F : Hp} {vs : List V} {xs : List D} {lo hi : Option Int} (h : Reps K nm F vs xs) : Reps K nm F (cutV vs lo hi) (cutD xs lo hi) := by
  unfold cutV cutD
  rw [h.length]
  exact (h.drop _).take _
theorem SlR.imp {r r' : V → Option Int → Option Int → Hp → VK → Prop} (h : SlR X r) (i : ∀ x lo hi H Q, r' x lo hi H Q → r x lo hi H Q) : SlR X r' := by
  intro pins s σ H x v vl vu lo hi sl Q I rx hs pl pu q
  exact h pins s σ H x v vl vu lo hi sl Q I rx hs pl pu (i _ _ _ _ _ q)
theorem sl_all : SlR X (rSl X.K nm) := by
  refine SlR.imp (sl_list.or sl_tupF) fun x lo hi H Q h => ?_
  obtain ⟨F, dx, r, sF, lx, e, q⟩ := h
  simp only [slD] at e
  split at e
  · cases e
    obtain ⟨p, vs, rfl, ha, la, ra⟩ := lx.tup sF
    refine .inr ⟨p, vs, rfl, ha.sq sF, fun hw => ?_, fun hw b o n hd => ?_⟩
    · have e1 : cutV vs lo hi = vs := by
        unfold cutV
        rw [hw.1, hw.2]
        simp
      have rc := ra.cut (lo := lo) (hi := hi)
      rw [e1] at rc
      exact q _ _ (.z0 (.tup ha la rc))
    · exact q _ _ (.tup sF n hd (Nat.le_trans (cutV_length _ _ _) la) ra.cut)
  · cases e
    obtain ⟨p, vs, rfl, ha, la, ra⟩ := lx.lst sF
    exact .inl ⟨p, vs, rfl, .of ha, fun b n => q _ _ (.lst n (Nat.le_trans (cutV_length _ _ _) la) ra.cut)⟩
  · cases e
    rename_i a
    obtain ⟨p, rfl, ha, la⟩ := lx.scr sF
    exact .inl ⟨p, _, rfl, ha, fun b n => q _ _ (.lst n (Nat.le_trans (cutV_length _ _ _) (by rw [List.length_map]; exact la)) (Reps.ofInts a).cut)⟩
  · cases e
/-! ### truth -/
theorem tru_of {F H : Hp} {x : V} {d : D} {k : Bool} {K : PySem.W.Frag} (sF : Same F H) (lx : Lk K nm F H x d) (e : truD d = some k) : TruV K x H k := by
  cases d <;> simp only [truD] at e <;> first | cases e | skip
  · cases lx.non; rfl
  · cases lx.bl; rfl
  · cases lx.int; rfl
  · obtain ⟨p, vs, rfl, ha, la, ra⟩ := lx.tup sF
    refine .inr (.inl ⟨vs, ha.sq sF, ?_⟩)
    cases ra <;> rfl
  · obtain ⟨p, vs, rfl, ha, la, ra⟩ := lx.lst sF
    refine .inl ⟨vs, .of ha, ?_⟩
    cases ra <;> rfl
/-! ### isinstance -/
theorem ty_of {F H : Hp} {x : V} {d : D} {t : String} {K : PySem.W.Frag} (sF : Same F H) (lx : Lk K nm F H x d) (e : tyD d = some t) : TyX K H x (.type t) := by
  cases d <;> simp only [tyD] at e <;> first | cases e | skip
  · cases lx.non; exact .base .non
  · cases lx.bl; exact .base (.bl _)
  · cases lx.int; exact .base (.int _)
  · cases lx.str; exact .base (.str _)
  · obtain ⟨p, vs, rfl, ha, la, ra⟩ := lx.tup sF
    obtain ⟨o, ho, _⟩ := ha
    exact .fTuple (sF _ _ ho)
  · obtain ⟨p, vs, rfl, ha, la, ra⟩ := lx.lst sF
    exact .base (.lst ha)
  · obtain ⟨p, vs, rfl, ha, la, ra⟩ := lx.dic sF
    exact .base (.dK ha)
def tyNames : List String := ["NoneType", "bool", "int", "str", "tuple", "list", "dict"]
theorem tyD_mem {d : D} {t : String} (e : tyD d = some t) : t ∈ tyNames := by
  cases d <;> simp only [tyD] at e <;> cases e <;> simp [tyNames]
def subTy (t u : String) : Bool := t == u || (t == "bool" && u == "int")
theorem kit_all : ∀ t ∈ tyNames, ∀ u ∈ ["int", "bool", "str", "tuple", "list"], kitB t u = some (subTy t u) := by decide +kernel
end
end Pv

set_option Elab.async false
set_option linter.all false
set_option maxRecDepth 100000
set_option maxHeartbeats 2000000
set_option autoImplicit false
/-! Pv, part F: built-in functions. -/
namespace Pv
open PySem PySem.Spec PyProof.Rows L2
section
variable {X : Cx} {nm : Nat → Option Addr}
theorem lk_one {K : PySem.W.Frag} {F H : Hp} {xs : List V} {d : D} (hl : xs.length = [d].length) (hk : ∀ (i : Nat) (x : V) (e : D), xs[i]? = some x → [d][i]? = some e → Lk K nm F H x e) : ∃ x, xs = [x] ∧ Lk K nm F H x d := by
  match xs, hl with
  | [x], _ => exact ⟨x, rfl, hk 0 x d rfl rfl⟩
theorem lk_two {K : PySem.W.Frag} {F H : Hp} {xs : List V} {d e : D} (hl : xs.length = [d, e].length) (hk : ∀ (i : Nat) (x : V) (u : D), xs[i]? = some x → [d, e][i]? = some u → Lk K nm F H x u) : ∃ x y, xs = [x, y] ∧ Lk K nm F H x d ∧ Lk K nm F H y e := by
  match xs, hl with
  | [x, y], _ => exact ⟨x, y, rfl, hk 0 x d rfl rfl, hk 1 y e rfl rfl⟩
theorem CallR.imp {f : Value} {r r' : List V → Hp → VK → Prop} (h : CallR X f r) (i : ∀ xs H Q, r' xs H Q → r xs H Q) : CallR X f r' := fun pins s σ H xs us Q I rv q => h pins s σ H xs us Q I rv (i _ _ _ q)
theorem f_len : CallR X (.builtin "len") (rB X.K nm .len) := by
  refine CallR.imp (CallR.or call_len call_lenD) fun xs H Q h => ?_
  obtain ⟨F, ds, r, sF, hl, hk, e, q⟩ := h
  simp only [B.run, bLen] at e
  split at e <;> first | (cases e; done) | skip
  · rename_i a
    obtain ⟨x, rfl, l⟩ := lk_one hl hk
    cases e
    obtain ⟨p, vs, rfl, ha, la, ra⟩ := l.tup sF
    exact .inl ⟨_, _, rfl, .inr ⟨vs, (ha.sq sF), rfl⟩, by rw [ra.length]; exact q _ _ (.z0 (.int _))⟩
  · rename_i a
    obtain ⟨x, rfl, l⟩ := lk_one hl hk
    cases e
    obtain ⟨p, vs, rfl, ha, la, ra⟩ := l.lst sF
    exact .inl ⟨_, _, rfl, .inl ⟨vs, .of ha, rfl⟩, by rw [ra.length]; exact q _ _ (.z0 (.int _))⟩
  · rename_i a
    obtain ⟨x, rfl, l⟩ := lk_one hl hk
    cases e
    obtain ⟨p, rfl, ha, la⟩ := l.scr sF
    exact .inl ⟨_, _, rfl, .inl ⟨_, ha, rfl⟩, by rw [List.length_map]; exact q _ _ (.z0 (.int _))⟩
  · rename_i a
    obtain ⟨x, rfl, l⟩ := lk_one hl hk
    cases e
    obtain ⟨p, ks, rfl, ha, la, ra⟩ := l.dic sF
    refine .inr ⟨p, ks, rfl, ha, ?_⟩
    have el : ks.length = a.length := by
      clear q l ha la hk hl
      induction a generalizing ks with
      | nil => cases ra; rfl
      | cons p a ih => cases ra with | cons h r => simp [ih _ r]
    rw [el]; exact q _ _ (.z0 (.int _))
  · rename_i a
    obtain ⟨x, rfl, l⟩ := lk_one hl hk
    split at e
    · rename_i hz
      cases e
      cases l.str
      exact .inl ⟨_, _, rfl, ⟨hz, rfl⟩, q _ _ (.z0 (.int _))⟩
    · cases e
theorem f_all (hc : X.calm = true) : CallR X (.builtin "all") (rB X.K nm .all) := by
  refine CallR.imp (cr_all hc) fun xs H Q h => ?_
  obtain ⟨F, ds, r, sF, hl, hk, e, q⟩ := h
  simp only [B.run, bAll] at e
  split at e <;> first | (cases e; done) | skip
  rename_i a
  obtain ⟨x, rfl, l⟩ := lk_one hl hk
  obtain ⟨bs, eb, e⟩ := Option.bind_eq_some_iff.mp e
  cases e
  obtain ⟨p, vs, rfl, ha, la, ra⟩ := l.lst sF
  cases ra.bls eb
  exact ⟨p, bs, rfl, .of ha, q _ _ (.z0 (.bl _))⟩
theorem f_any (hc : X.calm = true) : CallR X (.builtin "any") (rB X.K nm .any) := by
  refine CallR.imp (cr_any hc) fun xs H Q h => ?_
  obtain ⟨F, ds, r, sF, hl, hk, e, q⟩ := h
  simp only [B.run, bAny] at e
  split at e <;> first | (cases e; done) | skip
  rename_i a
  obtain ⟨x, rfl, l⟩ := lk_one hl hk
  obtain ⟨bs, eb, e⟩ := Option.bind_eq_some_iff.mp e
  cases e
  obtain ⟨p, vs, rfl, ha, la, ra⟩ := l.lst sF
  cases ra.bls eb
  exact ⟨p, bs, rfl, .of ha, q _ _ (.z0 (.bl _))⟩
theorem f_abs : CallR X (.builtin "abs") (rB X.K nm .abs) := by
  refine CallR.imp call_abs fun xs H Q h => ?_
  obtain ⟨F, ds, r, sF, hl, hk, e, q⟩ := h
  simp only [B.run, bAbs] at e
  split at e <;> first | (cases e; done) | skip
  rename_i i
  obtain ⟨x, rfl, l⟩ := lk_one hl hk
  cases e
  cases l.int
  exact ⟨i, rfl, q _ _ (.z0 (.int _))⟩
theorem f_int : CallR X (.type "int") (rB X.K nm .int) := by
  refine CallR.imp call_int1 fun xs H Q h => ?_
  obtain ⟨F, ds, r, sF, hl, hk, e, q⟩ := h
  simp only [B.run, bInt] at e
  split at e <;> first | (cases e; done) | skip
  · rename_i i
    obtain ⟨x, rfl, l⟩ := lk_one hl hk
    cases e
    cases l.int
    exact .inl ⟨i, rfl, q _ _ (.z0 (.int _))⟩
  · rename_i i
    obtain ⟨x, rfl, l⟩ := lk_one hl hk
    cases e
    cases l.bl
    exact .inr ⟨i, rfl, q _ _ (.z0 (.int _))⟩
theorem f_tuple : CallR X (.type "tuple") (rB X.K nm .tuple) := by
  refine CallR.imp call_tupleF fun xs H Q h => ?_
  obtain ⟨F, ds, r, sF, hl, hk, e, q⟩ := h
  simp only [B.run, bTuple] at e
  split at e <;> first | (cases e; done) | skip
  · rename_i a
    obtain ⟨x, rfl, l⟩ := lk_one hl hk
    cases e
    obtain ⟨p, vs, rfl, ha, la, ra⟩ := l.lst sF
    exact ⟨p, vs, rfl, .inl ⟨.of ha, fun b o n hd => q _ _ (.tup sF n hd la ra)⟩⟩
  · rename_i a
    obtain ⟨x, rfl, l⟩ := lk_one hl hk
    cases e
    obtain ⟨p, vs, rfl, ha, la, ra⟩ := l.tup sF
    exact ⟨p, vs, rfl, .inr ⟨ha.sq sF, q _ _ (.z0 (.tup ha la ra))⟩⟩
theorem f_list : CallR X (.type "list") (rB X.K nm .list) := by
  refine CallR.imp call_list_of fun xs H Q h => ?_
  obtain ⟨F, ds, r, sF, hl, hk, e, q⟩ := h
  simp only [B.run, bList] at e
  split at e <;> first | (cases e; done) | skip
  · rename_i a
    obtain ⟨x, rfl, l⟩ := lk_one hl hk
    cases e
    obtain ⟨p, vs, rfl, ha, la, ra⟩ := l.lst sF
    exact ⟨p, vs, rfl, .inl (.of ha), fun b n => q _ _ (.lst n la ra)⟩
  · rename_i a
    obtain ⟨x, rfl, l⟩ := lk_one hl hk
    cases e
    obtain ⟨p, vs, rfl, ha, la, ra⟩ := l.tup sF
    exact ⟨p, vs, rfl, .inr ((ha.sq sF)), fun b n => q _ _ (.lst n la ra)⟩
  · rename_i a
    obtain ⟨x, rfl, l⟩ := lk_one hl hk
    cases e
    obtain ⟨p, rfl, ha, la⟩ := l.scr sF
    exact ⟨p, _, rfl, .inl ha, fun b n => q _ _ (.lst n (by rw [List.length_map]; exact la) (Reps.ofInts a))⟩
theorem f_sum (hc : X.calm = true) : CallR X (.builtin "sum") (rB X.K nm .sum) := by
  refine CallR.imp (cr_sum hc) fun xs H Q h => ?_
  obtain ⟨F, ds, r, sF, hl, hk, e, q⟩ := h
  simp only [B.run, bSum] at e
  split at e <;> first | (cases e; done) | skip
  rename_i a
  obtain ⟨x, rfl, l⟩ := lk_one hl hk
  obtain ⟨ns, eb, e⟩ := Option.bind_eq_some_iff.mp e
  cases e
  obtain ⟨p, vs, rfl, ha, la, ra⟩ := l.lst sF
  cases ra.ints eb
  exact ⟨p, ns, rfl, .of ha, q _ _ (.z0 (.int _))⟩
theorem foldl_max (ns : List Int) : ∀ n : Int, (ns.foldl max n = n ∨ ns.foldl max n ∈ ns) ∧ n ≤ ns.foldl max n ∧ ∀ y ∈ ns, y ≤ ns.foldl max n := by
  induction ns with
  | nil => intro n; simp
  | cons m ns ih =>
    intro n
    obtain ⟨h1, h2, h3⟩ := ih (max n m)
    rw [List.foldl_cons]
    have b1 : n ≤ max n m := Int.le_max_left _ _
    have b2 : m ≤ max n m := Int.le_max_right _ _
    refine ⟨?_, by omega, fun y hy => ?_⟩
    · rcases h1 with h1 | h1
      · rw [h1]
        by_cases q : n ≤ m
        · exact .inr (by rw [Int.max_eq_right q]; exact List.mem_cons_self)
        · exact .inl (Int.max_eq_left (by omega))
      · exact .inr (List.mem_cons_of_mem _ h1)
    · rcases List.mem_cons.mp hy with rfl | hy
      · omega
      · exact h3 y hy
theorem foldl_min (ns : List Int) : ∀ n : Int, (ns.foldl min n = n ∨ ns.foldl min n ∈ ns) ∧ ns.foldl min n ≤ n ∧ ∀ y ∈ ns, ns.foldl min n ≤ y := by
  induction ns with
  | nil => intro n; simp
  | cons m ns ih =>
    intro n
    obtain ⟨h1, h2, h3⟩ := ih (min n m)
    rw [List.foldl_cons]
    have b1 : min n m ≤ n := Int.min_le_left _ _
    have b2 : min n m ≤ m := Int.min_le_right _ _
    refine ⟨?_, by omega, fun y hy => ?_⟩
    · rcases h1 with h1 | h1
      · rw [h1]
        by_cases q : n ≤ m
        · exact .inl (Int.min_eq_left q)
        · exact .inr (by rw [Int.min_eq_right (by omega)]; exact List.mem_cons_self)
      · exact .inr (List.mem_cons_of_mem _ h1)
    · rcases List.mem_cons.mp hy with rfl | hy
      · omega
      · exact h3 y hy
theorem f_max1 (hc : X.calm = true) : CallR X (.builtin "max") (rB X.K nm .max1) := by
  refine CallR.imp (cr_max hc) fun xs H Q h => ?_
  obtain ⟨F, ds, r, sF, hl, hk, e, q⟩ := h
  simp only [B.run, bMax1] at e
  split at e <;> first | (cases e; done) | skip
  rename_i a
  obtain ⟨x, rfl, l⟩ := lk_one hl hk
  split at e
  · rename_i n ns eb
    cases e
    obtain ⟨p, vs, rfl, ha, la, ra⟩ := l.lst sF
    cases ra.ints eb
    refine ⟨p, n :: ns, rfl, .of ha, by simp, fun m hm hle => ?_⟩
    obtain ⟨h1, h2, h3⟩ := foldl_max ns n
    have em : m = ns.foldl max n := by
      have a1 : m ≤ ns.foldl max n := by
        rcases List.mem_cons.mp hm with rfl | hm
        · exact h2
        · exact h3 m hm
      have a2 : ns.foldl max n ≤ m := by
        rcases h1 with h1 | h1
        · rw [h1]; exact hle n List.mem_cons_self
        · exact hle _ (List.mem_cons_of_mem _ h1)
      omega
    rw [em]; exact q _ _ (.z0 (.int _))
  · cases e
theorem f_min1 (hc : X.calm = true) : CallR X (.builtin "min") (rB X.K nm .min1) := by
  refine CallR.imp (cr_min hc) fun xs H Q h => ?_
  obtain ⟨F, ds, r, sF, hl, hk, e, q⟩ := h
  simp only [B.run, bMin1] at e
  split at e <;> first | (cases e; done) | skip
  rename_i a
  obtain ⟨x, rfl, l⟩ := lk_one hl hk
  split at e
  · rename_i n ns eb
    cases e
    obtain ⟨p, vs, rfl, ha, la, ra⟩ := l.lst sF
    cases ra.ints eb
    refine ⟨p, n :: ns, rfl, .of ha, by simp, fun m hm hle => ?_⟩
    obtain ⟨h1, h2, h3⟩ := foldl_min ns n
    have em : m = ns.foldl min n := by
      have a1 : ns.foldl min n ≤ m := by
        rcases List.mem_cons.mp hm with rfl | hm
        · exact h2
        · exact h3 m hm
      have a2 : m ≤ ns.foldl min n := by
        rcases h1 with h1 | h1
        · rw [h1]; exact hle n List.mem_cons_self
        · exact hle _ (List.mem_cons_of_mem _ h1)
      omega
    rw [em]; exact q _ _ (.z0 (.int _))
  · cases e
theorem f_max2 (hc : X.calm = true) : CallR X (.builtin "max") (rB X.K nm .max2) := by
  refine CallR.imp (call_max2 hc) fun xs H Q h => ?_
  obtain ⟨F, ds, r, sF, hl, hk, e, q⟩ := h
  simp only [B.run, bMax2] at e
  split at e <;> first | (cases e; done) | skip
  rename_i i j
  obtain ⟨x, y, rfl, l1, l2⟩ := lk_two hl hk
  cases e
  cases l1.int
  cases l2.int
  exact ⟨i, j, rfl, q _ _ (.z0 (.int _))⟩
theorem f_min2 (hc : X.calm = true) : CallR X (.builtin "min") (rB X.K nm .min2) := by
  refine CallR.imp (call_min2 hc) fun xs H Q h => ?_
  obtain ⟨F, ds, r, sF, hl, hk, e, q⟩ := h
  simp only [B.run, bMin2] at e
  split at e <;> first | (cases e; done) | skip
  rename_i i j
  obtain ⟨x, y, rfl, l1, l2⟩ := lk_two hl hk
  cases e
  cases l1.int
  cases l2.int
  exact ⟨i, j, rfl, q _ _ (.z0 (.int _))⟩
end
end Pv

set_option Elab.async false
set_option linter.all false
set_option maxRecDepth 100000
set_option maxHeartbeats 4000000
set_option autoImplicit false
/-! Pv, part G: sorted. -/
namespace Pv
open PySem PySem.Spec PyProof.Rows L2
open PySem.W (EachIs AllAlike Sortable dataLe list_sort_data alike)
section
variable {prog : Program} {w : World} {A : Around} {E : Value → Shared → Prop} {s : Shared}
/-- what walks v gives vs, and old objects stay -/
def Col (prog : Program) (w : World) (A : Around) (s : Shared) (v : Value) (vs : List Value) : Prop :=
  ∀ (Q : List Value → Shared → Prop) (E : Value → Shared → Prop), (∀ s1, (∀ b o, s.heap.get? b = some o → s1.heap.get? b = some o) → s.heap.objs.size ≤ s1.heap.objs.size → s1.gens = s.gens → s1.os = s.os → Q vs s1) → wpAny (model prog w) A (collect v) Q E s
theorem keep_update {h : Heap} {f : Obj → Obj} {x : Obj} : ∀ b o, h.get? b = some o → ((h.push x).update h.objs.size f).get? b = some o := fun b o e => by
  rw [Heap.get?_update_ne _ _ _ _ (Nat.ne_of_lt (Heap.lt_size e))]
  exact Heap.get?_push_of_some _ e
theorem size_update' {h : Heap} {f : Obj → Obj} {x : Obj} : h.objs.size ≤ ((h.push x).update h.objs.size f).objs.size := by
  rw [Heap.size_update, size_push']
  exact Nat.le_succ _
theorem col_list {l : Addr} {vs : List Value} (hl : s.heap.IsList l vs.toArray) (hL : vs.length ≤ sizeLine) : Col prog w A s (.ref l) vs := fun Q E h =>
  collect_list hl (h _ keep_update size_update' rfl rfl) hL
theorem col_tuple {l : Addr} {vs : List Value} (hl : s.heap.IsTuple l vs.toArray) (hL : vs.length ≤ sizeLine) : Col prog w A s (.ref l) vs := fun Q E h => by
  obtain ⟨o, ho, hc, n, hd⟩ := id hl
  have go : Q vs { s with heap := (s.heap.push (seqObj "list" #[] 0)).update s.heap.objs.size (Obj.mapSeq (· ++ vs.toArray)) } := h _ keep_update size_update' rfl rfl
  unfold collect
  refine wpAny_bind (wpAny_runValue (codeAny_builtin entry_proto_collect' ?_))
  show wpAny _ _ (do again (.builtin "list.__iadd__" ⟨[← newList [], .ref l], []⟩)) _ _ s
  refine wpAny_bind (wpAny_newList (wpAny_pure ⟨Code.quiet_builtin _ (by decide +kernel), codeAny_builtin entry_list_iadd' ?_⟩))
  show wpAny _ _ (Builtin.List.listExtendWith (.ref s.heap.objs.size) (.ref l) (.ref s.heap.objs.size)) _ _ { s with heap := s.heap.push (seqObj "list" #[] 0) }
  unfold Builtin.List.listExtendWith
  have ho' : (s.heap.push (seqObj "list" #[] 0)).get? l = some o := Heap.get?_push_of_some _ ho
  have hT : Shared.TypeIs { s with heap := s.heap.push (seqObj "list" #[] 0) } (.ref l) "tuple" := ⟨o, ho', hc⟩
  refine wpAny_bind (wpAny_typeOf hT ?_)
  have ht : (Value.type "tuple" == Value.type "tuple") = true := by rfl
  rw [if_pos (by rw [ht]; simp)]
  refine wpAny_bind (listItems_at ho' hd ?_)
  have hnew : (s.heap.push (seqObj "list" #[] 0)).get? s.heap.objs.size = some (seqObj "list" #[] 0) := Heap.get?_push_size _ rfl
  refine wpAny_bind (listItems_at (xs := #[]) (n := 0) hnew rfl ?_)
  rw [if_neg (by simp)]
  refine wpAny_bind (listUpdate_at (xs := #[]) (n := 0) hnew rfl ?_ (Nat.zero_le _) (by show (#[] ++ vs.toArray).size ≤ sizeLine + 1; simp only [Array.size_append, List.size_toArray, List.length_nil]; omega))
  refine wpAny_pure ?_
  refine wpAny_bind (wpAny_load (get?_update_seq hnew _) ?_)
  show wpAny _ _ (pure ((#[] : Array Value) ++ vs.toArray).toList) Q E _
  rw [show ((#[] : Array Value) ++ vs.toArray).toList = vs by simp]
  exact wpAny_pure go
mutual
theorem reads_lt {h : Heap} : ∀ (d : PyData) (v : Value) (as : List Addr), alike d d = true → Reads h v d as → ∀ a ∈ as, a < h.objs.size
  | .none, _, _, _, r => by cases r; exact fun a m => absurd m (by simp)
  | .bool _, _, _, _, r => by cases r; exact fun a m => absurd m (by simp)
  | .int _, _, _, _, r => by cases r; exact fun a m => absurd m (by simp)
  | .str _, _, _, _, r => by cases r; exact fun a m => absurd m (by simp)
  | .list xs, _, _, hal, r => by
    cases r with
    | list h1 h2 h3 h4 =>
      intro a m
      rcases List.mem_cons.mp m with rfl | m
      · exact Heap.lt_size h1
      · exact readsAll_lt xs _ _ (by simpa [alike] using hal) h4 a m
  | .tuple xs, _, _, hal, r => by
    cases r with
    | tuple h1 h2 h3 h4 => exact readsAll_lt xs _ _ (by simpa [alike] using hal) h4
  | .dict _, _, _, hal, _ => absurd hal (by simp [alike])
theorem readsAll_lt {h : Heap} : ∀ (ds : List PyData) (vs : List Value) (as : List Addr), PySem.W.alikeAll ds ds = true → ReadsAll h vs ds as → ∀ a ∈ as, a < h.objs.size
  | [], _, _, _, r => by cases r; exact fun a m => absurd m (by simp)
  | d :: ds, _, _, hal, r => by
    cases r with
    | cons h1 h2 =>
      intro a m
      have hal2 := PySem.W.alike_all_cons hal
      rcases List.mem_append.mp m with m | m
      · exact reads_lt d _ _ hal2.1 h1 a m
      · exact readsAll_lt ds _ _ hal2.2 h2 a m
end
theorem each_keep {β : Type} {enc : β → PyData} {h h' : Heap} (k : ∀ b o, h.get? b = some o → h'.get? b = some o) : ∀ {vs : List Value} {bs : List β}, EachIs (fun v b => ∃ as, Reads h v (enc b) as) vs bs → EachIs (fun v b => ∃ as, Reads h' v (enc b) as) vs bs := fun e =>
  e.mono fun _ _ ⟨as, r⟩ => ⟨as, PyProof.Rows.Reads.keeps k r⟩
/-- sorted(v), whatever v is, of data that may be compared -/
theorem sorted_col {β : Type} {R : Value → β → Prop} {enc : β → PyData} {v : Value} {vs : List Value} {bs : List β} {Q : Value → Shared → Prop} (hcol : Col prog w A.in1 s v vs) (e : EachIs R vs bs) (er : EachIs (fun v b => ∃ as, Reads s.heap v (enc b) as) vs bs)
    (hal : AllAlike (bs.map enc)) (hk : Sortable (bs.map enc)) (hL : bs.length ≤ sizeLine) (hu : ∀ b, b ∈ bs → A.units + 2 + (enc b).depth < cLine)
    (h : ∀ s' p (out : List Value) (c : Nat), (∀ b o, s.heap.get? b = some o → s'.heap.get? b = some o) → s'.gens = s.gens → s'.os = s.os → s.heap.objs.size ≤ p → s'.heap.get? p = some (seqObj "list" out.toArray c) → EachIs R out (bs.mergeSort (dataLe false enc)) → Q (.ref p) s') :
    wpAny (model prog w) A (call (.builtin "sorted") [v]) Q E s := by
  have hvl : vs.length ≤ sizeLine := by rw [e.length]; exact hL
  refine Calls.call_function_entry kind_sorted plain_sorted entry_sorted (args_sorted1 _) ?_
  unfold Builtin.«sorted»
  refine wpAny_bind (m := checkCount "sorted" 1 1 _) (wpAny_pure ?_)
  refine wpAny_bind (hcol _ _ fun s1 k1 z1 g1 o1 => ?_)
  refine wpAny_bind (wpAny_newList ?_ hvl)
  have hoL : (s1.heap.push (seqObj "list" vs.toArray 0)).get? s1.heap.objs.size = some (seqObj "list" vs.toArray 0) := Heap.get?_push_size _ rfl
  have k2 : ∀ b o, s.heap.get? b = some o → (s1.heap.push (seqObj "list" vs.toArray 0)).get? b = some o := fun b o q => Heap.get?_push_of_some _ (k1 b o q)
  have er2 : EachIs (fun v b => ∃ as, Reads (s1.heap.push (seqObj "list" vs.toArray 0)) v (enc b) as ∧ s1.heap.objs.size ∉ as) vs bs := (PySem.W.each_mem er).mono fun v b ⟨⟨as, r⟩, hb⟩ => ⟨as, PyProof.Rows.Reads.keeps k2 r, fun hm => by
    have hm2 : enc b ∈ bs.map enc := List.mem_map.mpr ⟨b, hb, rfl⟩
    exact absurd (Nat.lt_of_lt_of_le (reads_lt _ _ _ (hal _ hm2 _ hm2) r _ hm) z1) (Nat.lt_irrefl _)⟩
  refine wpAny_bind (wpAny_holding (list_sort_data (bs := bs) (enc := enc) (R := R) hoL e er2 hal hk hL (fun b hb => by have := hu b hb; show A.units + 1 + 1 + _ < _; omega) fun out ho eo => ?_))
  refine wpAny_pure ?_
  obtain ⟨c, hc⟩ := sortedHeap_at (vs := vs) (out := out.toArray) hoL
  refine ⟨_, rfl, h _ s1.heap.objs.size out c (fun b o q => ?_) g1 o1 z1 hc eo⟩
  have q2 := k1 b o q
  have hlt := Heap.lt_size q2
  show (sortedHeap (s1.heap.push (seqObj "list" vs.toArray 0)) s1.heap.objs.size vs out.toArray).get? b = some o
  rw [sortedHeap_old (Nat.ne_of_lt hlt) (by rw [size_push']; exact Nat.lt_succ_of_lt hlt)]
  exact Heap.get?_push_of_some _ q2
end
section
variable {X : Cx} {nm : Nat → Option Addr}
def RD (K : PySem.W.Frag) (nm : Nat → Option Addr) (F : Hp) (u : Value) (d : D) : Prop := ∃ v, RelV v u ∧ Rep K nm F v d
theorem each_of {K : PySem.W.Frag} {F : Hp} : ∀ {vs : List V} {us : List Value} {ds : List D}, Vals vs us → Reps K nm F vs ds → EachIs (RD K nm F) us ds
  | _, _, _, .nil, .nil => .nil
  | _, _, _, .cons r t, .cons h g => .cons ⟨_, r, h⟩ (each_of t g)
theorem of_each {K : PySem.W.Frag} {F : Hp} : ∀ {us : List Value} {ds : List D}, EachIs (RD K nm F) us ds → ∃ vs, Vals vs us ∧ Reps K nm F vs ds
  | _, _, .nil => ⟨[], .nil, .nil⟩
  | _, _, .cons ⟨v, r, h⟩ t => by
    obtain ⟨vs, a, b⟩ := of_each t
    exact ⟨v :: vs, .cons r a, .cons h b⟩
theorem each_reads {pins : List (Addr × Obj)} {σ : L2.St} {H : Hp} {s : Shared} {F : Hp} (I : Inv X pins σ H s) (sF : Same F H) : ∀ {vs : List V} {us : List Value} {ds : List D}, D.plains ds = true → Vals vs us → Reps X.K nm F vs ds →
    EachIs (fun u (d : D) => ∃ as, Reads s.heap u d.py as) us ds
  | _, _, _, _, .nil, .nil => .nil
  | _, _, d :: ds, p, .cons r t, .cons h g => by
    have p' : d.plain = true ∧ D.plains ds = true := by simpa [D.plains] using p
    exact .cons (Dp.reads I _ _ _ (h.dp sF p'.1) r) (each_reads I sF p'.2 t g)
theorem pys_map : ∀ ds : List D, D.pys ds = ds.map D.py
  | [] => rfl
  | d :: ds => by rw [List.map_cons, ← pys_map ds]; rfl
theorem plain_mem : ∀ {ds : List D} {a : D}, D.plains ds = true → a ∈ ds → a.plain = true
  | d :: ds, a, p, h => by
    have p' : d.plain = true ∧ D.plains ds = true := by simpa [D.plains] using p
    rcases List.mem_cons.mp h with rfl | h
    · exact p'.1
    · exact plain_mem p'.2 h
theorem sortable_of {ds : List D} (h : sortable ds = true) : D.plains ds = true ∧ AllAlike (ds.map D.py) ∧ Sortable (ds.map D.py) ∧ ∀ d ∈ ds, d.py.depth ≤ 60 := by
  unfold sortable at h
  simp only [Bool.and_eq_true] at h
  obtain ⟨⟨⟨h1, h2⟩, h3⟩, h4⟩ := h
  refine ⟨h1, ?_, ?_, fun d hd => of_decide_eq_true (List.all_eq_true.mp h3 d hd)⟩
  · intro x hx y hy
    obtain ⟨a, ha, rfl⟩ := List.mem_map.mp hx
    obtain ⟨b, hb, rfl⟩ := List.mem_map.mp hy
    exact List.all_eq_true.mp (List.all_eq_true.mp h2 a ha) b hb
  · rcases Bool.or_eq_true_iff.mp h4 with h4 | h4
    · refine .inl fun x hx => ?_
      obtain ⟨a, ha, rfl⟩ := List.mem_map.mp hx
      have q := List.all_eq_true.mp h4 a ha
      match a, q with
      | .tup (y :: r), _ => exact ⟨y.py, D.pys r, rfl⟩
    · refine .inr fun x hx => ?_
      obtain ⟨a, ha, rfl⟩ := List.mem_map.mp hx
      have q := List.all_eq_true.mp h4 a ha
      have pl : a.plain = true := plain_mem h1 ha
      cases a <;> simp [D.plain] at pl q ⊢ <;> simp [D.py]
theorem reps_len {K : PySem.W.Frag} {F : Hp} {vs : List V} {us : List Value} {ds : List D} (r : Vals vs us) (h : Reps K nm F vs ds) : us.length = ds.length := by rw [← r.length, h.length]
/-- the list that sorted leaves, over the layer -/
theorem sorted_over {pins : List (Addr × Obj)} {σ : L2.St} {H : Hp} {s : Shared} {F : Hp} {v : Value} {vs : List V} {us : List Value} {ds : List D} {Q : VK} (hu : X.A.units + 64 < cLine) (I : Inv X pins σ H s) (sF : Same F H) (hcol : Col X.prog X.w X.A.in1 s v us) (r : Vals vs us) (g : Reps X.K nm F vs ds) (hl : ds.length ≤ sizeLine) (hs : sortable ds = true)
    (q : ∀ v H', Rz X.K nm F H ⟨.lst (sortD ds), .f⟩ v H' → Q v H') : wpAny (model X.prog X.w) X.A (call (.builtin "sorted") [v]) (EP X pins σ Q) X.xe s := by
  obtain ⟨p, hal, hk, hd⟩ := sortable_of hs
  refine sorted_col (R := RD X.K nm F) (enc := D.py) hcol (each_of r g) (each_reads I sF p r g) hal hk hl (fun d hd' => by have := hd d hd'; omega) fun s' p out c k ge oe hp hget eo => ?_
  rw [← sortD_eq] at eo
  obtain ⟨ws, rw', gw⟩ := of_each eo
  have hlen : ws.length ≤ sizeLine := by rw [gw.length, sortD_eq, (List.mergeSort_perm _ _).length_eq]; exact hl
  have hn : H p = none := I.hok.fresh hp
  have J : Inv X pins σ (upd H p (.lst ws)) { s with heap := s'.heap, gens := s'.gens, drawn := s'.drawn, toks := s'.toks } :=
    I.call (ch := []) (Un.laid k hp hn) (I.hok.laid k hp ⟨hlen, out, c, rw', hget⟩) (by rw [ge]; exact I.bare) (fun _ z => nomatch z)
  have e : s' = { s with heap := s'.heap, gens := s'.gens, drawn := s'.drawn, toks := s'.toks } := by
    cases s'
    cases s
    cases oe
    rfl
  rw [e]
  exact ⟨.ref p, _, J, rfl, q _ _ (.lst hn hlen gw)⟩
theorem f_sorted (hu : X.A.units + 64 < cLine) : CallR X (.builtin "sorted") (rB X.K nm .sorted) := by
  intro pins s σ H xs us Q I rv h
  obtain ⟨F, ds, r, sF, hl, hk, e, q⟩ := h
  simp only [B.run, bSorted] at e
  split at e <;> first | (cases e; done) | skip
  · rename_i a
    obtain ⟨x, rfl, l⟩ := lk_one hl hk
    split at e
    · rename_i hs
      cases e
      obtain ⟨p, vs, rfl, ha, la, ra⟩ := l.lst sF
      rw [Vals.ref1 rv]
      obtain ⟨its, r1, pl, hz⟩ := I.list (SqL.of ha)
      exact sorted_over hu I sF (col_list pl.isList (by rw [← r1.length]; exact hz)) r1 ra (by rw [← ra.length]; exact la) hs q
    · cases e
  · rename_i a
    obtain ⟨x, rfl, l⟩ := lk_one hl hk
    split at e
    · rename_i hs
      cases e
      obtain ⟨p, vs, rfl, ha, la, ra⟩ := l.tup sF
      rw [Vals.ref1 rv]
      obtain ⟨its, r1, pl, hz⟩ := I.tuple (ha.sq sF)
      exact sorted_over hu I sF (col_tuple pl (by rw [← r1.length]; exact hz)) r1 ra (by rw [← ra.length]; exact la) hs q
    · cases e
end
end Pv

set_option Elab.async false
set_option linter.all false
set_option maxRecDepth 100000
set_option maxHeartbeats 8000000
set_option autoImplicit false
/-! Pv, part H: sets of ints, made and looked at at once. -/
namespace Pv
open PySem PySem.Spec PyProof.Rows L2
section
variable {P : Program} {w : World} {A : Around} {E : Value → Shared → Prop} {s : Shared}
/-- a new set, empty -/
abbrev set0 (w : World) : Obj := { cls := .type "set", dict := none, data := .set #[] 0 (.fresh 0 0 (!w.params.followText "set-order")) }
/-- set(xs), xs a list of ints: what the set holds, its table too (a tuple: call_set_tupI) -/
theorem set_listR {l : Addr} {items : Array Value} (ns : List Int) {Q : Value → Shared → Prop} (hh : A.handled = none) (hl : s.heap.IsList l items) (hit : IntsAre items.toList ns) (hb : ns.length + 1 < scanBound)
    (h : ∀ (h' : Heap) (tk c : Nat), SetR w h' s.heap.objs.size (fun j => decide (j ∈ ns)) c → c ≤ ns.length → (∀ b o, s.heap.get? b = some o → h'.get? b = some o) → Q (.ref s.heap.objs.size) { s with heap := h', toks := tk }) :
    wpAny (model P w) A (call (.type "set") [.ref l]) Q E s := by
  have hn : items.size = ns.length := by rw [← Array.length_toList]; exact IntsAre.length hit
  obtain ⟨c, tl, hmro⟩ := F.called_set.mro
  have m1 := F.called_set.made
  have m2 := F.called_set.sub
  refine wpAny_call (codeAny_of_tree ?_)
  show wpAny _ _ (callAny (.type "set") _) _ _ _
  refine wpAny_pure ⟨Code.quiet_builtin _ (by decide +kernel), codeAny_builtin F.entry_type_call ?_⟩
  rw [Around.under_plain (weight_type_call_type "set" [.ref l] []) rfl]
  have m3 := F.called_set.notType
  have m4 := F.called_set.canCreate
  have m5 := F.typeCall_set_1 (.ref l)
  repeat (any_goals (first | assumption | wp_step))
  refine codeAny_mono (code_set_led1 (.ref l) (E := E) (Q₁ := fun v s₁ => v = .ref s.heap.objs.size ∧ s₁ = { s with heap := s.heap.push (set0 w) }) ⟨rfl, rfl⟩) fun r s₁ hr => ?_
  cases r with
  | error e => exact hr
  | ok fl =>
    cases fl with
    | ret v =>
      obtain ⟨rfl, rfl⟩ := hr
      have at0 : (s.heap.push (set0 w)).get? s.heap.objs.size = some (set0 w) := Heap.get?_push_size _ rfl
      have ty0 : Shared.TypeIs { s with heap := s.heap.push (set0 w) } (.ref s.heap.objs.size) "set" := ⟨_, at0, rfl⟩
      have i1 := F.called_set.init.lookup
      have i2 := F.called_set.init.bind (.ref s.heap.objs.size)
      repeat (any_goals (first | assumption | wp_step))
      refine codeAny_mono (codeAny_call_builtin (R := wants (fun r s₂ => r = .none ∧ ∃ h' tk c, s₂ = { s with heap := h', toks := tk } ∧ SetR w h' s.heap.objs.size (fun j => decide (j ∈ ns)) c ∧ c ≤ ns.length ∧
          (∀ b o, s.heap.get? b = some o → h'.get? b = some o)) E) F.called_set.init.plain F.entry_set_init (check_set_init_1 ty0 ?_)) fun r₂ s₂ hr₂ => ?_
      · obtain ⟨⟨cl, dc, dt, sl⟩, hol, e1, nl, e2⟩ := hl
        simp only at e1 e2
        subst e1; subst e2
        have hol' : (s.heap.push (set0 w)).get? l = some { cls := .type "list", dict := dc, data := .seq items nl, slots := sl } := Heap.get?_push_of_some _ hol
        have s1 := F.sub_list_set
        have s2 := F.sub_list_frozenset
        have ne1 : (Value.type "list" == Value.type "dict") = false := by decide
        have il : (s.heap.push (set0 w)).IsList l items := ⟨_, hol', rfl, nl, rfl⟩
        unfold Builtin.«set.__init__» noKeywords Builtin.Frozenset.updateFrom
        generalize hPI : pyIter = PI
        wp_walk
        subst hPI
        refine wpAny_pyIter_list il ?_
        refine wpAny_bind (wpAny_runValue ?_)
        have hlS : l < s.heap.objs.size := Heap.lt_size hol
        have hh3 : A.in1.in1.in1.handled = none := by simp [hh]
        have neI : l ≠ (s.heap.push (set0 w)).objs.size := by
          rw [Heap.size_push]; exact Nat.ne_of_lt (Nat.lt_succ_of_lt hlS)
        have notIn : s.heap.objs.size ∉ [(s.heap.push (set0 w)).objs.size, l] := by
          rw [Heap.size_push, List.mem_cons, List.mem_singleton, not_or]; exact ⟨Nat.ne_of_lt (Nat.lt_succ_self _), Nat.ne_of_gt hlS⟩
        have val : ∀ (i : Nat) (v : Value), items[i]? = some v → ∃ k t, ns[i]? = some k ∧ v = .int k t := fun i v hv => by
          have hi : i < ns.length := by rw [← hn]; exact (Array.getElem?_eq_some_iff.mp hv).1
          obtain ⟨t, e⟩ := PyProof.Rows.IntsAre.int_at hit i v (by rw [Array.getElem?_toList]; exact hv)
          exact ⟨ns[i], t, by simp [hi], by rw [e]; simp [List.getD, hi]⟩
        refine set_update_ints ((Walks.list hh3 _ l neI items).toS) s.heap.objs.size notIn ns hn hb val (items.size - 0) 0 _ (by omega) (Nat.zero_le _) ⟨⟨_, Heap.get?_push_size _ rfl, rfl, rfl⟩, (il.push _)⟩ ?h0 ?hR
        case h0 =>
          exact ⟨0, Nat.le_refl 0, setR_new_at (Heap.get?_push_of_some _ at0)⟩
        case hR =>
          intro s' c' hm hc' hS'
          obtain ⟨h', g2, d', tk', os'⟩ := s'
          obtain rfl : g2 = s.gens := hm.gens
          obtain rfl : d' = s.drawn := hm.drawn
          obtain rfl : os' = s.os := hm.os
          show wpAny _ _ _ _ _ _
          refine wpAny_pure ?_
          show wpAny _ _ (ret Value.none) _ _ _
          rw [hn] at hc'
          refine wpAny_pure ⟨rfl, h', tk', c', rfl, hS', hc', fun b o e => ?_⟩
          have hb0 : b < s.heap.objs.size := Heap.lt_size e
          exact hm.heap b o (by rw [Heap.size_push, List.mem_cons, List.mem_singleton, not_or]; exact ⟨Nat.ne_of_lt hb0, Nat.ne_of_lt (Nat.lt_succ_of_lt hb0)⟩) (Heap.get?_push_of_some _ (Heap.get?_push_of_some _ e))
      · cases r₂ with
        | error e => exact hr₂
        | ok fl₂ =>
          cases fl₂ with
          | ret r =>
            obtain ⟨rfl, h', tk, c', rfl, hS', hc', hk'⟩ := hr₂
            repeat (any_goals (first | assumption | wp_step))
            exact h _ _ _ hS' hc' hk'
          | _ => exact hr₂.elim
    | _ => exact hr.elim
end
/-! ### the ints of a list, ascending, none twice -/
theorem mem_insI {x y : Int} : ∀ {l : List Int}, y ∈ insI x l ↔ y = x ∨ y ∈ l
  | [] => by simp [insI]
  | z :: r => by
    unfold insI
    split
    · simp
    · split
      · rename_i h
        subst h
        simp
      · rw [List.mem_cons, mem_insI, List.mem_cons]
        constructor
        · rintro (h | h | h)
          · exact .inr (.inl h)
          · exact .inl h
          · exact .inr (.inr h)
        · rintro (h | h | h)
          · exact .inr (.inl h)
          · exact .inl h
          · exact .inr (.inr h)
theorem mem_setI {y : Int} : ∀ {l : List Int}, y ∈ setI l ↔ y ∈ l
  | [] => by simp [setI]
  | x :: r => by
    show y ∈ insI x (setI r) ↔ _
    rw [mem_insI, mem_setI, List.mem_cons]
theorem insI_pw {x : Int} : ∀ {l : List Int}, l.Pairwise (· < ·) → (insI x l).Pairwise (· < ·)
  | [], _ => by simp [insI]
  | z :: r, h => by
    obtain ⟨h1, h2⟩ := List.pairwise_cons.mp h
    unfold insI
    split
    · rename_i hx
      refine List.pairwise_cons.mpr ⟨fun y hy => ?_, h⟩
      rcases List.mem_cons.mp hy with rfl | hy
      · exact hx
      · exact Int.lt_trans hx (h1 y hy)
    · split
      · exact h
      · rename_i hx hz
        refine List.pairwise_cons.mpr ⟨fun y hy => ?_, insI_pw h2⟩
        rcases mem_insI.mp hy with rfl | hy
        · omega
        · exact h1 y hy
theorem setI_pw : ∀ l : List Int, (setI l).Pairwise (· < ·)
  | [] => List.Pairwise.nil
  | x :: r => insI_pw (setI_pw r)
/-- ascending lists of the same ints are one -/
theorem asc_eq : ∀ {l m : List Int}, l.Pairwise (· < ·) → m.Pairwise (· < ·) → (∀ k, k ∈ l ↔ k ∈ m) → l = m
  | [], [], _, _, _ => rfl
  | [], y :: m, _, _, h => absurd ((h y).mpr List.mem_cons_self) (by simp)
  | x :: l, [], _, _, h => absurd ((h x).mp List.mem_cons_self) (by simp)
  | x :: l, y :: m, h1, h2, h => by
    obtain ⟨a1, a2⟩ := List.pairwise_cons.mp h1
    obtain ⟨b1, b2⟩ := List.pairwise_cons.mp h2
    have e : x = y := by
      rcases List.mem_cons.mp ((h x).mp List.mem_cons_self) with e | e
      · exact e
      · rcases List.mem_cons.mp ((h y).mpr List.mem_cons_self) with e' | e'
        · exact e'.symm
        · have := a1 y e'; have := b1 x e; omega
    subst e
    rw [asc_eq a2 b2 fun k => ?_]
    constructor
    · intro hk
      rcases List.mem_cons.mp ((h k).mp (List.mem_cons_of_mem _ hk)) with e | e
      · subst e; have := a1 k hk; omega
      · exact e
    · intro hk
      rcases List.mem_cons.mp ((h k).mpr (List.mem_cons_of_mem _ hk)) with e | e
      · subst e; have := b1 k hk; omega
      · exact e
theorem setI_unique {ns l : List Int} (h : l.Pairwise (· < ·)) (e : ∀ k, k ∈ l ↔ k ∈ ns) : l = setI ns := asc_eq h (setI_pw ns) fun k => by rw [e k, mem_setI]
/-- lists without doubles of the same ints are as long -/
theorem same_length {l m : List Int} (hl : l.Nodup) (hm : m.Nodup) (h : ∀ k, k ∈ l ↔ k ∈ m) : l.length = m.length := by
  have p : l.Perm m := by
    rw [List.perm_iff_count]
    intro a
    rw [List.Nodup.count hl, List.Nodup.count hm]
    by_cases q : a ∈ l
    · rw [if_pos q, if_pos ((h a).mp q)]
    · rw [if_neg q, if_neg (fun z => q ((h a).mpr z))]
  exact p.length_eq
theorem setI_nodup (ns : List Int) : (setI ns).Nodup := (setI_pw ns).imp fun h => Int.ne_of_lt h
section
variable {X : Cx} {nm : Nat → Option Addr}
/-- set(x), x a list or tuple of ints -/
theorem set_any {pins : List (Addr × Obj)} {σ : L2.St} {H : Hp} {s : Shared} {F : Hp} {x : V} {u : Value} {d : D} {xs : List D} {ns : List Int} {Q : Value → Shared → Prop} {E : Value → Shared → Prop} (hc : X.calm = true) (I : Inv X pins σ H s) (sF : Same F H) (l : Lk X.K nm F H x d) (rx : RelV x u) (e : d.seq = some xs) (ei : intsOf xs = some ns) (hb : ns.length + 1 < scanBound)
    (h : ∀ (h' : Heap) (tk c : Nat), SetR X.w h' s.heap.objs.size (fun j => decide (j ∈ ns)) c → (∀ b o, s.heap.get? b = some o → h'.get? b = some o) → Q (.ref s.heap.objs.size) { s with heap := h', toks := tk }) :
    wpAny (model X.prog X.w) X.A (call (.type "set") [u]) Q E s := by
  cases d <;> simp only [D.seq] at e <;> first | (cases e; done) | skip
  · cases e
    obtain ⟨p, vs, rfl, ha, la, ra⟩ := l.tup sF
    obtain rfl : u = Value.ref p := rx
    cases ra.ints ei
    obtain ⟨its, r1, pl, hz⟩ := I.tuple (ha.sq sF)
    exact call_set_tupI ns (I.ok.hd hc) pl (by simpa using r1.ints) hb fun h' tk c a _ k => h h' tk c a k
  · cases e
    obtain ⟨p, vs, rfl, ha, la, ra⟩ := l.lst sF
    obtain rfl : u = Value.ref p := rx
    cases ra.ints ei
    obtain ⟨its, r1, pl, hz⟩ := I.list (SqL.of ha)
    exact set_listR ns (I.ok.hd hc) pl.isList (by simpa using r1.ints) hb fun h' tk c a _ k => h h' tk c a k
def tUn1 (r : V → Hp → VK → Prop) (ta : TE) : TE := fun σ H Q => ta σ H fun x H1 => r x H1 Q
def rLenset (K : PySem.W.Frag) (nm : Nat → Option Addr) (x : V) (H : Hp) (Q : VK) : Prop := ∃ F d r, Same F H ∧ Lk K nm F H x d ∧ bLenset [d] = some r ∧ ∀ v H', Rz K nm F H r v H' → Q v H'
def rSortedset (K : PySem.W.Frag) (nm : Nat → Option Addr) (x : V) (H : Hp) (Q : VK) : Prop := ∃ F d r, Same F H ∧ Lk K nm F H x d ∧ bSortedset [d] = some r ∧ ∀ v H', Rz K nm F H r v H' → Q v H'
theorem pe_lenset {a : Expr} {ta : TE} {p p2 q pos : Pos} (hc : X.calm = true) (hg : Gl X "len") (hm : X.mg "len" = none) (hg2 : Gl X "set") (hm2 : X.mg "set" = none) (ha : PE X a ta)
    (na : starEach [a] X.env = (false, eval a X.env) :: starEach [] X.env) : PE X (.Call (.Name "len" p) [.Call (.Name "set" p2) [a] [] q] [] pos) (tUn1 (rLenset X.K nm) ta) := by
  refine ⟨fun pins s σ H Q I h => ?_⟩
  refine Call_ (ld_blt I hg hm PySem.boot_len (PyProof.Rows.callWith_builtin1 (PyProof.Rows.args_cons ?_ rfl) rfl rfl))
  refine Call_ (ld_blt I hg2 hm2 PyProof.Rows.boot_set (PyProof.Rows.callWith_type1 (PyProof.Rows.args_cons (thn (ha.run pins s σ H _ I h) fun v s1 ⟨x, H1, I1, r1, q1⟩ => PyProof.Rows.args_nil ?_) na) na rfl))
  obtain ⟨F, d, r, sF, l, e, q1⟩ := q1
  unfold bLenset at e
  obtain ⟨ns, e1, e2⟩ := Option.bind_eq_some_iff.mp e
  obtain ⟨xs, e3, e4⟩ := Option.bind_eq_some_iff.mp e1
  split at e2
  · rename_i hz
    cases e2
    refine set_any hc I1 sF l r1 e3 e4 (by unfold scanBound; omega) fun h' tk c R k => ?_
    refine PyProof.Rows.args_nil ?_
    obtain ⟨o, es, ep, t, ho, hex, hd, g, nd, hmem, hb, hf, hn, hr, hl⟩ := R
    have hlen : es.size = (setI ns).length := by
      have := same_length nd (setI_nodup ns) (fun j => by rw [← hmem j, mem_setI]; simp)
      rw [List.length_map, Array.length_toList] at this
      exact this
    have I2 : Inv X pins σ H1 { s1 with heap := h', toks := tk } := I1.kept k
    have hfit : (es.size : Int) < 2 ^ 63 := by unfold scanBound at hb; omega
    exact call_len_set ho hex hd hf hfit ⟨.int es.size, H1, I2.tok _, ⟨_, rfl⟩, by rw [hlen]; exact q1 _ _ (.z0 (.int _))⟩
  · cases e2
end
end Pv

set_option Elab.async false
set_option linter.all false
set_option maxRecDepth 100000
set_option maxHeartbeats 4000000
set_option autoImplicit false
/-! Pv, part I: what stands for good from now on; calls of defs. -/
namespace Pv
open PySem PySem.Spec PyProof.Rows L2
section
variable {K : PySem.W.Frag} {nm : Nat → Option Addr} {ex : Nat → Value} {W : WX} {F0 G F F' H H' : Hp} {ρ : Env} {σ : L2.St} {r q : R} {v : V} {d : D} {α β : Type}
theorem HRep.rep {a : Addr} {o : HO} (h : HRep K nm F (some o) d) (e : F a = some o) : Rep K nm F (.ref a) d := by
  cases d with
  | lst xs => obtain ⟨vs, e1, l, r⟩ := h; cases e1; exact .lst e l r
  | dic xs => obtain ⟨vs, e1, l, r⟩ := h; cases e1; exact .dic e l r
  | _ => exact h.elim
/-- the object at a stands for good from now on -/
theorem SR.stand {a : Addr} {o : HO} (S : SR K nm F0 G F ρ σ H) (e : H a = some o) (g : G a = none) (p : Apart ρ σ a) : SR K nm F0 G (upd F a o) ρ σ H ∧ Same F (upd F a o) := by
  have s1 : Same F (upd F a o) := upd_same_old fun u q => by rw [S.fh a u q] at e; exact Option.some.inj e
  refine ⟨⟨S.len, fun b u q => ?_, S.gh, S.ff.trans s1, fun b u q => ?_, fun i d q => ?_, fun i d q => ?_, S.ap⟩, s1⟩
  · by_cases hb : b = a
    · subst hb; rw [upd_same] at q; rw [e, q]
    · rw [upd_ne hb] at q; exact S.fh b u q
  · by_cases hb : b = a
    · subst hb; exact .inr g
    · rw [upd_ne hb] at q; exact S.new b u q
  · obtain ⟨v, e1, r⟩ := S.fz i d q; exact ⟨v, e1, r.mono s1⟩
  · obtain ⟨b, e1, f1, g1, h1⟩ := S.mu i d q
    have hb : b ≠ a := fun z => p i d q (z ▸ e1)
    exact ⟨b, e1, by rw [upd_ne hb]; exact f1, g1, h1.mono s1⟩
theorem get_set {ρ : Env} {i j : Nat} {x y : Option (D × Bool)} (h : (ρ.set i x)[j]? = some y) : (i = j ∧ x = y ∧ i < ρ.length) ∨ (i ≠ j ∧ ρ[j]? = some y) := by
  by_cases e : i = j
  · subst e
    by_cases hl : i < ρ.length
    · rw [List.getElem?_set_self hl] at h; exact .inl ⟨rfl, Option.some.inj h, hl⟩
    · rw [List.getElem?_eq_none (by rw [List.length_set]; omega)] at h; cases h
  · rw [List.getElem?_set_ne e] at h; exact .inr ⟨e, h⟩
/-- the i-th name's list stands for good from now on -/
theorem SR.standS {i : Nat} (S : SR K nm F0 G F ρ σ H) (e : ρ[i]? = some (some (d, true))) : ∃ F1, SR K nm F0 G F1 (ρ.set i (some (d, false))) σ H ∧ Same F F1 := by
  obtain ⟨a, e1, f1, g1, h1⟩ := S.mu i d e
  obtain ⟨o, ho⟩ := h1.obj
  have s1 : Same F (upd F a o) := same_new f1
  refine ⟨upd F a o, ⟨by rw [List.length_set]; exact S.len, fun b u q => ?_, S.gh, S.ff.trans s1, fun b u q => ?_, fun j e2 q => ?_, fun j e2 q => ?_, fun j l e2 e3 b q1 q2 => ?_⟩, s1⟩
  · by_cases hb : b = a
    · subst hb; rw [upd_same] at q; rw [ho, q]
    · rw [upd_ne hb] at q; exact S.fh b u q
  · by_cases hb : b = a
    · subst hb; exact .inr g1
    · rw [upd_ne hb] at q; exact S.new b u q
  · rcases get_set q with ⟨rfl, h, _⟩ | ⟨_, h⟩
    · cases h
      exact ⟨_, e1, HRep.rep (o := o) (by rw [← ho]; exact h1.mono s1) upd_same⟩
    · obtain ⟨v, e3, r⟩ := S.fz j e2 h; exact ⟨v, e3, r.mono s1⟩
  · rcases get_set q with ⟨rfl, h, _⟩ | ⟨hne, h⟩
    · cases h
    · obtain ⟨b, e3, f2, g2, h2⟩ := S.mu j e2 h
      have hb : b ≠ a := fun z => hne (S.ap i j d e2 a e h e1 (z ▸ e3))
      exact ⟨b, e3, by rw [upd_ne hb]; exact f2, g2, h2.mono s1⟩
  · rcases get_set q1 with ⟨rfl, h, _⟩ | ⟨_, h⟩
    · cases h
    · rcases get_set q2 with ⟨rfl, h', _⟩ | ⟨_, h'⟩
      · cases h'
      · exact S.ap j l e2 e3 b h h'
theorem Apart.set {i : Nat} {a : Addr} (h : Apart ρ σ a) : Apart (ρ.set i (some (d, false))) σ a := fun j e q => by
  rcases get_set q with ⟨rfl, h', _⟩ | ⟨_, h'⟩
  · cases h'
  · exact h j e h'
theorem WR.set {i : Nat} (s : Same F F') (h : WR K nm F G H ρ σ r v) : WR K nm F' G H (ρ.set i (some (d, false))) σ r v := by
  obtain ⟨rd, k⟩ := r
  cases k with
  | z => exact Rep.mono s (show Rep K nm F v rd from h)
  | s i => exact h
  | f =>
    rcases h with h | ⟨a, e, g, q, p⟩
    · exact .inl (h.mono s)
    · exact .inr ⟨a, e, g, q.mono s, p.set⟩
/-- a value stands for good from now on -/
theorem frz_ok {f : D → M β} {k : β → Env → Hp → Hp → Prop} (S : SR K nm F0 G F ρ σ H) (h : WR K nm F G H ρ σ r v) (P : Po K nm ex W F0 G F σ (M.bind (frz r) f ρ) k) :
    ∃ F1 ρ1 d, SR K nm F0 G F1 ρ1 σ H ∧ Same F F1 ∧ Rep K nm F1 v d ∧ frz r ρ = (.ok d, ρ1) ∧ (∀ q y, WR K nm F G H ρ σ q y → WR K nm F1 G H ρ1 σ q y) ∧ Po K nm ex W F0 G F1 σ (f d ρ1) k := by
  obtain ⟨rd, kd⟩ := r
  cases kd with
  | z => exact ⟨F, ρ, rd, S, Same.refl _, h, rfl, fun _ _ h => h, P⟩
  | f =>
    rcases h with h | ⟨a, rfl, g, q, p⟩
    · exact ⟨F, ρ, rd, S, Same.refl _, h, rfl, fun _ _ h => h, P⟩
    · obtain ⟨o, ho⟩ := q.obj
      obtain ⟨S1, s1⟩ := S.stand ho g p
      refine ⟨_, ρ, rd, S1, s1, HRep.rep (o := o) (by rw [← ho]; exact q.mono s1) upd_same, rfl, fun q y hq => WR.mono s1 (fun _ _ _ _ => rfl) hq, ?_⟩
      exact Po.weak s1 P
  | s i =>
    have h : σ[i]? = some (some v) := h
    cases e : ρ[i]? with
    | none => simp only [M.bind, frz, e] at P; exact P.elim
    | some x =>
      cases x with
      | none => simp only [M.bind, frz, e] at P; exact P.elim
      | some x =>
        obtain ⟨d, b⟩ := x
        have hf : frz ⟨rd, .s i⟩ ρ = (.ok d, ρ.set i (some (d, false))) := by simp only [frz, e]
        have P' : Po K nm ex W F0 G F σ (f d (ρ.set i (some (d, false)))) k := by
          unfold M.bind at P; rw [hf] at P; exact P
        cases b with
        | false =>
          obtain ⟨v', e1, r⟩ := S.fz i d e
          rw [h] at e1; cases e1
          have he : ρ.set i (some (d, false)) = ρ := by
            apply List.ext_getElem?
            intro j
            by_cases hj : i = j
            · subst hj
              rw [List.getElem?_set_self (List.getElem?_eq_some_iff.mp e).1, e]
            · rw [List.getElem?_set_ne hj]
          exact ⟨F, _, d, by rw [he]; exact S, Same.refl _, r, hf, fun q y hq => WR.set (Same.refl _) hq, P'⟩
        | true =>
          obtain ⟨F1, S1, s1⟩ := S.standS e
          have e2 : (ρ.set i (some (d, false)))[i]? = some (some (d, false)) := List.getElem?_set_self (List.getElem?_eq_some_iff.mp e).1
          obtain ⟨v', e1, r⟩ := S1.fz i d e2
          rw [h] at e1; cases e1
          exact ⟨F1, _, d, S1, s1, r, hf, fun q y hq => WR.set s1 hq, Po.weak s1 P'⟩
theorem bind_assoc' {α β γ : Type} (m : M α) (f : α → M β) (g : β → M γ) : M.bind (M.bind m f) g = M.bind m fun a => M.bind (f a) g := by
  funext ρ
  unfold M.bind
  cases m ρ with
  | mk o ρ' => cases o <;> rfl
theorem pure_bind' {α β : Type} (a : α) (f : α → M β) : M.bind (M.pure a) f = f a := rfl
theorem frzs_ok {k : β → Env → Hp → Hp → Prop} : ∀ {rs : List R} {vs : List V} {F : Hp} {ρ : Env} {f : List D → M β}, SR K nm F0 G F ρ σ H → WRs K nm F G H ρ σ rs vs → Po K nm ex W F0 G F σ (M.bind (frzs rs) f ρ) k →
    ∃ F1 ρ1 ds, SR K nm F0 G F1 ρ1 σ H ∧ Same F F1 ∧ Reps K nm F1 vs ds ∧ (∀ q y, WR K nm F G H ρ σ q y → WR K nm F1 G H ρ1 σ q y) ∧ Po K nm ex W F0 G F1 σ (f ds ρ1) k
  | [], [], F, ρ, f, S, _, P => ⟨F, ρ, [], S, Same.refl _, .nil, fun _ _ h => h, P⟩
  | [], _ :: _, _, _, _, _, h, _ => h.elim
  | _ :: _, [], _, _, _, _, h, _ => h.elim
  | r :: rs, v :: vs, F, ρ, f, S, ⟨h1, h2⟩, P => by
    have P1 : Po K nm ex W F0 G F σ (M.bind (frz r) (fun d => M.bind (frzs rs) fun ds => f (d :: ds)) ρ) k := by
      have e : M.bind (frzs (r :: rs)) f = M.bind (frz r) (fun d => M.bind (frzs rs) fun ds => f (d :: ds)) := by
        show M.bind (M.bind (frz r) fun d => M.bind (frzs rs) fun ds => M.pure (d :: ds)) f = _
        rw [bind_assoc']
        congr 1
        funext d
        rw [bind_assoc']
        rfl
      rw [← e]; exact P
    obtain ⟨F1, ρ1, d, S1, s1, rd, _, k1, P2⟩ := frz_ok S h1 P1
    have h2' : WRs K nm F1 G H ρ1 σ rs vs := by
      clear P P1 P2 rd
      induction rs generalizing vs with
      | nil => cases vs with
        | nil => trivial
        | cons => exact h2.elim
      | cons r' rs ih => cases vs with
        | nil => exact h2.elim
        | cons v' vs => exact ⟨k1 _ _ h2.1, ih _ h2.2⟩
    obtain ⟨F2, ρ2, ds, S2, s2, rds, k2, P3⟩ := frzs_ok (f := fun ds => f (d :: ds)) S1 h2' P2
    exact ⟨F2, ρ2, d :: ds, S2, s1.trans s2, .cons (rd.mono s2) rds, fun q y hq => k2 q y (k1 q y hq), P3⟩
theorem pks_ok {k : β → Env → Hp → Hp → Prop} : ∀ {rs : List R} {vs : List V} {f : List D → M β}, SR K nm F0 G F ρ σ H → WRs K nm F G H ρ σ rs vs → Po K nm ex W F0 G F σ (M.bind (pks rs) f ρ) k →
    ∃ ds, vs.length = ds.length ∧ (∀ (i : Nat) (x : V) (d : D), vs[i]? = some x → ds[i]? = some d → Lk K nm F H x d) ∧ Po K nm ex W F0 G F σ (f ds ρ) k
  | [], [], f, S, _, P => ⟨[], rfl, fun i x d e => by simp at e, P⟩
  | [], _ :: _, _, _, h, _ => h.elim
  | _ :: _, [], _, _, h, _ => h.elim
  | r :: rs, v :: vs, f, S, ⟨h1, h2⟩, P => by
    have P1 : Po K nm ex W F0 G F σ (M.bind (pk r) (fun d => M.bind (pks rs) fun ds => f (d :: ds)) ρ) k := by
      have e : M.bind (pks (r :: rs)) f = M.bind (pk r) (fun d => M.bind (pks rs) fun ds => f (d :: ds)) := by
        show M.bind (M.bind (pk r) fun d => M.bind (pks rs) fun ds => M.pure (d :: ds)) f = _
        rw [bind_assoc']
        congr 1
        funext d
        rw [bind_assoc']
        rfl
      rw [← e]; exact P
    obtain ⟨d, e, P2⟩ := P1.pk
    obtain ⟨ds, hl, hk, P3⟩ := pks_ok (f := fun ds => f (d :: ds)) S h2 P2
    refine ⟨d :: ds, by simp [hl], fun i x d' e1 e2 => ?_, P3⟩
    cases i with
    | zero => simp at e1 e2; subst e1; subst e2; exact h1.lk S e
    | succ i => simp at e1 e2; exact hk i x d' e1 e2
end
/-! ### what a def's call promises -/
/-- what others hold, but p -/
def Gp (H : Hp) (p : Option Addr) : Hp := fun b => if some b = p then none else H b
section
variable (K : PySem.W.Frag) (nm : Nat → Option Addr) (ex : Nat → Value)
structure Fin (F H : Hp) (p : Option Addr) (F' H' : Hp) (c' : D) : Prop where
  ff : Same F F'
  fh : Same F' H'
  gh : Same (Gp H p) H'
  new : ∀ b o, F' b = some o → (∃ u, F b = some u) ∨ Gp H p b = none
  io : ∀ a, p = some a → F' a = none ∧ HRep K nm F' (H' a) c'
def RV (F' H H' : Hp) (p : Option Addr) (d : D) (fr : Bool) (v : V) : Prop :=
  if fr = true then ∃ a, v = .ref a ∧ F' a = none ∧ Gp H p a = none ∧ p ≠ some a ∧ HRep K nm F' (H' a) d else Rep K nm F' v d
def Args (io : Bool) (F H : Hp) (p : Option Addr) (vs : List V) (ds : List D) : Prop := match io, vs, ds with
  | true, v :: vs', c :: ds' => ∃ a, p = some a ∧ v = .ref a ∧ F a = none ∧ HRep K nm F (H a) c ∧ Reps K nm F vs' ds'
  | true, _, _ => False
  | false, vs, ds => p = none ∧ Reps K nm F vs ds
def spF (io : Bool) (n : Nat) (φ : Fn) : Sp := fun vs H Q E => vs.length = n ∧ ∃ (F : Hp) (p : Option Addr) (ds : List D), Same F H ∧ Args K nm io F H p vs ds ∧
  match φ ds with
  | (.ok (d, fr), c') => ∀ F' v H', Fin K nm F H p F' H' c' → RV K nm F' H H' p d fr v → Q v H'
  | (.exc n, c') => ∀ F' H', Fin K nm F H p F' H' c' → E (ex n) none H'
  | (.bad, _) => False
end
section
variable {K : PySem.W.Frag} {nm : Nat → Option Addr} {ex : Nat → Value} {W : WX} {F0 G F F' H H' : Hp} {ρ : Env} {σ : L2.St} {r q : R} {v : V} {d : D} {α β : Type}
theorem gp_none {b : Addr} : Gp H none b = H b := by unfold Gp; rw [if_neg (by simp)]
theorem gp_self {a : Addr} : Gp H (some a) a = none := by unfold Gp; rw [if_pos rfl]
theorem gp_ne {a b : Addr} (h : b ≠ a) : Gp H (some a) b = H b := by unfold Gp; rw [if_neg (by simpa using h)]
theorem Reps.vlen {vs : List V} {ds : List D} (h : Reps K nm F vs ds) : ds.length = vs.length := h.length.symm
/-- behind a call without a list of the caller's own -/
theorem SR.behind (S : SR K nm F0 G F ρ σ H) {c' : D} (f : Fin K nm F H none F' H' c') : SR K nm F0 G F' ρ σ H' := by
  have gh : Same H H' := fun b o e => f.gh b o (by rw [gp_none]; exact e)
  refine ⟨S.len, f.fh, S.gh.trans gh, S.ff.trans f.ff, fun b o e => ?_, fun i d e => ?_, fun i d e => ?_, S.ap⟩
  · rcases f.new b o e with ⟨u, q⟩ | q
    · exact S.new b u q
    · rw [gp_none] at q
      exact .inr (S.gh.free q)
  · obtain ⟨v, e1, r⟩ := S.fz i d e; exact ⟨v, e1, r.mono f.ff⟩
  · obtain ⟨a, e1, f1, g1, h1⟩ := S.mu i d e
    obtain ⟨o, ho⟩ := h1.obj
    refine ⟨a, e1, ?_, g1, by rw [gh a o ho, ← ho]; exact h1.mono f.ff⟩
    cases q : F' a with
    | none => rfl
    | some u =>
      rcases f.new a u q with ⟨u', q'⟩ | q'
      · rw [f1] at q'; cases q'
      · rw [gp_none, ho] at q'; cases q'
theorem RV.rr (S : SR K nm F0 G F ρ σ H) {c' : D} (f : Fin K nm F H none F' H' c') {fr : Bool} (h : RV K nm F' H H' none d fr v) : RR K nm F' G H' ρ σ ⟨d, if fr then .f else .z⟩ v := by
  unfold RV at h
  cases fr with
  | false => exact h
  | true =>
    rw [if_pos rfl] at h
    obtain ⟨a, rfl, f1, g1, _, h1⟩ := h
    rw [gp_none] at g1
    refine ⟨a, rfl, ⟨f1, S.gh.free g1, h1⟩, fun i e q z => ?_⟩
    obtain ⟨b, e1, _, _, h2⟩ := S.mu i e q
    rw [z] at e1; cases e1
    obtain ⟨o, ho⟩ := h2.obj
    rw [g1] at ho; cases ho
/-- .. with the list that the i-th name holds -/
theorem SR.behindS {i : Nat} {c c' : D} {a : Addr} (S : SR K nm F0 G F ρ σ H) (e : ρ[i]? = some (some (c, true))) (ea : σ[i]? = some (some (.ref a))) (f : Fin K nm F H (some a) F' H' c') : SR K nm F0 G F' (ρ.set i (some (c', true))) σ H' := by
  obtain ⟨a', e1, fa, ga, ha⟩ := S.mu i c e
  rw [ea] at e1; cases e1
  have gh : ∀ b o, b ≠ a → H b = some o → H' b = some o := fun b o hb e => f.gh b o (by rw [gp_ne hb]; exact e)
  refine ⟨by rw [List.length_set]; exact S.len, f.fh, fun b o q => gh b o (fun z => by rw [z, ga] at q; cases q) (S.gh b o q), S.ff.trans f.ff, fun b o q => ?_, fun j d q => ?_, fun j d q => ?_, fun j l d1 d2 b q1 q2 => ?_⟩
  · rcases f.new b o q with ⟨u, q⟩ | q
    · exact S.new b u q
    · by_cases hb : b = a
      · rw [hb]; exact .inr ga
      · rw [gp_ne hb] at q; exact .inr (S.gh.free q)
  · rcases get_set q with ⟨rfl, h, _⟩ | ⟨_, h⟩
    · cases h
    · obtain ⟨v, e1, r⟩ := S.fz j d h; exact ⟨v, e1, r.mono f.ff⟩
  · rcases get_set q with ⟨rfl, h, _⟩ | ⟨hne, h⟩
    · cases h
      obtain ⟨f1, h1⟩ := f.io a rfl
      exact ⟨a, ea, f1, ga, h1⟩
    · obtain ⟨b, e1, f1, g1, h1⟩ := S.mu j d h
      obtain ⟨o, ho⟩ := h1.obj
      have hb : b ≠ a := fun z => hne (S.ap i j c d a e h ea (z ▸ e1))
      refine ⟨b, e1, ?_, g1, by rw [gh b o hb ho, ← ho]; exact h1.mono f.ff⟩
      cases q : F' b with
      | none => rfl
      | some u =>
        rcases f.new b u q with ⟨u', q'⟩ | q'
        · rw [f1] at q'; cases q'
        · rw [gp_ne hb, ho] at q'; cases q'
  · have t : ∀ j (d : D), (ρ.set i (some (c', true)))[j]? = some (some (d, true)) → ∃ d', ρ[j]? = some (some (d', true)) := fun j d q => by
      rcases get_set q with ⟨rfl, h, _⟩ | ⟨_, h⟩
      · exact ⟨c, e⟩
      · exact ⟨d, h⟩
    obtain ⟨x, h1⟩ := t j d1 q1
    obtain ⟨y, h2⟩ := t l d2 q2
    exact S.ap j l x y b h1 h2
theorem RV.rrS {i : Nat} {c c' : D} {a : Addr} (S : SR K nm F0 G F ρ σ H) (e : ρ[i]? = some (some (c, true))) (ea : σ[i]? = some (some (.ref a))) (f : Fin K nm F H (some a) F' H' c') {fr : Bool} (h : RV K nm F' H H' (some a) d fr v) :
    RR K nm F' G H' (ρ.set i (some (c', true))) σ ⟨d, if fr then .f else .z⟩ v := by
  unfold RV at h
  cases fr with
  | false => exact h
  | true =>
    rw [if_pos rfl] at h
    obtain ⟨b, rfl, f1, g1, p1, h1⟩ := h
    have hb : b ≠ a := fun z => p1 (by rw [z])
    rw [gp_ne hb] at g1
    refine ⟨b, rfl, ⟨f1, S.gh.free g1, h1⟩, fun j y q z => ?_⟩
    rcases get_set q with ⟨rfl, h, _⟩ | ⟨hne, h⟩
    · rw [ea] at z; cases z; exact hb rfl
    · obtain ⟨b', e1, _, _, h2⟩ := S.mu j y h
      rw [z] at e1; cases e1
      obtain ⟨o, ho⟩ := h2.obj
      rw [g1] at ho; cases ho
/-- a call: from the values of the arguments to what the def promises -/
theorem call_ok {io : Bool} {φ : Fn} {n : Nat} {rs : List R} {vs : List V} {Q : VK} (S : SR K nm F0 G F ρ σ H) (h : WRs K nm F G H ρ σ rs vs) (hn : ∀ ds, (φ ds).1 ≠ .bad → ds.length = n)
    (P : Po K nm ex W F0 G F σ (callF io φ rs ρ) fun r ρ' F' H' => ∀ v, RR K nm F' G H' ρ' σ r v → Q v H') : spF K nm ex io n φ vs H Q (WE W σ) := by
  unfold callF at P
  cases io with
  | false =>
    rw [if_neg (by simp)] at P
    obtain ⟨F1, ρ1, ds, S1, s1, rds, k1, P1⟩ := frzs_ok (f := fun ds => fun ρ => match (φ ds).1 with
      | .ok (d, fr) => (.ok (⟨d, if fr then .f else .z⟩ : R), ρ)
      | .exc n => (.exc n, ρ)
      | .bad => (.bad, ρ)) S h P
    have hl : ds.length = n := hn ds fun z => by simp only [z] at P1; exact P1.elim
    refine ⟨by rw [rds.length]; exact hl, F1, none, ds, S1.fh, ⟨rfl, rds⟩, ?_⟩
    cases e : φ ds with
    | mk o c' =>
      rw [e] at P1
      cases o with
      | bad => exact P1.elim
      | exc m => exact fun F' H' f => P1 F' H' (S1.behind f) f.ff
      | ok x =>
        obtain ⟨d, fr⟩ := x
        exact fun F' v H' f rv => P1 F' H' (S1.behind f) f.ff v (RV.rr S1 f rv)
  | true =>
    rw [if_pos rfl] at P
    match rs, vs, h, P with
    | [], _, _, P => exact P.elim
    | ⟨_, .z⟩ :: _, _, _, P => exact P.elim
    | ⟨_, .f⟩ :: _, _, _, P => exact P.elim
    | ⟨_, .s i⟩ :: rest, [], h, _ => exact h.elim
    | ⟨d0, .s i⟩ :: rest, v0 :: vs, ⟨h0, h⟩, P =>
      have h0 : σ[i]? = some (some v0) := h0
      obtain ⟨F1, ρ1, ds, S1, s1, rds, k1, P1⟩ := frzs_ok (f := fun ds => fun ρ => match ρ[i]? with
        | some (some (c, true)) => match φ (c :: ds) with
          | (.ok (d, fr), c') => (.ok (⟨d, if fr then .f else .z⟩ : R), ρ.set i (some (c', true)))
          | (.exc n, c') => (.exc n, ρ.set i (some (c', true)))
          | (.bad, _) => (.bad, ρ)
        | _ => (.bad, ρ)) S h P
      cases e : ρ1[i]? with
      | none => simp only [e] at P1; exact P1.elim
      | some x =>
        match x, e with
        | none, e => simp only [e] at P1; exact P1.elim
        | some (c, false), e => simp only [e] at P1; exact P1.elim
        | some (c, true), e =>
          simp only [e] at P1
          obtain ⟨a, ea, fa, ga, ha⟩ := S1.mu i c e
          have ev : v0 = .ref a := by rw [ea] at h0; cases h0; rfl
          have hl : (c :: ds).length = n := hn (c :: ds) fun z => by
            cases q : φ (c :: ds) with
            | mk o c' => rw [q] at z P1; dsimp only at z; subst z; exact P1.elim
          refine ⟨by rw [List.length_cons, rds.length]; exact hl, F1, some a, c :: ds, S1.fh, ⟨a, rfl, ev, fa, ha, rds⟩, ?_⟩
          cases q : φ (c :: ds) with
          | mk o c' =>
            rw [q] at P1
            cases o with
            | bad => exact P1.elim
            | exc m => exact fun F' H' f => P1 F' H' (S1.behindS e ea f) f.ff
            | ok x =>
              obtain ⟨d, fr⟩ := x
              exact fun F' v H' f rv => P1 F' H' (S1.behindS e ea f) f.ff v (RV.rrS S1 e ea f rv)
end
end Pv

set_option Elab.async false
set_option linter.all false
set_option maxRecDepth 100000
set_option autoImplicit false
/-! Pv, part T: terms, statements, programs, and what they compute. -/
namespace Pv
open PySem PySem.Spec PyProof.Rows L2
/-! ### terms -/
/-- targets of an assignment: a name, names in a row -/
inductive T where
  | one (i : Nat) | many (is : List Nat)
def T.slots : T → List Nat
  | .one i => [i]
  | .many is => is
inductive At where
  | non | bl (b : Bool) | int (i : Int) | str (x : Str)
def At.d : At → D
  | .non => .non
  | .bl b => .bl b
  | .int i => .int i
  | .str x => .str x
inductive E where
  | nm (i : Nat) | lit (a : At) | gi (x : Str) (v : Int) | gf (g : Nat)
  | op (o : O2) (a b : E) | neg (a : E) | isn (n : Bool) (a : E) | chain (o p : O2) (a b c : E)
  | and (a b : E) | or (a b : E) | bo1 (a : E) | not (a : E) | ort (a b : E) | ife (c a b : E)
  | tup (es : E) | lst (es : E) | ix (a i : E) | sl (a lo hi : E) | no
  | bi (b : B) (es : E) | isi (a : E) (ts : List String) (many : Bool)
  | call (g : Nat) (es : E) | callk (g : Nat) (es : E) (ks : List Nat) (kes : E) | callv (i : Nat) (es : E)
  | idx (a b : E) | cnt (a b : E)
  | app (i : Nat) (a : E) | ext (i : Nat) (a : E) | pop (i : Nat) | popi (i : Nat) (a : E) | rem (i : Nat) (a : E)
  | dnew | disp (a b : E) | lset (a : E) | sset (a : E) | rng1 (a : E) | rng2 (a b : E) | lrng1 (a : E) | lrng2 (a b : E) | enum (a : E) | zip (a b : E) | rev (a : E)
  | lc (tg : T) (it cs el : E) | lc2 (tg : T) (it cs : E) (tg2 : T) (it2 cs2 el : E)
  | nil | cons (a b : E)
structure Sm where
  val : M R
  tst : M Bool
  many : M (List R)
  itr : M (List D)
  opt : M (Option Int)
def truM (m : M R) : M Bool := M.bind m fun r => M.bind (pk r) fun d => ofO (truD d)
def itrM (m : M R) : M (List D) := M.bind m fun r => M.bind (frz r) fun d => ofO d.items
def optM (m : M R) : M (Option Int) := M.bind m fun r => M.bind (pk r) fun d => match d with
  | .int i => M.pure (some i)
  | _ => M.bad
def Sm.of (m : M R) : Sm := ⟨m, truM m, M.bad, itrM m, optM m⟩
def setE (ρ : Env) (i : Nat) (v : D) (b : Bool) : Env := ρ.set i (some (v, b))
def setMany : List Nat → List D → Env → Option Env
  | [], [], ρ => some ρ
  | i :: is, d :: ds, ρ => setMany is ds (setE ρ i d false)
  | _, _, _ => none
def setT (t : T) (d : D) (ρ : Env) : Option Env := match t with
  | .one i => some (setE ρ i d false)
  | .many is => match d with
    | .tup xs => setMany is xs ρ
    | .pr xs => setMany is xs ρ
    | _ => none
def wipeE (ρ : Env) : List Nat → Env
  | [] => ρ
  | i :: is => (wipeE ρ is).set i none
def frzAll (is : List Nat) (ρ : Env) : Env := is.foldl (fun ρ i => frzS i ρ) ρ
/-- the slots is as they stand in ρ0 -/
def backE (ρ0 ρ : Env) : List Nat → Env
  | [] => ρ
  | i :: is => (backE ρ0 ρ is).set i (ρ0[i]?.getD none)
/-- order the arguments of a call with names: ks tells each named argument's place -/
def kwArgs (as : List R) (ks : List Nat) (bs : List R) : Option (List R) :=
  ((List.range (as.length + bs.length)).mapM fun p => if p < as.length then as[p]? else (ks.findIdx? (· == p)).bind fun q => bs[q]?)
def lcGo (os : List Nat) (tg : T) (ρ0 : Env) (ct : M Bool) (el : M R) : List D → List D → M (List D)
  | [], acc => M.pure acc
  | x :: xs, acc => fun ρ => match setT tg x (wipeE ρ os) with
    | none => (.bad, ρ)
    | some ρ1 => match M.bind ct (fun b => if b then M.bind (M.bind el frz) (fun d => M.pure (some d)) else M.pure none) ρ1 with
      | (.ok (some d), ρ2) => lcGo os tg ρ0 ct el xs (acc ++ [d]) (backE ρ0 ρ2 os)
      | (.ok none, ρ2) => lcGo os tg ρ0 ct el xs acc (backE ρ0 ρ2 os)
      | (.exc _, ρ2) => (.bad, ρ2)
      | (.bad, ρ2) => (.bad, ρ2)
def lcRun (os : List Nat) (tg : T) (it : M (List D)) (ct : M Bool) (el : M R) : M R :=
  M.bind it fun xs => fun ρ =>
    if xs.length ≤ sizeLine then
      M.bind (lcGo os tg (frzAll os ρ) ct el xs []) (fun acc => M.pure ⟨.lst acc, .f⟩) (frzAll os ρ)
    else (.bad, ρ)
/-- the inner walk of [.. for .. for ..] -/
def lc2In (os os2 : List Nat) (tg2 : T) (ρo : Env) (ct2 : M Bool) (el : M R) : List D → List D → M (List D)
  | [], acc => M.pure acc
  | x :: xs, acc => fun ρ => match setT tg2 x (wipeE ρ os2) with
    | none => (.bad, ρ)
    | some ρ1 => match M.bind ct2 (fun b => if b then M.bind (M.bind el frz) (fun d => M.pure (some d)) else M.pure none) ρ1 with
      | (.ok (some d), ρ2) => if acc.length < sizeLine then lc2In os os2 tg2 ρo ct2 el xs (acc ++ [d]) (backE ρo ρ2 os2) else (.bad, ρ2)
      | (.ok none, ρ2) => lc2In os os2 tg2 ρo ct2 el xs acc (backE ρo ρ2 os2)
      | (.exc _, ρ2) => (.bad, ρ2)
      | (.bad, ρ2) => (.bad, ρ2)
def lc2Go (os os2 : List Nat) (tg : T) (ρ0 : Env) (ct : M Bool) (tg2 : T) (it2 : M (List D)) (ct2 : M Bool) (el : M R) : List D → List D → M (List D)
  | [], acc => M.pure acc
  | x :: xs, acc => fun ρ => match setT tg x (wipeE ρ os) with
    | none => (.bad, ρ)
    | some ρ1 => match M.bind ct (fun b => if b then M.bind it2 (fun ys => fun ρ' => lc2In os os2 tg2 (frzAll os2 ρ') ct2 el ys acc (frzAll os2 ρ')) else M.pure acc) ρ1 with
      | (.ok acc', ρ2) => lc2Go os os2 tg ρ0 ct tg2 it2 ct2 el xs acc' (backE ρ0 ρ2 os)
      | (.exc _, ρ2) => (.bad, ρ2)
      | (.bad, ρ2) => (.bad, ρ2)
def lc2Run (os os2 : List Nat) (tg : T) (it : M (List D)) (ct : M Bool) (tg2 : T) (it2 : M (List D)) (ct2 : M Bool) (el : M R) : M R :=
  M.bind it fun xs => fun ρ =>
    M.bind (lc2Go os os2 tg (frzAll os ρ) ct tg2 it2 ct2 el xs []) (fun acc => M.pure ⟨.lst acc, .f⟩) (frzAll os ρ)
/-- the i-th name holds a list or dict that may change -/
def mutOk (i : Nat) : M Unit := fun ρ => match ρ[i]? with
  | some (some (.lst _, true)) => (.ok (), ρ)
  | some (some (.dic _, true)) => (.ok (), ρ)
  | _ => (.bad, ρ)
def mutOkL (i : Nat) : M Unit := fun ρ => match ρ[i]? with
  | some (some (.lst _, true)) => (.ok (), ρ)
  | _ => (.bad, ρ)
/-- change what the i-th name holds -/
def mutS (i : Nat) (f : D → Option (D × R)) : M R := fun ρ => match ρ[i]? with
  | some (some (d, true)) => match f d with
    | some (d', r) => (.ok r, ρ.set i (some (d', true)))
    | none => (.bad, ρ)
  | _ => (.bad, ρ)
def appD (x : D) : D → Option (D × R)
  | .lst a => if a.length < sizeLine then some (.lst (a ++ [x]), ⟨.non, .z⟩) else none
  | _ => none
def extD (x : D) : D → Option (D × R)
  | .lst a => match x with
    | .lst b => if a.length + b.length ≤ sizeLine then some (.lst (a ++ b), ⟨.non, .z⟩) else none
    | .tup b => if a.length + b.length ≤ sizeLine then some (.lst (a ++ b), ⟨.non, .z⟩) else none
    | _ => none
  | _ => none
def popD : D → Option (D × R)
  | .lst a => (a[a.length - 1]?).map fun y => (.lst a.dropLast, ⟨y, .z⟩)
  | _ => none
def popiD (x : D) : D → Option (D × R)
  | .lst a => match x with
    | .int i => (ixN a.length i).bind fun k => (a[k]?).map fun y => (.lst (a.eraseIdx k), ⟨y, .z⟩)
    | _ => none
  | _ => none
def dicPut (k v : D) (kvs : List (D × D)) : List (D × D) :=
  if kvs.any fun p => eqD p.1 k then kvs.map fun p => if eqD p.1 k then (p.1, v) else p else kvs ++ [(k, v)]
def putD (k v : D) : D → Option (D × R)
  | .lst a => match k with
    | .int i => (ixN a.length i).map fun j => (.lst (a.set j v), ⟨.non, .z⟩)
    | _ => none
  | .dic kvs => match k with
    | .int _ => if kvs.length < sizeLine then some (.dic (dicPut k v kvs), ⟨.non, .z⟩) else none
    | _ => none
  | _ => none
def enumD : Nat → List D → List D
  | _, [] => []
  | i, x :: xs => .pr [.int (i : Int), x] :: enumD (i + 1) xs
def zipD : List D → List D → List D
  | x :: xs, y :: ys => .pr [x, y] :: zipD xs ys
  | _, _ => []
def zipO (x y : D) : Option (List D) := match x, y with
  | .lst a, .lst b => some (zipD a b)
  | .tup a, .tup b => some (zipD a b)
  | _, _ => none
/-- the semantics: Φ tells what the defs compute (and whether the first parameter may be changed) -/
def sem (io : Nat → Bool) (Φ : Nat → Fn) : E → Sm
  | .nm i => .of fun ρ => match ρ[i]? with
    | some (some (d, b)) => (.ok ⟨d, if b then .s i else .z⟩, ρ)
    | _ => (.bad, ρ)
  | .lit a => .of (M.pure ⟨a.d, .z⟩)
  | .gi _ v => .of (M.pure ⟨.int v, .z⟩)
  | .gf g => .of (M.pure ⟨.fn g, .z⟩)
  | .op o a b => .of <| M.bind (sem io Φ a).val fun r => M.bind (sem io Φ b).val fun q => M.bind (pk r) fun x => M.bind (pk q) fun y => ofO (o.run x y)
  | .neg a => .of <| M.bind (sem io Φ a).val fun r => M.bind (pk r) fun x => match x with
    | .int i => M.pure ⟨.int (-i), .z⟩
    | _ => M.bad
  | .isn n a => .of <| M.bind (sem io Φ a).val fun r => M.bind (pk r) fun x => match x with
    | .non => M.pure ⟨.bl (!n), .z⟩
    | _ => M.pure ⟨.bl n, .z⟩
  | .chain o p a b c => .of <| M.bind (sem io Φ a).val fun r => M.bind (sem io Φ b).val fun q => M.bind (pk r) fun x => M.bind (pk q) fun y => M.bind (ofO (o.run x y)) fun t => match t.d with
    | .bl true => M.bind (sem io Φ c).val fun u => M.bind (pk q) fun y' => M.bind (pk u) fun z => ofO (p.run y' z)
    | .bl false => M.pure ⟨.bl false, .z⟩
    | _ => M.bad
  | .and a b => ⟨M.bind (sem io Φ a).val fun r => M.bind (pk r) fun d => match d with
      | .bl true => (sem io Φ b).val
      | .bl false => M.pure ⟨.bl false, .z⟩
      | _ => M.bad, M.bind (sem io Φ a).tst fun c => if c then (sem io Φ b).tst else M.pure false, M.bad, M.bad, M.bad⟩
  | .or a b => ⟨M.bind (sem io Φ a).val fun r => M.bind (pk r) fun d => match d with
      | .bl true => M.pure ⟨.bl true, .z⟩
      | .bl false => (sem io Φ b).val
      | _ => M.bad, M.bind (sem io Φ a).tst fun c => if c then M.pure true else (sem io Φ b).tst, M.bad, M.bad, M.bad⟩
  | .bo1 a => ⟨(sem io Φ a).val, (sem io Φ a).tst, M.bad, M.bad, M.bad⟩
  | .not a => ⟨M.bind (sem io Φ a).val fun r => M.bind (pk r) fun d => M.bind (ofO (truD d)) fun b => M.pure ⟨.bl (!b), .z⟩, M.bind (sem io Φ a).tst fun b => M.pure (!b), M.bad, M.bad, M.bad⟩
  | .ort a b => .of <| M.bind (sem io Φ a).val fun r => M.bind (pk r) fun x => M.bind (ofO (truD x)) fun k => if k then M.pure r else (sem io Φ b).val
  | .ife c a b => .of <| M.bind (sem io Φ c).tst fun k => if k then (sem io Φ a).val else (sem io Φ b).val
  | .tup es => .of <| M.bind (sem io Φ es).many fun rs => M.bind (frzs rs) fun ds => if ds.length ≤ 4096 then M.pure ⟨.tup ds, .z⟩ else M.bad
  | .lst es => .of <| M.bind (sem io Φ es).many fun rs => M.bind (frzs rs) fun ds => if ds.length ≤ 4096 then M.pure ⟨.lst ds, .f⟩ else M.bad
  | .ix a i => .of <| M.bind (sem io Φ a).val fun r => M.bind (sem io Φ i).val fun q => M.bind (pk r) fun x => M.bind (pk q) fun y => ofO (ixD x y)
  | .sl a lo hi => .of <| M.bind (sem io Φ a).val fun r => M.bind (sem io Φ lo).opt fun l => M.bind (sem io Φ hi).opt fun h => M.bind (pk r) fun x => ofO (slD x l h)
  | .no => ⟨M.bad, M.bad, M.bad, M.bad, M.pure none⟩
  | .bi b es => .of <| M.bind (sem io Φ es).many fun rs => M.bind (pks rs) fun ds => ofO (b.run ds)
  | .isi a ts _ => .of <| M.bind (sem io Φ a).val fun r => M.bind (pk r) fun x => M.bind (ofO (isiD x ts)) fun b => M.pure ⟨.bl b, .z⟩
  | .call g es => .of <| M.bind (sem io Φ es).many fun rs => callF (io g) (Φ g) rs
  | .callk g es ks kes => .of <| M.bind (sem io Φ es).many fun rs => M.bind (sem io Φ kes).many fun qs => M.bind (ofO (kwArgs rs ks qs)) fun zs => callF (io g) (Φ g) zs
  | .callv i es => .of fun ρ => match ρ[i]? with
    | some (some (.fn g, false)) => if io g then (.bad, ρ) else M.bind (sem io Φ es).many (fun rs => callF false (Φ g) rs) ρ
    | _ => (.bad, ρ)
  | .idx a b => .of <| M.bind (sem io Φ a).val fun r => M.bind (pk r) fun x0 => match x0 with
    | .lst _ => M.bind (sem io Φ b).val fun q => M.bind (pk r) fun x => M.bind (pk q) fun y => match x with
      | .lst a => ofO (idxD (.lst a) y)
      | _ => M.bad
    | .tup a => M.bind (sem io Φ b).val fun q => M.bind (pk q) fun y => ofO (idxD (.tup a) y)
    | _ => M.bad
  | .cnt _ _ => .of M.bad
  | .app i a => .of <| M.bind (mutOkL i) fun _ => M.bind (M.bind (sem io Φ a).val frz) fun x => mutS i (appD x)
  | .ext i a => .of <| M.bind (mutOkL i) fun _ => M.bind (sem io Φ a).val fun r => M.bind (pk r) fun x => mutS i (extD x)
  | .pop i => .of <| mutS i popD
  | .popi i a => .of <| M.bind (mutOkL i) fun _ => M.bind (sem io Φ a).val fun r => M.bind (pk r) fun x => mutS i (popiD x)
  | .rem _ _ => .of M.bad
  | .dnew => .of <| M.pure ⟨.dic [], .f⟩
  | .disp a b => .of <| M.bind (sem io Φ a).val fun r => match r with
    | ⟨.int i, .z⟩ => M.bind (sem io Φ b).val fun q => match q with
      | ⟨y, .z⟩ => M.pure ⟨.dic [(.int i, y)], .f⟩
      | _ => M.bad
    | _ => M.bad
  | .lset a => .of <| M.bind (sem io Φ a).val fun r => M.bind (pk r) fun x => ofO (bLenset [x])
  | .sset a => .of <| M.bind (sem io Φ a).val fun r => M.bind (pk r) fun x => ofO (bSset x)
  | .rng1 a => ⟨M.bad, M.bad, M.bad, M.bind (sem io Φ a).val fun r => M.bind (pk r) fun x => ofO (rngD [x]), M.bad⟩
  | .rng2 a b => ⟨M.bad, M.bad, M.bad, M.bind (sem io Φ a).val fun r => M.bind (sem io Φ b).val fun q => M.bind (pk r) fun x => M.bind (pk q) fun y => ofO (rngD [x, y]), M.bad⟩
  | .lrng1 a => .of <| M.bind (sem io Φ a).val fun r => M.bind (pk r) fun x => M.bind (ofO (rngD [x])) fun xs => M.pure ⟨.lst xs, .f⟩
  | .lrng2 a b => .of <| M.bind (sem io Φ a).val fun r => M.bind (sem io Φ b).val fun q => M.bind (pk r) fun x => M.bind (pk q) fun y => M.bind (ofO (rngD [x, y])) fun xs => M.pure ⟨.lst xs, .f⟩
  | .enum a => ⟨M.bad, M.bad, M.bad, M.bind (itrM (sem io Φ a).val) fun xs => M.pure (enumD 0 xs), M.bad⟩
  | .zip a b => ⟨M.bad, M.bad, M.bad, M.bind (sem io Φ a).val fun r => M.bind (sem io Φ b).val fun q => M.bind (frz r) fun x => M.bind (frz q) fun y => ofO (zipO x y), M.bad⟩
  | .rev a => ⟨M.bad, M.bad, M.bad, M.bind (itrM (sem io Φ a).val) fun xs => M.pure xs.reverse, M.bad⟩
  | .lc tg it cs el => .of <| lcRun tg.slots tg (sem io Φ it).itr (sem io Φ cs).tst (sem io Φ el).val
  | .lc2 tg it cs tg2 it2 cs2 el => .of <| lc2Run (tg.slots ++ tg2.slots) tg2.slots tg (sem io Φ it).itr (sem io Φ cs).tst tg2 (sem io Φ it2).itr (sem io Φ cs2).tst (sem io Φ el).val
  | .nil => ⟨M.bad, M.pure true, M.pure [], M.bad, M.bad⟩
  | .cons a b => ⟨M.bad, M.bad, M.bind (sem io Φ a).val fun r => M.bind (sem io Φ b).many fun rs => M.pure (r :: rs), M.bad, M.bad⟩
/-! ### statements -/
inductive S where
  | nil | seq (a b : S)
  | set (i : Nat) (e : E) | setlc (i : Nat) (e : E) | par (i j : Nat) (a b : E) | unp (is : List Nat) (e : E) | unp2 (i : Nat) (k : E) (j : Nat) (l e : E) | aug (i : Nat) (o : O2) (e : E)
  | seti (i : Nat) (k e : E) | exp (e : E) | ret (e : E) | retn
  | ife (c : E) (a b : S) | whl (c : E) (b : S) | «for» (tg : T) (it : E) (b : S) | brk | cont | pass | rais (n : Nat)
inductive Fl where
  | nx | rt (d : D) (fr : Bool) | bk | ct
/-- store a value at a name -/
def setM (i : Nat) (d : D) (b : Bool) : M Unit := fun ρ => (.ok (), setE ρ i d b)
def setM2 (i j : Nat) (x y : D × Bool) : M Unit := fun ρ => (.ok (), setE (setE ρ i x.1 x.2) j y.1 y.2)
def storeR (io : Bool) (i : Nat) (r : R) : M Unit :=
  if io && i == 0 then M.bad else match r.k with
  | .f => setM i r.d true
  | _ => M.bind (frz r) fun d => setM i d false
def parV (r : R) : M (D × Bool) := match r.k with
  | .f => M.pure (r.d, true)
  | _ => M.bind (frz r) fun d => M.pure (d, false)
/-- two values at two names at once -/
def storePar (io : Bool) (i j : Nat) (r q : R) : M Unit :=
  if (io && (i == 0 || j == 0)) then M.bad else
  M.bind (parV r) fun x => M.bind (parV q) fun y => setM2 i j x y
def retM (me : Bool) (r : R) : M Fl := match r.k with
  | .z => M.pure (.rt r.d false)
  | .f => M.pure (.rt r.d true)
  | .s i => if me && i == 0 then M.bad else fun ρ => match ρ[i]? with
    | some (some (d, true)) => (.ok (.rt d true), ρ.set i none)
    | _ => (.bad, ρ)
def freeOf (io : Bool) (is : List Nat) : Bool := !io || !is.contains 0
def unpM (me : Bool) (is : List Nat) (d : D) : M Fl := fun ρ => if freeOf me is then match setT (.many is) d ρ with
    | some ρ' => (.ok .nx, ρ')
    | none => (.bad, ρ)
  else (.bad, ρ)
def whileN (c : M Bool) (b : M Fl) : Nat → M Fl
  | 0 => M.bad
  | n + 1 => M.bind c fun k => if k then M.bind b fun f => match f with
      | .nx => whileN c b n
      | .ct => whileN c b n
      | .bk => M.pure .nx
      | .rt d fr => M.pure (.rt d fr)
    else M.pure .nx
def forGo (tg : T) (b : M Fl) : List D → M Fl
  | [] => M.pure .nx
  | x :: xs => fun ρ => match setT tg x ρ with
    | none => (.bad, ρ)
    | some ρ1 => M.bind b (fun f => match f with
      | .nx => forGo tg b xs
      | .ct => forGo tg b xs
      | .bk => M.pure .nx
      | .rt d fr => M.pure (.rt d fr)) ρ1
def fuel : Nat := 1000000
def exec (io : Nat → Bool) (Φ : Nat → Fn) (me : Bool) : S → M Fl
  | .nil => M.pure .nx
  | .seq a b => M.bind (exec io Φ me a) fun f => match f with
    | .nx => exec io Φ me b
    | f => M.pure f
  | .set i e => M.bind (sem io Φ e).val fun r => M.bind (storeR me i r) fun _ => M.pure .nx
  | .setlc i e => M.bind (sem io Φ e).val fun r => M.bind (storeR me i r) fun _ => M.pure .nx
  | .par i j a b => M.bind (sem io Φ a).val fun r => M.bind (sem io Φ b).val fun q =>
      M.bind (storePar me i j r q) fun _ => M.pure .nx
  | .unp is e => M.bind (M.bind (sem io Φ e).val frz) (unpM me is)
  | .unp2 i k j l e => M.bind (M.bind (sem io Φ e).val frz) fun d => match d with
    | .tup [v, w] => M.bind (mutOk i) fun _ => M.bind (sem io Φ k).val fun r => M.bind (pk r) fun x => M.bind (mutS i (putD x v)) fun _ =>
        M.bind (mutOk j) fun _ => M.bind (sem io Φ l).val fun r => M.bind (pk r) fun x => M.bind (mutS j (putD x w)) fun _ => M.pure .nx
    | _ => M.bad
  | .aug i o e => fun ρ => match ρ[i]? with
    | some (some (x, false)) => M.bind (sem io Φ e).val (fun r => M.bind (pk r) fun y => match x, y with
        | .int _, .int _ => M.bind (ofO (o.run x y)) fun r => M.bind (storeR me i r) fun _ => M.pure .nx
        | .tup _, .tup _ => M.bind (ofO (o.run x y)) fun r => M.bind (storeR me i r) fun _ => M.pure .nx
        | _, _ => M.bad) ρ
    | _ => (.bad, ρ)
  | .seti i k e => M.bind (M.bind (sem io Φ e).val frz) fun v => M.bind (mutOk i) fun _ => M.bind (sem io Φ k).val fun r => M.bind (pk r) fun x => M.bind (mutS i (putD x v)) fun _ => M.pure .nx
  | .exp e => M.bind (sem io Φ e).val fun _ => M.pure .nx
  | .ret e => M.bind (sem io Φ e).val (retM me)
  | .retn => M.pure (.rt .non false)
  | .ife c a b => M.bind (sem io Φ c).tst fun k => if k then exec io Φ me a else exec io Φ me b
  | .whl c b => whileN (sem io Φ c).tst (exec io Φ me b) fuel
  | .for tg it b => M.bind (sem io Φ it).itr fun xs => if freeOf me tg.slots then forGo tg (exec io Φ me b) xs else M.bad
  | .brk => M.pure .bk
  | .cont => M.pure .ct
  | .pass => M.pure .nx
  | .rais n => M.exc n

/-! ### programs -/
structure FnI where
  name : Str
  ps : List Str
  N : List Str
  io : Bool
  body : S
def ioOf (fs : List FnI) (g : Nat) : Bool := match fs[g]? with
  | some f => f.io
  | none => false
def startE (f : FnI) (ds : List D) : Env := (match f.io, ds with
  | true, c :: r => some (c, true) :: r.map fun d => some (d, false)
  | _, _ => ds.map fun d => some (d, false)) ++ List.replicate (f.N.length - ds.length) none
/-- what the first parameter holds at the end, where the caller is to know -/
def finC (io : Bool) (ρ : Env) : Option D := if io then match ρ[0]? with
    | some (some (c, true)) => some c
    | _ => none
  else some .non
def resOf : Out Fl → Out (D × Bool)
  | .ok (.rt d fr) => .ok (d, fr)
  | .ok .nx => .ok (.non, false)
  | .ok _ => .bad
  | .exc n => .exc n
  | .bad => .bad
/-- what a def computes, by at most k calls one in another -/
def run (fs : List FnI) : Nat → Nat → Fn
  | 0, _ => fun _ => (.bad, .non)
  | k + 1, g => fun ds => match fs[g]? with
    | none => (.bad, .non)
    | some f => if ds.length = f.ps.length then
        match exec (ioOf fs) (run fs k) f.io f.body (startE f ds) with
        | (o, ρ) => match finC f.io ρ with
          | none => (.bad, .non)
          | some c => (resOf o, c)
      else (.bad, .non)
end Pv

set_option Elab.async false
set_option linter.all false
set_option maxRecDepth 100000
set_option maxHeartbeats 4000000
set_option autoImplicit false
/-! Pv, part J: from what terms compute to the library's readings. -/
namespace Pv
open PySem PySem.Spec PyProof.Rows L2
section
variable {K : PySem.W.Frag} {nm : Nat → Option Addr} {ex : Nat → Value} {W : WX} {F0 G F F' H H' : Hp} {ρ : Env} {σ : L2.St} {r q : R} {x v : V} {d : D} {α β : Type} {Q : VK}
/-- a value made by an operation of two -/
def rG (K : PySem.W.Frag) (nm : Nat → Option Addr) (f : D → D → Option R) : R2 := fun x y H Q => ∃ F dx dy r, Same F H ∧ Lk K nm F H x dx ∧ Lk K nm F H y dy ∧ f dx dy = some r ∧ ∀ v H', Rz K nm F H r v H' → Q v H'
def r1G (K : PySem.W.Frag) (nm : Nat → Option Addr) (f : D → Option R) : V → Hp → VK → Prop := fun x H Q => ∃ F d r, Same F H ∧ Lk K nm F H x d ∧ f d = some r ∧ ∀ v H', Rz K nm F H r v H' → Q v H'
def KQ (K : PySem.W.Frag) (nm : Nat → Option Addr) (G : Hp) (σ : L2.St) (Q : VK) : R → Env → Hp → Hp → Prop := fun r ρ' F' H' => ∀ v, RR K nm F' G H' ρ' σ r v → Q v H'
theorem Po.op {o : Option R} (S : SR K nm F0 G F ρ σ H) (P : Po K nm ex W F0 G F σ (Pv.ofO o ρ) (KQ K nm G σ Q)) : ∃ r, o = some r ∧ ∀ v H', Rz K nm F H r v H' → Q v H' := by
  obtain ⟨rr, er, fin⟩ := P.ofO'
  refine ⟨rr, er, fun v H' rz => ?_⟩
  obtain ⟨F', S', s', r'⟩ := S.op rz
  exact fin F' H' S' s' v r'
theorem t_op {ma mb : M R} {f : D → D → Option R} (h : tE K nm ex W (M.bind ma fun r => M.bind mb fun q => M.bind (pk r) fun x => M.bind (pk q) fun y => ofO (f x y)) σ H Q) : tOp (rG K nm f) (tE K nm ex W ma) (tE K nm ex W mb) σ H Q := by
  obtain ⟨F0, G, F, ρ, S, P⟩ := h
  refine two S P fun r q ρ2 F2 H2 x y S2 s2 hx hy _ P2 => ?_
  obtain ⟨dx, ex, P3⟩ := P2.pk
  obtain ⟨dy, ey, P4⟩ := P3.pk
  obtain ⟨rr, er, fin⟩ := Po.op S2 P4
  exact ⟨F2, dx, dy, rr, S2.fh, hx.wr.lk S2 ex, hy.wr.lk S2 ey, er, fin⟩
theorem t_un {ma : M R} {f : D → Option R} (h : tE K nm ex W (M.bind ma fun r => M.bind (pk r) fun x => ofO (f x)) σ H Q) : tE K nm ex W ma σ H fun x H1 => r1G K nm f x H1 Q := by
  obtain ⟨F0, G, F, ρ, S, P⟩ := h
  refine one S P fun r ρ2 F2 H2 x S2 s2 hx P2 => ?_
  obtain ⟨dx, ex, P3⟩ := P2.pk
  obtain ⟨rr, er, fin⟩ := Po.op S2 P3
  exact ⟨F2, dx, rr, S2.fh, hx.wr.lk S2 ex, er, fin⟩
/-- the second half of two -/
theorem snd {mb : M R} {g : R → M α} {k : α → Env → Hp → Hp → Prop} {T : V → Hp → Prop} (S : SR K nm F0 G F ρ σ H) (hx : RR K nm F G H ρ σ r x) (P : Po K nm ex W F0 G F σ (M.bind mb g ρ) k)
    (fin : ∀ q ρ2 F2 H2 y, SR K nm F0 G F2 ρ2 σ H2 → Same F F2 → RR K nm F2 G H2 ρ2 σ r x → RR K nm F2 G H2 ρ2 σ q y → Po K nm ex W F0 G F2 σ (g q ρ2) k → T y H2) : tE K nm ex W mb σ H T := by
  obtain ⟨G1, Sp, hne, back⟩ := prot S hx
  refine ⟨F, G1, F, ρ, Sp, ?_⟩
  refine Po.under (r := r) (x := x) (fun F2 H2 ρ2 S2 => (back F2 H2 ρ2 S2).1) P.bind fun q ρ2 F2 H2 S2 s2 P2 y hy => ?_
  obtain ⟨b1, b2, b3, b4⟩ := back F2 H2 ρ2 S2
  exact fin q ρ2 F2 H2 y b1 s2 b2 (b4 q y hy) P2
theorem Rz.bl {b : Bool} {v : V} (h : Rz K nm F H ⟨.bl b, .z⟩ v H') : v = .bl b ∧ H' = H := by
  rcases h with ⟨e, h⟩ | ⟨p, o, n, e, e2, h⟩
  · cases h; exact ⟨rfl, e⟩
  · subst e2; cases h
theorem cmp_bl {o : O2} {f : CmpOp} {a b : D} {r : R} (h : o.cmp = some f) (e : o.run a b = some r) : ∃ k, r = ⟨.bl k, .z⟩ := by
  have hb : ∀ (c : Bool) (r : R), zR (.bl c) = some r → ∃ k, r = ⟨.bl k, .z⟩ := fun c r e => by cases e; exact ⟨c, rfl⟩
  cases o <;> simp [O2.cmp] at h <;> simp only [O2.run] at e
  all_goals repeat' (split at e)
  all_goals first
    | (cases e; done)
    | exact hb _ _ e
    | (obtain ⟨_, _, e⟩ := Option.bind_eq_some_iff.mp e; exact hb _ _ e)
/-- a comparison as a test -/
theorem t_cmpT {ma mb : M R} {o : O2} {f : CmpOp} {T : Bool → Hp → Prop} (ho : o.cmp = some f) (h : tT K nm ex W (truM (M.bind ma fun r => M.bind mb fun q => M.bind (pk r) fun x => M.bind (pk q) fun y => ofO (o.run x y))) σ H T) :
    tTest (tOp (rG K nm o.run) (tE K nm ex W ma) (tE K nm ex W mb)) σ H T := by
  obtain ⟨F0, G, F, ρ, S, P⟩ := h
  have P' : Po K nm ex W F0 G F σ (M.bind ma (fun r => M.bind mb fun q => M.bind (M.bind (pk r) fun x => M.bind (pk q) fun y => ofO (o.run x y)) fun t => M.bind (pk t) fun d => ofO (truD d)) ρ) (fun b _ _ H' => T b H') := by
    have e : truM (M.bind ma fun r => M.bind mb fun q => M.bind (pk r) fun x => M.bind (pk q) fun y => ofO (o.run x y)) = M.bind ma (fun r => M.bind mb fun q => M.bind (M.bind (pk r) fun x => M.bind (pk q) fun y => ofO (o.run x y)) fun t => M.bind (pk t) fun d => ofO (truD d)) := by
      unfold truM
      rw [bind_assoc']
      congr 1; funext r
      rw [bind_assoc']
    rw [← e]; exact P
  refine two S P' fun r q ρ2 F2 H2 x y S2 s2 hx hy _ P2 => ?_
  rw [bind_assoc'] at P2
  obtain ⟨dx, ex, P3⟩ := P2.pk
  rw [bind_assoc'] at P3
  obtain ⟨dy, ey, P4⟩ := P3.pk
  obtain ⟨rr, er, P5⟩ := P4.ofO
  obtain ⟨k, rfl⟩ := cmp_bl ho er
  refine ⟨F2, dx, dy, _, S2.fh, hx.wr.lk S2 ex, hy.wr.lk S2 ey, er, fun v H' rz => ?_⟩
  obtain ⟨e1, e2⟩ := rz.bl
  subst e1 e2
  obtain ⟨d, e3, P6⟩ := P5.pk
  cases e3
  obtain ⟨a, e4, fin⟩ := P6.ofO'
  cases e4
  exact ⟨k, rfl, fin F2 _ S2 (Same.refl _)⟩
theorem t_chain {ma mb mc : M R} {o p : O2} {f : CmpOp} (ho : o.cmp = some f)
    (h : tE K nm ex W (M.bind ma fun r => M.bind mb fun q => M.bind (pk r) fun x => M.bind (pk q) fun y => M.bind (ofO (o.run x y)) fun t => match t.d with
    | .bl true => M.bind mc fun u => M.bind (pk q) fun y' => M.bind (pk u) fun z => ofO (p.run y' z)
    | .bl false => M.pure ⟨.bl false, .z⟩
    | _ => M.bad) σ H Q) : tChain (rG K nm o.run) (rG K nm p.run) (tE K nm ex W ma) (tE K nm ex W mb) (tE K nm ex W mc) σ H Q := by
  obtain ⟨F0, G, F, ρ, S, P⟩ := h
  refine two S P fun r q ρ2 F2 H2 x y S2 s2 hx hy _ P2 => ?_
  obtain ⟨dx, ex, P3⟩ := P2.pk
  obtain ⟨dy, ey, P4⟩ := P3.pk
  obtain ⟨rr, er, P5⟩ := P4.ofO
  obtain ⟨k, rfl⟩ := cmp_bl ho er
  refine ⟨F2, dx, dy, _, S2.fh, hx.wr.lk S2 ex, hy.wr.lk S2 ey, er, fun v H' rz => ?_⟩
  obtain ⟨e1, e2⟩ := rz.bl
  subst e1 e2
  refine ⟨k, rfl, ?_⟩
  cases k with
  | false =>
    rw [if_neg (by decide)]
    exact P5 F2 _ S2 (Same.refl _) _ (Rep.bl false)
  | true =>
    rw [if_pos rfl]
    refine snd S2 hy P5 fun u ρ3 F3 H3 z S3 s3 hy3 hz P6 => ?_
    obtain ⟨dy', ey', P7⟩ := P6.pk
    obtain ⟨dz, ez, P8⟩ := P7.pk
    obtain ⟨rr, er, fin⟩ := Po.op S3 P8
    exact ⟨F3, dy', dz, rr, S3.fh, hy3.wr.lk S3 ey', hz.wr.lk S3 ez, er, fin⟩
theorem t_chainT {ma mb mc : M R} {o p : O2} {f g : CmpOp} {T : Bool → Hp → Prop} (ho : o.cmp = some f) (hp : p.cmp = some g)
    (h : tT K nm ex W (truM (M.bind ma fun r => M.bind mb fun q => M.bind (pk r) fun x => M.bind (pk q) fun y => M.bind (ofO (o.run x y)) fun t => match t.d with
    | .bl true => M.bind mc fun u => M.bind (pk q) fun y' => M.bind (pk u) fun z => ofO (p.run y' z)
    | .bl false => M.pure ⟨.bl false, .z⟩
    | _ => M.bad)) σ H T) : tTest (tChain (rG K nm o.run) (rG K nm p.run) (tE K nm ex W ma) (tE K nm ex W mb) (tE K nm ex W mc)) σ H T := by
  obtain ⟨F0, G, F, ρ, S, P⟩ := h
  unfold truM at P
  rw [bind_assoc'] at P
  have P' : Po K nm ex W F0 G F σ (M.bind ma (fun r => M.bind mb fun q => M.bind (M.bind (pk r) fun x => M.bind (pk q) fun y => M.bind (ofO (o.run x y)) fun t => match t.d with
    | .bl true => M.bind mc fun u => M.bind (pk q) fun y' => M.bind (pk u) fun z => ofO (p.run y' z)
    | .bl false => M.pure ⟨.bl false, .z⟩
    | _ => M.bad) fun t => M.bind (pk t) fun d => ofO (truD d)) ρ) (fun b _ _ H' => T b H') := by
    have e : (fun a => M.bind (M.bind mb fun q => M.bind (pk a) fun x => M.bind (pk q) fun y => M.bind (ofO (o.run x y)) fun t => match t.d with
      | .bl true => M.bind mc fun u => M.bind (pk q) fun y' => M.bind (pk u) fun z => ofO (p.run y' z)
      | .bl false => M.pure ⟨.bl false, .z⟩
      | _ => M.bad) fun r => M.bind (pk r) fun d => ofO (truD d)) = (fun r => M.bind mb fun q => M.bind (M.bind (pk r) fun x => M.bind (pk q) fun y => M.bind (ofO (o.run x y)) fun t => match t.d with
      | .bl true => M.bind mc fun u => M.bind (pk q) fun y' => M.bind (pk u) fun z => ofO (p.run y' z)
      | .bl false => M.pure ⟨.bl false, .z⟩
      | _ => M.bad) fun t => M.bind (pk t) fun d => ofO (truD d)) := by
      funext r
      rw [bind_assoc']
    rw [← e]; exact P
  refine two S P' fun r q ρ2 F2 H2 x y S2 s2 hx hy _ P2 => ?_
  rw [bind_assoc'] at P2
  obtain ⟨dx, ex, P3⟩ := P2.pk
  rw [bind_assoc'] at P3
  obtain ⟨dy, ey, P4⟩ := P3.pk
  rw [bind_assoc'] at P4
  obtain ⟨rr, er, P5⟩ := P4.ofO
  obtain ⟨k, rfl⟩ := cmp_bl ho er
  refine ⟨F2, dx, dy, _, S2.fh, hx.wr.lk S2 ex, hy.wr.lk S2 ey, er, fun v H' rz => ?_⟩
  obtain ⟨e1, e2⟩ := rz.bl
  subst e1 e2
  refine ⟨k, rfl, ?_⟩
  cases k with
  | false =>
    rw [if_neg (by decide)]
    exact ⟨false, rfl, P5 F2 _ S2 (Same.refl _)⟩
  | true =>
    rw [if_pos rfl]
    dsimp only at P5
    rw [bind_assoc'] at P5
    refine snd S2 hy P5 fun u ρ3 F3 H3 z S3 s3 hy3 hz P6 => ?_
    rw [bind_assoc'] at P6
    obtain ⟨dy', ey', P7⟩ := P6.pk
    rw [bind_assoc'] at P7
    obtain ⟨dz, ez, P8⟩ := P7.pk
    obtain ⟨rr, er, P9⟩ := P8.ofO
    obtain ⟨k, rfl⟩ := cmp_bl hp er
    refine ⟨F3, dy', dz, _, S3.fh, hy3.wr.lk S3 ey', hz.wr.lk S3 ez, er, fun v H' rz => ?_⟩
    obtain ⟨e1, e2⟩ := rz.bl
    subst e1 e2
    obtain ⟨d, e3, P10⟩ := P9.pk
    cases e3
    obtain ⟨a, e4, fin⟩ := P10.ofO'
    cases e4
    exact ⟨k, rfl, fin F3 _ S3 (Same.refl _)⟩
/-- a value's truth as a test -/
theorem t_tru {m : M R} {T : Bool → Hp → Prop} (h : tT K nm ex W (truM m) σ H T) : tE K nm ex W m σ H fun x H' => ∃ k, TruV K x H' k ∧ T k H' := by
  obtain ⟨F0, G, F, ρ, S, P⟩ := h
  refine one S P fun r ρ2 F2 H2 x S2 s2 hx P2 => ?_
  obtain ⟨d, ed, P3⟩ := P2.pk
  obtain ⟨k, ek, fin⟩ := P3.ofO'
  exact ⟨k, tru_of S2.fh (hx.wr.lk S2 ed) ek, fin F2 H2 S2 (Same.refl _)⟩
theorem t_opt {m : M R} {T : Option Int → Hp → Prop} (h : tO K nm ex W (optM m) σ H T) : tE K nm ex W m σ H fun x H' => ∃ i, x = .int i ∧ T (some i) H' := by
  obtain ⟨F0, G, F, ρ, S, P⟩ := h
  refine one S P fun r ρ2 F2 H2 x S2 s2 hx P2 => ?_
  obtain ⟨d, ed, P3⟩ := P2.pk
  have l := hx.wr.lk S2 ed
  cases d <;> first | exact P3.elim | skip
  exact ⟨_, l.int, P3 F2 H2 S2 (Same.refl _)⟩
/-- .. of a constant -/
theorem t_const {d : D} {v : V} (h : tE K nm ex W (M.pure ⟨d, .z⟩) σ H Q) (hv : ∀ F, Rep K nm F v d) : Q v H := by
  obtain ⟨F0, G, F, ρ, S, P⟩ := h
  exact P F H S (Same.refl _) v (hv F)
theorem t_name {i : Nat} (h : tE K nm ex W (fun ρ => match ρ[i]? with
    | some (some (d, b)) => (.ok ⟨d, if b then .s i else .z⟩, ρ)
    | _ => (.bad, ρ)) σ H Q) : tVar i σ H Q := by
  obtain ⟨F0, G, F, ρ, S, P⟩ := h
  dsimp only at P
  cases e : ρ[i]? with
  | none => rw [e] at P; exact P.elim
  | some x =>
    cases x with
    | none => rw [e] at P; exact P.elim
    | some x =>
      obtain ⟨d, b⟩ := x
      rw [e] at P
      cases b with
      | false =>
        obtain ⟨v, e1, r⟩ := S.fz i d e
        exact ⟨v, e1, P F H S (Same.refl _) v r⟩
      | true =>
        obtain ⟨a, e1, o⟩ := S.mu i d e
        exact ⟨.ref a, e1, P F H S (Same.refl _) _ e1⟩
theorem t_neg {ma : M R} (h : tE K nm ex W (M.bind ma fun r => M.bind (pk r) fun x => match x with
    | .int i => M.pure ⟨.int (-i), .z⟩
    | _ => M.bad) σ H Q) : tUn (rU fun i => .int (-i)) (tE K nm ex W ma) σ H Q := by
  obtain ⟨F0, G, F, ρ, S, P⟩ := h
  refine one S P fun r ρ2 F2 H2 x S2 s2 hx P2 => ?_
  obtain ⟨d, ed, P3⟩ := P2.pk
  have l := hx.wr.lk S2 ed
  cases d <;> first | exact P3.elim | skip
  exact ⟨_, l.int, P3 F2 H2 S2 (Same.refl _) _ (Rep.int _)⟩
theorem Lk.isNon {F H : Hp} (l : Lk K nm F H x d) : decide (x = .non) = (match d with | .non => true | _ => false) := by
  rcases l with h | ⟨a, e, h⟩
  · cases h <;> simp
  · subst e
    cases d <;> first | exact h.elim | simp
theorem t_isn {ma : M R} {n : Bool} (h : tE K nm ex W (M.bind ma fun r => M.bind (pk r) fun x => match x with
    | .non => M.pure ⟨.bl (!n), .z⟩
    | _ => M.pure ⟨.bl n, .z⟩) σ H Q) : tE K nm ex W ma σ H fun x H1 => Q (.bl (if n then !decide (x = .non) else decide (x = .non))) H1 := by
  obtain ⟨F0, G, F, ρ, S, P⟩ := h
  refine one S P fun r ρ2 F2 H2 x S2 s2 hx P2 => ?_
  obtain ⟨d, ed, P3⟩ := P2.pk
  have l := (hx.wr.lk S2 ed).isNon
  rw [l]
  cases d <;> first
    | exact (by cases n <;> exact P3 F2 H2 S2 (Same.refl _) _ (Rep.bl _))
theorem t_isnT {ma : M R} {n : Bool} {T : Bool → Hp → Prop} (h : tT K nm ex W (truM (M.bind ma fun r => M.bind (pk r) fun x => match x with
    | .non => M.pure ⟨.bl (!n), .z⟩
    | _ => M.pure ⟨.bl n, .z⟩)) σ H T) : tE K nm ex W ma σ H fun x H1 => T (if n then !decide (x = .non) else decide (x = .non)) H1 := by
  obtain ⟨F0, G, F, ρ, S, P⟩ := h
  unfold truM at P
  rw [bind_assoc'] at P
  refine one S P fun r ρ2 F2 H2 x S2 s2 hx P2 => ?_
  rw [bind_assoc'] at P2
  obtain ⟨d, ed, P3⟩ := P2.pk
  have l := (hx.wr.lk S2 ed).isNon
  rw [l]
  cases d <;> first
    | exact (by cases n <;> exact P3 F2 H2 S2 (Same.refl _))
theorem t_and {ma mb : M R} (h : tE K nm ex W (M.bind ma fun r => M.bind (pk r) fun d => match d with
      | .bl true => mb
      | .bl false => M.pure ⟨.bl false, .z⟩
      | _ => M.bad) σ H Q) : tAndV (tE K nm ex W ma) (tE K nm ex W mb) σ H Q := by
  obtain ⟨F0, G, F, ρ, S, P⟩ := h
  refine one S P fun r ρ2 F2 H2 x S2 s2 hx P2 => ?_
  obtain ⟨d, ed, P3⟩ := P2.pk
  have l := hx.wr.lk S2 ed
  cases d <;> first | exact P3.elim | skip
  rename_i b
  refine ⟨b, l.bl, ?_⟩
  cases b with
  | false => rw [if_neg (by decide)]; exact P3 F2 H2 S2 (Same.refl _) _ (Rep.bl _)
  | true => rw [if_pos rfl]; exact ⟨F0, G, F2, ρ2, S2, P3⟩
theorem t_or {ma mb : M R} (h : tE K nm ex W (M.bind ma fun r => M.bind (pk r) fun d => match d with
      | .bl true => M.pure ⟨.bl true, .z⟩
      | .bl false => mb
      | _ => M.bad) σ H Q) : tOrV (tE K nm ex W ma) (tE K nm ex W mb) σ H Q := by
  obtain ⟨F0, G, F, ρ, S, P⟩ := h
  refine one S P fun r ρ2 F2 H2 x S2 s2 hx P2 => ?_
  obtain ⟨d, ed, P3⟩ := P2.pk
  have l := hx.wr.lk S2 ed
  cases d <;> first | exact P3.elim | skip
  rename_i b
  refine ⟨b, l.bl, ?_⟩
  cases b with
  | true => rw [if_pos rfl]; exact P3 F2 H2 S2 (Same.refl _) _ (Rep.bl _)
  | false => rw [if_neg (by decide)]; exact ⟨F0, G, F2, ρ2, S2, P3⟩
theorem t_andT {ma mb : M Bool} {T : Bool → Hp → Prop} (h : tT K nm ex W (M.bind ma fun c => if c then mb else M.pure false) σ H T) : tAnd (tT K nm ex W ma) (tT K nm ex W mb) σ H T := by
  obtain ⟨F0, G, F, ρ, S, P⟩ := h
  refine oneT S P fun b ρ2 F2 H2 S2 s2 P2 => ?_
  cases b with
  | false => rw [if_neg (by decide)] at P2 ⊢; exact P2 F2 H2 S2 (Same.refl _)
  | true => rw [if_pos rfl] at P2 ⊢; exact ⟨F0, G, F2, ρ2, S2, P2⟩
theorem t_orT' {ma mb : M Bool} {T : Bool → Hp → Prop} (h : tT K nm ex W (M.bind ma fun c => if c then M.pure true else mb) σ H T) : tOr (tT K nm ex W ma) (tT K nm ex W mb) σ H T := by
  obtain ⟨F0, G, F, ρ, S, P⟩ := h
  refine oneT S P fun b ρ2 F2 H2 S2 s2 P2 => ?_
  cases b with
  | true => rw [if_pos rfl] at P2 ⊢; exact P2 F2 H2 S2 (Same.refl _)
  | false => rw [if_neg (by decide)] at P2 ⊢; exact ⟨F0, G, F2, ρ2, S2, P2⟩
theorem t_notV {ma : M R} (h : tE K nm ex W (M.bind ma fun r => M.bind (pk r) fun d => M.bind (ofO (truD d)) fun b => M.pure ⟨.bl (!b), .z⟩) σ H Q) : tNotT K (tE K nm ex W ma) σ H Q := by
  obtain ⟨F0, G, F, ρ, S, P⟩ := h
  refine one S P fun r ρ2 F2 H2 x S2 s2 hx P2 => ?_
  obtain ⟨d, ed, P3⟩ := P2.pk
  obtain ⟨k, ek, P4⟩ := P3.ofO
  exact ⟨k, tru_of S2.fh (hx.wr.lk S2 ed) ek, P4 F2 H2 S2 (Same.refl _) _ (Rep.bl _)⟩
theorem t_notT' {ma : M Bool} {T : Bool → Hp → Prop} (h : tT K nm ex W (M.bind ma fun b => M.pure (!b)) σ H T) : tNot (tT K nm ex W ma) σ H T := by
  obtain ⟨F0, G, F, ρ, S, P⟩ := h
  exact oneT S P fun b ρ2 F2 H2 S2 s2 P2 => P2 F2 H2 S2 (Same.refl _)
theorem t_ort {ma mb : M R} (h : tE K nm ex W (M.bind ma fun r => M.bind (pk r) fun x => M.bind (ofO (truD x)) fun k => if k then M.pure r else mb) σ H Q) : tOrT K (tE K nm ex W ma) (tE K nm ex W mb) σ H Q := by
  obtain ⟨F0, G, F, ρ, S, P⟩ := h
  refine one S P fun r ρ2 F2 H2 x S2 s2 hx P2 => ?_
  obtain ⟨d, ed, P3⟩ := P2.pk
  obtain ⟨k, ek, P4⟩ := P3.ofO
  refine ⟨k, tru_of S2.fh (hx.wr.lk S2 ed) ek, ?_⟩
  cases k with
  | true => rw [if_pos rfl] at P4 ⊢; exact P4 F2 H2 S2 (Same.refl _) _ hx
  | false => rw [if_neg (by decide)] at P4 ⊢; exact ⟨F0, G, F2, ρ2, S2, P4⟩
theorem t_ife {mc : M Bool} {ma mb : M R} (h : tE K nm ex W (M.bind mc fun k => if k then ma else mb) σ H Q) : tIf (tT K nm ex W mc) (tE K nm ex W ma) (tE K nm ex W mb) σ H Q := by
  obtain ⟨F0, G, F, ρ, S, P⟩ := h
  refine oneT S P fun b ρ2 F2 H2 S2 s2 P2 => ?_
  cases b with
  | true => rw [if_pos rfl] at P2 ⊢; exact ⟨F0, G, F2, ρ2, S2, P2⟩
  | false => rw [if_neg (by decide)] at P2 ⊢; exact ⟨F0, G, F2, ρ2, S2, P2⟩
theorem WRs.length : ∀ {rs : List R} {vs : List V}, WRs K nm F G H ρ σ rs vs → rs.length = vs.length
  | [], [], _ => rfl
  | [], _ :: _, h => h.elim
  | _ :: _, [], h => h.elim
  | _ :: rs, _ :: vs, h => by rw [List.length_cons, List.length_cons, WRs.length h.2]
theorem WRs.mono : ∀ {rs : List R} {vs : List V}, (∀ q y, WR K nm F G H ρ σ q y → WR K nm F' G H' ρ σ q y) → WRs K nm F G H ρ σ rs vs → WRs K nm F' G H' ρ σ rs vs
  | [], [], _, h => h
  | [], _ :: _, _, h => h.elim
  | _ :: _, [], _, h => h.elim
  | _ :: rs, _ :: vs, i, h => ⟨i _ _ h.1, WRs.mono i h.2⟩
theorem line4096 : 4096 ≤ sizeLine := by rw [sizeLine_eq]; decide
theorem t_tup {me : M (List R)} (h : tE K nm ex W (M.bind me fun rs => M.bind (frzs rs) fun ds => if ds.length ≤ 4096 then M.pure ⟨.tup ds, .z⟩ else M.bad) σ H Q) : tTupF (tA K nm ex W me) σ H Q := by
  obtain ⟨F0, G, F, ρ, S, P⟩ := h
  refine manyA S P fun rs ρ2 F2 H2 xs S2 s2 hx P2 => ?_
  obtain ⟨F3, ρ3, ds, S3, s3, rds, _, P3⟩ := frzs_ok S2 hx P2
  split at P3
  · rename_i hl
    have hl' : xs.length ≤ sizeLine := Nat.le_trans (by rw [rds.length]; exact hl) line4096
    refine ⟨hl', fun p o hp hd => ?_⟩
    have hF := S3.fh.free hp
    refine P3 _ _ (S3.alloc hp (.frz o (.tup xs))) (same_new hF) _ (Rep.tup ⟨o, upd_same, hd⟩ hl' (rds.mono (same_new hF)))
  · exact P3.elim
theorem t_lst {me : M (List R)} (h : tE K nm ex W (M.bind me fun rs => M.bind (frzs rs) fun ds => if ds.length ≤ 4096 then M.pure ⟨.lst ds, .f⟩ else M.bad) σ H Q) : tLst (tA K nm ex W me) σ H Q := by
  obtain ⟨F0, G, F, ρ, S, P⟩ := h
  refine manyA S P fun rs ρ2 F2 H2 xs S2 s2 hx P2 => ?_
  obtain ⟨F3, ρ3, ds, S3, s3, rds, _, P3⟩ := frzs_ok S2 hx P2
  split at P3
  · rename_i hl
    have hl' : xs.length ≤ sizeLine := Nat.le_trans (by rw [rds.length]; exact hl) line4096
    refine ⟨hl', fun p hp => ?_⟩
    obtain ⟨S4, fp, gp, ap⟩ := S3.fresh hp (.lst xs)
    exact P3 _ _ S4 (Same.refl _) _ ⟨p, rfl, ⟨fp, gp, by rw [upd_same]; exact ⟨xs, rfl, hl', rds⟩⟩, ap⟩
  · exact P3.elim
theorem t_nil {Q' : List V → Hp → Prop} (h : tA K nm ex W (M.pure []) σ H Q') : tNil σ H Q' := by
  obtain ⟨F0, G, F, ρ, S, P⟩ := h
  exact P F H S (Same.refl _) [] trivial
end
end Pv

set_option Elab.async false
set_option linter.all false
set_option maxRecDepth 100000
set_option maxHeartbeats 4000000
set_option autoImplicit false
/-! Pv, part K: arguments, calls, what changes a list or dict. -/
namespace Pv
open PySem PySem.Spec PyProof.Rows L2
section
variable {K : PySem.W.Frag} {nm : Nat → Option Addr} {ex : Nat → Value} {W : WX} {F0 G F F' H H' : Hp} {ρ : Env} {σ : L2.St} {r q : R} {x v : V} {d : D} {α β : Type} {Q : VK}
theorem WR.back {G1 : Hp} (b3 : ∀ a, G1 a = none → G a = none) (h : WR K nm F G1 H ρ σ r v) : WR K nm F G H ρ σ r v := by
  obtain ⟨rd, k⟩ := r
  cases k with
  | z => exact h
  | s i => exact h
  | f =>
    rcases h with h | ⟨a, e, g, q, p⟩
    · exact .inl h
    · exact .inr ⟨a, e, b3 a g, q, p⟩
theorem WRs.back {G1 : Hp} (b3 : ∀ a, G1 a = none → G a = none) : ∀ {rs : List R} {vs : List V}, WRs K nm F G1 H ρ σ rs vs → WRs K nm F G H ρ σ rs vs
  | [], [], h => h
  | [], _ :: _, h => h.elim
  | _ :: _, [], h => h.elim
  | _ :: rs, _ :: vs, h => ⟨WR.back b3 h.1, WRs.back b3 h.2⟩
theorem sndA {mb : M (List R)} {g : List R → M α} {k : α → Env → Hp → Hp → Prop} {T : List V → Hp → Prop} (S : SR K nm F0 G F ρ σ H) (hx : RR K nm F G H ρ σ r x) (P : Po K nm ex W F0 G F σ (M.bind mb g ρ) k)
    (fin : ∀ q ρ2 F2 H2 y, SR K nm F0 G F2 ρ2 σ H2 → Same F F2 → RR K nm F2 G H2 ρ2 σ r x → WRs K nm F2 G H2 ρ2 σ q y → Po K nm ex W F0 G F2 σ (g q ρ2) k → T y H2) : tA K nm ex W mb σ H T := by
  obtain ⟨G1, Sp, hne, back⟩ := prot S hx
  refine ⟨F, G1, F, ρ, Sp, ?_⟩
  refine Po.under (r := r) (x := x) (fun F2 H2 ρ2 S2 => (back F2 H2 ρ2 S2).1) P.bind fun q ρ2 F2 H2 S2 s2 P2 y hy => ?_
  obtain ⟨b1, b2, b3, b4⟩ := back F2 H2 ρ2 S2
  exact fin q ρ2 F2 H2 y b1 s2 b2 (hy.back b3) P2
theorem t_cons {ma : M R} {mb : M (List R)} {T : List V → Hp → Prop} (h : tA K nm ex W (M.bind ma fun r => M.bind mb fun rs => M.pure (r :: rs)) σ H T) : tCons (tE K nm ex W ma) (tA K nm ex W mb) σ H T := by
  obtain ⟨F0, G, F, ρ, S, P⟩ := h
  refine one S P fun r ρ2 F2 H2 x S2 s2 hx P2 => ?_
  exact sndA S2 hx P2 fun q ρ3 F3 H3 ys S3 s3 hx3 hy P3 => P3 F3 H3 S3 (Same.refl _) (x :: ys) ⟨hx3.wr, hy⟩
theorem t_bi {me : M (List R)} {f : List D → Option R} (h : tE K nm ex W (M.bind me fun rs => M.bind (pks rs) fun ds => ofO (f ds)) σ H Q) :
    tCB (fun xs H Q => ∃ F ds r, Same F H ∧ List.length xs = List.length ds ∧ (∀ (i : Nat) (x : V) (d : D), xs[i]? = some x → ds[i]? = some d → Lk K nm F H x d) ∧ f ds = some r ∧ ∀ v H', Rz K nm F H r v H' → Q v H') (tA K nm ex W me) σ H Q := by
  obtain ⟨F0, G, F, ρ, S, P⟩ := h
  refine manyA S P fun rs ρ2 F2 H2 xs S2 s2 hx P2 => ?_
  obtain ⟨ds, hl, hk, P3⟩ := pks_ok S2 hx P2
  obtain ⟨r, e, fin⟩ := Po.op S2 P3
  exact ⟨F2, ds, r, S2.fh, hl, hk, e, fin⟩
/-- one class -/
theorem t_isi {ma : M R} {T : String} (hT : ∀ t ∈ tyNames, kitB t T = some (subTy t T)) (h : tE K nm ex W (M.bind ma fun r => M.bind (pk r) fun x => M.bind (ofO (isiD x [T])) fun b => M.pure ⟨.bl b, .z⟩) σ H Q) :
    tCB (rIsi K) (tCons (tE K nm ex W ma) (tCons (tC (.ty T)) tNil)) σ H Q := by
  obtain ⟨F0, G, F, ρ, S, P⟩ := h
  refine one S P fun r ρ2 F2 H2 x S2 s2 hx P2 => ?_
  obtain ⟨d, ed, P3⟩ := P2.pk
  obtain ⟨b, eb, P4⟩ := P3.ofO
  unfold isiD at eb
  cases et : tyD d with
  | none => rw [et] at eb; cases eb
  | some t =>
    rw [et] at eb
    have eb : ([T].any fun u => t == u || (t == "bool" && u == "int")) = b := Option.some.inj eb
    refine ⟨x, .ty T, .type t, .type T, subTy t T, rfl, .ty T, ty_of S2.fh (hx.wr.lk S2 ed) et, kit_ty (hT t (tyD_mem et)), ?_⟩
    have e2 : subTy t T = b := by rw [← eb]; simp [subTy]
    rw [e2]
    exact P4 F2 H2 S2 (Same.refl _) _ (Rep.bl b)
theorem kit_many {t : String} : ∀ {ts : List String}, (∀ T ∈ ts, kitB t T = some (subTy t T)) → PySem.W.kitAny K (.type t) (ts.map Value.type) = some (ts.any fun u => subTy t u)
  | [], _ => rfl
  | T :: ts, h => by
    rw [List.map_cons, List.any_cons]
    refine kitAny_cons (kit_ty (h T (.head _))) (fun e => ?_) fun e => ?_
    · rw [e, Bool.false_or]; exact kit_many fun T' h' => h T' (.tail _ h')
    · rw [e]; rfl
theorem clsV_many : ∀ ts : List String, Paired ClsV (ts.map V.ty) (ts.map Value.type)
  | [] => .nil
  | T :: ts => .cons (.ty T) (clsV_many ts)
/-- the classes in a tuple: ta makes the tuple of them -/
theorem t_isiT {ma : M R} {ts : List String} {tt : TE} (htt : ∀ σ H Q, (∀ p, H p = none → Q (.ref p) (upd H p (.tup (ts.map V.ty)))) → tt σ H Q) (hT : ∀ t ∈ tyNames, ∀ T ∈ ts, kitB t T = some (subTy t T))
    (h : tE K nm ex W (M.bind ma fun r => M.bind (pk r) fun x => M.bind (ofO (isiD x ts)) fun b => M.pure ⟨.bl b, .z⟩) σ H Q) :
    tCB (rIsiT K) (tCons (tE K nm ex W ma) (tCons tt tNil)) σ H Q := by
  obtain ⟨F0, G, F, ρ, S, P⟩ := h
  refine one S P fun r ρ2 F2 H2 x S2 s2 hx P2 => ?_
  refine htt _ _ _ fun p hp => ?_
  obtain ⟨d, ed, P3⟩ := P2.pk
  obtain ⟨b, eb, P4⟩ := P3.ofO
  have S3 := S2.alloc hp (.tup (ts.map V.ty))
  have hx3 : Lk K nm F2 H2 x d := hx.wr.lk S2 ed
  have hn : Same H2 (upd H2 p (.tup (ts.map V.ty))) := same_new hp
  have hx4 : Lk K nm F2 (upd H2 p (.tup (ts.map V.ty))) x d := by
    rcases hx3 with h | ⟨a, e, q⟩
    · exact .inl h
    · refine .inr ⟨a, e, ?_⟩
      obtain ⟨o, ho⟩ := q.obj
      rw [hn a o ho, ← ho]; exact q
  unfold isiD at eb
  cases et : tyD d with
  | none => rw [et] at eb; cases eb
  | some t =>
    rw [et] at eb
    have eb : (ts.any fun u => t == u || (t == "bool" && u == "int")) = b := Option.some.inj eb
    refine ⟨x, p, ts.map V.ty, .type t, ts.map Value.type, _, rfl, upd_same, clsV_many ts, ty_of (S2.fh.trans hn) hx4 et, kit_many (hT t (tyD_mem et)), ?_⟩
    have e2 : (ts.any fun u => subTy t u) = b := by rw [← eb]; rfl
    rw [e2]
    exact P4 _ _ S3 (same_new (S2.fh.free hp)) _ (Rep.bl b)
theorem t_call {io : Bool} {φ : Fn} {n : Nat} {me : M (List R)} (hn : ∀ ds, (φ ds).1 ≠ .bad → ds.length = n) (h : tE K nm ex W (M.bind me fun rs => callF io φ rs) σ H Q) : tCallS (spF K nm ex io n φ) (WE W) (tA K nm ex W me) σ H Q := by
  obtain ⟨F0, G, F, ρ, S, P⟩ := h
  exact manyA S P fun rs ρ2 F2 H2 xs S2 s2 hx P2 => call_ok S2 hx hn P2
/-- a new value at the i-th name's list or dict -/
theorem SR.write {i : Nat} {e d' : D} {a : Addr} {o : HO} (S : SR K nm F0 G F ρ σ H) (e1 : ρ[i]? = some (some (e, true))) (ea : σ[i]? = some (some (.ref a))) (h : HRep K nm F (some o) d') :
    SR K nm F0 G F (ρ.set i (some (d', true))) σ (upd H a o) := by
  obtain ⟨a', e2, fa, ga, ha⟩ := S.mu i e e1
  rw [ea] at e2; cases e2
  refine ⟨by rw [List.length_set]; exact S.len, fun b u q => ?_, fun b u q => ?_, S.ff, S.new, fun j d q => ?_, fun j d q => ?_, fun j l d1 d2 b q1 q2 => ?_⟩
  · have hb : b ≠ a := fun z => by rw [z, fa] at q; cases q
    rw [upd_ne hb]; exact S.fh b u q
  · have hb : b ≠ a := fun z => by rw [z, ga] at q; cases q
    rw [upd_ne hb]; exact S.gh b u q
  · rcases get_set q with ⟨rfl, h, _⟩ | ⟨_, h⟩
    · cases h
    · exact S.fz j d h
  · rcases get_set q with ⟨rfl, h', _⟩ | ⟨hne, h'⟩
    · cases h'
      exact ⟨a, ea, fa, ga, by rw [upd_same]; exact h⟩
    · obtain ⟨b, e3, f2, g2, h2⟩ := S.mu j d h'
      have hb : b ≠ a := fun z => hne (S.ap i j e d a e1 h' ea (z ▸ e3))
      exact ⟨b, e3, f2, g2, by rw [upd_ne hb]; exact h2⟩
  · have t : ∀ j (d : D), (ρ.set i (some (d', true)))[j]? = some (some (d, true)) → ∃ d', ρ[j]? = some (some (d', true)) := fun j d q => by
      rcases get_set q with ⟨rfl, h, _⟩ | ⟨_, h⟩
      · exact ⟨e, e1⟩
      · exact ⟨d, h⟩
    obtain ⟨x, h1⟩ := t j d1 q1
    obtain ⟨y, h2⟩ := t l d2 q2
    exact S.ap j l x y b h1 h2
theorem mutOkL_ok {i : Nat} {f : Unit → M β} {k : β → Env → Hp → Hp → Prop} (S : SR K nm F0 G F ρ σ H) (P : Po K nm ex W F0 G F σ (M.bind (mutOkL i) f ρ) k) :
    ∃ a vs, σ[i]? = some (some (.ref a)) ∧ H a = some (.lst vs) ∧ Po K nm ex W F0 G F σ (f () ρ) k := by
  unfold M.bind mutOkL at P
  cases e : ρ[i]? with
  | none => rw [e] at P; exact P.elim
  | some x =>
    match x, e with
    | none, e => rw [e] at P; exact P.elim
    | some (.lst xs, true), e =>
      rw [e] at P
      obtain ⟨a, e1, fa, ga, vs, hv, _⟩ := S.mu i _ e
      exact ⟨a, vs, e1, hv, P⟩
    | some (.lst xs, false), e => rw [e] at P; exact P.elim
    | some (.dic xs, b), e => rw [e] at P; exact P.elim
    | some (.non, b), e => rw [e] at P; exact P.elim
    | some (.bl _, b), e => rw [e] at P; exact P.elim
    | some (.int _, b), e => rw [e] at P; exact P.elim
    | some (.str _, b), e => rw [e] at P; exact P.elim
    | some (.tup _, b), e => rw [e] at P; exact P.elim
    | some (.pr _, b), e => rw [e] at P; exact P.elim
    | some (.scr _, b), e => rw [e] at P; exact P.elim
    | some (.fn _, b), e => rw [e] at P; exact P.elim
theorem mutOk_ok {i : Nat} {f : Unit → M β} {k : β → Env → Hp → Hp → Prop} (S : SR K nm F0 G F ρ σ H) (P : Po K nm ex W F0 G F σ (M.bind (mutOk i) f ρ) k) :
    ∃ a, σ[i]? = some (some (.ref a)) ∧ Po K nm ex W F0 G F σ (f () ρ) k := by
  unfold M.bind mutOk at P
  cases e : ρ[i]? with
  | none => rw [e] at P; exact P.elim
  | some x =>
    match x, e with
    | none, e => rw [e] at P; exact P.elim
    | some (.lst xs, true), e =>
      rw [e] at P
      obtain ⟨a, e1, _⟩ := S.mu i _ e
      exact ⟨a, e1, P⟩
    | some (.dic xs, true), e =>
      rw [e] at P
      obtain ⟨a, e1, _⟩ := S.mu i _ e
      exact ⟨a, e1, P⟩
    | some (.lst xs, false), e => rw [e] at P; exact P.elim
    | some (.dic xs, false), e => rw [e] at P; exact P.elim
    | some (.non, b), e => rw [e] at P; exact P.elim
    | some (.bl _, b), e => rw [e] at P; exact P.elim
    | some (.int _, b), e => rw [e] at P; exact P.elim
    | some (.str _, b), e => rw [e] at P; exact P.elim
    | some (.tup _, b), e => rw [e] at P; exact P.elim
    | some (.pr _, b), e => rw [e] at P; exact P.elim
    | some (.scr _, b), e => rw [e] at P; exact P.elim
    | some (.fn _, b), e => rw [e] at P; exact P.elim
theorem mutS_ok {i : Nat} {g : D → Option (D × R)} {f : R → M β} {k : β → Env → Hp → Hp → Prop} (S : SR K nm F0 G F ρ σ H) (P : Po K nm ex W F0 G F σ (M.bind (mutS i g) f ρ) k) :
    ∃ a e d' r, σ[i]? = some (some (.ref a)) ∧ HRep K nm F (H a) e ∧ g e = some (d', r) ∧ ∀ o, HRep K nm F (some o) d' → SR K nm F0 G F (ρ.set i (some (d', true))) σ (upd H a o) ∧ Po K nm ex W F0 G F σ (f r (ρ.set i (some (d', true)))) k := by
  unfold M.bind mutS at P
  cases e : ρ[i]? with
  | none => rw [e] at P; exact P.elim
  | some x =>
    match x, e with
    | none, e => rw [e] at P; exact P.elim
    | some (d, false), e => rw [e] at P; exact P.elim
    | some (d, true), e =>
      rw [e] at P
      obtain ⟨a, e1, fa, ga, ha⟩ := S.mu i _ e
      cases eg : g d with
      | none => simp only [eg] at P; exact P.elim
      | some y =>
        obtain ⟨d', r⟩ := y
        simp only [eg] at P
        exact ⟨a, d, d', r, e1, ha, eg, fun o ho => ⟨S.write e e1 ho, P⟩⟩
theorem mutS_ok' {i : Nat} {g : D → Option (D × R)} (S : SR K nm F0 G F ρ σ H) (P : Po K nm ex W F0 G F σ (mutS i g ρ) (KQ K nm G σ Q)) :
    ∃ a e d' r, σ[i]? = some (some (.ref a)) ∧ HRep K nm F (H a) e ∧ g e = some (d', r) ∧ ∀ o v, HRep K nm F (some o) d' → RR K nm F G (upd H a o) (ρ.set i (some (d', true))) σ r v → Q v (upd H a o) := by
  have P' : Po K nm ex W F0 G F σ (M.bind (mutS i g) (fun r => M.pure r) ρ) (KQ K nm G σ Q) := by
    have e : M.bind (mutS i g) (fun r => M.pure r) = mutS i g := by
      funext ρ
      unfold M.bind
      cases mutS i g ρ with
      | mk o ρ' => cases o <;> rfl
    rw [e]; exact P
  obtain ⟨a, e, d', r, e1, h1, eg, fin⟩ := mutS_ok S P'
  refine ⟨a, e, d', r, e1, h1, eg, fun o v ho hv => ?_⟩
  obtain ⟨S', P2⟩ := fin o ho
  exact P2 F _ S' (Same.refl _) v hv
theorem line_lt {n : Nat} (h : n < sizeLine) : n + 1 ≤ sizeLine := h
theorem t_app {i : Nat} {ma : M R} (h : tE K nm ex W (M.bind (mutOkL i) fun _ => M.bind (M.bind ma frz) fun x => mutS i (appD x)) σ H Q) :
    tBM K "list" rAppend (tVar i) (tCons (tE K nm ex W ma) tNil) σ H Q := by
  obtain ⟨F0, G, F, ρ, S, P⟩ := h
  obtain ⟨a, vs, e1, hv, P⟩ := mutOkL_ok S P
  refine ⟨.ref a, e1, .inl ⟨rfl, vs, .of hv⟩, ?_⟩
  rw [bind_assoc'] at P
  refine one S P fun r ρ2 F2 H2 y S2 s2 hy P2 => ?_
  obtain ⟨F3, ρ3, d, S3, s3, ry, _, _, P3⟩ := frz_ok S2 hy.wr P2
  obtain ⟨a', e, d', r', e2, h2, eg, fin⟩ := mutS_ok' S3 P3
  rw [e1] at e2; cases e2
  cases e <;> first | exact h2.elim | (cases eg; done) | skip
  rename_i xs
  obtain ⟨ws, ew, lw, rw'⟩ := h2
  simp only [appD] at eg
  split at eg
  · rename_i hl
    cases eg
    have hl' : ws.length < sizeLine := by rw [rw'.length]; exact hl
    exact ⟨a, ws, y, rfl, rfl, ew, hl', fin (.lst (ws ++ [y])) .non ⟨_, rfl, by rw [List.length_append]; exact hl', rw'.append (.cons ry .nil)⟩ (Rep.non)⟩
  · cases eg
theorem ext_tuple (l : Addr) (items : Array Value) (n : Nat) (b : Addr) (items2 : Array Value) (n2 : Nat) (dd : Option Addr) (sl : Array (Option Value)) (hs0 : ¬(!items.isEmpty && Builtin.List.listTooLong (items.size + items2.size)) = true) (hs1 : items.size ≤ sizeLine) (hs2 : items.size + items2.size ≤ sizeLine + 1) :
    Meets (Builtin.«list.extend» ⟨[.ref l, .ref b], []⟩) (fun _ R s => s.heap.get? l = some { cls := .type "list", dict := none, data := .seq items n, slots := #[] } ∧ s.heap.get? b = some { cls := .type "tuple", dict := dd, data := .seq items2 n2, slots := sl } ∧ R (.ok (.ret Value.none)) { s with heap := s.heap.update l (Obj.mapSeq fun x => x ++ items2), toks := s.toks }) :=
  .of_wp fun prog w A R s h => by
    obtain ⟨hp, g, d, tk, os⟩ := s; obtain ⟨hl, hb, h⟩ := h
    have hz' : (items ++ items2).size ≤ sizeLine + 1 := by rw [Array.size_append]; exact hs2
    wp_walk using (wpAny_updateSeq hl rfl (hz := hs1) (_hz' := hz')), wpAny_loadPart' hl, wpAny_loadPart' hb
    exact ⟨_, rfl, h⟩
def rExtA : V → List V → Hp → VK → Prop := fun x vs H Q => ∃ l b xs zs, x = .ref l ∧ vs = [.ref b] ∧ H l = some (.lst xs) ∧ (H b = some (.lst zs) ∨ ∃ o, H b = some (.frz o (.tup zs))) ∧ xs.length + zs.length ≤ sizeLine ∧ Q .non (upd H l (.lst (xs ++ zs)))
theorem mt_extA {X : Cx} : MtM X "list.extend" rExtA := by
  intro pins s σ H x vs v us Q I rx rv h
  obtain ⟨l, b, xs, zs, rfl, rfl, hH, hB, hz, q⟩ := h
  rcases hB with hB | ⟨ob, hB⟩
  · exact mt_extend pins s σ H _ _ v us Q I rx rv ⟨l, b, xs, zs, rfl, rfl, hH, hB, hz, q⟩
  · cases rx
    obtain ⟨u, rfl, ru⟩ := rv.one
    cases ru
    obtain ⟨z, its, n, r, hl, e⟩ := I.lstM hH
    obtain ⟨_, _, its2, r2, ⟨c2, dd, dt, sl⟩, e2, hc, n2, h2⟩ := (show ObjOk X.prog X.w H s.heap b (.frz ob (.tup zs)) from I.hok b _ hB)
    simp only at hc h2
    subst hc h2
    have hl2 := r2.length
    have hsz : its.toArray.size + its2.toArray.size ≤ sizeLine := by rw [List.size_toArray, List.size_toArray]; omega
    have hlong : ¬ (!its.toArray.isEmpty && Builtin.List.listTooLong (its.toArray.size + its2.toArray.size)) = true := by
      rw [notLongL hsz, Bool.and_false]
      exact Bool.false_ne_true
    refine call_meets F.slot_list_extend ⟨_, e, rfl⟩ F.entry_list_extend (F.args_list_extend_2 _ _)
      (ext_tuple l its.toArray n b its2.toArray n2 dd sl hlong (by rw [List.size_toArray]; omega) (by omega)) ⟨e, e2, ?_⟩
    refine ⟨.non, _, I.lset (its' := its ++ its2) hH e (by simp) (r.append r2) ?_, rfl, q⟩
    rw [List.length_append]
    omega
theorem t_ext {i : Nat} {ma : M R} (h : tE K nm ex W (M.bind (mutOkL i) fun _ => M.bind ma fun r => M.bind (pk r) fun x => mutS i (extD x)) σ H Q) :
    tBM K "list" rExtA (tVar i) (tCons (tE K nm ex W ma) tNil) σ H Q := by
  obtain ⟨F0, G, F, ρ, S, P⟩ := h
  obtain ⟨a, vs, e1, hv, P⟩ := mutOkL_ok S P
  refine ⟨.ref a, e1, .inl ⟨rfl, vs, .of hv⟩, ?_⟩
  refine one S P fun r ρ2 F2 H2 y S2 s2 hy P2 => ?_
  obtain ⟨dx, edx, P3⟩ := P2.pk
  have l := hy.wr.lk S2 edx
  obtain ⟨a', e, d', r', e2, h2, eg, fin⟩ := mutS_ok' S2 P3
  rw [e1] at e2; cases e2
  cases e <;> first | exact h2.elim | (cases eg; done) | skip
  rename_i xs
  obtain ⟨ws, ew, lw, rw'⟩ := h2
  simp only [extD] at eg
  split at eg
  · rename_i zs
    split at eg
    · rename_i hl
      cases eg
      obtain ⟨b, us, rfl, hb, lb, rb⟩ := l.lst S2.fh
      have hl' : ws.length + us.length ≤ sizeLine := by rw [rw'.length, rb.length]; exact hl
      exact ⟨a, b, ws, us, rfl, rfl, ew, .inl hb, hl', fin (.lst (ws ++ us)) .non ⟨_, rfl, by rw [List.length_append]; exact hl', rw'.append rb⟩ (Rep.non)⟩
    · cases eg
  · rename_i zs
    split at eg
    · rename_i hl
      cases eg
      obtain ⟨b, us, rfl, hb, lb, rb⟩ := l.tup S2.fh
      have hl' : ws.length + us.length ≤ sizeLine := by rw [rw'.length, rb.length]; exact hl
      obtain ⟨ob, hb, _⟩ := hb
      exact ⟨a, b, ws, us, rfl, rfl, ew, .inr ⟨ob, S2.fh _ _ hb⟩, hl', fin (.lst (ws ++ us)) .non ⟨_, rfl, by rw [List.length_append]; exact hl', rw'.append rb⟩ (Rep.non)⟩
    · cases eg
  · cases eg
theorem t_pop {i : Nat} (h : tE K nm ex W (mutS i popD) σ H Q) : tBM0 K "list" rPop (tVar i) σ H Q := by
  obtain ⟨F0, G, F, ρ, S, P⟩ := h
  obtain ⟨a, e, d', r', e1, h2, eg, fin⟩ := mutS_ok' S P
  cases e <;> first | exact h2.elim | (cases eg; done) | skip
  rename_i xs
  obtain ⟨ws, ew, lw, rw'⟩ := h2
  simp only [popD] at eg
  obtain ⟨y, ey, eg⟩ := Option.map_eq_some_iff.mp eg
  cases eg
  obtain ⟨w, hw, rw2⟩ := rw'.at_ ey
  rw [← rw'.length] at hw
  refine ⟨.ref a, e1, .inl ⟨rfl, ws, .of ew⟩, a, ws, w, rfl, rfl, ew, hw, fin (.lst ws.dropLast) w ⟨_, rfl, by rw [List.length_dropLast]; omega, rw'.dropLast⟩ rw2⟩
theorem ixN_line {n : Nat} {i : Int} {j : Nat} (hn : n ≤ sizeLine) (h : ixN n i = some j) : -(2 ^ 63) ≤ i ∧ i < 2 ^ 63 := by
  obtain ⟨_, _, h3, h4⟩ := ixN_seq h
  rw [sizeLine_eq] at hn
  omega
theorem t_popi {i : Nat} {ma : M R} (h : tE K nm ex W (M.bind (mutOkL i) fun _ => M.bind ma fun r => M.bind (pk r) fun x => mutS i (popiD x)) σ H Q) :
    tBM K "list" rPopAt (tVar i) (tCons (tE K nm ex W ma) tNil) σ H Q := by
  obtain ⟨F0, G, F, ρ, S, P⟩ := h
  obtain ⟨a, vs, e1, hv, P⟩ := mutOkL_ok S P
  refine ⟨.ref a, e1, .inl ⟨rfl, vs, .of hv⟩, ?_⟩
  refine one S P fun r ρ2 F2 H2 y S2 s2 hy P2 => ?_
  obtain ⟨dx, edx, P3⟩ := P2.pk
  have l := hy.wr.lk S2 edx
  obtain ⟨a', e, d', r', e2, h2, eg, fin⟩ := mutS_ok' S2 P3
  rw [e1] at e2; cases e2
  cases e <;> first | exact h2.elim | (cases eg; done) | skip
  rename_i xs
  obtain ⟨ws, ew, lw, rw'⟩ := h2
  simp only [popiD] at eg
  split at eg
  · rename_i j
    obtain ⟨k, ek, eg⟩ := Option.bind_eq_some_iff.mp eg
    obtain ⟨y', ey, eg⟩ := Option.map_eq_some_iff.mp eg
    cases eg
    obtain ⟨w, hw, rw2⟩ := rw'.at_ ey
    rw [← rw'.length] at ek
    obtain ⟨b1, b2⟩ := ixN_line lw ek
    obtain ⟨q1, _⟩ := ixN_seq ek
    cases l.int
    refine ⟨a, ws, j, k, w, rfl, rfl, ew, b1, b2, q1, hw, fin (.lst (ws.eraseIdx k)) w ⟨_, rfl, ?_, rw'.eraseIdx k⟩ rw2⟩
    exact Nat.le_trans (len_erase ws k) lw
  · cases eg
/-- o[i] = v, a list's or a dict's -/
def rPut : TSet := fun o i v H Q => rSetL o i v H Q ∨ ∃ a H4, o = .ref a ∧ DPut H a i v H4 ∧ Q H4
theorem set_put {X : Cx} (hu : X.A.units + 1 < cLine) : PSet X rPut := by
  intro pins s σ H o i v ov iv u Q I ro ri rv h
  rcases h with h | ⟨a, H4, rfl, g, q⟩
  · exact set_list pins s σ H o i v ov iv u Q I ro ri rv h
  · cases ro
    exact d_setItem hu I g ri rv fun s' I' => ⟨H4, I', q⟩
theorem eqD_int (i j : Int) : eqD (.int i) (.int j) = decide (i = j) := by
  simp [eqD, D.py, PyData.eqv]; by_cases h : i = j <;> simp [h]
theorem kreps_put {j : Int} {v : V} {d : D} (hv : Rep K nm F v d) {kvs : List (Key × V)} {ds : List (D × D)} (h : KReps K nm F kvs ds) : KReps K nm F (putK kvs (.inl j) v) (dicPut (.int j) d ds) := by
  have e1 : ∀ {kvs : List (Key × V)} {ds : List (D × D)}, KReps K nm F kvs ds → (kvs.any fun kv => decide (kv.1 = (.inl j : Key))) = ds.any fun p => eqD p.1 (.int j) := by
    intro kvs ds h
    induction ds generalizing kvs with
    | nil => cases h; rfl
    | cons p ds ih =>
      cases h with
      | @cons i v d kvs ds h r =>
        rw [List.any_cons, List.any_cons, ih r, eqD_int]
        simp
  have e2 : ∀ {kvs : List (Key × V)} {ds : List (D × D)}, KReps K nm F kvs ds → KReps K nm F (kvs.map fun kv => if kv.1 = (.inl j : Key) then (kv.1, v) else kv) (ds.map fun p => if eqD p.1 (.int j) then (p.1, d) else p) := by
    intro kvs ds h
    induction ds generalizing kvs with
    | nil => cases h; exact .nil
    | cons p ds ih =>
      cases h with
      | @cons i v' d' kvs ds h r =>
        rw [List.map_cons, List.map_cons, eqD_int]
        by_cases hij : i = j
        · subst hij
          simp only [if_true, decide_true]
          exact .cons hv (ih r)
        · rw [if_neg (by simpa using hij), if_neg (by simpa using hij)]
          exact .cons h (ih r)
  have e3 : ∀ {kvs : List (Key × V)} {ds : List (D × D)}, KReps K nm F kvs ds → KReps K nm F (kvs ++ [(.inl j, v)]) (ds ++ [(.int j, d)]) := by
    intro kvs ds h
    induction ds generalizing kvs with
    | nil => cases h; exact .cons hv .nil
    | cons p ds ih =>
      cases h with
      | @cons i v' d' kvs ds h r => exact .cons h (ih r)
  unfold putK dicPut
  rw [e1 h]
  split
  · exact e2 h
  · exact e3 h
theorem KReps.length : ∀ {kvs : List (Key × V)} {ds : List (D × D)}, KReps K nm F kvs ds → kvs.length = ds.length := by
  intro kvs ds h
  induction ds generalizing kvs with
  | nil => cases h; rfl
  | cons p ds ih =>
    cases h with
    | @cons i v' d' kvs ds h r => rw [List.length_cons, List.length_cons, ih r]
/-- .. of the i-th name: by what putD says -/
theorem put_ok {i : Nat} {f : R → M β} {k : β → Env → Hp → Hp → Prop} {dk dv : D} {y v : V} {a0 : Addr} {T : Hp → Prop} (S : SR K nm F0 G F ρ σ H) (ea : σ[i]? = some (some (.ref a0))) (ly : Lk K nm F H y dk) (rv : Rep K nm F v dv) (P : Po K nm ex W F0 G F σ (M.bind (mutS i (putD dk dv)) f ρ) k)
    (fin : ∀ ρ' H' r, SR K nm F0 G F ρ' σ H' → Po K nm ex W F0 G F σ (f r ρ') k → T H') : rPut (.ref a0) y v H T := by
  obtain ⟨a, e, d', r, e1, h1, eg, go⟩ := mutS_ok S P
  rw [ea] at e1; cases e1
  cases e <;> first | exact h1.elim | (cases eg; done) | skip
  · rename_i xs
    obtain ⟨ws, ew, lw, rw'⟩ := h1
    simp only [putD] at eg
    split at eg
    · rename_i j
      obtain ⟨m, em, eg⟩ := Option.map_eq_some_iff.mp eg
      cases eg
      cases ly.int
      rw [← rw'.length] at em
      obtain ⟨S', P'⟩ := go (.lst (ws.set m v)) ⟨_, rfl, by rw [List.length_set]; exact lw, rw'.set m rv⟩
      exact .inl ⟨_, ws, j, m, rfl, rfl, ew, em, fin _ _ _ S' P'⟩
    · cases eg
  · rename_i kvs
    obtain ⟨ws, ew, lw, rw'⟩ := h1
    simp only [putD] at eg
    split at eg
    · rename_i j
      split at eg
      · rename_i hl
        cases eg
        cases ly.int
        have hl' : ws.length < sizeLine := by rw [rw'.length]; exact hl
        have hz := length_putK ws (.inl j) v
        obtain ⟨S', P'⟩ := go (.dK (putK ws (.inl j) v)) ⟨_, rfl, by omega, kreps_put rv rw'⟩
        exact .inr ⟨_, _, rfl, DPut.k (k := .inl j) ew hl', fin _ _ _ S' P'⟩
      · cases eg
    · cases eg
theorem t_dnew (h : tE K nm ex W (M.pure ⟨.dic [], .f⟩) σ H Q) : tDNewK σ H Q := by
  obtain ⟨F0, G, F, ρ, S, P⟩ := h
  intro p hp
  obtain ⟨S4, fp, gp, ap⟩ := S.fresh hp (.dK [])
  exact P _ _ S4 (Same.refl _) _ ⟨p, rfl, ⟨fp, gp, by rw [upd_same]; exact ⟨[], rfl, Nat.zero_le _, .nil⟩⟩, ap⟩
/-- an object that nobody knows yet is rewritten -/
theorem SR.poke {p : Addr} {o : HO} (S : SR K nm F0 G F ρ σ H) (f : F p = none) (g : G p = none) (ap : Apart ρ σ p) : SR K nm F0 G F ρ σ (upd H p o) := by
  refine ⟨S.len, fun b u e => ?_, fun b u e => ?_, S.ff, S.new, S.fz, fun i d e => ?_, S.ap⟩
  · rw [upd_ne (fun z => by rw [z, f] at e; cases e)]; exact S.fh b u e
  · rw [upd_ne (fun z => by rw [z, g] at e; cases e)]; exact S.gh b u e
  · obtain ⟨a, e1, f1, g1, h1⟩ := S.mu i d e
    exact ⟨a, e1, f1, g1, by rw [upd_ne (fun z : a = p => ap i d e (by rw [← z]; exact e1))]; exact h1⟩
theorem t_disp {ma mb : M R} (h : tE K nm ex W (M.bind ma fun r => match r with
    | ⟨.int i, .z⟩ => M.bind mb fun q => match q with
      | ⟨y, .z⟩ => M.pure ⟨.dic [(.int i, y)], .f⟩
      | _ => M.bad
    | _ => M.bad) σ H Q) : tDisp [(tE K nm ex W ma, tE K nm ex W mb)] σ H Q := by
  obtain ⟨F0, G, F, ρ, S, P⟩ := h
  intro p hp
  obtain ⟨S4, fp, gp, ap⟩ := S.fresh hp (.dK [])
  have hR : RR K nm F G (upd H p (.dK [])) ρ σ ⟨.dic [], .f⟩ (.ref p) := ⟨p, rfl, ⟨fp, gp, by rw [upd_same]; exact ⟨[], rfl, Nat.zero_le _, .nil⟩⟩, ap⟩
  refine snd S4 hR P fun r ρ2 F2 H2 x S2 s2 hp2 hx P2 => ?_
  match r, hx, P2 with
  | ⟨.int i, .z⟩, hx, P2 =>
    have ex : x = .int i := by cases (show Rep K nm F2 x (.int i) from hx); rfl
    subst ex
    refine snd S2 hp2 P2 fun q ρ3 F3 H3 y S3 s3 hp3 hy P3 => ?_
    match q, hy, P3 with
    | ⟨dy, .z⟩, hy, P3 =>
      obtain ⟨p', e, ⟨f3, g3, kvs, ek, lk, rk⟩, a3⟩ := hp3
      cases e
      cases rk
      have S5 := S3.poke (o := .dK [(.inl i, y)]) f3 g3 a3
      refine ⟨ek, [(.inl i, y)], rfl, (show (1 : Nat) ≤ 15 by decide), ?_⟩
      exact P3 F3 _ S5 (Same.refl _) _ ⟨p, rfl, ⟨f3, g3, by rw [upd_same]; exact ⟨_, rfl, by show 1 ≤ sizeLine; rw [sizeLine_eq]; decide, .cons hy .nil⟩⟩, a3⟩
    | ⟨_, .f⟩, _, P3 => exact P3.elim
    | ⟨_, .s _⟩, _, P3 => exact P3.elim
  | ⟨.int _, .f⟩, _, P2 => exact P2.elim
  | ⟨.int _, .s _⟩, _, P2 => exact P2.elim
  | ⟨.non, _⟩, _, P2 => exact P2.elim
  | ⟨.bl _, _⟩, _, P2 => exact P2.elim
  | ⟨.str _, _⟩, _, P2 => exact P2.elim
  | ⟨.tup _, _⟩, _, P2 => exact P2.elim
  | ⟨.pr _, _⟩, _, P2 => exact P2.elim
  | ⟨.lst _, _⟩, _, P2 => exact P2.elim
  | ⟨.scr _, _⟩, _, P2 => exact P2.elim
  | ⟨.fn _, _⟩, _, P2 => exact P2.elim
  | ⟨.dic _, _⟩, _, P2 => exact P2.elim
end
end Pv

set_option Elab.async false
set_option linter.all false
set_option maxRecDepth 100000
set_option maxHeartbeats 4000000
set_option autoImplicit false
/-! Pv, part L: what a for walks over. -/
namespace Pv
open PySem PySem.Spec PyProof.Rows L2
section
variable {X : Cx} {tg : Expr}
/-- over a list or a tuple -/
def iSeq (K : PySem.W.Frag) (tl : TE) : TI := fun σ H R => tl σ H fun x H1 => ∃ a, x = .ref a ∧ (((∃ xs, SqL K H1 a xs) ∧ R (Itl K a) H1) ∨ ((∃ xs, SqT K H1 a xs) ∧ R (Itt K a) H1))
theorem pi_seq {l : Expr} {tl : TE} (hl : PE X l tl) : PI X tg l (iSeq X.K tl) := by
  refine ⟨fun pins s σ H R I h => thn (hl.run pins s σ H _ I h) fun v s1 ⟨x, H1, I1, r1, a, ex, q⟩ => ?_⟩
  subst ex
  have ev : v = Value.ref a := r1
  subst ev
  have new : ∀ (o : Obj), Inv X pins σ H1 { s1 with heap := s1.heap.push o } := fun o => I1.kept (t' := s1.toks) fun b u e => Heap.get?_push_of_some _ e
  have fp : ∀ b ∈ [s1.heap.objs.size], FpOk X pins H1 b := fun b hb => by
    have eb : b = s1.heap.objs.size := by simpa using hb
    rw [eb]
    exact I1.fpOk (Nat.le_refl _) I1.fresh
  rcases q with ⟨⟨xs, hq⟩, q⟩ | ⟨⟨xs, hq⟩, q⟩
  · obtain ⟨its, rv, p, _⟩ := I1.list hq
    exact wpAny_pyIter_list p.isList ⟨_, _, _, _, H1, rfl, new _, turn_list a _, ⟨_, Heap.get?_push_size _ rfl, rfl, rfl⟩, fp, q⟩
  · obtain ⟨its, rv, p, _⟩ := I1.tuple hq
    exact wpAny_pyIter_tuple (show s1.heap.IsTuple a its.toArray from p) ⟨_, _, _, _, H1, rfl, new _, turn_tuple a _, ⟨_, Heap.get?_push_size _ rfl, rfl, rfl⟩, fp, q⟩

/-! ### enumerate of a tuple -/
set_option maxHeartbeats 1000000 in
theorem enum_new1 {v : Value} {o : Obj} {B : Heap → Prop} (hB : Begins v o B) : Meets (Builtin.«enumerate.__new__» ⟨[.type "enumerate", v], []⟩) fun _ R s =>
    B s.heap ∧ R (.ok (.ret (.ref (s.heap.push o).objs.size))) { s with heap := (s.heap.push o).push { cls := .type "enumerate", data := .fields #[.none, .bool false, .ref s.heap.objs.size, rawInt 0, .none, .none] } } :=
  .of_wp fun prog w A R s ⟨hb, h⟩ => by
    obtain ⟨hp, g, d, tk, os⟩ := s
    have hsub := sub_enumerate
    have step : ∀ {A' : Around} {E : Value → Shared → Prop} {Q : Value → Shared → Prop}, Q (.ref hp.objs.size) ⟨hp.push o, g, d, tk, os⟩ → wpAny (model prog w) A' (pyIter v) Q E ⟨hp, g, d, tk, os⟩ := fun q => hB.iter prog w _ _ ⟨hp, g, d, tk, os⟩ _ hb q
    wp_walk using step
    refine wpAny_stack_any fun st => wpAny_pure ?_
    split
    · rename_i c _ _ _ _ _
      cases (c == Value.type "enumerate") <;> (wp_walk using step; exact ⟨_, rfl, h⟩)
    · wp_walk using step
      exact ⟨_, rfl, h⟩
theorem enum_tuple {prog : Program} {w : World} {A : Around} {E : Value → Shared → Prop} {s : Shared} {l : Addr} {its : Array Value} {Q : Value → Shared → Prop} (hT : s.heap.IsTuple l its)
    (h : ∀ h', IsEnum h' (s.heap.objs.size + 1) s.heap.objs.size 0 .none → h'.IsTupleIter s.heap.objs.size l 0 → (∀ b o, s.heap.get? b = some o → h'.get? b = some o) → Q (.ref (s.heap.objs.size + 1)) { s with heap := h' }) :
    wpAny (model prog w) A (call (.type "enumerate") [.ref l]) Q E s := by
  refine callType_new F.called_enumerate (by decide) (F.typeCall_enumerate_1 _) (F.newCall_enumerate_1 _) (fun obj => F.args_object_init_2 obj _) F.entry_enumerate_new (enum_new1 (begins_tuple l its)) ⟨hT, ?_⟩
  have hz : (s.heap.push { cls := .type "tuple_iterator", data := .fields #[.ref l, .int 0 0] }).objs.size = s.heap.objs.size + 1 := Heap.size_push ..
  have he := Heap.get?_push_size (s.heap.push { cls := .type "tuple_iterator", data := .fields #[.ref l, .int 0 0] }) (o := { cls := .type "enumerate", data := .fields #[.none, .bool false, .ref s.heap.objs.size, rawInt 0, .none, .none] }) rfl
  show _ ∧ _
  rw [hz] at he ⊢
  exact ⟨⟨_, he, rfl⟩, h _ he ⟨_, Heap.get?_push_of_some _ (Heap.get?_push_size _ rfl), rfl, rfl⟩ fun b o x => Heap.get?_push_of_some _ (Heap.get?_push_of_some _ x)⟩
def IteT (K : PySem.W.Frag) (a : Addr) : It :=
  ⟨fun i H => ∃ (xs : List V) (x : V), SqT K H a xs ∧ xs[i]? = some x, fun i H v H' => ∃ T x, v = .ref T ∧ H T = none ∧ H' = upd H T (.tup [.int (i : Nat), x]) ∧ ∀ xs, SqT K H a xs → xs[i]? = some x, fun i H => ∃ xs : List V, SqT K H a xs ∧ xs.length ≤ i⟩
theorem turn_enumT {P : Program} {w : World} {K : PySem.W.Frag} {elts : List Expr} {kk : Nat} {tpos : Pos} (a e it : Addr) :
    Turn P w K (.Tuple elts kk tpos) (IteT K a) [e, it] e (fun i h => (∃ old, IsEnum h e it ((i : Nat) : Int) old) ∧ h.IsTupleIter it a i ∧ e ≠ it ∧ e ≠ a ∧ a ≠ it) where
  mem := by simp
  obj := fun i h ⟨⟨old, he⟩, ⟨o, ho, hc, hd⟩, _⟩ b hb => by
    rcases (show b = e ∨ b = it by simpa using hb) with z | z
    · rw [z]; exact ⟨_, he, fun v q => nomatch q⟩
    · rw [z]; exact ⟨o, ho, fun v q => by rw [hd] at q; cases q⟩
  keep := fun i h h' ⟨⟨old, he⟩, hi, n⟩ k => ⟨⟨old, k e (by simp) _ he⟩, hi.at fun o q => k it (by simp) o q, n⟩
  item := by
    intro X hP hw hK hc i pins s σ H E I hf st hg
    subst hP hw hK
    obtain ⟨⟨old, he⟩, hit, n1, n2, n3⟩ := st
    obtain ⟨xs, x, hq, hx⟩ := hg
    obtain ⟨its, rv, p, hz⟩ := I.tuple hq
    obtain ⟨u, hu, ru⟩ := rv.get hx
    have hel : e < s.heap.objs.size := Heap.lt_size he
    have hil : it < s.heap.objs.size := by obtain ⟨_, q, _⟩ := hit; exact Heap.lt_size q
    have hlt : i < its.toArray.size := by simpa using (List.getElem?_eq_some_iff.mp hu).1
    have D := Draws.tuple (prog := X.prog) (w := X.w) (A := X.A.in1) (show X.A.in1.handled = none from I.ok.hd hc) it a n3 its.toArray
    refine wpAny_pyNext_enum_itemD D he ⟨hit, p⟩ hlt n1 (by simp [n1, n2]) fun u' h' tk hu' ho hit' hT hsz hk => ?_
    have eu : u' = u := by
      have : its.toArray[i]? = some u := by simpa using hu
      rw [this] at hu'
      exact (Option.some.inj hu').symm
    subst eu
    refine ⟨_, rfl, wpAny_letOwnedTupleGo_enum (s := { s with heap := h', toks := tk + 1 }) ho fun h'' he' sb => ?_⟩
    have hT2 := (sb.2 _ (Nat.ne_of_gt hel)).trans hT
    have I1 := I.turnedNew (t' := tk + 1) (ob := .tup [.int (i : Nat), x]) (ch := [e, it]) (fun b ob hb q => (sb.2 b (fun z => hb (by simp [z]))).trans (hk b ob (fun z => hb (by simp [z])) (fun z => hb (by simp [z])) q)) hf (Nat.le_refl _)
      (⟨by show 2 ≤ sizeLine; decide, [.int i tk, u'], .cons ⟨_, rfl⟩ (.cons ru .nil), ⟨_, hT2, rfl, _, rfl⟩⟩ : ObjOk X.prog X.w _ h'' s.heap.objs.size (.tup [.int (i : Nat), x]))
    refine ⟨.ref s.heap.objs.size, _, I1, rfl, ⟨_, x, rfl, I.fresh, rfl, fun ys hy => by rw [I.tuple_inj hy hq]; exact hx⟩, ⟨⟨u', ?_⟩, hit'.1.at fun o q => (sb.2 it (Ne.symm n1)).trans q, n1, n2, n3⟩, fun b hb => ?_⟩
    · have e1 : ((i + 1 : Nat) : Int) = (i : Int) + 1 := by omega
      rw [e1]; exact he'
    · have hb' : b < s.heap.objs.size := by
        rcases (show b = e ∨ b = it by simpa using hb) with z | z
        · rw [z]; exact hel
        · rw [z]; exact hil
      rw [upd_ne (Nat.ne_of_lt hb')]
      exact (hf b hb).1
  done := by
    intro X hP hw hK hc i pins s σ H E I hf st hg
    subst hP hw hK
    obtain ⟨⟨old, he⟩, hit, n1, n2, n3⟩ := st
    obtain ⟨xs, hq, hx⟩ := hg
    obtain ⟨its, rv, p, hz⟩ := I.tuple hq
    obtain ⟨f0, f1, f2, f3, f4, f5⟩ := hf it (by simp)
    have hT : s.TypeIs (.ref e) "enumerate" := ⟨_, he, rfl⟩
    have hl := rv.length
    unfold pyNext
    refine wpAny_bind (wpAny_attempt (wpAny_callSpecial?_slot (name := Str.ofString "__next__") hT F.slot_enumerate_next
      (wpAny_call_entry F.slot_enumerate_next hT F.entry_enumerate_next ?_ (F.args_enumerate_next_1 _))))
    show wpAny _ _ (field (.ref e) 2 >>= _) _ _ _
    refine wpAny_bind (wpAny_field he rfl (x := .ref it) rfl ?_)
    refine wpAny_bind (wpAny_nextOf_tuple_end (show X.A.in1.in1.handled = none from I.ok.hd hc) hit (show s.heap.IsTuple a its.toArray from p) (by simp; omega) fun h' e' eb hx' => ?_)
    obtain ⟨o, ho, hco⟩ := hx'
    refine wpAny_bind (wpAny_isInstance (T := "StopIteration") (b := true) ⟨o, ho, hco⟩ isSubtype_stop ?_)
    exact wpAny_pure ⟨rfl, I.turned (t' := s.toks) (fun b o hb q => eb b o hb q) f0 f1 f3 f4 f5⟩
  self := fun A i s Q E ⟨⟨_, he⟩, _⟩ h => wpAny_pyIter_enum he h
def iEnumA (K : PySem.W.Frag) (ta : TE) : TI := fun σ H R => ta σ H fun x H1 => ∃ a xs, x = .ref a ∧ ((SqL K H1 a xs ∧ R (Ite K a) H1) ∨ (SqT K H1 a xs ∧ R (IteT K a) H1))
theorem pi_enumA {e : Expr} {ta : TE} {p pos tpos : Pos} {elts : List Expr} {kk : Nat} (hg : Gl X "enumerate") (hm : X.mg "enumerate" = none) (ha : PE X e ta) (hs : starEach [e] X.env = (false, eval e X.env) :: starEach [] X.env) :
    PI X (.Tuple elts kk tpos) (.Call (.Name "enumerate" p) [e] [] pos) (iEnumA X.K ta) := by
  refine ⟨fun pins s σ H R I h => ?_⟩
  refine Call_ (ld_blt I hg hm boot_enumerate (PyProof.Rows.callWith_type1 (args_cons (thn (ha.run pins s σ H _ I h) fun u s1 ⟨x, H1, I1, r1, a, xs, ex, q⟩ => args_nil ?_) hs) hs rfl))
  subst ex
  have eu : u = Value.ref a := r1
  subst eu
  have fp : ∀ b ∈ [s1.heap.objs.size + 1, s1.heap.objs.size], FpOk X pins H1 b := fun b hb => by
    have hle : s1.heap.objs.size ≤ b := by
      rcases (show b = s1.heap.objs.size + 1 ∨ b = s1.heap.objs.size by simpa using hb) with z | z <;> omega
    exact I1.fpOk hle (I1.hok.fresh hle)
  rcases q with ⟨hq, q⟩ | ⟨hq, q⟩
  · obtain ⟨its, rv, p', hz⟩ := I1.list hq
    exact call_enumerate_list p'.isList fun h' he hit hsz hk => wpAny_pyIter_enum he
      ⟨s1.heap.objs.size + 1, [s1.heap.objs.size + 1, s1.heap.objs.size], _, _, H1, rfl, I1.kept (t' := s1.toks) hk, turn_enum a (s1.heap.objs.size + 1) s1.heap.objs.size, ⟨⟨.none, he⟩, hit, Nat.succ_ne_self _⟩, fp, q⟩
  · obtain ⟨its, rv, p', hz⟩ := I1.tuple hq
    have hlt : a < s1.heap.objs.size := by obtain ⟨o, ho, _⟩ := id p'; exact Heap.lt_size ho
    exact enum_tuple (show s1.heap.IsTuple a its.toArray from p') fun h' he hit hk => wpAny_pyIter_enum he
      ⟨s1.heap.objs.size + 1, [s1.heap.objs.size + 1, s1.heap.objs.size], _, _, H1, rfl, I1.kept (t' := s1.toks) hk, turn_enumT a (s1.heap.objs.size + 1) s1.heap.objs.size, ⟨⟨.none, he⟩, hit, Nat.succ_ne_self _, fun z => by rw [← z] at hlt; exact absurd hlt (by simp), fun z => by rw [z] at hlt; exact absurd hlt (Nat.lt_irrefl _)⟩, fp, q⟩
end
end Pv

set_option Elab.async false
set_option linter.all false
set_option maxRecDepth 100000
set_option maxHeartbeats 4000000
set_option autoImplicit false
/-! Pv, part M: readings of what is walked over. -/
namespace Pv
open PySem PySem.Spec PyProof.Rows L2 RT RZ
section
variable {K : PySem.W.Frag} {nm : Nat → Option Addr} {ex : Nat → Value} {W : WX} {F0 G F F' H H' : Hp} {ρ : Env} {σ : L2.St} {r q : R} {x v : V} {d : D} {α β : Type} {Q : VK}
theorem SqL.grow {a : Addr} {xs : List V} (s : Same F H) (h : SqL K F a xs) : SqL K H a xs := s.seq h
theorem it_lst {a : Addr} {vs : List V} {xs : List D} (h : F a = some (.lst vs)) (r : Reps K nm F vs xs) : ItOk K nm F (Itl K a) xs := by
  refine ⟨fun H s => ⟨vs, .of (s _ _ h), Nat.le_of_eq r.length⟩, fun i d e H s => ?_⟩
  obtain ⟨v, hv, rv⟩ := r.at_ e
  refine ⟨⟨vs, v, .of (s _ _ h), hv⟩, fun x H' y => ?_⟩
  obtain ⟨e1, y⟩ := y
  have := y vs (.of (s _ _ h))
  rw [hv] at this; cases this
  exact .inl ⟨e1, fun F1 s1 _ => rv.mono s1⟩
theorem it_tup {a : Addr} {vs : List V} {xs : List D} (h : TupF F a vs) (r : Reps K nm F vs xs) : ItOk K nm F (Itt K a) xs := by
  refine ⟨fun H s => ⟨vs, h.sq s, Nat.le_of_eq r.length⟩, fun i d e H s => ?_⟩
  obtain ⟨v, hv, rv⟩ := r.at_ e
  refine ⟨⟨vs, v, h.sq s, hv⟩, fun x H' y => ?_⟩
  obtain ⟨e1, y⟩ := y
  have := y vs (h.sq s)
  rw [hv] at this; cases this
  exact .inl ⟨e1, fun F1 s1 _ => rv.mono s1⟩
theorem it_scr {a : Addr} {ns : List Int} (h : SqL K F a (ns.map V.int)) : ItOk K nm F (Itl K a) (ns.map D.int) := by
  refine ⟨fun H s => ⟨_, s.seq h, by simp⟩, fun i d e H s => ?_⟩
  rw [List.getElem?_map] at e
  obtain ⟨n, hn, e⟩ := Option.map_eq_some_iff.mp e
  subst e
  have hv : (ns.map V.int)[i]? = some (.int n) := by rw [List.getElem?_map, hn]; rfl
  refine ⟨⟨_, _, s.seq h, hv⟩, fun x H' y => ?_⟩
  obtain ⟨e1, y⟩ := y
  have := y _ (s.seq h)
  rw [hv] at this; cases this
  exact .inl ⟨e1, fun F1 s1 _ => .int n⟩
theorem it_rng (lo hi : Int) : ItOk K nm F (Itr lo (hi - lo).toNat) ((rngI lo hi).map D.int) := by
  have hl : ((rngI lo hi).map D.int).length = (hi - lo).toNat := by simp [rngI]
  refine ⟨fun H s => Nat.le_of_eq hl.symm, fun i d e H s => ?_⟩
  have hi' : i < (hi - lo).toNat := by rw [← hl]; exact (List.getElem?_eq_some_iff.mp e).1
  refine ⟨hi', fun x H' y => ?_⟩
  obtain ⟨e1, e2⟩ := y
  refine .inl ⟨e1, fun F1 s1 _ => ?_⟩
  subst e2
  have : d = .int (lo + (i : Nat)) := by
    simp [rngI, hi'] at e
    exact e.symm
  subst this
  exact .int _
theorem Reps.two {x y : V} {a b : D} {T : Addr} (n : F T = none) (hx : Rep K nm F x a) (hy : Rep K nm F y b) : Rep K nm (upd F T (.tup [x, y])) (.ref T) (.pr [a, b]) := by
  have s := same_new (o := HO.tup [x, y]) n
  exact .pr upd_same (.cons (hx.mono s) (.cons (hy.mono s) .nil))
theorem enumD_get : ∀ (xs : List D) (k i : Nat) (d : D), (enumD k xs)[i]? = some d → ∃ x, xs[i]? = some x ∧ d = .pr [.int ((k + i : Nat) : Int), x]
  | [], _, _, _, e => by simp [enumD] at e
  | x :: xs, k, 0, d, e => ⟨x, rfl, by simp [enumD] at e; rw [← e]; rfl⟩
  | x :: xs, k, i + 1, d, e => by
    simp only [enumD, List.getElem?_cons_succ] at e
    obtain ⟨y, h1, h2⟩ := enumD_get xs (k + 1) i d e
    exact ⟨y, by simpa using h1, by rw [h2]; congr 3; omega⟩
theorem enumD_length : ∀ (xs : List D) (k : Nat), (enumD k xs).length = xs.length
  | [], _ => rfl
  | x :: xs, k => by simp [enumD, enumD_length xs]
theorem it_enum {a : Addr} {vs : List V} {xs : List D} (h : F a = some (.lst vs)) (r : Reps K nm F vs xs) : ItOk K nm F (Ite K a) (enumD 0 xs) := by
  refine ⟨fun H s => ⟨vs, .of (s _ _ h), by rw [enumD_length]; exact Nat.le_of_eq r.length⟩, fun i d e H s => ?_⟩
  obtain ⟨x, hx, rfl⟩ := enumD_get _ _ _ _ e
  obtain ⟨v, hv, rv⟩ := r.at_ hx
  refine ⟨⟨vs, v, .of (s _ _ h), hv⟩, fun x H' y => ?_⟩
  obtain ⟨T, w, e1, e2, e3, y⟩ := y
  have := y vs (.of (s _ _ h))
  rw [hv] at this; cases this
  subst e1
  refine .inr ⟨T, _, e2, e3, rfl, fun F1 s1 s2 n => Reps.two n ?_ (rv.mono s1)⟩
  rw [Nat.zero_add]; exact .int _
theorem it_enumT {a : Addr} {vs : List V} {xs : List D} (h : TupF F a vs) (r : Reps K nm F vs xs) : ItOk K nm F (IteT K a) (enumD 0 xs) := by
  refine ⟨fun H s => ⟨vs, h.sq s, by rw [enumD_length]; exact Nat.le_of_eq r.length⟩, fun i d e H s => ?_⟩
  obtain ⟨x, hx, rfl⟩ := enumD_get _ _ _ _ e
  obtain ⟨v, hv, rv⟩ := r.at_ hx
  refine ⟨⟨vs, v, h.sq s, hv⟩, fun x H' y => ?_⟩
  obtain ⟨T, w, e1, e2, e3, y⟩ := y
  have := y vs (h.sq s)
  rw [hv] at this; cases this
  subst e1
  refine .inr ⟨T, _, e2, e3, rfl, fun F1 s1 s2 n => Reps.two n ?_ (rv.mono s1)⟩
  rw [Nat.zero_add]; exact .int _
theorem it_enumS {a : Addr} {ns : List Int} (h : SqL K F a (ns.map V.int)) : ItOk K nm F (Ite K a) (enumD 0 (ns.map D.int)) := by
  refine ⟨fun H s => ⟨_, s.seq h, by rw [enumD_length]; simp⟩, fun i d e H s => ?_⟩
  obtain ⟨x, hx, rfl⟩ := enumD_get _ _ _ _ e
  rw [List.getElem?_map] at hx
  obtain ⟨n, hn, hx⟩ := Option.map_eq_some_iff.mp hx
  subst hx
  have hv : (ns.map V.int)[i]? = some (.int n) := by rw [List.getElem?_map, hn]; rfl
  refine ⟨⟨_, _, s.seq h, hv⟩, fun x H' y => ?_⟩
  obtain ⟨T, w, e1, e2, e3, y⟩ := y
  have := y _ (s.seq h)
  rw [hv] at this; cases this
  subst e1
  refine .inr ⟨T, _, e2, e3, rfl, fun F1 s1 s2 n => Reps.two n ?_ (.int _)⟩
  rw [Nat.zero_add]; exact .int _
theorem zipD_get : ∀ (xs ys : List D) (i : Nat) (d : D), (zipD xs ys)[i]? = some d → ∃ x y, xs[i]? = some x ∧ ys[i]? = some y ∧ d = .pr [x, y]
  | [], _, _, _, e => by simp [zipD] at e
  | _ :: _, [], _, _, e => by simp [zipD] at e
  | x :: xs, y :: ys, 0, d, e => ⟨x, y, rfl, rfl, by simp [zipD] at e; exact e.symm⟩
  | x :: xs, y :: ys, i + 1, d, e => by
    simp only [zipD, List.getElem?_cons_succ] at e
    obtain ⟨a, b, h1, h2, h3⟩ := zipD_get xs ys i d e
    exact ⟨a, b, by simpa using h1, by simpa using h2, h3⟩
theorem zipD_length : ∀ (xs ys : List D), (zipD xs ys).length = min xs.length ys.length
  | [], _ => by simp [zipD]
  | _ :: _, [] => by simp [zipD]
  | x :: xs, y :: ys => by simp [zipD, zipD_length xs ys]
theorem it_zip {a b : Addr} {vs ws : List V} {xs ys : List D} (h : F a = some (.lst vs)) (r : Reps K nm F vs xs) (h2 : F b = some (.lst ws)) (r2 : Reps K nm F ws ys) : ItOk K nm F (Itz K a b) (zipD xs ys) := by
  refine ⟨fun H s => ⟨vs, ws, .of (s _ _ h), .of (s _ _ h2), by rw [zipD_length, r.length, r2.length]; omega⟩, fun i d e H s => ?_⟩
  obtain ⟨x, y, hx, hy, rfl⟩ := zipD_get _ _ _ _ e
  obtain ⟨v, hv, rv⟩ := r.at_ hx
  obtain ⟨w, hw, rw'⟩ := r2.at_ hy
  refine ⟨⟨vs, ws, v, w, .of (s _ _ h), .of (s _ _ h2), hv, hw⟩, fun x H' y => ?_⟩
  obtain ⟨T, x1, x2, e1, e2, e3, y1, y2⟩ := y
  have z1 := y1 vs (.of (s _ _ h))
  have z2 := y2 ws (.of (s _ _ h2))
  rw [hv] at z1; cases z1
  rw [hw] at z2; cases z2
  subst e1
  exact .inr ⟨T, _, e2, e3, rfl, fun F1 s1 s2 n => Reps.two n (rv.mono s1) (rw'.mono s1)⟩
theorem it_zipT {a b : Addr} {vs ws : List V} {xs ys : List D} (h : TupF F a vs) (r : Reps K nm F vs xs) (h2 : TupF F b ws) (r2 : Reps K nm F ws ys) : ItOk K nm F (ItzT K a b) (zipD xs ys) := by
  refine ⟨fun H s => ⟨vs, ws, h.sq s, h2.sq s, by rw [zipD_length, r.length, r2.length]; omega⟩, fun i d e H s => ?_⟩
  obtain ⟨x, y, hx, hy, rfl⟩ := zipD_get _ _ _ _ e
  obtain ⟨v, hv, rv⟩ := r.at_ hx
  obtain ⟨w, hw, rw'⟩ := r2.at_ hy
  refine ⟨⟨vs, ws, v, w, h.sq s, h2.sq s, hv, hw⟩, fun x H' y => ?_⟩
  obtain ⟨T, x1, x2, e1, e2, e3, y1, y2⟩ := y
  have z1 := y1 vs (h.sq s)
  have z2 := y2 ws (h2.sq s)
  rw [hv] at z1; cases z1
  rw [hw] at z2; cases z2
  subst e1
  exact .inr ⟨T, _, e2, e3, rfl, fun F1 s1 s2 n => Reps.two n (rv.mono s1) (rw'.mono s1)⟩
theorem rev_at {α : Type} {xs : List α} {i : Nat} {x : α} (e : xs.reverse[i]? = some x) : i < xs.length ∧ xs[xs.length - 1 - i]? = some x := by
  have hl : i < xs.length := by have := (List.getElem?_eq_some_iff.mp e).1; simpa using this
  rw [List.getElem?_reverse hl] at e
  exact ⟨hl, e⟩
theorem it_rev {a : Addr} {vs : List V} {xs : List D} (h : F a = some (.lst vs)) (r : Reps K nm F vs xs) : ItOk K nm F (Itv K a vs.length) xs.reverse := by
  refine ⟨fun H s => by show vs.length ≤ _; rw [List.length_reverse]; exact Nat.le_of_eq r.length, fun i d e H s => ?_⟩
  obtain ⟨hl, e⟩ := rev_at e
  obtain ⟨v, hv, rv⟩ := r.at_ e
  rw [← r.length] at hl hv
  refine ⟨⟨hl, vs, v, .of (s _ _ h), hv⟩, fun x H' y => ?_⟩
  obtain ⟨e1, y⟩ := y
  have := y vs (.of (s _ _ h))
  rw [hv] at this; cases this
  exact .inl ⟨e1, fun F1 s1 _ => rv.mono s1⟩
theorem it_revT {a : Addr} {vs : List V} {xs : List D} (h : TupF F a vs) (r : Reps K nm F vs xs) : ItOk K nm F (ItvT K a vs.length) xs.reverse := by
  refine ⟨fun H s => by show vs.length ≤ _; rw [List.length_reverse]; exact Nat.le_of_eq r.length, fun i d e H s => ?_⟩
  obtain ⟨hl, e⟩ := rev_at e
  obtain ⟨v, hv, rv⟩ := r.at_ e
  rw [← r.length] at hl hv
  refine ⟨⟨hl, vs, v, h.sq s, hv⟩, fun x H' y => ?_⟩
  obtain ⟨e1, y⟩ := y
  have := y vs (h.sq s)
  rw [hv] at this; cases this
  exact .inl ⟨e1, fun F1 s1 _ => rv.mono s1⟩
theorem it_revS {a : Addr} {ns : List Int} (h : SqL K F a (ns.map V.int)) : ItOk K nm F (Itv K a (ns.map V.int).length) (ns.map D.int).reverse := by
  refine ⟨fun H s => by show _ ≤ _; simp, fun i d e H s => ?_⟩
  obtain ⟨hl, e⟩ := rev_at e
  rw [List.getElem?_map] at e
  obtain ⟨n, hn, e⟩ := Option.map_eq_some_iff.mp e
  subst e
  have hv : (ns.map V.int)[(ns.map V.int).length - 1 - i]? = some (.int n) := by
    rw [List.length_map] at hn ⊢
    rw [List.getElem?_map, hn]; rfl
  have hl' : i < (ns.map V.int).length := by simpa using hl
  refine ⟨⟨hl', _, _, s.seq h, hv⟩, fun x H' y => ?_⟩
  obtain ⟨e1, y⟩ := y
  have := y _ (s.seq h)
  rw [hv] at this; cases this
  exact .inl ⟨e1, fun F1 s1 _ => .int n⟩
theorem t_seq {m : M R} {T : It → Hp → Prop} (h : tI K nm ex W (itrM m) σ H T) : iSeq K (tE K nm ex W m) σ H T := by
  obtain ⟨F0, G, F, ρ, S, P⟩ := h
  refine one S P fun r ρ2 F2 H2 x S2 s2 hx P2 => ?_
  obtain ⟨F3, ρ3, d, S3, s3, rd, _, _, P3⟩ := frz_ok S2 hx.wr P2
  obtain ⟨xs, ei, fin⟩ := P3.ofO'
  have fin := fin F3 H2 S3 (Same.refl _)
  cases d <;> simp only [D.items] at ei <;> first | (cases ei; done) | skip
  · cases ei
    cases rd with
    | @tup a vs _ h l r => exact ⟨a, rfl, .inr ⟨⟨vs, h.sq S3.fh⟩, fin _ (it_tup h r)⟩⟩
  · cases ei
    cases rd with
    | @lst a vs _ h l r => exact ⟨a, rfl, .inl ⟨⟨vs, .of (S3.fh _ _ h)⟩, fin _ (it_lst h r)⟩⟩
  · cases ei
    cases rd with
    | @scr a ns h l => exact ⟨a, rfl, .inl ⟨⟨_, S3.fh.seq h⟩, fin _ (it_scr h)⟩⟩
theorem t_enum {m : M R} {T : It → Hp → Prop} (h : tI K nm ex W (M.bind (itrM m) fun xs => M.pure (enumD 0 xs)) σ H T) : iEnumA K (tE K nm ex W m) σ H T := by
  obtain ⟨F0, G, F, ρ, S, P⟩ := h
  unfold itrM at P
  rw [bind_assoc'] at P
  refine one S P fun r ρ2 F2 H2 x S2 s2 hx P2 => ?_
  rw [bind_assoc'] at P2
  obtain ⟨F3, ρ3, d, S3, s3, rd, _, _, P3⟩ := frz_ok S2 hx.wr P2
  obtain ⟨xs, ei, P4⟩ := P3.ofO
  have fin := P4 F3 H2 S3 (Same.refl _)
  cases d <;> simp only [D.items] at ei <;> first | (cases ei; done) | skip
  · cases ei
    cases rd with
    | @tup a vs _ h l r => exact ⟨a, vs, rfl, .inr ⟨h.sq S3.fh, fin _ (it_enumT h r)⟩⟩
  · cases ei
    cases rd with
    | @lst a vs _ h l r => exact ⟨a, vs, rfl, .inl ⟨.of (S3.fh _ _ h), fin _ (it_enum h r)⟩⟩
  · cases ei
    cases rd with
    | @scr a ns h l => exact ⟨a, _, rfl, .inl ⟨S3.fh.seq h, fin _ (it_enumS h)⟩⟩
theorem t_rev {m : M R} {T : It → Hp → Prop} (h : tI K nm ex W (M.bind (itrM m) fun xs => M.pure xs.reverse) σ H T) : iRevA K (tE K nm ex W m) σ H T := by
  obtain ⟨F0, G, F, ρ, S, P⟩ := h
  unfold itrM at P
  rw [bind_assoc'] at P
  refine one S P fun r ρ2 F2 H2 x S2 s2 hx P2 => ?_
  rw [bind_assoc'] at P2
  obtain ⟨F3, ρ3, d, S3, s3, rd, _, _, P3⟩ := frz_ok S2 hx.wr P2
  obtain ⟨xs, ei, P4⟩ := P3.ofO
  have fin := P4 F3 H2 S3 (Same.refl _)
  cases d <;> simp only [D.items] at ei <;> first | (cases ei; done) | skip
  · cases ei
    cases rd with
    | @tup a vs _ h l r => exact ⟨a, vs, rfl, .inr ⟨h.sq S3.fh, fin _ (it_revT h r)⟩⟩
  · cases ei
    cases rd with
    | @lst a vs _ h l r => exact ⟨a, vs, rfl, .inl ⟨.of (S3.fh _ _ h), fin _ (it_rev h r)⟩⟩
  · cases ei
    cases rd with
    | @scr a ns h l => exact ⟨a, _, rfl, .inl ⟨S3.fh.seq h, fin _ (it_revS h)⟩⟩
theorem t_zip {ma mb : M R} {T : It → Hp → Prop} (h : tI K nm ex W (M.bind ma fun r => M.bind mb fun q => M.bind (frz r) fun x => M.bind (frz q) fun y => ofO (zipO x y)) σ H T) :
    iZipA K (tCons (tE K nm ex W ma) (tCons (tE K nm ex W mb) tNil)) σ H T := by
  obtain ⟨F0, G, F, ρ, S, P⟩ := h
  refine two S P fun r q ρ2 F2 H2 x y S2 s2 hx hy _ P2 => ?_
  obtain ⟨F3, ρ3, dx, S3, s3, rx, _, k3, P3⟩ := frz_ok S2 hx.wr P2
  obtain ⟨F4, ρ4, dy, S4, s4, ry, _, k4, P4⟩ := frz_ok S3 (k3 _ _ hy.wr) P3
  obtain ⟨xs, ei, fin⟩ := P4.ofO'
  have fin := fin F4 H2 S4 (Same.refl _)
  have rx := rx.mono s4
  unfold zipO at ei
  split at ei
  · cases ei
    cases rx with
    | @lst a vs _ h l r =>
      cases ry with
      | @lst b ws _ h2 l2 r2 => exact ⟨a, b, vs, ws, rfl, .inl ⟨.of (S4.fh _ _ h), .of (S4.fh _ _ h2), fin _ (it_zip h r h2 r2)⟩⟩
  · cases ei
    cases rx with
    | @tup a vs _ h l r =>
      cases ry with
      | @tup b ws _ h2 l2 r2 => exact ⟨a, b, vs, ws, rfl, .inr ⟨h.sq S4.fh, h2.sq S4.fh, fin _ (it_zipT h r h2 r2)⟩⟩
  · cases ei
theorem rngOk_of {i j : Int} (h : rngOk i j = true) : RgOk i j := by
  unfold rngOk at h
  simp only [Bool.and_eq_true, decide_eq_true_eq] at h
  rw [sizeLine_eq] at h
  obtain ⟨⟨⟨⟨h1, h2⟩, h3⟩, h4⟩, h5⟩ := h
  exact ⟨h1, h2, h3, h4, by omega⟩
theorem t_rng1 {ma : M R} {T : It → Hp → Prop} (h : tI K nm ex W (M.bind ma fun r => M.bind (pk r) fun x => ofO (rngD [x])) σ H T) : iRng1 (tCons (tE K nm ex W ma) tNil) σ H T := by
  obtain ⟨F0, G, F, ρ, S, P⟩ := h
  refine one S P fun r ρ2 F2 H2 x S2 s2 hx P2 => ?_
  obtain ⟨d, ed, P3⟩ := P2.pk
  obtain ⟨xs, ei, fin⟩ := P3.ofO'
  have l := hx.wr.lk S2 ed
  cases d <;> simp only [rngD] at ei <;> first | (cases ei; done) | skip
  rename_i j
  split at ei
  · rename_i ok
    cases ei
    obtain ⟨h1, h2, h3, h4, _⟩ := rngOk_of ok
    have := it_rng (K := K) (nm := nm) (F := F2) 0 j
    rw [Int.sub_zero] at this
    exact ⟨j, by rw [l.int], h3, h4, fin F2 H2 S2 (Same.refl _) _ this⟩
  · cases ei
theorem t_rng2 {ma mb : M R} {T : It → Hp → Prop} (h : tI K nm ex W (M.bind ma fun r => M.bind mb fun q => M.bind (pk r) fun x => M.bind (pk q) fun y => ofO (rngD [x, y])) σ H T) : iRng2 (tCons (tE K nm ex W ma) (tCons (tE K nm ex W mb) tNil)) σ H T := by
  obtain ⟨F0, G, F, ρ, S, P⟩ := h
  refine two S P fun r q ρ2 F2 H2 x y S2 s2 hx hy _ P2 => ?_
  obtain ⟨d, ed, P3⟩ := P2.pk
  obtain ⟨e, ee, P4⟩ := P3.pk
  obtain ⟨xs, ei, fin⟩ := P4.ofO'
  have l := hx.wr.lk S2 ed
  have l2 := hy.wr.lk S2 ee
  cases d <;> simp only [rngD] at ei <;> first | (cases ei; done) | skip
  cases e <;> simp only [rngD] at ei <;> first | (cases ei; done) | skip
  rename_i i j
  split at ei
  · rename_i ok
    cases ei
    obtain ⟨h1, h2, h3, h4, _⟩ := rngOk_of ok
    exact ⟨i, j, by rw [l.int, l2.int], ⟨h1, h2, h3, h4⟩, fin F2 H2 S2 (Same.refl _) _ (it_rng i j)⟩
  · cases ei
theorem rgV_eq (i j : Int) : rgV i j = (rngI i j).map V.int := by
  unfold rgV rngI
  rw [List.map_map]; rfl
theorem lrng_fin {xs : List D} {i j : Int} {ok : rngOk i j = true} (S : SR K nm F0 G F ρ σ H) (P : Po K nm ex W F0 G F σ (M.pure ⟨.lst ((rngI i j).map D.int), .f⟩ ρ) (KQ K nm G σ Q)) :
    RgOk i j ∧ ∀ q, H q = none → Q (.ref q) (upd H q (.lst (rgV i j))) := by
  refine ⟨rngOk_of ok, fun p hp => ?_⟩
  obtain ⟨S4, fp, gp, ap⟩ := S.fresh hp (.lst (rgV i j))
  have hl : (rgV i j).length ≤ sizeLine := by
    have := (rngOk_of ok).2.2.2.2
    rw [rgV_length, sizeLine_eq]; omega
  exact P _ _ S4 (Same.refl _) _ ⟨p, rfl, ⟨fp, gp, by rw [upd_same]; exact ⟨_, rfl, hl, by rw [rgV_eq]; exact Reps.ofInts _⟩⟩, ap⟩
theorem t_lrng1 {ma : M R} (h : tE K nm ex W (M.bind ma fun r => M.bind (pk r) fun x => M.bind (ofO (rngD [x])) fun xs => M.pure ⟨.lst xs, .f⟩) σ H Q) : tLstRg (tRg1 (tE K nm ex W ma)) σ H Q := by
  obtain ⟨F0, G, F, ρ, S, P⟩ := h
  refine one S P fun r ρ2 F2 H2 x S2 s2 hx P2 => ?_
  obtain ⟨d, ed, P3⟩ := P2.pk
  obtain ⟨xs, ei, P4⟩ := P3.ofO
  have l := hx.wr.lk S2 ed
  cases d <;> simp only [rngD] at ei <;> first | (cases ei; done) | skip
  rename_i j
  split at ei
  · rename_i ok
    cases ei
    exact ⟨j, l.int, lrng_fin (xs := []) (ok := ok) S2 P4⟩
  · cases ei
theorem t_lrng2 {ma mb : M R} (h : tE K nm ex W (M.bind ma fun r => M.bind mb fun q => M.bind (pk r) fun x => M.bind (pk q) fun y => M.bind (ofO (rngD [x, y])) fun xs => M.pure ⟨.lst xs, .f⟩) σ H Q) : tLstRg (tRg2 (tE K nm ex W ma) (tE K nm ex W mb)) σ H Q := by
  obtain ⟨F0, G, F, ρ, S, P⟩ := h
  refine two S P fun r q ρ2 F2 H2 x y S2 s2 hx hy _ P2 => ?_
  obtain ⟨d, ed, P3⟩ := P2.pk
  obtain ⟨e, ee, P4⟩ := P3.pk
  obtain ⟨xs, ei, P5⟩ := P4.ofO
  have l := hx.wr.lk S2 ed
  have l2 := hy.wr.lk S2 ee
  cases d <;> simp only [rngD] at ei <;> first | (cases ei; done) | skip
  cases e <;> simp only [rngD] at ei <;> first | (cases ei; done) | skip
  rename_i i j
  split at ei
  · rename_i ok
    cases ei
    exact ⟨i, j, l.int, l2.int, lrng_fin (xs := []) (ok := ok) S2 P5⟩
  · cases ei
end
end Pv

set_option Elab.async false
set_option linter.all false
set_option maxRecDepth 100000
set_option maxHeartbeats 4000000
set_option autoImplicit false
/-! Pv, part N: lists made by going through. -/
namespace Pv
open PySem PySem.Spec PyProof.Rows L2 RT RZ
section
variable {K : PySem.W.Frag} {nm : Nat → Option Addr} {ex : Nat → Value} {W W0 : WX} {F0 G F F' H H' : Hp} {ρ : Env} {σ : L2.St} {r q : R} {x v : V} {d : D} {α β : Type} {Q : VK}
def gNs : List Nat → TGs
  | [] => gNil
  | i :: is => gCons (gName i) (gNs is)
/-- the reading of a target -/
def gT (K : PySem.W.Frag) : T → TG
  | .one i => gName i
  | .many is => gTup K is.length (gNs is)
theorem SR.setZ {i : Nat} (S : SR K nm F0 G F ρ σ H) (h : Rep K nm F v d) : SR K nm F0 G F (setE ρ i d false) (σ.set i (some v)) H := by
  unfold setE
  refine ⟨by rw [List.length_set, List.length_set]; exact S.len, S.fh, S.gh, S.ff, S.new, fun j e q => ?_, fun j e q => ?_, fun j l d1 d2 b q1 q2 => ?_⟩
  · rcases get_set q with ⟨rfl, h', hl⟩ | ⟨hne, h'⟩
    · cases h'
      exact ⟨v, List.getElem?_set_self (by rw [← S.len]; exact hl), h⟩
    · obtain ⟨w, e1, r⟩ := S.fz j e h'
      exact ⟨w, by rw [List.getElem?_set_ne hne]; exact e1, r⟩
  · rcases get_set q with ⟨rfl, h', hl⟩ | ⟨hne, h'⟩
    · cases h'
    · obtain ⟨a, e1, o⟩ := S.mu j e h'
      exact ⟨a, by rw [List.getElem?_set_ne hne]; exact e1, o⟩
  · rcases get_set q1 with ⟨rfl, h', hl⟩ | ⟨hne, h'⟩
    · cases h'
    · rcases get_set q2 with ⟨rfl, h2, hl⟩ | ⟨hne2, h2⟩
      · cases h2
      · rw [List.getElem?_set_ne hne, List.getElem?_set_ne hne2]
        exact S.ap j l d1 d2 b h' h2
theorem SR.setN {i : Nat} (S : SR K nm F0 G F ρ σ H) : SR K nm F0 G F (ρ.set i none) (σ.set i none) H := by
  refine ⟨by rw [List.length_set, List.length_set]; exact S.len, S.fh, S.gh, S.ff, S.new, fun j e q => ?_, fun j e q => ?_, fun j l d1 d2 b q1 q2 => ?_⟩
  · rcases get_set q with ⟨rfl, h', hl⟩ | ⟨hne, h'⟩
    · cases h'
    · obtain ⟨w, e1, r⟩ := S.fz j e h'
      exact ⟨w, by rw [List.getElem?_set_ne hne]; exact e1, r⟩
  · rcases get_set q with ⟨rfl, h', hl⟩ | ⟨hne, h'⟩
    · cases h'
    · obtain ⟨a, e1, o⟩ := S.mu j e h'
      exact ⟨a, by rw [List.getElem?_set_ne hne]; exact e1, o⟩
  · rcases get_set q1 with ⟨rfl, h', hl⟩ | ⟨hne, h'⟩
    · cases h'
    · rcases get_set q2 with ⟨rfl, h2, hl⟩ | ⟨hne2, h2⟩
      · cases h2
      · rw [List.getElem?_set_ne hne, List.getElem?_set_ne hne2]
        exact S.ap j l d1 d2 b h' h2
theorem SR.wipe (S : SR K nm F0 G F ρ σ H) : ∀ os : List Nat, SR K nm F0 G F (wipeE ρ os) (L2.wipe σ os) H
  | [] => S
  | _ :: os => (SR.wipe S os).setN
theorem wipe_get (σ : L2.St) : ∀ (os : List Nat) (j : Nat), (L2.wipe σ os)[j]? = if j ∈ os ∧ j < σ.length then some none else σ[j]?
  | [], j => by simp [L2.wipe]
  | i :: os, j => by
    unfold L2.wipe
    by_cases h : i = j
    · subst h
      by_cases hl : i < σ.length
      · rw [List.getElem?_set_self (by rw [wipe_length]; exact hl), if_pos ⟨.head _, hl⟩]
      · rw [if_neg (fun z => hl z.2), List.getElem?_eq_none (by rw [List.length_set, wipe_length]; omega), List.getElem?_eq_none (by omega)]
    · rw [List.getElem?_set_ne h, wipe_get σ os j]
      have e : (j ∈ i :: os ∧ j < σ.length) ↔ (j ∈ os ∧ j < σ.length) := by simp [Ne.symm h]
      simp only [e]
theorem wipe_set {i : Nat} {os : List Nat} (h : i ∈ os) (y : Option V) : L2.wipe (σ.set i y) os = L2.wipe σ os := by
  apply List.ext_getElem?
  intro j
  rw [wipe_get, wipe_get, List.length_set]
  by_cases hj : j ∈ os ∧ j < σ.length
  · rw [if_pos hj, if_pos hj]
  · rw [if_neg hj, if_neg hj]
    by_cases e : i = j
    · subst e
      rw [List.getElem?_eq_none (by rw [List.length_set]; exact Nat.le_of_not_lt fun z => hj ⟨h, z⟩), List.getElem?_eq_none (Nat.le_of_not_lt fun z => hj ⟨h, z⟩)]
    · rw [List.getElem?_set_ne e]
theorem wipe_wipe (σ : L2.St) (os : List Nat) : L2.wipe (L2.wipe σ os) os = L2.wipe σ os := by
  apply List.ext_getElem?
  intro j
  rw [wipe_get, wipe_get, wipe_length]
  by_cases hj : j ∈ os ∧ j < σ.length
  · rw [if_pos hj, if_pos hj]
  · rw [if_neg hj, if_neg hj]
theorem wipe_off {σ σ' : L2.St} {os : List Nat} (h : L2.wipe σ os = L2.wipe σ' os) {j : Nat} (hj : j ∉ os) : σ[j]? = σ'[j]? := by
  have := congrArg (fun l : L2.St => l[j]?) h
  try dsimp only at this
  rw [wipe_get, wipe_get, if_neg (fun z => hj z.1), if_neg (fun z => hj z.1)] at this
  exact this
theorem gNs_ok {os : List Nat} : ∀ {is : List Nat} {vs : List V} {xs : List D} {ρ ρ1 : Env} {σ : L2.St} {Q : L2.St → Hp → Prop}, (∀ i ∈ is, i ∈ os) → SR K nm F0 G F ρ σ H → Reps K nm F vs xs → setMany is xs ρ = some ρ1 →
    (∀ σ1, SR K nm F0 G F ρ1 σ1 H → L2.wipe σ1 os = L2.wipe σ os → Q σ1 H) → gNs is vs σ H Q
  | [], vs, xs, ρ, ρ1, σ, Q, ho, S, r, e, q => by
    cases xs with
    | nil => cases r; simp [setMany] at e; subst e; exact ⟨rfl, q σ S rfl⟩
    | cons => simp [setMany] at e
  | i :: is, vs, xs, ρ, ρ1, σ, Q, ho, S, r, e, q => by
    cases xs with
    | nil => simp [setMany] at e
    | cons d xs =>
      cases r with
      | @cons v _ vs _ h r =>
        exact ⟨v, vs, rfl, gNs_ok (fun j hj => ho j (.tail _ hj)) (S.setZ h) r e fun σ1 S1 w1 => q σ1 S1 (w1.trans (wipe_set (ho i (.head _)) _))⟩
theorem setMany_length : ∀ {is : List Nat} {xs : List D} {ρ ρ1 : Env}, setMany is xs ρ = some ρ1 → xs.length = is.length
  | [], [], _, _, _ => rfl
  | [], _ :: _, _, _, e => by simp [setMany] at e
  | _ :: _, [], _, _, e => by simp [setMany] at e
  | _ :: is, _ :: xs, _, _, e => by rw [List.length_cons, List.length_cons, setMany_length (is := is) (xs := xs) e]
/-- a target takes a value that stands for good -/
theorem gT_ok {os : List Nat} {tg : T} {ρ1 : Env} {Q : L2.St → Hp → Prop} (ho : ∀ i ∈ tg.slots, i ∈ os) (S : SR K nm F0 G F ρ σ H) (h : Rep K nm F v d) (e : setT tg d ρ = some ρ1)
    (q : ∀ σ1, SR K nm F0 G F ρ1 σ1 H → L2.wipe σ1 os = L2.wipe σ os → Q σ1 H) : gT K tg v σ H Q := by
  cases tg with
  | one i =>
    simp only [setT] at e
    cases e
    exact q _ (S.setZ h) (wipe_set (ho i (.head _)) _)
  | many is =>
    cases d <;> simp only [setT] at e <;> first | (cases e; done) | skip
    · cases h with
      | @tup a vs _ h l r => exact ⟨a, vs, rfl, h.sq S.fh, by rw [r.length]; exact setMany_length e, gNs_ok ho S r e q⟩
    · cases h with
      | @pr a vs _ h r => exact ⟨a, vs, rfl, .of (S.fh _ _ h), by rw [r.length]; exact setMany_length e, gNs_ok ho S r e q⟩
theorem frzS_sr {i : Nat} (S : SR K nm F0 G F ρ σ H) : ∃ F1, SR K nm F0 G F1 (frzS i ρ) σ H ∧ Same F F1 := by
  unfold frzS
  cases e : ρ[i]? with
  | none => exact ⟨F, S, Same.refl _⟩
  | some x =>
    match x, e with
    | none, e => exact ⟨F, S, Same.refl _⟩
    | some (d, true), e => exact S.standS e
    | some (d, false), e =>
      have he : ρ.set i (some (d, false)) = ρ := by
        apply List.ext_getElem?
        intro j
        by_cases hj : i = j
        · subst hj
          rw [List.getElem?_set_self (List.getElem?_eq_some_iff.mp e).1, e]
        · rw [List.getElem?_set_ne hj]
      exact ⟨F, by dsimp only; rw [he]; exact S, Same.refl _⟩
theorem frzAll_sr : ∀ {os : List Nat} {ρ : Env} {F : Hp}, SR K nm F0 G F ρ σ H → ∃ F1, SR K nm F0 G F1 (frzAll os ρ) σ H ∧ Same F F1
  | [], ρ, F, S => ⟨F, S, Same.refl _⟩
  | i :: os, ρ, F, S => by
    obtain ⟨F1, S1, s1⟩ := frzS_sr (i := i) S
    obtain ⟨F2, S2, s2⟩ := frzAll_sr (os := os) S1
    exact ⟨F2, S2, s1.trans s2⟩
theorem frzS_get {i j : Nat} {d : D} {b : Bool} (h : (frzS i ρ)[j]? = some (some (d, b))) : (∃ b', ρ[j]? = some (some (d, b')) ∧ (b' = false → b = false)) ∧ (i = j → b = false) := by
  unfold frzS at h
  cases e : ρ[i]? with
  | none => rw [e] at h; exact ⟨⟨b, h, fun z => z⟩, fun z => by subst z; dsimp only at h; rw [e] at h; cases h⟩
  | some x =>
    match x, e with
    | none, e => rw [e] at h; exact ⟨⟨b, h, fun z => z⟩, fun z => by subst z; dsimp only at h; rw [e] at h; cases h⟩
    | some (d', b'), e =>
      rw [e] at h
      dsimp only at h
      rcases get_set h with ⟨rfl, h', hl⟩ | ⟨hne, h'⟩
      · cases h'; exact ⟨⟨b', e, fun _ => rfl⟩, fun _ => rfl⟩
      · exact ⟨⟨b, h', fun z => z⟩, fun z => absurd z hne⟩
theorem frzAll_get : ∀ {os : List Nat} {ρ : Env} {j : Nat} {d : D} {b : Bool}, (frzAll os ρ)[j]? = some (some (d, b)) → (∃ b', ρ[j]? = some (some (d, b')) ∧ (b' = false → b = false)) ∧ (j ∈ os → b = false)
  | [], ρ, j, d, b, h => ⟨⟨b, h, fun z => z⟩, fun z => nomatch z⟩
  | i :: os, ρ, j, d, b, h => by
    obtain ⟨⟨b', h1, h2⟩, h3⟩ := frzAll_get (os := os) (ρ := frzS i ρ) h
    obtain ⟨⟨b2, h4, h5⟩, h6⟩ := frzS_get h1
    refine ⟨⟨b2, h4, fun z => h2 (h5 z)⟩, fun z => ?_⟩
    rcases List.mem_cons.mp z with z | z
    · exact h2 (h6 z.symm)
    · exact h3 z
theorem backE_get (ρ0 ρ : Env) : ∀ (os : List Nat) (j : Nat), (backE ρ0 ρ os)[j]? = if j ∈ os ∧ j < ρ.length then some (ρ0[j]?.getD none) else ρ[j]?
  | [], j => by simp [backE]
  | i :: os, j => by
    have hl : ∀ os : List Nat, (backE ρ0 ρ os).length = ρ.length := by
      intro os
      induction os with
      | nil => rfl
      | cons i os ih => unfold backE; rw [List.length_set, ih]
    unfold backE
    by_cases h : i = j
    · subst h
      by_cases hl' : i < ρ.length
      · rw [List.getElem?_set_self (by rw [hl]; exact hl'), if_pos ⟨.head _, hl'⟩]
      · rw [if_neg (fun z => hl' z.2), List.getElem?_eq_none (by rw [List.length_set, hl]; omega), List.getElem?_eq_none (by omega)]
    · rw [List.getElem?_set_ne h, backE_get ρ0 ρ os j]
      have e : (j ∈ i :: os ∧ j < ρ.length) ↔ (j ∈ os ∧ j < ρ.length) := by simp [Ne.symm h]
      simp only [e]
theorem backE_length (ρ0 ρ : Env) : ∀ os : List Nat, (backE ρ0 ρ os).length = ρ.length
  | [] => rfl
  | i :: os => by unfold backE; rw [List.length_set, backE_length ρ0 ρ os]
/-- the slots os again as they stood in ρ0, where they stand for good -/
theorem SR.back {ρ0 : Env} {os : List Nat} {σ2 : L2.St} (S : SR K nm F0 G F ρ σ2 H) (w : L2.wipe σ2 os = L2.wipe σ os) (h0 : ∀ j ∈ os, ∀ d b, ρ0[j]? = some (some (d, b)) → b = false ∧ ∃ v, σ[j]? = some (some v) ∧ Rep K nm F v d) :
    SR K nm F0 G F (backE ρ0 ρ os) σ H ∧ ∀ a, Apart ρ σ2 a → Apart (backE ρ0 ρ os) σ a := by
  have hlen : σ2.length = σ.length := by have := congrArg List.length w; rw [wipe_length, wipe_length] at this; exact this
  have cas : ∀ {j : Nat} {d : D} {b : Bool}, (backE ρ0 ρ os)[j]? = some (some (d, b)) → (j ∈ os ∧ b = false ∧ ∃ v, σ[j]? = some (some v) ∧ Rep K nm F v d) ∨ (j ∉ os ∧ ρ[j]? = some (some (d, b)) ∧ σ2[j]? = σ[j]?) := by
    intro j d b h
    rw [backE_get] at h
    by_cases hj : j ∈ os
    · by_cases hl : j < ρ.length
      · rw [if_pos ⟨hj, hl⟩] at h
        cases e : ρ0[j]? with
        | none => rw [e] at h; cases h
        | some y =>
          rw [e] at h
          have h : y = some (d, b) := Option.some.inj h
          subst h
          exact .inl ⟨hj, h0 j hj d b e⟩
      · rw [if_neg (fun z => hl z.2), List.getElem?_eq_none (by omega)] at h; cases h
    · rw [if_neg (fun z => hj z.1)] at h
      exact .inr ⟨hj, h, wipe_off w hj⟩
  refine ⟨⟨by rw [backE_length, ← hlen]; exact S.len, S.fh, S.gh, S.ff, S.new, fun j d h => ?_, fun j d h => ?_, fun i j d e a h1 h2 => ?_⟩, fun a ap j d h => ?_⟩
  · rcases cas h with ⟨_, _, v, e, r⟩ | ⟨_, h, e⟩
    · exact ⟨v, e, r⟩
    · rw [← e]; exact S.fz j d h
  · rcases cas h with ⟨_, z, _⟩ | ⟨_, h, e⟩
    · cases z
    · rw [← e]; exact S.mu j d h
  · rcases cas h1 with ⟨_, z, _⟩ | ⟨_, h1, e1⟩
    · cases z
    · rcases cas h2 with ⟨_, z, _⟩ | ⟨_, h2, e2⟩
      · cases z
      · rw [← e1, ← e2]; exact S.ap i j d e a h1 h2
  · rcases cas h with ⟨_, z, _⟩ | ⟨_, h, e⟩
    · cases z
    · rw [← e]; exact ap j d h
/-- what the iterator yields -/
theorem yld_ok {J : It} {Fj : Hp} {xs : List D} {i : Nat} (hJ : ItOk K nm Fj J xs) (sj : Same Fj F) (S : SR K nm F0 G F ρ σ H) (e : xs[i]? = some d) (y : J.yld i H x H') :
    ∃ Fa, SR K nm F0 G Fa ρ σ H' ∧ Same F Fa ∧ Rep K nm Fa x d ∧ (∀ p o, H p = some o → H' p = some o) ∧ ∀ p o, H p = some o → F p = none → Fa p = none := by
  rcases (hJ.2 i d e H (sj.trans S.fh)).2 x H' y with ⟨e1, q⟩ | ⟨T, vs, n, e1, e2, q⟩
  · subst e1
    exact ⟨F, S, Same.refl _, q F sj S.fh, fun _ _ h => h, fun _ _ _ h => h⟩
  · subst e1 e2
    have hF := S.fh.free n
    exact ⟨upd F T (.tup vs), S.alloc n _, same_new hF, q F sj S.fh hF, fun p o h => same_new n p o h, fun p o h1 h2 => by rw [upd_ne (fun z => by rw [z, n] at h1; cases h1)]; exact h2⟩
/-- an object that nobody knows, held by others meanwhile -/
theorem SR.hide {p : Addr} {o : HO} (S : SR K nm F0 G F ρ σ H) (e : H p = some o) (f : F p = none) (ap : Apart ρ σ p) : SR K nm F (upd G p o) F ρ σ H := by
  refine ⟨S.len, S.fh, fun b u q => ?_, Same.refl _, fun b o e => .inl ⟨o, e⟩, S.fz, fun i d q => ?_, S.ap⟩
  · by_cases hb : b = p
    · subst hb; rw [upd_same] at q; rw [← q]; exact e
    · rw [upd_ne hb] at q; exact S.gh b u q
  · obtain ⟨a, e1, f1, g1, h1⟩ := S.mu i d q
    exact ⟨a, e1, f1, by rw [upd_ne (fun z : a = p => ap i d q (by rw [← z]; exact e1))]; exact g1, h1⟩
theorem SR.unhide {p : Addr} {o : HO} {F1 : Hp} (S : SR K nm F (upd G p o) F1 ρ σ H) (ff : Same F0 F) (nw : ∀ b o, F b = some o → (∃ u, F0 b = some u) ∨ G b = none) (g : G p = none) (f : F p = none) :
    SR K nm F0 G F1 ρ σ H ∧ F1 p = none ∧ Apart ρ σ p ∧ H p = some o := by
  have hn : ∀ b, upd G p o b = none → G b = none := fun b e => by
    by_cases hb : b = p
    · subst hb; exact g
    · rw [upd_ne hb] at e; exact e
  refine ⟨⟨S.len, S.fh, (same_new g).trans S.gh, ff.trans S.ff, fun b u e => ?_, S.fz, fun i d e => ?_, S.ap⟩, ?_, fun i d e z => ?_, S.gh p o upd_same⟩
  · rcases S.new b u e with ⟨w, q⟩ | q
    · exact nw b w q
    · exact .inr (hn b q)
  · obtain ⟨a, e1, f1, g1, h1⟩ := S.mu i d e
    exact ⟨a, e1, f1, hn a g1, h1⟩
  · cases q : F1 p with
    | none => rfl
    | some u =>
      rcases S.new p u q with ⟨w, q⟩ | q
      · rw [f] at q; cases q
      · rw [upd_same] at q; cases q
  · obtain ⟨a, e1, f1, g1, h1⟩ := S.mu i d e
    rw [z] at e1; cases e1
    rw [upd_same] at g1; cases g1
theorem frz_ok2 {ρ' : Env} (S : SR K nm F0 G F ρ σ H) (h : WR K nm F G H ρ σ r v) (e : frz r ρ = (.ok d, ρ')) : ∃ F1, SR K nm F0 G F1 ρ' σ H ∧ Same F F1 ∧ Rep K nm F1 v d := by
  have P : Po K nm (fun _ => Value.none) (fun _ _ _ _ => False) F0 G F σ (M.bind (frz r) (fun d => M.pure d) ρ) (fun _ _ _ _ => True) := by
    unfold M.bind
    rw [e]
    exact fun _ _ _ _ => trivial
  obtain ⟨F1, ρ1, d1, S1, s1, r1, e1, _, _⟩ := frz_ok S h P
  rw [e] at e1
  injection e1 with e2 e3
  injection e2 with e2
  subst e2 e3
  exact ⟨F1, S1, s1, r1⟩
theorem bind_ok {m : M α} {f : α → M β} {a : α} {ρ' : Env} (e : m ρ = (.ok a, ρ')) : M.bind m f ρ = f a ρ' := by
  unfold M.bind; rw [e]
theorem bind_exc {m : M α} {f : α → M β} {n : Nat} {ρ' : Env} (e : m ρ = (.exc n, ρ')) : M.bind m f ρ = (.exc n, ρ') := by
  unfold M.bind; rw [e]
theorem bind_bad {m : M α} {f : α → M β} {ρ' : Env} (e : m ρ = (.bad, ρ')) : M.bind m f ρ = (.bad, ρ') := by
  unfold M.bind; rw [e]
/-- the block's tests and item, with what is kept (G1) hidden -/
def lcBody (ct : M Bool) (el : M R) : M (Option D) := M.bind ct fun b => if b then M.bind (M.bind el frz) (fun d => M.pure (some d)) else M.pure none
theorem body_ok {ct : M Bool} {el : M R} {Nn : Hp → Prop} {Ny : V → Hp → Prop} (S : SR K nm F0 G F ρ σ H) (hb : ∀ ρ2, lcBody ct el ρ ≠ (.bad, ρ2)) (he : ∀ n ρ2, lcBody ct el ρ ≠ (.exc n, ρ2))
    (h0 : ∀ ρ2 F2 H2, lcBody ct el ρ = (.ok none, ρ2) → SR K nm F0 G F2 ρ2 σ H2 → Same F F2 → Nn H2)
    (h1 : ∀ d ρ2 F2 H2 y, lcBody ct el ρ = (.ok (some d), ρ2) → SR K nm F0 G F2 ρ2 σ H2 → Same F F2 → Rep K nm F2 y d → Ny y H2) :
    tT K nm ex W0 ct σ H fun b H3 => if b = true then tE K nm ex W0 el σ H3 fun y H4 => Ny y H4 else Nn H3 := by
  refine ⟨F0, G, F, ρ, S, ?_⟩
  cases ec : ct ρ with
  | mk o ρ1 =>
    cases o with
    | bad => exact absurd (bind_bad ec) (hb ρ1)
    | exc n => exact absurd (bind_exc ec) (he n ρ1)
    | ok b =>
      intro F2 H2 S2 s2
      cases b with
      | false =>
        rw [if_neg (by decide)]
        exact h0 ρ1 F2 H2 ((bind_ok ec).trans rfl) S2 s2
      | true =>
        rw [if_pos rfl]
        have eb : lcBody ct el ρ = M.bind (M.bind el frz) (fun d => M.pure (some d)) ρ1 := (bind_ok ec).trans rfl
        refine ⟨F0, G, F2, ρ1, S2, ?_⟩
        cases ee : el ρ1 with
        | mk o ρ2 =>
          cases o with
          | bad => exact absurd (eb.trans (bind_bad (bind_bad ee))) (hb ρ2)
          | exc n => exact absurd (eb.trans (bind_exc (bind_exc ee))) (he n ρ2)
          | ok r =>
            intro F3 H3 S3 s3 y hy
            cases ef : frz r ρ2 with
            | mk o ρ3 =>
              have e2 : M.bind el frz ρ1 = (o, ρ3) := (bind_ok ee).trans ef
              cases o with
              | bad => exact absurd (eb.trans (bind_bad e2)) (hb ρ3)
              | exc n => exact absurd (eb.trans (bind_exc e2)) (he n ρ3)
              | ok d =>
                obtain ⟨F4, S4, s4, ry⟩ := frz_ok2 S3 hy.wr ef
                exact h1 d ρ3 F4 H3 y (eb.trans (bind_ok e2)) S4 ((s2.trans s3).trans s4) ry
theorem lcGo_cons {os : List Nat} {tg : T} {ρ0 : Env} {ct : M Bool} {el : M R} {x : D} {xs acc : List D} : lcGo os tg ρ0 ct el (x :: xs) acc ρ = match setT tg x (wipeE ρ os) with
    | none => (.bad, ρ)
    | some ρ1 => match lcBody ct el ρ1 with
      | (.ok (some d), ρ2) => lcGo os tg ρ0 ct el xs (acc ++ [d]) (backE ρ0 ρ2 os)
      | (.ok none, ρ2) => lcGo os tg ρ0 ct el xs acc (backE ρ0 ρ2 os)
      | (.exc _, ρ2) => (.bad, ρ2)
      | (.bad, ρ2) => (.bad, ρ2) := rfl
theorem drop_cons {xs : List D} {i : Nat} (h : i < xs.length) : xs[i]? = some xs[i] ∧ xs.drop i = xs[i] :: xs.drop (i + 1) := ⟨by simp [h], List.drop_eq_getElem_cons h⟩
theorem t_lc {os : List Nat} {tg : T} {it : M (List D)} {ct : M Bool} {el : M R} (ho : ∀ i ∈ tg.slots, i ∈ os) (h : tE K nm ex W (lcRun os tg it ct el) σ H Q) :
    tLc (tI K nm ex W it) (gT K tg) (tT K nm ex W0 ct) (tE K nm ex W0 el) os σ H Q := by
  obtain ⟨F0, G, F, ρ, S, P⟩ := h
  refine oneI S P fun xs ρ1 F1 H1 S1 s1 P1 J hJ => ?_
  try dsimp only at P1
  split at P1
  rotate_left
  · exact P1.elim
  rename_i hsz
  intro D hD
  obtain ⟨F2, S2, s2⟩ := frzAll_sr (os := os) S1
  have P2 := Po.weak s2 P1
  have h0 : ∀ {F : Hp}, Same F2 F → ∀ j ∈ os, ∀ d b, (frzAll os ρ1)[j]? = some (some (d, b)) → b = false ∧ ∃ v, σ[j]? = some (some v) ∧ Rep K nm F v d := fun s j hj d b e => by
    have hb := (frzAll_get e).2 hj
    subst hb
    obtain ⟨v, e1, r⟩ := S2.fz j d e
    exact ⟨rfl, v, e1, r.mono s⟩
  generalize frzAll os ρ1 = ρ0 at P2 S2 h0
  obtain ⟨S3, fD, gD, aD⟩ := S2.fresh hD (.lst [])
  let Iv : Nat → Hp → Prop := fun i H => ∃ F ρ acc vs, SR K nm F0 G F ρ σ H ∧ Same F2 F ∧ H D = some (.lst vs) ∧ Reps K nm F vs acc ∧ acc.length ≤ i ∧ F D = none ∧ Apart ρ σ D ∧
    Po K nm ex W F0 G F σ (M.bind (lcGo os tg ρ0 ct el (xs.drop i) acc) (fun acc => M.pure ⟨.lst acc, .f⟩) ρ) (fun r ρ' F' H' => ∀ v, RR K nm F' G H' ρ' σ r v → Q v H')
  refine ⟨fun i m H => m = xs.length - i ∧ i ≤ xs.length ∧ Iv i H, ⟨_, rfl, Nat.zero_le _, F2, ρ0, [], [], S3, Same.refl _, upd_same, .nil, Nat.le_refl _, fD, aD, P2⟩, ?_⟩
  rintro i m H ⟨rfl, hi, F3, ρ3, acc, vs, S4, s4, eD, rs, hacc, f3, a3, P3⟩
  have sJ : Same F1 F3 := s2.trans s4
  by_cases hlt : i < xs.length
  · obtain ⟨ex', ed⟩ := drop_cons hlt
    rw [ed] at P3
    refine .inr ⟨(hJ.2 i _ ex' H (sJ.trans S4.fh)).1, Iv (i + 1), fun H' iv => ⟨_, by omega, rfl, hlt, iv⟩, fun x H' y => ?_⟩
    obtain ⟨Fa, Sa, sa, rx, kH, kF⟩ := yld_ok hJ sJ S4 ex' y
    have eDa := kH _ _ eD
    have fDa := kF _ _ eD f3
    unfold M.bind at P3
    rw [lcGo_cons] at P3
    cases es : setT tg xs[i] (wipeE ρ3 os) with
    | none => rw [es] at P3; exact P3.elim
    | some ρ4 =>
      rw [es] at P3
      dsimp only at P3
      have Sw := (Sa.wipe os).hide eDa fDa (fun j d q z => by
        have := S.len
        obtain ⟨b, e1, _⟩ := (Sa.wipe os).mu j d q
        rw [wipe_get] at z
        by_cases hj : j ∈ os ∧ j < σ.length
        · rw [if_pos hj] at z; cases z
        · rw [if_neg hj] at z
          have hw : ∀ os : List Nat, (wipeE ρ3 os)[j]? = some (some (d, true)) → ρ3[j]? = some (some (d, true)) := by
            intro os
            induction os with
            | nil => exact fun h => h
            | cons i os ih =>
              intro h
              unfold wipeE at h
              rcases get_set h with ⟨_, h', _⟩ | ⟨_, h'⟩
              · cases h'
              · exact ih h'
          exact a3 j d (hw os q) z)
      refine gT_ok ho Sw rx es fun σ1 Sb wb => ?_
      rw [wipe_wipe] at wb
      refine ⟨wb, ?_⟩
      have back : ∀ {ρ5 : Env} {F5 H5 : Hp}, SR K nm Fa (upd G D (.lst vs)) F5 ρ5 σ1 H5 → Same Fa F5 → SR K nm F0 G F5 (backE ρ0 ρ5 os) σ H5 ∧ F5 D = none ∧ Apart (backE ρ0 ρ5 os) σ D ∧ H5 D = some (.lst vs) := fun S5 s5 => by
        obtain ⟨S6, f6, a6, e6⟩ := S5.unhide Sa.ff Sa.new gD fDa
        obtain ⟨S7, ap7⟩ := S6.back (σ := σ) wb (h0 ((s4.trans sa).trans s5))
        exact ⟨S7, f6, ap7 _ a6, e6⟩
      refine body_ok (Nn := Iv (i + 1)) (Ny := fun y H4 => ∃ acc, H4 D = some (.lst acc) ∧ acc.length < sizeLine ∧ Iv (i + 1) (upd H4 D (.lst (acc ++ [y])))) Sb (fun ρ2 z => ?_) (fun n ρ2 z => ?_) (fun ρ5 F5 H5 e5 S5 s5 => ?_) (fun d ρ5 F5 H5 y e5 S5 s5 ry => ?_)
      · rw [z] at P3; exact P3.elim
      · rw [z] at P3; exact P3.elim
      · rw [e5] at P3
        obtain ⟨S7, f7, a7, e7⟩ := back S5 s5
        exact ⟨F5, _, acc, vs, S7, (s4.trans sa).trans s5, e7, rs.mono (sa.trans s5), by omega, f7, a7, Po.weak (sa.trans s5) P3⟩
      · rw [e5] at P3
        obtain ⟨S7, f7, a7, e7⟩ := back S5 s5
        have hv : vs.length < sizeLine := by have := rs.length; omega
        refine ⟨vs, e7, hv, F5, _, acc ++ [d], vs ++ [y], S7.poke f7 gD a7, (s4.trans sa).trans s5, upd_same, (rs.mono (sa.trans s5)).append (.cons ry .nil), ?_, f7, a7, Po.weak (sa.trans s5) P3⟩
        rw [List.length_append]; show _ + 1 ≤ _; omega
  · have e : i = xs.length := by omega
    subst e
    rw [List.drop_length] at P3
    refine .inl ⟨hJ.1 H (sJ.trans S4.fh), ?_⟩
    exact P3 F3 H S4 (Same.refl _) _ ⟨D, rfl, ⟨f3, gD, by rw [eD]; exact ⟨vs, rfl, by have := rs.length; omega, rs⟩⟩, a3⟩

/-- a block's target takes its value; the new list stays as it is meanwhile -/
theorem start_ok {os : List Nat} {tg : T} {p : Addr} {o : HO} {ρ4 : Env} {QQ : L2.St → Hp → Prop} (ho : ∀ i ∈ tg.slots, i ∈ os) (S : SR K nm F0 G F ρ σ H) (e : H p = some o) (f : F p = none) (g : G p = none) (ap : Apart ρ σ p) (rx : Rep K nm F x d) (es : setT tg d (wipeE ρ os) = some ρ4)
    (q : ∀ σ1, SR K nm F (upd G p o) F ρ4 σ1 H → L2.wipe σ1 os = L2.wipe σ os → (∀ {ρ5 : Env} {F5 H5 : Hp}, SR K nm F (upd G p o) F5 ρ5 σ1 H5 → SR K nm F0 G F5 ρ5 σ1 H5 ∧ F5 p = none ∧ Apart ρ5 σ1 p ∧ H5 p = some o) → QQ σ1 H) :
    gT K tg x (L2.wipe σ os) H QQ := by
  have Sw := (S.wipe os).hide e f (fun j d q z => by
    rw [wipe_get] at z
    by_cases hj : j ∈ os ∧ j < σ.length
    · rw [if_pos hj] at z; cases z
    · rw [if_neg hj] at z
      have hw : ∀ os : List Nat, (wipeE ρ os)[j]? = some (some (d, true)) → ρ[j]? = some (some (d, true)) := by
        intro os
        induction os with
        | nil => exact fun h => h
        | cons i os ih =>
          intro h
          unfold wipeE at h
          rcases get_set h with ⟨_, h', _⟩ | ⟨_, h'⟩
          · cases h'
          · exact ih h'
      exact ap j d (hw os q) z)
  refine gT_ok ho Sw rx es fun σ1 Sb wb => ?_
  rw [wipe_wipe] at wb
  exact q σ1 Sb wb fun S5 => S5.unhide S.ff S.new g f
theorem lc2In_cons {os os2 : List Nat} {tg2 : T} {ρo : Env} {ct2 : M Bool} {el : M R} {x : D} {xs acc : List D} : lc2In os os2 tg2 ρo ct2 el (x :: xs) acc ρ = match setT tg2 x (wipeE ρ os2) with
    | none => (.bad, ρ)
    | some ρ1 => match lcBody ct2 el ρ1 with
      | (.ok (some d), ρ2) => if acc.length < sizeLine then lc2In os os2 tg2 ρo ct2 el xs (acc ++ [d]) (backE ρo ρ2 os2) else (.bad, ρ2)
      | (.ok none, ρ2) => lc2In os os2 tg2 ρo ct2 el xs acc (backE ρo ρ2 os2)
      | (.exc _, ρ2) => (.bad, ρ2)
      | (.bad, ρ2) => (.bad, ρ2) := rfl
def lc2Inn (os os2 : List Nat) (tg2 : T) (ct2 : M Bool) (el : M R) (acc ys : List D) : M (List D) := fun ρ' => lc2In os os2 tg2 (frzAll os2 ρ') ct2 el ys acc (frzAll os2 ρ')
def lc2Mid (os os2 : List Nat) (ct : M Bool) (tg2 : T) (it2 : M (List D)) (ct2 : M Bool) (el : M R) (acc : List D) : M (List D) :=
  M.bind ct fun b => if b then M.bind it2 (lc2Inn os os2 tg2 ct2 el acc) else M.pure acc
def lc2Then (os os2 : List Nat) (tg : T) (ρ0 : Env) (ct : M Bool) (tg2 : T) (it2 : M (List D)) (ct2 : M Bool) (el : M R) (xs : List D) : Out (List D) × Env → Out R × Env
  | (.ok acc', ρ2) => M.bind (lc2Go os os2 tg ρ0 ct tg2 it2 ct2 el xs acc') (fun acc => M.pure ⟨.lst acc, .f⟩) (backE ρ0 ρ2 os)
  | (.exc _, ρ2) => (.bad, ρ2)
  | (.bad, ρ2) => (.bad, ρ2)
theorem lc2Go_cons {os os2 : List Nat} {tg : T} {ρ0 : Env} {ct : M Bool} {tg2 : T} {it2 : M (List D)} {ct2 : M Bool} {el : M R} {x : D} {xs acc : List D} : M.bind (lc2Go os os2 tg ρ0 ct tg2 it2 ct2 el (x :: xs) acc) (fun acc => M.pure ⟨.lst acc, .f⟩) ρ = match setT tg x (wipeE ρ os) with
    | none => (.bad, ρ)
    | some ρ1 => lc2Then os os2 tg ρ0 ct tg2 it2 ct2 el xs (lc2Mid os os2 ct tg2 it2 ct2 el acc ρ1) := by
  unfold M.bind lc2Go
  cases setT tg x (wipeE ρ os) with
  | none => rfl
  | some ρ1 =>
    show _ = lc2Then os os2 tg ρ0 ct tg2 it2 ct2 el xs (lc2Mid os os2 ct tg2 it2 ct2 el acc ρ1)
    unfold lc2Mid
    dsimp only
    have e : lc2Inn os os2 tg2 ct2 el acc = (fun ys ρ' => lc2In os os2 tg2 (frzAll os2 ρ') ct2 el ys acc (frzAll os2 ρ')) := rfl
    rw [e]
    generalize M.bind ct _ ρ1 = z
    obtain ⟨o, ρ2⟩ := z
    cases o <;> rfl
theorem t_lc2 {os os2 : List Nat} {tg tg2 : T} {it it2 : M (List D)} {ct ct2 : M Bool} {el : M R} (ho : ∀ i ∈ tg.slots, i ∈ os) (ho2 : ∀ i ∈ tg2.slots, i ∈ os2) (h : tE K nm ex W (lc2Run os os2 tg it ct tg2 it2 ct2 el) σ H Q) :
    tLc2 (tI K nm ex W it) (gT K tg) (tT K nm ex W0 ct) (tI K nm ex W0 it2) (gT K tg2) (tT K nm ex W0 ct2) (tE K nm ex W0 el) os os2 σ H Q := by
  obtain ⟨F0, G, F, ρ, S, P⟩ := h
  refine oneI S P fun xs ρ1 F1 H1 S1 s1 P1 J hJ => ?_
  try dsimp only at P1
  intro D hD
  obtain ⟨F2, S2, s2⟩ := frzAll_sr (os := os) S1
  have P2 := Po.weak s2 P1
  have h0 : ∀ {F : Hp}, Same F2 F → ∀ j ∈ os, ∀ d b, (frzAll os ρ1)[j]? = some (some (d, b)) → b = false ∧ ∃ v, σ[j]? = some (some v) ∧ Rep K nm F v d := fun s j hj d b e => by
    have hb := (frzAll_get e).2 hj
    subst hb
    obtain ⟨v, e1, r⟩ := S2.fz j d e
    exact ⟨rfl, v, e1, r.mono s⟩
  generalize frzAll os ρ1 = ρ0 at P2 S2 h0
  obtain ⟨S3, fD, gD, aD⟩ := S2.fresh hD (.lst [])
  let kf : R → Env → Hp → Hp → Prop := fun r ρ' F' H' => ∀ v, RR K nm F' G H' ρ' σ r v → Q v H'
  let Iv : Nat → Hp → Prop := fun i H => ∃ F ρ acc vs, SR K nm F0 G F ρ σ H ∧ Same F2 F ∧ H D = some (.lst vs) ∧ Reps K nm F vs acc ∧ vs.length ≤ sizeLine ∧ F D = none ∧ Apart ρ σ D ∧
    Po K nm ex W F0 G F σ (M.bind (lc2Go os os2 tg ρ0 ct tg2 it2 ct2 el (xs.drop i) acc) (fun acc => M.pure ⟨.lst acc, .f⟩) ρ) kf
  refine ⟨fun i m H => m = xs.length - i ∧ i ≤ xs.length ∧ Iv i H, ⟨_, rfl, Nat.zero_le _, F2, ρ0, [], [], S3, Same.refl _, upd_same, .nil, Nat.zero_le _, fD, aD, P2⟩, ?_⟩
  rintro i m H ⟨rfl, hi, F3, ρ3, acc, vs, S4, s4, eD, rs, hvs, f3, a3, P3⟩
  have sJ : Same F1 F3 := s2.trans s4
  by_cases hlt : i < xs.length
  · obtain ⟨ex', ed⟩ := drop_cons hlt
    rw [ed] at P3
    refine .inr ⟨(hJ.2 i _ ex' H (sJ.trans S4.fh)).1, Iv (i + 1), fun H' iv => ⟨_, by omega, rfl, hlt, iv⟩, fun x H' y => ?_⟩
    obtain ⟨Fa, Sa, sa, rx, kH, kF⟩ := yld_ok hJ sJ S4 ex' y
    have eDa := kH _ _ eD
    have fDa := kF _ _ eD f3
    rw [lc2Go_cons] at P3
    cases es : setT tg xs[i] (wipeE ρ3 os) with
    | none => rw [es] at P3; exact P3.elim
    | some ρ4 =>
      rw [es] at P3
      dsimp only at P3
      refine start_ok ho Sa eDa fDa gD a3 rx es fun σ1 Sb wb unh => ⟨wb, ?_⟩
      -- the end of an outer turn
      have next : ∀ {ρ5 : Env} {F5 H5 : Hp} {acc' : List Pv.D} {vs' : List V}, SR K nm F0 G F5 ρ5 σ1 H5 → Same F2 F5 → H5 D = some (.lst vs') → Reps K nm F5 vs' acc' → vs'.length ≤ sizeLine → F5 D = none → Apart ρ5 σ1 D →
          Po K nm ex W F0 G F5 σ (lc2Then os os2 tg ρ0 ct tg2 it2 ct2 el (xs.drop (i + 1)) (.ok acc', ρ5)) kf → Iv (i + 1) H5 := fun S5 s5 e5 r5 l5 f5 a5 P5 => by
        obtain ⟨S7, ap7⟩ := S5.back (σ := σ) wb (h0 s5)
        exact ⟨_, _, _, _, S7, s5, e5, r5, l5, f5, ap7 _ a5, P5⟩
      refine ⟨Fa, upd G D (.lst vs), Fa, ρ4, Sb, ?_⟩
      cases ec : ct ρ4 with
      | mk o ρ5 =>
        cases o with
        | bad => rw [show lc2Mid os os2 ct tg2 it2 ct2 el acc ρ4 = (.bad, ρ5) from bind_bad ec] at P3; exact P3.elim
        | exc n => rw [show lc2Mid os os2 ct tg2 it2 ct2 el acc ρ4 = (.exc n, ρ5) from bind_exc ec] at P3; exact P3.elim
        | ok b =>
          intro F5 H5 S5 s5
          cases b with
          | false =>
            rw [if_neg (by decide)]
            rw [show lc2Mid os os2 ct tg2 it2 ct2 el acc ρ4 = (.ok acc, ρ5) from (bind_ok ec).trans rfl] at P3
            obtain ⟨S6, f6, a6, e6⟩ := unh S5
            exact next S6 ((s4.trans sa).trans s5) e6 (rs.mono (sa.trans s5)) hvs f6 a6 (Po.weak (sa.trans s5) P3)
          | true =>
            rw [if_pos rfl]
            have em : lc2Mid os os2 ct tg2 it2 ct2 el acc ρ4 = M.bind it2 (lc2Inn os os2 tg2 ct2 el acc) ρ5 := (bind_ok ec).trans rfl
            rw [em] at P3
            refine ⟨Fa, upd G D (.lst vs), F5, ρ5, S5, ?_⟩
            cases ei : it2 ρ5 with
            | mk o ρ6 =>
              cases o with
              | bad => rw [show M.bind it2 (lc2Inn os os2 tg2 ct2 el acc) ρ5 = (.bad, ρ6) from bind_bad ei] at P3; exact P3.elim
              | exc n => rw [show M.bind it2 (lc2Inn os os2 tg2 ct2 el acc) ρ5 = (.exc n, ρ6) from bind_exc ei] at P3; exact P3.elim
              | ok ys =>
                rw [show M.bind it2 (lc2Inn os os2 tg2 ct2 el acc) ρ5 = lc2In os os2 tg2 (frzAll os2 ρ6) ct2 el ys acc (frzAll os2 ρ6) from bind_ok ei] at P3
                intro F6 H6 S6 s6 J1 hJ1
                obtain ⟨F7, S7, s7⟩ := frzAll_sr (os := os2) S6
                have h02 : ∀ {F : Hp}, Same F7 F → ∀ j ∈ os2, ∀ d b, (frzAll os2 ρ6)[j]? = some (some (d, b)) → b = false ∧ ∃ v, σ1[j]? = some (some v) ∧ Rep K nm F v d := fun s j hj d b e => by
                  have hb := (frzAll_get e).2 hj
                  subst hb
                  obtain ⟨v, e1, r⟩ := S7.fz j d e
                  exact ⟨rfl, v, e1, r.mono s⟩
                generalize frzAll os2 ρ6 = ρo at P3 S7 h02
                obtain ⟨S8, f8, a8, e8⟩ := unh S7
                have s37 : Same F3 F7 := ((sa.trans s5).trans s6).trans s7
                let Iv1 : Nat → Hp → Prop := fun j H => ∃ F ρ acc vs, SR K nm F0 G F ρ σ1 H ∧ Same F7 F ∧ H D = some (.lst vs) ∧ Reps K nm F vs acc ∧ vs.length ≤ sizeLine ∧ F D = none ∧ Apart ρ σ1 D ∧
                  Po K nm ex W F0 G F σ (lc2Then os os2 tg ρ0 ct tg2 it2 ct2 el (xs.drop (i + 1)) (lc2In os os2 tg2 ρo ct2 el (ys.drop j) acc ρ)) kf
                refine ⟨fun j m H => m = ys.length - j ∧ j ≤ ys.length ∧ Iv1 j H, ⟨_, rfl, Nat.zero_le _, F7, ρo, acc, vs, S8, Same.refl _, e8, rs.mono s37, hvs, f8, a8, Po.weak s37 P3⟩, ?_⟩
                rintro j m H9 ⟨rfl, hj, F9, ρ9, acc9, vs9, S9, s9, e9, r9, l9, f9, a9, P9⟩
                have sJ1 : Same F6 F9 := s7.trans s9
                by_cases hlt2 : j < ys.length
                · obtain ⟨ex2, ed2⟩ := drop_cons hlt2
                  rw [ed2] at P9
                  refine .inr ⟨(hJ1.2 j _ ex2 H9 (sJ1.trans S9.fh)).1, Iv1 (j + 1), fun H' iv => ⟨_, by omega, rfl, hlt2, iv⟩, fun x H' y => ?_⟩
                  obtain ⟨Fb, Sb2, sb, rx2, kH2, kF2⟩ := yld_ok hJ1 sJ1 S9 ex2 y
                  have eDb := kH2 _ _ e9
                  have fDb := kF2 _ _ e9 f9
                  rw [lc2In_cons] at P9
                  cases es2 : setT tg2 ys[j] (wipeE ρ9 os2) with
                  | none => rw [es2] at P9; exact P9.elim
                  | some ρ10 =>
                    rw [es2] at P9
                    dsimp only at P9
                    refine start_ok ho2 Sb2 eDb fDb gD a9 rx2 es2 fun σ2 Sc wc unh2 => ⟨wc, ?_⟩
                    refine body_ok (Nn := Iv1 (j + 1)) (Ny := fun y H4 => ∃ acc, H4 D = some (.lst acc) ∧ acc.length < sizeLine ∧ Iv1 (j + 1) (upd H4 D (.lst (acc ++ [y])))) Sc (fun ρ2 z => ?_) (fun n ρ2 z => ?_) (fun ρ5 F5 H5 e5 S5 s5 => ?_) (fun d ρ5 F5 H5 y e5 S5 s5 ry => ?_)
                    · rw [z] at P9; exact P9.elim
                    · rw [z] at P9; exact P9.elim
                    · rw [e5] at P9
                      obtain ⟨S7, f7, a7, e7⟩ := unh2 S5
                      obtain ⟨S10, ap10⟩ := S7.back (σ := σ1) wc (h02 ((s9.trans sb).trans s5))
                      exact ⟨F5, _, acc9, vs9, S10, (s9.trans sb).trans s5, e7, r9.mono (sb.trans s5), l9, f7, ap10 _ a7, Po.weak (sb.trans s5) P9⟩
                    · rw [e5] at P9
                      dsimp only at P9
                      split at P9
                      · rename_i hl
                        obtain ⟨S7, f7, a7, e7⟩ := unh2 S5
                        obtain ⟨S10, ap10⟩ := S7.back (σ := σ1) wc (h02 ((s9.trans sb).trans s5))
                        have hv : vs9.length < sizeLine := by rw [r9.length]; exact hl
                        refine ⟨vs9, e7, hv, F5, _, acc9 ++ [d], vs9 ++ [y], S10.poke f7 gD (ap10 _ a7), (s9.trans sb).trans s5, upd_same, (r9.mono (sb.trans s5)).append (.cons ry .nil), ?_, f7, ap10 _ a7, Po.weak (sb.trans s5) P9⟩
                        rw [List.length_append]; exact hv
                      · exact P9.elim
                · have e : j = ys.length := by omega
                  subst e
                  rw [List.drop_length] at P9
                  exact .inl ⟨hJ1.1 H9 (sJ1.trans S9.fh), next S9 (((s4.trans s37)).trans s9) e9 r9 l9 f9 a9 P9⟩
  · have e : i = xs.length := by omega
    subst e
    rw [List.drop_length] at P3
    refine .inl ⟨hJ.1 H (sJ.trans S4.fh), ?_⟩
    exact P3 F3 H S4 (Same.refl _) _ ⟨D, rfl, ⟨f3, gD, by rw [eD]; exact ⟨vs, rfl, hvs, rs⟩⟩, a3⟩
end
end Pv

set_option Elab.async false
set_option linter.all false
set_option maxRecDepth 100000
set_option maxHeartbeats 4000000
set_option autoImplicit false
/-! Pv, part O: x.index(y). -/
namespace Pv
open PySem PySem.Spec PyProof.Rows L2 RT RZ
section
variable {X : Cx}
theorem mt_indexT (hu : X.A.units + 65 < cLine) : MtR X "tuple.index" (fun x xs H Q => ∃ (a : Addr) (y : V) (d : PyData) (ds : List PyData) (j : Nat) (z : PyData), x = V.ref a ∧ xs = [y] ∧ Dp X.K H (V.ref a) (.tuple ds) ∧ Dp X.K H y d ∧
    SeqAt.shaped (.tuple ds) = true ∧ SeqAt.shaped d = true ∧ ds[j]? = some z ∧ PyData.eqv z d = true ∧ (∀ (m : Nat) (z' : PyData), m < j → ds[m]? = some z' → PyData.eqv z' d = false) ∧ Q (.int (j : Nat)) H) := by
  intro pins s σ H x xs v us Q I rx rxs h
  obtain ⟨a, y, d, ds, j, z, rfl, rfl, hl, hy, sl, sd, hz, hzj, hno, q⟩ := h
  cases rx
  obtain ⟨uy, rfl, ry⟩ := Vals.one rxs
  obtain ⟨bs, r1⟩ := Dp.reads I d y uy hy ry
  have hxs : PyData.canLayAll0 ds = true := SeqAt.canLay_of_shaped sl
  have hroom : X.A.units + 1 + min (PyData.depthAll ds) d.depth < cLine := room_in_shaped sd hu
  cases hl with
  | tup hs ha =>
    obtain ⟨its, rv, ⟨⟨cls, dd, data, sls⟩, ho, hc, n, hdt⟩, hlen⟩ := I.tuple hs
    simp only at hc hdt
    subst hc hdt
    obtain ⟨as, h4⟩ := Dp.readsAll I ds _ its ha rv
    have hn : its.length = ds.length := SeqAt.ReadsAll.length ds its as h4
    have hmap : its.map (SeqAt.readOf s.heap) = ds := SeqAt.readsAll_map ds its as hxs h4
    have hj : j < its.toArray.size := by
      have := (List.getElem?_eq_some_iff.mp hz).1
      rw [List.size_toArray]; omega
    have at_ : ∀ (m : Nat) (hm : m < its.toArray.size) (z' : PyData), ds[m]? = some z' → SeqAt.readOf s.heap its.toArray[m] = z' := fun m hm z' hz' => by
      have hml : m < its.length := by simpa using hm
      rw [← hmap, List.getElem?_map, List.getElem?_eq_getElem hml] at hz'
      simpa using Option.some.inj hz'
    refine call_meets PySem.F.slot_tuple_index ⟨_, ho, rfl⟩ PySem.F.entry_tuple_index (PySem.F.args_tuple_index_2 _ _)
      (TI.tuple_indexAt a its.toArray n dd sls uy (fun u => PyData.eqv (SeqAt.readOf s.heap u) d) j hj ?_ fun m hm hmj => ?_) ⟨ho, SeqAt.items_eqAt (vs := its.toArray) (show ReadsAll s.heap its.toArray.toList ds as from h4) r1 hxs (SeqAt.canLay_of_shaped sd) hroom, .int (j : Nat), H, I.tok _, ⟨_, rfl⟩, q⟩
    · show PyData.eqv (SeqAt.readOf s.heap its.toArray[j]) d = true
      rw [at_ j hj z hz]; exact hzj
    · have hmd : m < ds.length := by rw [List.size_toArray] at hm; omega
      show PyData.eqv (SeqAt.readOf s.heap its.toArray[m]) d = false
      rw [at_ m hm _ (List.getElem?_eq_getElem hmd)]
      exact hno m _ hmj (List.getElem?_eq_getElem hmd)
/-- what stands at the receiver, then the place -/
def tIdx (K : PySem.W.Frag) (rl rt : V → List V → Hp → VK → Prop) (to te : TE) : TE := fun σ H Q => to σ H fun x H1 =>
  (tyV K "list" x H1 ∧ te σ H1 fun y H2 => rl x [y] H2 Q) ∨ ((∃ a ob xs, x = .ref a ∧ H1 a = some (.frz ob (.tup xs)) ∧ ob.dict = none) ∧ te σ H1 fun y H2 => rt x [y] H2 Q)
theorem pe_idx {o e : Expr} {to te : TE} {rl rt : V → List V → Hp → VK → Prop} {apos cpos : Pos} (hl : MtR X "list.index" rl) (ht : MtR X "tuple.index" rt) (ho : PE X o to) (he : PE X e te) (hbase : attributeBase o "index" X.env (eval o X.env) = eval o X.env)
    (hline : (apos.endLine == cpos.line) = true) (hs : starEach [e] X.env = (false, eval e X.env) :: starEach [] X.env) : PE X (.Call (.Attribute o "index" apos) [e] [] cpos) (tIdx X.K rl rt to te) := by
  refine ⟨fun pins s σ H Q I h => ?_⟩
  have hfew : ((backTo cpos (starEach [e] X.env)).all (fun x => !x.1) && (backToKw cpos (keywordEach [] X.env)).all (fun x => x.1.isSome) && decide (([e] : List Expr).length + ([] : List Keyword).length + (if ([] : List Keyword).isEmpty then 0 else 1) < 30)) = true := by
    rw [hs]; rfl
  refine wpAny_Call_method_late hbase hfew hline rfl (thn (ho.run pins s σ H _ I h) fun v s1 ⟨x, H1, I1, r1, q⟩ => ?_)
  have go : ∀ {id : String} (rr : V → List V → Hp → VK → Prop) (_ : MtR X id rr), (te σ H1 fun y H2 => rr x [y] H2 Q) → wpAny (model X.prog X.w) X.A (callWith cpos (.builtin id) [v] (backTo cpos (starEach [e] X.env)) []) (EP X pins σ Q) X.xe s1 := fun rr hm q => by
    have hA := (pa_cons he pa_nil hs).run cpos pins s1 σ H1 (fun xs H2 => rr x xs H2 Q) I1 q
    rw [hs] at hA ⊢
    refine Calls.callWith_builtin rfl (Calls.evalArgs_plain ?_)
    exact thn hA fun us s2 ⟨vs, H2, I2, r2, q2⟩ => hm pins s2 σ H2 x vs v us Q I2 r1 r2 q2
  rcases q with ⟨ty, q⟩ | ⟨⟨a, ob, xs, exa, ea, hd⟩, q⟩
  · obtain ⟨h1, h2⟩ := tyV_is I1 r1 ty
    exact ⟨"list", "list.index", PySem.F.plainAttrs_list, PySem.F.slot_list_index, PySem.F.type_list_index, h1, h2, go _ hl q⟩
  · have ev : v = Value.ref a := by rw [exa] at r1; exact r1
    subst ev
    obtain ⟨eo, _, _, _, o', e', c', _⟩ := (show ObjOk X.prog X.w H1 s1.heap a (.frz ob (.tup xs)) from I1.hok a _ ea)
    refine ⟨"tuple", "tuple.index", PySem.F.plainAttrs_tuple, PySem.F.slot_tuple_index, PySem.F.type_tuple_index, ⟨_, e', c'⟩, fun b hb => ?_, go _ ht q⟩
    cases hb
    exact ⟨ob, eo, hd⟩
end
section
variable {K : PySem.W.Frag} {nm : Nat → Option Addr} {ex : Nat → Value} {W : WX} {F0 G F F' H H' : Hp} {ρ : Env} {σ : L2.St} {r q : R} {x v : V} {d : D} {Q : VK}
theorem pys_get : ∀ (xs : List D) (j : Nat), (D.pys xs)[j]? = xs[j]?.map D.py := fun xs j => by rw [pys_map, List.getElem?_map]
theorem idx_find {xs : List D} {y : D} {j : Nat} (h : (xs.findIdx? fun z => eqD z y) = some j) : ∃ z, (D.pys xs)[j]? = some z ∧ PyData.eqv z y.py = true ∧ ∀ (m : Nat) (z' : PyData), m < j → (D.pys xs)[m]? = some z' → PyData.eqv z' y.py = false := by
  rw [List.findIdx?_eq_some_iff_getElem] at h
  obtain ⟨hj, e, no⟩ := h
  refine ⟨xs[j].py, by rw [pys_get]; simp [hj], e, fun m z' hm hz => ?_⟩
  rw [pys_get] at hz
  obtain ⟨w, hw, rfl⟩ := Option.map_eq_some_iff.mp hz
  have := no m hm
  have hm' : m < xs.length := by omega
  rw [List.getElem?_eq_getElem hm'] at hw
  cases hw
  simpa [eqD] using this
theorem t_idx {ma mb : M R} (h : tE K nm ex W (M.bind ma fun r => M.bind (pk r) fun x0 => match x0 with
    | .lst _ => M.bind mb fun q => M.bind (pk r) fun x => M.bind (pk q) fun y => match x with
      | .lst a => ofO (idxD (.lst a) y)
      | _ => M.bad
    | .tup a => M.bind mb fun q => M.bind (pk q) fun y => ofO (idxD (.tup a) y)
    | _ => M.bad) σ H Q) : tIdx K (rIndexD K) (fun x xs H Q => ∃ (a : Addr) (y : V) (d : PyData) (ds : List PyData) (j : Nat) (z : PyData), x = V.ref a ∧ xs = [y] ∧ Dp K H (V.ref a) (.tuple ds) ∧ Dp K H y d ∧
    SeqAt.shaped (.tuple ds) = true ∧ SeqAt.shaped d = true ∧ ds[j]? = some z ∧ PyData.eqv z d = true ∧ (∀ (m : Nat) (z' : PyData), m < j → ds[m]? = some z' → PyData.eqv z' d = false) ∧ Q (.int (j : Nat)) H) (tE K nm ex W ma) (tE K nm ex W mb) σ H Q := by
  obtain ⟨F0, G, F, ρ, S, P⟩ := h
  refine one S P fun r ρ2 F2 H2 x S2 s2 hx P2 => ?_
  obtain ⟨d, ed, P3⟩ := P2.pk
  have l := hx.wr.lk S2 ed
  cases d <;> first | exact P3.elim | skip
  · rename_i a
    obtain ⟨p, vs, rfl, hp, lp, rp⟩ := l.tup S2.fh
    obtain ⟨o, ho, hd⟩ := id hp
    refine .inr ⟨⟨p, o, vs, rfl, S2.fh _ _ ho, hd⟩, ?_⟩
    refine snd S2 hx P3 fun q ρ3 F3 H3 y S3 s3 hx3 hy P4 => ?_
    obtain ⟨dy, ey, P5⟩ := P4.pk
    obtain ⟨rr, er, fin⟩ := Po.op S3 P5
    simp only [idxD] at er
    split at er
    · rename_i ok
      obtain ⟨j, ej, er⟩ := Option.bind_eq_some_iff.mp er
      cases er
      obtain ⟨p1, p2, p3, p4⟩ := okEq_of ok
      obtain ⟨z, z1, z2, z3⟩ := idx_find ej
      refine ⟨p, y, dy.py, D.pys a, j, z, rfl, rfl, ?_, (hy.wr.lk S3 ey).dp S3.fh p1, p4, p3, z1, z2, z3, fin _ _ (.z0 (.int _))⟩
      exact (Rep.tup (hp.mono s3) lp (rp.mono s3)).dp S3.fh p2
    · cases er
  · rename_i a
    obtain ⟨p, vs, rfl, hp, lp, rp⟩ := l.lst S2.fh
    refine .inl ⟨.inl ⟨rfl, vs, .of hp⟩, ?_⟩
    refine snd S2 hx P3 fun q ρ3 F3 H3 y S3 s3 hx3 hy P4 => ?_
    obtain ⟨dx, edx, P5⟩ := P4.pk
    obtain ⟨dy, ey, P6⟩ := P5.pk
    have lx := hx3.wr.lk S3 edx
    cases dx <;> first | exact P6.elim | skip
    rename_i a'
    obtain ⟨rr, er, fin⟩ := Po.op S3 P6
    simp only [idxD] at er
    split at er
    · rename_i ok
      obtain ⟨j, ej, er⟩ := Option.bind_eq_some_iff.mp er
      cases er
      obtain ⟨p1, p2, p3, p4⟩ := okEq_of ok
      obtain ⟨z, z1, z2, z3⟩ := idx_find ej
      exact ⟨p, y, dy.py, D.pys a', j, z, rfl, rfl, lx.dp S3.fh p2, (hy.wr.lk S3 ey).dp S3.fh p1, p4, p3, z1, z2, z3, fin _ _ (.z0 (.int _))⟩
    · cases er
end
end Pv

set_option Elab.async false
set_option linter.all false
set_option maxRecDepth 100000
set_option maxHeartbeats 4000000
set_option autoImplicit false
/-! Pv, part P: the text stands for the term (a check), and then the library's reading is the term's. -/
namespace Pv
open PySem PySem.Spec PyProof.Rows L2 RT RZ
/-! ### small checks of the text -/
def notStar : Expr → Bool
  | .Starred _ _ => false
  | _ => true
theorem star_ok {e : Expr} {es : List Expr} {env : PySem.Env} (h : notStar e = true) : starEach (e :: es) env = (false, eval e env) :: starEach es env := by
  cases e <;> first | rfl | simp [notStar] at h
theorem stars_any {pos : Pos} {env : PySem.Env} : ∀ {es : List Expr}, es.all notStar = true → (backTo pos (starEach es env)).any (·.1) = false
  | [], _ => rfl
  | e :: es, h => by
    rw [List.all_cons, Bool.and_eq_true] at h
    rw [star_ok h.1]
    show (false || (backTo pos (starEach es env)).any (·.1)) = false
    rw [stars_any h.2]; rfl
def plainTst : Expr → Bool
  | .UnaryOp .Not _ _ => false
  | .BoolOp _ _ _ => false
  | .IfExp _ _ _ _ => false
  | .Compare _ _ _ _ => false
  | _ => true
theorem tst_ok {e : Expr} {env : PySem.Env} (h : plainTst e = true) : ∀ whole, isTrue e env whole = (do let v ← whole; standAt e.pos; holding [v] (truthy v)) := by
  intro whole
  cases e with
  | UnaryOp op x p => cases op <;> first | rfl | exact absurd h (by simp [plainTst])
  | _ => first | rfl | exact absurd h (by simp [plainTst])
def notSet : Expr → Bool
  | .Set _ _ _ => false
  | _ => true
theorem set_ok {e : Expr} {env : PySem.Env} (h : notSet e = true) : ∀ x, foldedSetIterable e env x = pure x := by
  intro x
  cases e <;> first | rfl | simp [notSet] at h
theorem marks_ok {e : Expr} {op : CmpOp} (h : notSet e = true) : behindInMarks op e = false := by
  cases e <;> first | rfl | simp [notSet] at h
def notSlice : Expr → Bool
  | .Slice _ _ _ _ => false
  | _ => true
theorem slice_ok {e : Expr} (h : notSlice e = true) : PlainIx e := by
  intro o i
  cases e <;> first | rfl | simp [notSlice] at h
def notCall : Expr → Bool
  | .Call _ _ _ _ => false
  | _ => true
theorem base_ok {e : Expr} {env : PySem.Env} {a : Str} {whole : Sem Value} (h : notCall e = true) : attributeBase e a env whole = whole := by
  cases e <;> first | rfl | simp [notCall] at h
def notComp : Expr → Bool
  | .ListComp _ _ _ _ => false
  | .SetComp _ _ _ _ => false
  | .DictComp _ _ _ _ _ => false
  | _ => true
theorem swap_ok {e : Expr} {t : Option Expr} {n : Nat} {env : PySem.Env} (h : notComp e = true) : swapsWith e t n env = pure false := by
  cases e <;> first | rfl | simp [notComp] at h
def visB (sc : Scope) (x : Str) : Bool := match sc.names.lookup x with
  | some .local => true
  | some .cell => true
  | some .free => true
  | _ => false
theorem vis_ok {sc : Scope} {x : Str} (h : visB sc x = true) : Vis sc x := by
  unfold visB at h
  split at h
  · exact .inl (by assumption)
  · exact .inr (.inl (by assumption))
  · exact .inr (.inr (by assumption))
  · cases h
def locB (sc : Scope) (x : Str) : Bool := match sc.names.lookup x with
  | some .local => true
  | some .cell => true
  | _ => false
theorem loc_ok {sc : Scope} {x : Str} (h : locB sc x = true) : Loc sc x := by
  unfold locB at h
  split at h
  · exact .inl (by assumption)
  · exact .inr (by assumption)
  · cases h
def glB (sc : Scope) (x : Str) : Bool := decide (sc.names.lookup x = some .globalImplicit)
theorem gl_ok {X : Cx} {x : Str} (h : glB X.env.scope x = true) : Gl X x := by
  unfold glB at h
  have q : X.env.scope.names.lookup x = some .globalImplicit := of_decide_eq_true h
  exact q
def ndB (x : Str) : Bool := !(x == ("__debug__" : Str)) && !(x == ("__classdict__" : Str))
theorem nd_ok {x : Str} (h : ndB x = true) : (x == ("__debug__" : Str)) = false ∧ (x == ("__classdict__" : Str)) = false := by
  unfold ndB at h
  simpa using h
def bnames : List Str := ["len", "all", "any", "abs", "int", "bool", "str", "tuple", "list", "sum", "max", "min", "sorted", "set", "range", "enumerate", "zip", "reversed", "isinstance"]
def B.nm : B → Str
  | .len => "len"
  | .all => "all"
  | .any => "any"
  | .abs => "abs"
  | .int => "int"
  | .tuple => "tuple"
  | .list => "list"
  | .sum => "sum"
  | .max1 => "max"
  | .min1 => "min"
  | .max2 => "max"
  | .min2 => "min"
  | .sorted => "sorted"
/-- what the text checks for a term -/
structure Ck where
  one : Expr → Bool
  tst : Expr → Bool
  bV : BoolOp → List Expr → Bool
  bT : BoolOp → List Expr → Bool
  lst : List Expr → Bool
  itr : Expr → Expr → Bool
  opt : Option Expr → Bool
  ifs : List Expr → Bool
def no2 {α β : Type} : α → β → Bool := fun _ _ => false
def no1 {α : Type} : α → Bool := fun _ => false
def Ck.of2 (one tst : Expr → Bool) : Ck := ⟨one, tst, no2, no2, no1, fun _ x => one x && notSet x, fun o => match o with
  | some x => one x
  | none => false, fun l => match l with
  | [x] => tst x
  | _ => false⟩
def Ck.of (one : Expr → Bool) : Ck := .of2 one fun x => plainTst x && one x
def Ck.itr1 (f : Expr → Expr → Bool) : Ck := ⟨no1, no1, no2, no2, no1, f, no1, no1⟩
def litB : At → Const → Bool
  | .non, .none => true
  | .bl b, .bool c => b == c
  | .int i, .int j => decide (i = j)
  | .str x, .str y => decide (x = y)
  | _, _ => false
def namesB (N : List Str) (sc : Scope) : List Nat → List Expr → Bool
  | [], [] => true
  | i :: is, .Name x _ :: l => decide (N[i]? = some x) && locB sc x && namesB N sc is l
  | _, _ => false
def tgB (N : List Str) (sc : Scope) : T → Expr → Bool
  | .one i, .Name x _ => decide (N[i]? = some x) && locB sc x
  | .many is, .Tuple l _ _ => namesB N sc is l
  | _, _ => false
def ownOf (N : List Str) (is : List Nat) : List (Str × Nat) := is.map fun i => ((N[i]?).getD Str.empty, i)
theorem ownOf_snd (N : List Str) (is : List Nat) : (ownOf N is).map (·.2) = is := by
  unfold ownOf
  rw [List.map_map]
  exact List.map_id is
def tyNameB (sc : Scope) : List String → List Expr → Bool
  | [], [] => true
  | t :: ts, .Name x _ :: l => decide (x = Str.ofString t) && ["int", "bool", "str", "tuple", "list"].contains t && glB sc x && tyNameB sc ts l
  | _, _ => false
def isTup : Expr → Bool
  | .Tuple _ _ _ => true
  | _ => false
def chk (fs : List FnI) (cs : List (Str × Int)) (N : List Str) : E → Scope → Ck
  | .nm i, sc => .of fun x => match x with
    | .Name y _ => decide (N[i]? = some y) && visB sc y && ndB y
    | _ => false
  | .lit a, _ => .of fun x => match x with
    | .Constant c _ _ => litB a c
    | _ => false
  | .gi y v, sc => .of fun x => match x with
    | .Name z _ => decide (z = y) && glB sc y && decide ((y, v) ∈ cs) && ndB y
    | _ => false
  | .gf g, sc => .of fun x => match x with
    | .Name z _ => decide ((fs[g]?).map (·.name) = some z) && glB sc z && ndB z
    | _ => false
  | .op o a b, sc =>
    let one : Expr → Bool := fun x => match x with
      | .BinOp l f r _ => decide (o.bin = some f) && (chk fs cs N a sc).one l && (chk fs cs N b sc).one r
      | .Compare l [f] [r] _ => decide (o.cmp = some f) && notSet r && (chk fs cs N a sc).one l && (chk fs cs N b sc).one r
      | _ => false
    .of2 one fun x => match x with
      | .Compare _ _ _ _ => one x
      | _ => plainTst x && one x
  | .neg a, sc => .of fun x => match x with
    | .UnaryOp .USub y _ => (chk fs cs N a sc).one y
    | _ => false
  | .isn n a, sc =>
    let one : Expr → Bool := fun x => match x with
      | .Compare l [.Is] [.Constant .none _ _] _ => !n && (chk fs cs N a sc).one l
      | .Compare l [.IsNot] [.Constant .none _ _] _ => n && (chk fs cs N a sc).one l
      | _ => false
    .of2 one one
  | .chain o p a b c, sc =>
    let one : Expr → Bool := fun x => match x with
      | .Compare l [f, g] [m, r] _ => decide (o.cmp = some f) && decide (p.cmp = some g) && notSet r && (chk fs cs N a sc).one l && (chk fs cs N b sc).one m && (chk fs cs N c sc).one r
      | _ => false
    .of2 one one
  | .and a b, sc =>
    let v : BoolOp → List Expr → Bool := fun op l => match op, l with
      | .And, x :: y :: r => (chk fs cs N a sc).one x && (chk fs cs N b sc).bV .And (y :: r)
      | _, _ => false
    let t : BoolOp → List Expr → Bool := fun op l => match op, l with
      | .And, x :: y :: r => (chk fs cs N a sc).tst x && (chk fs cs N b sc).bT .And (y :: r)
      | _, _ => false
    let tt : Expr → Bool := fun x => match x with
      | .BoolOp op l _ => t op l
      | _ => false
    ⟨fun x => match x with
      | .BoolOp op l _ => v op l
      | _ => false, tt, v, t, no1, no2, no1, fun l => match l with
      | [x] => tt x
      | _ => false⟩
  | .or a b, sc =>
    let v : BoolOp → List Expr → Bool := fun op l => match op, l with
      | .Or, x :: y :: r => (chk fs cs N a sc).one x && (chk fs cs N b sc).bV .Or (y :: r)
      | _, _ => false
    let t : BoolOp → List Expr → Bool := fun op l => match op, l with
      | .Or, x :: y :: r => (chk fs cs N a sc).tst x && (chk fs cs N b sc).bT .Or (y :: r)
      | _, _ => false
    let tt : Expr → Bool := fun x => match x with
      | .BoolOp op l _ => t op l
      | _ => false
    ⟨fun x => match x with
      | .BoolOp op l _ => v op l
      | _ => false, tt, v, t, no1, no2, no1, fun l => match l with
      | [x] => tt x
      | _ => false⟩
  | .bo1 a, sc => ⟨no1, no1, fun _ l => match l with
      | [x] => (chk fs cs N a sc).one x
      | _ => false, fun _ l => match l with
      | [x] => (chk fs cs N a sc).tst x
      | _ => false, no1, no2, no1, no1⟩
  | .not a, sc =>
    let tt : Expr → Bool := fun x => match x with
      | .UnaryOp .Not y _ => (chk fs cs N a sc).tst y
      | _ => false
    ⟨fun x => match x with
      | .UnaryOp .Not y _ => (chk fs cs N a sc).one y
      | _ => false, tt, no2, no2, no1, no2, no1, fun l => match l with
      | [x] => tt x
      | _ => false⟩
  | .ort a b, sc => .of fun x => match x with
    | .BoolOp .Or [y, z] _ => (chk fs cs N a sc).one y && (chk fs cs N b sc).one z
    | _ => false
  | .ife c a b, sc => .of fun x => match x with
    | .IfExp t y z _ => (chk fs cs N c sc).tst t && (chk fs cs N a sc).one y && (chk fs cs N b sc).one z
    | _ => false
  | .tup es, sc => .of fun x => match x with
    | .Tuple l _ _ => (chk fs cs N es sc).lst l
    | _ => false
  | .lst es, sc => .of fun x => match x with
    | .List l _ => (chk fs cs N es sc).lst l
    | _ => false
  | .ix a i, sc => .of fun x => match x with
    | .Subscript y z _ => (chk fs cs N a sc).one y && (chk fs cs N i sc).one z && notSlice z
    | _ => false
  | .sl a lo hi, sc => .of fun x => match x with
    | .Subscript y (.Slice l h none _) _ => (chk fs cs N a sc).one y && (chk fs cs N lo sc).opt l && (chk fs cs N hi sc).opt h
    | _ => false
  | .no, _ => ⟨no1, no1, no2, no2, no1, no2, fun o => o.isNone, no1⟩
  | .bi b es, sc => .of fun x => match x with
    | .Call (.Name y _) (e :: r) [] _ => decide (y = b.nm) && glB sc y && (chk fs cs N es sc).lst (e :: r) && (e :: r).all notStar
    | _ => false
  | .isi a ts many, sc => .of fun x => match x with
    | .Call (.Name y _) [z, c] [] _ => decide (y = ("isinstance" : Str)) && glB sc y && (chk fs cs N a sc).one z && notStar z && (match many, c with
      | false, .Name n p => tyNameB sc ts [.Name n p] && decide (ts.length = 1)
      | true, .Tuple l _ _ => tyNameB sc ts l && decide (ts.length ≤ 16)
      | _, _ => false)
    | _ => false
  | .call g es, sc => .of fun x => match x with
    | .Call (.Name y _) (e :: r) [] _ => decide ((fs[g]?).map (·.name) = some y) && glB sc y && (chk fs cs N es sc).lst (e :: r) && (e :: r).all notStar && ndB y
    | _ => false
  | .callk _ _ _ _, _ => .of no1
  | .callv i es, sc => .of fun x => match x with
    | .Call (.Name y _) (e :: r) [] _ => decide (N[i]? = some y) && visB sc y && ndB y && (chk fs cs N es sc).lst (e :: r) && (e :: r).all notStar
    | _ => false
  | .idx a b, sc => .of fun x => match x with
    | .Call (.Attribute o m ap) [y] [] cp => decide (m = ("index" : Str)) && notCall o && (ap.endLine == cp.line) && notStar y && (chk fs cs N a sc).one o && (chk fs cs N b sc).one y
    | _ => false
  | .cnt _ _, _ => .of no1
  | .app i a, sc => .of fun x => match x with
    | .Call (.Attribute (.Name n p) m ap) [y] [] cp => decide (m = ("append" : Str)) && decide (N[i]? = some n) && visB sc n && ndB n && (ap.endLine == cp.line) && notStar y && (chk fs cs N a sc).one y
    | _ => false
  | .ext i a, sc => .of fun x => match x with
    | .Call (.Attribute (.Name n p) m ap) [y] [] cp => decide (m = ("extend" : Str)) && decide (N[i]? = some n) && visB sc n && ndB n && (ap.endLine == cp.line) && notStar y && (chk fs cs N a sc).one y
    | _ => false
  | .pop i, sc => .of fun x => match x with
    | .Call (.Attribute (.Name n p) m ap) [] [] cp => decide (m = ("pop" : Str)) && decide (N[i]? = some n) && visB sc n && ndB n && (ap.endLine == cp.line)
    | _ => false
  | .popi i a, sc => .of fun x => match x with
    | .Call (.Attribute (.Name n p) m ap) [y] [] cp => decide (m = ("pop" : Str)) && decide (N[i]? = some n) && visB sc n && ndB n && (ap.endLine == cp.line) && notStar y && (chk fs cs N a sc).one y
    | _ => false
  | .rem _ _, _ => .of no1
  | .dnew, _ => .of fun x => match x with
    | .Dict [] [] _ => true
    | _ => false
  | .disp a b, sc => .of fun x => match x with
    | .Dict [some k] [v] _ => (chk fs cs N a sc).one k && (chk fs cs N b sc).one v
    | _ => false
  | .lset a, sc => .of fun x => match x with
    | .Call (.Name y _) [.Call (.Name z _) [e] [] _] [] _ => decide (y = ("len" : Str)) && decide (z = ("set" : Str)) && glB sc y && glB sc z && notStar e && (chk fs cs N a sc).one e
    | _ => false
  | .sset a, sc => .of fun x => match x with
    | .Call (.Name y _) [.Call (.Name z _) [e] [] _] [] _ => decide (y = ("sorted" : Str)) && decide (z = ("set" : Str)) && glB sc y && glB sc z && notStar e && (chk fs cs N a sc).one e
    | _ => false
  | .rng1 a, sc => .itr1 fun _ x => match x with
    | .Call (.Name y _) [e] [] _ => decide (y = ("range" : Str)) && glB sc y && notStar e && (chk fs cs N a sc).one e
    | _ => false
  | .rng2 a b, sc => .itr1 fun _ x => match x with
    | .Call (.Name y _) [e, f] [] _ => decide (y = ("range" : Str)) && glB sc y && notStar e && notStar f && (chk fs cs N a sc).one e && (chk fs cs N b sc).one f
    | _ => false
  | .lrng1 a, sc => .of fun x => match x with
    | .Call (.Name z _) [.Call (.Name y _) [e] [] _] [] _ => decide (z = ("list" : Str)) && glB sc z && decide (y = ("range" : Str)) && glB sc y && notStar e && (chk fs cs N a sc).one e
    | _ => false
  | .lrng2 a b, sc => .of fun x => match x with
    | .Call (.Name z _) [.Call (.Name y _) [e, f] [] _] [] _ => decide (z = ("list" : Str)) && glB sc z && decide (y = ("range" : Str)) && glB sc y && notStar e && notStar f && (chk fs cs N a sc).one e && (chk fs cs N b sc).one f
    | _ => false
  | .enum a, sc => .itr1 fun tg x => match x with
    | .Call (.Name y _) [e] [] _ => isTup tg && decide (y = ("enumerate" : Str)) && glB sc y && notStar e && (chk fs cs N a sc).one e
    | _ => false
  | .zip a b, sc => .itr1 fun tg x => match x with
    | .Call (.Name y _) [e, f] [] _ => isTup tg && decide (y = ("zip" : Str)) && glB sc y && notStar e && notStar f && (chk fs cs N a sc).one e && (chk fs cs N b sc).one f
    | _ => false
  | .rev a, sc => .itr1 fun _ x => match x with
    | .Call (.Name y _) [e] [] _ => decide (y = ("reversed" : Str)) && glB sc y && notStar e && (chk fs cs N a sc).one e
    | _ => false
  | .lc tg it c el, sc => .of fun x => match x with
    | .ListComp elt [⟨t, iter, ifs, as⟩] sc1 _ => decide (as = 0) && notSet iter && (chk fs cs N it sc).itr t iter && tgB N sc1 tg t && blkC N sc sc1 (ownOf N tg.slots) && (chk fs cs N c (relS sc1 sc)).ifs ifs && (chk fs cs N el (relS sc1 sc)).one elt
    | _ => false
  | .lc2 tg it c tg2 it2 c2 el, sc => .of fun x => match x with
    | .ListComp elt [⟨t, iter, ifs, as⟩, ⟨t2, iter2, ifs2, as2⟩] sc1 _ => decide (as = 0) && decide (as2 = 0) && notSet iter && notSet iter2 && (chk fs cs N it sc).itr t iter && tgB N sc1 tg t && tgB N sc1 tg2 t2 && blkC N sc sc1 (ownOf N (tg.slots ++ tg2.slots)) &&
      (chk fs cs N c (relS sc1 sc)).ifs ifs && (chk fs cs N it2 (relS sc1 sc)).itr t2 iter2 && (chk fs cs N c2 (relS sc1 sc)).ifs ifs2 && (chk fs cs N el (relS sc1 sc)).one elt
    | _ => false
  | .nil, _ => ⟨no1, no1, no2, no2, fun l => l.isEmpty, no2, no1, fun l => l.isEmpty⟩
  | .cons a b, sc => ⟨no1, no1, no2, no2, fun l => match l with
      | x :: r => notStar x && (chk fs cs N a sc).one x && (chk fs cs N b sc).lst r
      | [] => false, no2, no1, no1⟩
end Pv

set_option Elab.async false
set_option linter.all false
set_option maxRecDepth 100000
set_option maxHeartbeats 8000000
set_option autoImplicit false
/-! Pv, part Q: each term's text does what the term computes. -/
namespace Pv
open PySem PySem.Spec PyProof.Rows L2 RT RZ
/-- what holds of the context in which the defs' bodies run -/
structure Std (fs : List FnI) (cs : List (Str × Int)) (k : Nat) (nm : Nat → Option Addr) (ex : Nat → Value) (Φ : Nat → Fn) (X : Cx) (W : WX) : Prop where
  rm : Room k X.A
  calm : X.calm = true
  nod : X.N.Nodup
  tk : Takes X W
  blt : ∀ x ∈ bnames, X.mg x = none
  con : ∀ p ∈ cs, ∃ t, X.mg p.1 = some (.int p.2 t)
  fn : ∀ g f, fs[g]? = some f → ∃ a fd, nm g = some a ∧ X.mg f.name = some (.ref a) ∧ PySem.W.keepIn X.K (.ref a) = true ∧ Binds X.K fd f.ps [] ∧ FnOk X.prog X.w X.K X.mg X.base (L2.CX X.prog X.w) k a fd f.ps (spF X.K nm ex f.io f.ps.length (Φ g))
  ar : ∀ g f, fs[g]? = some f → ∀ ds, (Φ g ds).1 ≠ .bad → ds.length = f.ps.length
  nf : ∀ g a, nm g = some a → ∃ f, fs[g]? = some f
abbrev W0 : WX := fun _ _ _ _ => False
section
variable {fs : List FnI} {cs : List (Str × Int)} {k : Nat} {nm : Nat → Option Addr} {ex : Nat → Value} {Φ : Nat → Fn} {X : Cx} {W : WX}
theorem Std.blk (S : Std fs cs k nm ex Φ X W) (s : Shared) (H : Hp) (scope : Scope) (ce : PySem.Env) (fp : List Addr) : Std fs cs k nm ex Φ (X.blk s H scope ce fp) W0 :=
  ⟨S.rm, S.calm, S.nod, takes0, S.blt, S.con, S.fn, S.ar, S.nf⟩
theorem Std.u65 (S : Std fs cs k nm ex Φ X W) : X.A.units + 65 < cLine := by have := S.rm.un; omega
/-- the readings of a term -/
structure GoodAt (fs : List FnI) (cs : List (Str × Int)) (nm : Nat → Option Addr) (ex : Nat → Value) (Φ : Nat → Fn) (X : Cx) (W : WX) (e : E) : Prop where
  one : ∀ x, (chk fs cs X.N e X.env.scope).one x = true → PE X x (tE X.K nm ex W (sem (ioOf fs) Φ e).val)
  tst : ∀ x, (chk fs cs X.N e X.env.scope).tst x = true → PT X x (tT X.K nm ex W (sem (ioOf fs) Φ e).tst)
  bV : ∀ op l pos, (chk fs cs X.N e X.env.scope).bV op l = true → PE X (.BoolOp op l pos) (tE X.K nm ex W (sem (ioOf fs) Φ e).val)
  bT : ∀ op l pos, (chk fs cs X.N e X.env.scope).bT op l = true → PW X (.BoolOp op l pos) (tT X.K nm ex W (sem (ioOf fs) Φ e).tst)
  lst : ∀ l, (chk fs cs X.N e X.env.scope).lst l = true → PA X l (tA X.K nm ex W (sem (ioOf fs) Φ e).many)
  itr : ∀ tg x, (chk fs cs X.N e X.env.scope).itr tg x = true → PI X tg x (tI X.K nm ex W (sem (ioOf fs) Φ e).itr)
  opt : ∀ o, (chk fs cs X.N e X.env.scope).opt o = true → PO X o (tO X.K nm ex W (sem (ioOf fs) Φ e).opt)
  ifs : ∀ l, (chk fs cs X.N e X.env.scope).ifs l = true → PTs X l (tT X.K nm ex W (sem (ioOf fs) Φ e).tst)
theorem GoodAt.of2 {e : E} {m : M R} {one tst : Expr → Bool} (hs : sem (ioOf fs) Φ e = .of m) (hc : chk fs cs X.N e X.env.scope = .of2 one tst) (h1 : ∀ x, one x = true → PE X x (tE X.K nm ex W m)) (h2 : ∀ x, tst x = true → PT X x (tT X.K nm ex W (truM m))) : GoodAt fs cs nm ex Φ X W e where
  one := fun x h => by rw [hs]; rw [hc] at h; exact h1 x h
  tst := fun x h => by rw [hs]; rw [hc] at h; exact h2 x h
  bV := fun op l pos h => by rw [hc] at h; cases h
  bT := fun op l pos h => by rw [hc] at h; cases h
  lst := fun l h => by rw [hc] at h; cases h
  itr := fun tg x h => by
    rw [hs]
    rw [hc] at h
    have h : (one x && notSet x) = true := h
    rw [Bool.and_eq_true] at h
    exact PI.imp (pi_seq (h1 x h.1)) fun σ H Q q => t_seq q
  opt := fun o h => by
    rw [hs]
    rw [hc] at h
    cases o with
    | none => cases h
    | some x => exact PO.imp (po_some (h1 x h)) fun σ H Q q => t_opt q
  ifs := fun l h => by
    rw [hs]
    rw [hc] at h
    match l, h with
    | [x], h => exact pts_one (h2 x h)
    | [], h => cases h
    | _ :: _ :: _, h => cases h
theorem tst_of {m : M R} {one : Expr → Bool} (h1 : ∀ x, one x = true → PE X x (tE X.K nm ex W m)) : ∀ x, (plainTst x && one x) = true → PT X x (tT X.K nm ex W (truM m)) := fun x h => by
  rw [Bool.and_eq_true] at h
  exact PT.imp (pt_truth (h1 x h.2) (tst_ok h.1)) fun σ H Q q => t_tru q
theorem GoodAt.of {e : E} {m : M R} {one : Expr → Bool} (hs : sem (ioOf fs) Φ e = .of m) (hc : chk fs cs X.N e X.env.scope = .of one) (h1 : ∀ x, one x = true → PE X x (tE X.K nm ex W m)) : GoodAt fs cs nm ex Φ X W e :=
  .of2 hs hc h1 (tst_of h1)
theorem GoodAt.itr1 {e : E} {m : M (List D)} {f : Expr → Expr → Bool} (hs : sem (ioOf fs) Φ e = ⟨M.bad, M.bad, M.bad, m, M.bad⟩) (hc : chk fs cs X.N e X.env.scope = .itr1 f) (h1 : ∀ tg x, f tg x = true → PI X tg x (tI X.K nm ex W m)) : GoodAt fs cs nm ex Φ X W e where
  one := fun x h => by rw [hc] at h; cases h
  tst := fun x h => by rw [hc] at h; cases h
  bV := fun op l pos h => by rw [hc] at h; cases h
  bT := fun op l pos h => by rw [hc] at h; cases h
  lst := fun l h => by rw [hc] at h; cases h
  itr := fun tg x h => by rw [hs]; rw [hc] at h; exact h1 tg x h
  opt := fun o h => by rw [hc] at h; cases h
  ifs := fun l h => by rw [hc] at h; cases h
theorem tE_mono {K : PySem.W.Frag} {m : M R} {σ : L2.St} {H : Hp} {Q Q' : VK} (i : ∀ v H, Q v H → Q' v H) (h : tE K nm ex W m σ H Q) : tE K nm ex W m σ H Q' := by
  obtain ⟨F0, G, F, ρ, S, P⟩ := h
  refine ⟨F0, G, F, ρ, S, ?_⟩
  cases e : m ρ with
  | mk o ρ' =>
    rw [e] at P
    cases o with
    | ok r => exact fun F' H' S' s' v hv => i _ _ (P F' H' S' s' v hv)
    | exc n => exact P
    | bad => exact P
/-! ### the cases -/
variable (S : Std fs cs k nm ex Φ X W)
include S
theorem g_nm (i : Nat) : GoodAt fs cs nm ex Φ X W (.nm i) := .of rfl rfl fun x h => by
  split at h
  · simp only [Bool.and_eq_true, decide_eq_true_eq] at h
    obtain ⟨⟨h1, h2⟩, h3⟩ := h
    obtain ⟨h4, h5⟩ := nd_ok h3
    exact PE.imp (pe_var h1 (vis_ok h2) h4 h5) fun σ H Q q => t_name q
  · cases h
theorem g_lit (a : At) : GoodAt fs cs nm ex Φ X W (.lit a) := .of rfl rfl fun x h => by
  split at h
  · rename_i c j p
    cases a <;> cases c <;> simp only [litB] at h <;> first | (cases h; done) | skip
    · exact PE.imp pe_non fun σ H Q q => t_const q fun _ => .non
    · have := eq_of_beq h
      subst this
      exact PE.imp pe_bl fun σ H Q q => t_const q fun _ => .bl _
    · have := of_decide_eq_true h
      subst this
      exact PE.imp pe_int fun σ H Q q => t_const q fun _ => .int _
    · have := of_decide_eq_true h
      subst this
      exact PE.imp pe_str fun σ H Q q => t_const q fun _ => .str _
  · cases h
theorem g_gi (y : Str) (v : Int) : GoodAt fs cs nm ex Φ X W (.gi y v) := .of rfl rfl fun x h => by
  split at h
  · simp only [Bool.and_eq_true, decide_eq_true_eq] at h
    obtain ⟨⟨⟨h1, h2⟩, h3⟩, h4⟩ := h
    subst h1
    obtain ⟨t, ht⟩ := S.con _ h3
    exact PE.imp (pe_glob (v := .int v) (gl_ok h2) ht ⟨t, rfl⟩ (nd_ok h4).1) fun σ H Q q => t_const q fun _ => .int v
  · cases h
theorem g_gf (g : Nat) : GoodAt fs cs nm ex Φ X W (.gf g) := .of rfl rfl fun x h => by
  split at h
  · simp only [Bool.and_eq_true, decide_eq_true_eq] at h
    obtain ⟨⟨h1, h2⟩, h3⟩ := h
    obtain ⟨f, hf, e⟩ := Option.map_eq_some_iff.mp h1
    subst e
    obtain ⟨a, fd, ha, hm, _⟩ := S.fn g f hf
    exact PE.imp (pe_glob (v := .ref a) (gl_ok h2) hm rfl (nd_ok h3).1) fun σ H Q q => t_const q fun _ => .fn ha
  · cases h
theorem one_op {o : O2} {a b : E} (ga : GoodAt fs cs nm ex Φ X W a) (gb : GoodAt fs cs nm ex Φ X W b) {x : Expr} (h : (chk fs cs X.N (.op o a b) X.env.scope).one x = true) : PE X x (tE X.K nm ex W (sem (ioOf fs) Φ (.op o a b)).val) := by
  simp only [chk, Ck.of2] at h
  split at h
  · simp only [Bool.and_eq_true, decide_eq_true_eq] at h
    obtain ⟨⟨h1, h2⟩, h3⟩ := h
    exact PE.imp (pe_op (b_all h1) (ga.one _ h2) (gb.one _ h3)) fun σ H Q q => t_op q
  · simp only [Bool.and_eq_true, decide_eq_true_eq] at h
    obtain ⟨⟨⟨h1, h0⟩, h2⟩, h3⟩ := h
    exact PE.imp (pe_cmpR (c_all S.u65 h1) (ga.one _ h2) (gb.one _ h3) (marks_ok h0)) fun σ H Q q => t_op q
  · cases h
theorem g_op (o : O2) {a b : E} (ga : GoodAt fs cs nm ex Φ X W a) (gb : GoodAt fs cs nm ex Φ X W b) : GoodAt fs cs nm ex Φ X W (.op o a b) :=
  .of2 rfl rfl (fun x h => one_op S ga gb h) fun x h => by
    split at h
    · simp only [Bool.and_eq_true, decide_eq_true_eq] at h
      split at h
      · rename_i heq; cases heq
      · rename_i heq
        cases heq
        simp only [Bool.and_eq_true, decide_eq_true_eq] at h
        obtain ⟨⟨⟨h1, h0⟩, h2⟩, h3⟩ := h
        exact PT.imp (pt_cmpR (c_all S.u65 h1) (ga.one _ h2) (gb.one _ h3) (marks_ok h0)) fun σ H Q q => t_cmpT h1 q
      · cases h
    · exact tst_of (one := (chk fs cs X.N (.op o a b) X.env.scope).one) (fun x h => one_op S ga gb h) x h
theorem g_neg {a : E} (ga : GoodAt fs cs nm ex Φ X W a) : GoodAt fs cs nm ex Φ X W (.neg a) := .of rfl rfl fun x h => by
  split at h
  · exact PE.imp (pe_un un_neg (ga.one _ h)) fun σ H Q q => t_neg q
  · cases h
theorem g_isn (n : Bool) {a : E} (ga : GoodAt fs cs nm ex Φ X W a) : GoodAt fs cs nm ex Φ X W (.isn n a) :=
  .of2 rfl rfl (fun x h => by
    split at h
    · simp only [Bool.and_eq_true, Bool.not_eq_true'] at h
      obtain ⟨h1, h2⟩ := h
      subst h1
      exact PE.imp (pe_cmp (pc_isN (ga.one _ h2)) rfl) fun σ H Q q => t_isn q
    · simp only [Bool.and_eq_true] at h
      obtain ⟨h1, h2⟩ := h
      subst h1
      exact PE.imp (pe_cmp (pc_notN (ga.one _ h2)) rfl) fun σ H Q q => t_isn q
    · cases h) fun x h => by
    split at h
    · simp only [Bool.and_eq_true, Bool.not_eq_true'] at h
      obtain ⟨h1, h2⟩ := h
      subst h1
      exact PT.imp (pt_cmp (pc_isN (ga.one _ h2)) rfl) fun σ H Q q => tE_mono (fun v H h => ⟨_, rfl, h⟩) (t_isnT q)
    · simp only [Bool.and_eq_true] at h
      obtain ⟨h1, h2⟩ := h
      subst h1
      exact PT.imp (pt_cmp (pc_notN (ga.one _ h2)) rfl) fun σ H Q q => tE_mono (fun v H h => ⟨_, rfl, h⟩) (t_isnT q)
    · cases h

theorem g_chain (o p : O2) {a b c : E} (ga : GoodAt fs cs nm ex Φ X W a) (gb : GoodAt fs cs nm ex Φ X W b) (gc : GoodAt fs cs nm ex Φ X W c) : GoodAt fs cs nm ex Φ X W (.chain o p a b c) :=
  .of2 rfl rfl (fun x h => by
    split at h
    · simp only [Bool.and_eq_true, decide_eq_true_eq] at h
      obtain ⟨⟨⟨⟨⟨h1, h2⟩, h3⟩, h4⟩, h5⟩, h6⟩ := h
      exact PE.imp (pe_chain (c_all S.u65 h1) (c_all S.u65 h2) (ga.one _ h4) (gb.one _ h5) (gc.one _ h6) (marks_ok h3)) fun σ H Q q => t_chain h1 q
    · cases h) fun x h => by
    split at h
    · simp only [Bool.and_eq_true, decide_eq_true_eq] at h
      obtain ⟨⟨⟨⟨⟨h1, h2⟩, h3⟩, h4⟩, h5⟩, h6⟩ := h
      exact PT.imp (pt_chain (c_all S.u65 h1) (c_all S.u65 h2) (ga.one _ h4) (gb.one _ h5) (gc.one _ h6) (marks_ok h3)) fun σ H Q q => t_chainT h1 h2 q
    · cases h
theorem g_and {a b : E} (ga : GoodAt fs cs nm ex Φ X W a) (gb : GoodAt fs cs nm ex Φ X W b) : GoodAt fs cs nm ex Φ X W (.and a b) := by
  have hV : ∀ op l pos, (chk fs cs X.N (.and a b) X.env.scope).bV op l = true → PE X (.BoolOp op l pos) (tE X.K nm ex W (sem (ioOf fs) Φ (.and a b)).val) := fun op l pos h => by
    simp only [chk] at h
    split at h
    · simp only [Bool.and_eq_true] at h
      exact PE.imp (pe_and (ga.one _ h.1) (gb.bV _ _ pos h.2)) fun σ H Q q => t_and q
    · cases h
  have hT : ∀ op l pos, (chk fs cs X.N (.and a b) X.env.scope).bT op l = true → PW X (.BoolOp op l pos) (tT X.K nm ex W (sem (ioOf fs) Φ (.and a b)).tst) := fun op l pos h => by
    simp only [chk] at h
    split at h
    · simp only [Bool.and_eq_true] at h
      exact PW.imp (pw_and (ga.tst _ h.1) (gb.bT _ _ pos h.2)) fun σ H Q q => t_andT q
    · cases h
  have hTT : ∀ x, (chk fs cs X.N (.and a b) X.env.scope).tst x = true → PT X x (tT X.K nm ex W (sem (ioOf fs) Φ (.and a b)).tst) := fun x h => by
    cases x <;> first | (cases h; done) | skip
    exact (hT _ _ _ h).pt
  refine ⟨fun x h => ?_, hTT, hV, hT, (fun l h => nomatch h), (fun tg x h => nomatch h), (fun o h => nomatch h), fun l h => ?_⟩
  · cases x <;> first | (cases h; done) | skip
    exact hV _ _ _ h
  · match l, h with
    | [x], h => exact pts_one (hTT x h)
    | [], h => cases h
    | _ :: _ :: _, h => cases h
theorem g_or {a b : E} (ga : GoodAt fs cs nm ex Φ X W a) (gb : GoodAt fs cs nm ex Φ X W b) : GoodAt fs cs nm ex Φ X W (.or a b) := by
  have hV : ∀ op l pos, (chk fs cs X.N (.or a b) X.env.scope).bV op l = true → PE X (.BoolOp op l pos) (tE X.K nm ex W (sem (ioOf fs) Φ (.or a b)).val) := fun op l pos h => by
    simp only [chk] at h
    split at h
    · simp only [Bool.and_eq_true] at h
      exact PE.imp (pe_or (ga.one _ h.1) (gb.bV _ _ pos h.2)) fun σ H Q q => t_or q
    · cases h
  have hT : ∀ op l pos, (chk fs cs X.N (.or a b) X.env.scope).bT op l = true → PW X (.BoolOp op l pos) (tT X.K nm ex W (sem (ioOf fs) Φ (.or a b)).tst) := fun op l pos h => by
    simp only [chk] at h
    split at h
    · simp only [Bool.and_eq_true] at h
      exact PW.imp (pw_or (ga.tst _ h.1) (gb.bT _ _ pos h.2)) fun σ H Q q => t_orT' q
    · cases h
  have hTT : ∀ x, (chk fs cs X.N (.or a b) X.env.scope).tst x = true → PT X x (tT X.K nm ex W (sem (ioOf fs) Φ (.or a b)).tst) := fun x h => by
    cases x <;> first | (cases h; done) | skip
    exact (hT _ _ _ h).pt
  refine ⟨fun x h => ?_, hTT, hV, hT, (fun l h => nomatch h), (fun tg x h => nomatch h), (fun o h => nomatch h), fun l h => ?_⟩
  · cases x <;> first | (cases h; done) | skip
    exact hV _ _ _ h
  · match l, h with
    | [x], h => exact pts_one (hTT x h)
    | [], h => cases h
    | _ :: _ :: _, h => cases h
theorem g_bo1 {a : E} (ga : GoodAt fs cs nm ex Φ X W a) : GoodAt fs cs nm ex Φ X W (.bo1 a) where
  one := fun x h => nomatch h
  tst := fun x h => nomatch h
  bV := fun op l pos h => by
    match l, h with
    | [x], h => exact pe_one (ga.one x h)
    | [], h => cases h
    | _ :: _ :: _, h => cases h
  bT := fun op l pos h => by
    match l, h with
    | [x], h =>
      cases op with
      | And => exact pw_and1 (ga.tst x h)
      | Or => exact pw_or1 (ga.tst x h)
    | [], h => cases h
    | _ :: _ :: _, h => cases h
  lst := fun l h => nomatch h
  itr := fun tg x h => nomatch h
  opt := fun o h => nomatch h
  ifs := fun l h => nomatch h
theorem g_not {a : E} (ga : GoodAt fs cs nm ex Φ X W a) : GoodAt fs cs nm ex Φ X W (.not a) := by
  have hTT : ∀ x, (chk fs cs X.N (.not a) X.env.scope).tst x = true → PT X x (tT X.K nm ex W (sem (ioOf fs) Φ (.not a)).tst) := fun x h => by
    simp only [chk] at h
    split at h
    · exact PT.imp (pt_not (ga.tst _ h)) fun σ H Q q => t_notT' q
    · cases h
  refine ⟨fun x h => ?_, hTT, (fun op l pos h => nomatch h), (fun op l pos h => nomatch h), (fun l h => nomatch h), (fun tg x h => nomatch h), (fun o h => nomatch h), fun l h => ?_⟩
  · simp only [chk] at h
    split at h
    · exact PE.imp (pe_notT (ga.one _ h)) fun σ H Q q => t_notV q
    · cases h
  · match l, h with
    | [x], h => exact pts_one (hTT x h)
    | [], h => cases h
    | _ :: _ :: _, h => cases h
theorem g_ort {a b : E} (ga : GoodAt fs cs nm ex Φ X W a) (gb : GoodAt fs cs nm ex Φ X W b) : GoodAt fs cs nm ex Φ X W (.ort a b) := .of rfl rfl fun x h => by
  split at h
  · simp only [Bool.and_eq_true] at h
    exact PE.imp (pe_orT (ga.one _ h.1) (pe_one (gb.one _ h.2))) fun σ H Q q => t_ort q
  · cases h
theorem g_ife {c a b : E} (gc : GoodAt fs cs nm ex Φ X W c) (ga : GoodAt fs cs nm ex Φ X W a) (gb : GoodAt fs cs nm ex Φ X W b) : GoodAt fs cs nm ex Φ X W (.ife c a b) := .of rfl rfl fun x h => by
  split at h
  · simp only [Bool.and_eq_true] at h
    exact PE.imp (pe_ifExp (gc.tst _ h.1.1) (ga.one _ h.1.2) (gb.one _ h.2)) fun σ H Q q => t_ife q
  · cases h
theorem g_tup {es : E} (ge : GoodAt fs cs nm ex Φ X W es) : GoodAt fs cs nm ex Φ X W (.tup es) := .of rfl rfl fun x h => by
  split at h
  · exact PE.imp (pe_tupF (ge.lst _ h)) fun σ H Q q => t_tup q
  · cases h
theorem g_lst {es : E} (ge : GoodAt fs cs nm ex Φ X W es) : GoodAt fs cs nm ex Φ X W (.lst es) := .of rfl rfl fun x h => by
  split at h
  · exact PE.imp (pe_lst (ge.lst _ h)) fun σ H Q q => t_lst q
  · cases h
theorem g_ix {a i : E} (ga : GoodAt fs cs nm ex Φ X W a) (gi : GoodAt fs cs nm ex Φ X W i) : GoodAt fs cs nm ex Φ X W (.ix a i) := .of rfl rfl fun x h => by
  split at h
  · simp only [Bool.and_eq_true] at h
    exact PE.imp (pe_ix (ix_all (by have := S.u65; omega)) (ga.one _ h.1.1) (gi.one _ h.1.2) (slice_ok h.2)) fun σ H Q q => t_op q
  · cases h
theorem t_sl {K : PySem.W.Frag} {ma : M R} {ml mh : M (Option Int)} {σ : L2.St} {H : Hp} {Q : VK} (h : tE K nm ex W (M.bind ma fun r => M.bind ml fun l => M.bind mh fun h => M.bind (pk r) fun x => ofO (slD x l h)) σ H Q) : tSl (rSl K nm) (tE K nm ex W ma) (tO K nm ex W ml) (tO K nm ex W mh) σ H Q := by
  obtain ⟨F0, G, F, ρ, S, P⟩ := h
  refine one S P fun r ρ2 F2 H2 x S2 s2 hx P2 => ?_
  obtain ⟨G1, Sp, hne, back⟩ := prot S2 hx
  refine ⟨F2, G1, F2, ρ2, Sp, ?_⟩
  refine Po.under (r := r) (x := x) (fun F2 H2 ρ2 S2 => (back F2 H2 ρ2 S2).1) P2.bind fun l ρ3 F3 H3 S3 s3 P3 => ?_
  obtain ⟨b1, b2, b3, b4⟩ := back F3 H3 ρ3 S3
  obtain ⟨G4, Sp4, hne4, back4⟩ := prot b1 b2
  refine ⟨F3, G4, F3, ρ3, Sp4, ?_⟩
  refine Po.under (r := r) (x := x) (fun F2 H2 ρ2 S2 => (back4 F2 H2 ρ2 S2).1) P3.bind fun h ρ5 F5 H5 S5 s5 P5 => ?_
  obtain ⟨c1, c2, c3, c4⟩ := back4 F5 H5 ρ5 S5
  obtain ⟨d, ed, P6⟩ := P5.pk
  obtain ⟨rr, er, fin⟩ := Po.op c1 P6
  exact ⟨F5, d, rr, c1.fh, c2.wr.lk c1 ed, er, fin⟩
theorem g_sl {a lo hi : E} (ga : GoodAt fs cs nm ex Φ X W a) (gl : GoodAt fs cs nm ex Φ X W lo) (gh : GoodAt fs cs nm ex Φ X W hi) : GoodAt fs cs nm ex Φ X W (.sl a lo hi) := .of rfl rfl fun x h => by
  split at h
  · simp only [Bool.and_eq_true] at h
    exact PE.imp (pe_slice sl_all (ga.one _ h.1.1) (gl.opt _ h.1.2) (gh.opt _ h.2)) fun σ H Q q => t_sl S q
  · cases h
theorem g_no : GoodAt fs cs nm ex Φ X W .no where
  one := fun x h => nomatch h
  tst := fun x h => nomatch h
  bV := fun op l pos h => nomatch h
  bT := fun op l pos h => nomatch h
  lst := fun l h => nomatch h
  itr := fun tg x h => nomatch h
  opt := fun o h => by
    cases o with
    | some x => cases h
    | none =>
      refine PO.imp po_none fun σ H Q q => ?_
      obtain ⟨F0, G, F, ρ, S, P⟩ := q
      exact P F H S (Same.refl _)
  ifs := fun l h => nomatch h
def bfn : B → Value
  | .len => .builtin "len"
  | .all => .builtin "all"
  | .any => .builtin "any"
  | .abs => .builtin "abs"
  | .int => .type "int"
  | .tuple => .type "tuple"
  | .list => .type "list"
  | .sum => .builtin "sum"
  | .max1 => .builtin "max"
  | .min1 => .builtin "min"
  | .max2 => .builtin "max"
  | .min2 => .builtin "min"
  | .sorted => .builtin "sorted"
theorem b_call (b : B) : CallR X (bfn b) (rB X.K nm b) := by
  have hc := S.calm
  have hu := S.u65
  cases b with
  | len => exact f_len
  | all => exact f_all hc
  | any => exact f_any hc
  | abs => exact f_abs
  | int => exact f_int
  | tuple => exact f_tuple
  | list => exact f_list
  | sum => exact f_sum hc
  | max1 => exact f_max1 hc
  | min1 => exact f_min1 hc
  | max2 => exact f_max2 hc
  | min2 => exact f_min2 hc
  | sorted => exact f_sorted (by omega)
omit S in
theorem b_boot (b : B) : bootBuiltins b.nm = some (bfn b) := by cases b <;> decide +kernel
omit S in
theorem b_ok (b : B) : b.nm ∈ bnames ∧ b.nm ≠ "__name__" ∧ (b.nm == ("__debug__" : Str)) = false := by cases b <;> decide +kernel
omit S in
theorem b_kind (b : B) : (∃ id, bfn b = .builtin id) ∨ ∃ T, bfn b = .type T := by cases b <;> first | exact .inl ⟨_, rfl⟩ | exact .inr ⟨_, rfl⟩
theorem g_bi (b : B) {es : E} (ge : GoodAt fs cs nm ex Φ X W es) : GoodAt fs cs nm ex Φ X W (.bi b es) := .of rfl rfl fun x h => by
  split at h
  · rename_i y p e r pos
    simp only [Bool.and_eq_true, decide_eq_true_eq] at h
    obtain ⟨⟨⟨h1, h2⟩, h3⟩, h4⟩ := h
    subst h1
    have h4' : notStar e = true ∧ r.all notStar = true := by rw [List.all_cons, Bool.and_eq_true] at h4; exact h4
    obtain ⟨k1, k2, k3⟩ := b_ok b
    have hb := b_boot b
    have hc := b_call S b
    rcases b_kind b with ⟨id, e1⟩ | ⟨T, e1⟩
    · rw [e1] at hb hc
      exact PE.imp (pe_callB hc (gl_ok h2) (S.blt _ k1) hb (ge.lst _ h3) k2 k3 (star_ok h4'.1) (stars_any h4'.2)) fun σ H Q q => t_bi q
    · rw [e1] at hb hc
      exact PE.imp (pe_callTy hc (gl_ok h2) (S.blt _ k1) hb (ge.lst _ h3) k2 k3 (star_ok h4'.1) (stars_any h4'.2)) fun σ H Q q => t_bi q
  · cases h
end
end Pv

set_option Elab.async false
set_option linter.all false
set_option maxRecDepth 100000
set_option maxHeartbeats 8000000
set_option autoImplicit false
/-! Pv, part R: calls, lists by going through; all terms. -/
namespace Pv
open PySem PySem.Spec PyProof.Rows L2 RT RZ
section
variable {fs : List FnI} {cs : List (Str × Int)} {k : Nat} {nm : Nat → Option Addr} {ex : Nat → Value} {Φ : Nat → Fn} {X : Cx} {W : WX} (S : Std fs cs k nm ex Φ X W)
theorem ty_boot : ∀ t ∈ ["int", "bool", "str", "tuple", "list"], bootBuiltins (Str.ofString t) = some (.type t) := by decide +kernel
theorem ty_bn : ∀ t ∈ ["int", "bool", "str", "tuple", "list"], Str.ofString t ∈ bnames ∧ Str.ofString t ≠ "__name__" ∧ (Str.ofString t == ("__debug__" : Str)) = false := by decide +kernel
include S
theorem pe_tyn {t : String} {p : Pos} (h : t ∈ ["int", "bool", "str", "tuple", "list"]) (hg : glB X.env.scope (Str.ofString t) = true) : PE X (.Name (Str.ofString t) p) (tC (.ty t)) := by
  obtain ⟨k1, k2, k3⟩ := ty_bn t h
  exact pe_bltn (v := .ty t) (gl_ok hg) (S.blt _ k1) (ty_boot t h) rfl k2 k3
omit S in
theorem tyName_cons {sc : Scope} {t : String} {ts : List String} {l : List Expr} (h : tyNameB sc (t :: ts) l = true) : ∃ p r, l = .Name (Str.ofString t) p :: r ∧ t ∈ ["int", "bool", "str", "tuple", "list"] ∧ glB sc (Str.ofString t) = true ∧ tyNameB sc ts r = true := by
  match l, h with
  | .Name x p :: r, h =>
    simp only [tyNameB, Bool.and_eq_true, decide_eq_true_eq] at h
    obtain ⟨⟨⟨h1, h2⟩, h3⟩, h4⟩ := h
    subst h1
    exact ⟨p, r, rfl, by simpa using h2, h3, h4⟩
def tTys : List String → TA
  | [] => tNil
  | t :: ts => tCons (tC (.ty t)) (tTys ts)
theorem pa_tys : ∀ {ts : List String} {l : List Expr}, tyNameB X.env.scope ts l = true → PA X l (tTys ts) ∧ ∀ t ∈ ts, t ∈ ["int", "bool", "str", "tuple", "list"]
  | [], [], _ => ⟨pa_nil, fun _ h => nomatch h⟩
  | [], _ :: _, h => by simp [tyNameB] at h
  | t :: ts, l, h => by
    obtain ⟨p, r, rfl, h1, h2, h3⟩ := tyName_cons h
    obtain ⟨q1, q2⟩ := pa_tys h3
    exact ⟨pa_cons (pe_tyn S h1 h2) q1 rfl, fun u hu => by rcases List.mem_cons.mp hu with rfl | hu; exact h1; exact q2 u hu⟩
omit S in
theorem tTys_ok : ∀ {ts : List String} {σ : L2.St} {H : Hp} {Q : List V → Hp → Prop}, Q (ts.map V.ty) H → tTys ts σ H Q
  | [], _, _, _, q => q
  | t :: ts, σ, H, Q, q => tTys_ok (ts := ts) (Q := fun xs H2 => Q (.ty t :: xs) H2) q
omit S in
theorem isi_boot : bootBuiltins "isinstance" = some (.builtin "isinstance") := by decide +kernel
theorem g_isi {a : E} {ts : List String} {many : Bool} (ga : GoodAt fs cs nm ex Φ X W a) : GoodAt fs cs nm ex Φ X W (.isi a ts many) := .of rfl rfl fun x h => by
  split at h
  · rename_i y p z c pos
    simp only [Bool.and_eq_true, decide_eq_true_eq] at h
    obtain ⟨⟨⟨⟨h1, h2⟩, h3⟩, h4⟩, h5⟩ := h
    subst h1
    have hm : X.mg ("isinstance" : Str) = none := S.blt _ (by decide +kernel)
    split at h5
    · rename_i n p'
      simp only [Bool.and_eq_true, decide_eq_true_eq] at h5
      obtain ⟨h5, h6⟩ := h5
      match ts, h6, h5 with
      | [t], _, h5 =>
        obtain ⟨p2, r, e, k1, k2, _⟩ := tyName_cons h5
        cases e
        refine PE.imp (pe_callB call_isi (gl_ok h2) hm isi_boot (pa_cons (ga.one _ h3) (pa_cons (pe_tyn S k1 k2) pa_nil rfl) (star_ok h4)) (by decide +kernel) (by decide +kernel) (star_ok h4) rfl) fun σ H Q q => t_isi (fun u hu => kit_all u hu t k1) q
    · rename_i l kk pp
      simp only [Bool.and_eq_true, decide_eq_true_eq] at h5
      obtain ⟨h5, h6⟩ := h5
      obtain ⟨q1, q2⟩ := pa_tys S h5
      refine PE.imp (pe_callB call_isiT (gl_ok h2) hm isi_boot (pa_cons (ga.one _ h3) (pa_cons (pe_tup q1) pa_nil rfl) (star_ok h4)) (by decide +kernel) (by decide +kernel) (star_ok h4) rfl) fun σ H Q q => t_isiT (fun σ H Q h => ?_) (fun u hu T hT => kit_all u hu T (q2 T hT)) q
      exact tTys_ok ⟨by rw [List.length_map, sizeLine_eq]; omega, h⟩
    · cases h5
  · cases h
theorem fn_at {g : Nat} {y : Str} (h : (fs[g]?).map (·.name) = some y) : ∃ f a fd, fs[g]? = some f ∧ f.name = y ∧ nm g = some a ∧ X.mg f.name = some (.ref a) ∧ PySem.W.keepIn X.K (.ref a) = true ∧ Binds X.K fd f.ps [] ∧ FnOk X.prog X.w X.K X.mg X.base (L2.CX X.prog X.w) k a fd f.ps (spF X.K nm ex f.io f.ps.length (Φ g)) := by
  obtain ⟨f, hf, e⟩ := Option.map_eq_some_iff.mp h
  obtain ⟨a, fd, q⟩ := S.fn g f hf
  exact ⟨f, a, fd, hf, e, q⟩
theorem g_call (g : Nat) {es : E} (ge : GoodAt fs cs nm ex Φ X W es) : GoodAt fs cs nm ex Φ X W (.call g es) := .of rfl rfl fun x h => by
  split at h
  · rename_i y p e r pos
    simp only [Bool.and_eq_true, decide_eq_true_eq] at h
    obtain ⟨⟨⟨⟨h1, h2⟩, h3⟩, h4⟩, h5⟩ := h
    have h4' : notStar e = true ∧ r.all notStar = true := by rw [List.all_cons, Bool.and_eq_true] at h4; exact h4
    obtain ⟨f, a, fd, hf, en, ha, hm, hk, hb, F⟩ := fn_at S h1
    subst en
    have hio : ioOf fs g = f.io := by unfold ioOf; rw [hf]
    refine PE.imp (pe_callS (E := WE W) F S.rm (gl_ok h2) hm hk hb (passAt S.tk) (ge.lst _ h3) (nd_ok h5).1 (star_ok h4'.1) (stars_any h4'.2)) fun σ H Q q => ?_
    refine t_call (S.ar g f hf) ?_
    rw [← hio]; exact q
  · cases h
omit S in
/-- a call of a name that holds a def -/
theorem pe_callV {i : Nat} {x : Str} {p pos : Pos} {e : Expr} {es : List Expr} {t : TA} {T : Addr → Sp → Prop} (A : ∀ f sp, T f sp → ∃ fd ps, FnOk X.prog X.w X.K X.mg X.base (L2.CX X.prog X.w) k f fd ps sp ∧ PySem.W.keepIn X.K (.ref f) = true ∧ Binds X.K fd ps []) (hr : Room k X.A) (tk : Takes X W)
    (hN : X.N[i]? = some x) (hv : Vis X.env.scope x) (hdb : (x == ("__debug__" : Str)) = false) (hcd : (x == ("__classdict__" : Str)) = false) (ha : PA X (e :: es) t)
    (he : starEach (e :: es) X.env = (false, eval e X.env) :: starEach es X.env) (hpl : (backTo pos (starEach es X.env)).any (·.1) = false) :
    PE X (.Call (.Name x p) (e :: es) [] pos) (fun σ H Q => ∃ f sp, σ[i]? = some (some (.ref f)) ∧ T f sp ∧ t σ H fun vs H1 => sp vs H1 Q (WE W σ)) := by
  refine ⟨fun pins s σ H Q I ⟨f, sp, hs, hT, h⟩ => ?_⟩
  obtain ⟨fd, ps, F, hk, hb⟩ := A f sp hT
  refine wpAny_Call_Name_kw (thn ((pe_var (pos := p) hN hv hdb hcd).run pins s σ H (fun v H1 => v = .ref f ∧ H1 = H) I ⟨.ref f, hs, rfl, rfl⟩) fun u s1 ⟨v, H1, I1, r1, e1, e2⟩ => ?_)
  subst e1
  rw [e2] at I1
  have eu : u = Value.ref f := r1
  subst eu
  refine PySem.W.callWith_K (h₀ := X.base) I.ok.mod.kin hk (thn (ha.run pos pins s1 σ H _ I1 h) fun us s2 ⟨vs, H2, I2, r, q⟩ => ⟨I2.kIn, ?_⟩) he hpl
  exact run_fnS (E := WE W) F hr hb (passAt tk σ) I2 r q
theorem g_callv (i : Nat) {es : E} (ge : GoodAt fs cs nm ex Φ X W es) : GoodAt fs cs nm ex Φ X W (.callv i es) := .of rfl rfl fun x h => by
  split at h
  · rename_i y p e r pos
    simp only [Bool.and_eq_true, decide_eq_true_eq] at h
    obtain ⟨⟨⟨⟨h1, h2⟩, h3⟩, h4⟩, h5⟩ := h
    have h5' : notStar e = true ∧ r.all notStar = true := by rw [List.all_cons, Bool.and_eq_true] at h5; exact h5
    let T : Addr → Sp → Prop := fun a sp => ∃ g f, fs[g]? = some f ∧ f.io = false ∧ nm g = some a ∧ sp = spF X.K nm ex false f.ps.length (Φ g)
    refine PE.imp (pe_callV (k := k) (T := T) (fun a sp ht => ?_) S.rm S.tk h1 (vis_ok h2) (nd_ok h3).1 (nd_ok h3).2 (ge.lst _ h4) (star_ok h5'.1) (stars_any h5'.2)) fun σ H Q q => ?_
    · obtain ⟨g, f, hf, hio, ha, esp⟩ := ht
      obtain ⟨a', fd, ha', hm, hk, hb, F⟩ := S.fn g f hf
      rw [ha] at ha'; cases ha'
      rw [esp]
      rw [hio] at F
      exact ⟨fd, f.ps, F, hk, hb⟩
    · obtain ⟨F0, G, F, ρ, S1, P⟩ := q
      dsimp only at P
      split at P
      · rename_i g eg
        split at P
        · exact P.elim
        · rename_i hio
          obtain ⟨v, ev, rv⟩ := S1.fz i _ eg
          cases rv with
          | @fn _ a ha =>
            obtain ⟨f, hf⟩ := S.nf g a ha
            have hio' : f.io = false := by
              unfold ioOf at hio
              rw [hf] at hio
              simpa using hio
            exact ⟨a, _, ev, ⟨g, f, hf, hio', ha, rfl⟩, t_call (S.ar g f hf) ⟨F0, G, F, ρ, S1, P⟩⟩
      · exact P.elim
  · cases h
theorem g_idx {a b : E} (ga : GoodAt fs cs nm ex Φ X W a) (gb : GoodAt fs cs nm ex Φ X W b) : GoodAt fs cs nm ex Φ X W (.idx a b) := .of rfl rfl fun x h => by
  split at h
  · simp only [Bool.and_eq_true, decide_eq_true_eq] at h
    obtain ⟨⟨⟨⟨⟨h1, h2⟩, h3⟩, h4⟩, h5⟩, h6⟩ := h
    subst h1
    exact PE.imp (pe_idx (mt_indexD S.u65) (mt_indexT S.u65) (ga.one _ h5) (gb.one _ h6) (base_ok h2) h3 (star_ok h4)) fun σ H Q q => t_idx q
  · cases h
omit S in
theorem few1 {e : Expr} {cp : Pos} (h : notStar e = true) : ((backTo cp (starEach [e] X.env)).all (fun x => !x.1) && (backToKw cp (keywordEach [] X.env)).all (fun x => x.1.isSome) && decide (([e] : List Expr).length + ([] : List Keyword).length + (if ([] : List Keyword).isEmpty then 0 else 1) < 30)) = true := by
  rw [star_ok h]; rfl
theorem g_app (i : Nat) {a : E} (ga : GoodAt fs cs nm ex Φ X W a) : GoodAt fs cs nm ex Φ X W (.app i a) := .of rfl rfl fun x h => by
  split at h
  · simp only [Bool.and_eq_true, decide_eq_true_eq] at h
    obtain ⟨⟨⟨⟨⟨⟨h1, h2⟩, h3⟩, h4⟩, h5⟩, h6⟩, h7⟩ := h
    subst h1
    exact PE.imp (pe_bm PySem.F.plainAttrs_list PySem.F.slot_list_append PySem.F.type_list_append mt_append (pe_var h2 (vis_ok h3) (nd_ok h4).1 (nd_ok h4).2) (pa_cons (ga.one _ h7) pa_nil (star_ok h6)) rfl (few1 h6) h5 (star_ok h6) rfl) fun σ H Q q => t_app q
  · cases h
theorem g_ext (i : Nat) {a : E} (ga : GoodAt fs cs nm ex Φ X W a) : GoodAt fs cs nm ex Φ X W (.ext i a) := .of rfl rfl fun x h => by
  split at h
  · simp only [Bool.and_eq_true, decide_eq_true_eq] at h
    obtain ⟨⟨⟨⟨⟨⟨h1, h2⟩, h3⟩, h4⟩, h5⟩, h6⟩, h7⟩ := h
    subst h1
    exact PE.imp (pe_bm PySem.F.plainAttrs_list PySem.F.slot_list_extend PySem.F.type_list_extend mt_extA (pe_var h2 (vis_ok h3) (nd_ok h4).1 (nd_ok h4).2) (pa_cons (ga.one _ h7) pa_nil (star_ok h6)) rfl (few1 h6) h5 (star_ok h6) rfl) fun σ H Q q => t_ext q
  · cases h
theorem g_pop (i : Nat) : GoodAt fs cs nm ex Φ X W (.pop i) := .of rfl rfl fun x h => by
  split at h
  · simp only [Bool.and_eq_true, decide_eq_true_eq] at h
    obtain ⟨⟨⟨⟨h1, h2⟩, h3⟩, h4⟩, h5⟩ := h
    subst h1
    exact PE.imp (pe_bm0 PySem.F.plainAttrs_list PySem.F.slot_list_pop PySem.F.type_list_pop mt_pop (pe_var h2 (vis_ok h3) (nd_ok h4).1 (nd_ok h4).2) rfl h5) fun σ H Q q => t_pop q
  · cases h
theorem g_popi (i : Nat) {a : E} (ga : GoodAt fs cs nm ex Φ X W a) : GoodAt fs cs nm ex Φ X W (.popi i a) := .of rfl rfl fun x h => by
  split at h
  · simp only [Bool.and_eq_true, decide_eq_true_eq] at h
    obtain ⟨⟨⟨⟨⟨⟨h1, h2⟩, h3⟩, h4⟩, h5⟩, h6⟩, h7⟩ := h
    subst h1
    exact PE.imp (pe_bm PySem.F.plainAttrs_list PySem.F.slot_list_pop PySem.F.type_list_pop mt_popAt (pe_var h2 (vis_ok h3) (nd_ok h4).1 (nd_ok h4).2) (pa_cons (ga.one _ h7) pa_nil (star_ok h6)) rfl (few1 h6) h5 (star_ok h6) rfl) fun σ H Q q => t_popi q
  · cases h
theorem g_dnew : GoodAt fs cs nm ex Φ X W .dnew := .of rfl rfl fun x h => by
  split at h
  · exact PE.imp pe_dnewK fun σ H Q q => t_dnew q
  · cases h
theorem g_disp {a b : E} (ga : GoodAt fs cs nm ex Φ X W a) (gb : GoodAt fs cs nm ex Φ X W b) : GoodAt fs cs nm ex Φ X W (.disp a b) := .of rfl rfl fun x h => by
  split at h
  · simp only [Bool.and_eq_true] at h
    exact PE.imp (pe_disp (pps_cons (ga.one _ h.1) (gb.one _ h.2) pps_nil) rfl rfl (by simp) (show (1 : Nat) ≤ 15 by decide)) fun σ H Q q => t_disp q
  · cases h
theorem g_lset {a : E} (ga : GoodAt fs cs nm ex Φ X W a) : GoodAt fs cs nm ex Φ X W (.lset a) := .of rfl rfl fun x h => by
  split at h
  · simp only [Bool.and_eq_true, decide_eq_true_eq] at h
    obtain ⟨⟨⟨⟨⟨h1, h2⟩, h3⟩, h4⟩, h5⟩, h6⟩ := h
    subst h1 h2
    exact PE.imp (pe_lenset S.calm (gl_ok h3) (S.blt _ (by decide +kernel)) (gl_ok h4) (S.blt _ (by decide +kernel)) (ga.one _ h6) (star_ok h5)) fun σ H Q q => t_un q
  · cases h
theorem g_rng1 {a : E} (ga : GoodAt fs cs nm ex Φ X W a) : GoodAt fs cs nm ex Φ X W (.rng1 a) := .itr1 rfl rfl fun tg x h => by
  split at h
  · simp only [Bool.and_eq_true, decide_eq_true_eq] at h
    obtain ⟨⟨⟨h1, h2⟩, h3⟩, h4⟩ := h
    subst h1
    exact PI.imp (pi_range1 (gl_ok h2) (S.blt _ (by decide +kernel)) (pa_cons (ga.one _ h4) pa_nil (star_ok h3)) (star_ok h3)) fun σ H Q q => t_rng1 q
  · cases h
theorem g_rng2 {a b : E} (ga : GoodAt fs cs nm ex Φ X W a) (gb : GoodAt fs cs nm ex Φ X W b) : GoodAt fs cs nm ex Φ X W (.rng2 a b) := .itr1 rfl rfl fun tg x h => by
  split at h
  · simp only [Bool.and_eq_true, decide_eq_true_eq] at h
    obtain ⟨⟨⟨⟨⟨h1, h2⟩, h3⟩, h4⟩, h5⟩, h6⟩ := h
    subst h1
    exact PI.imp (pi_range2 (gl_ok h2) (S.blt _ (by decide +kernel)) (pa_cons (ga.one _ h5) (pa_cons (gb.one _ h6) pa_nil (star_ok h4)) (star_ok h3)) (by rw [star_ok h3, star_ok h4]; rfl) (star_ok h4)) fun σ H Q q => t_rng2 q
  · cases h
theorem g_lrng1 {a : E} (ga : GoodAt fs cs nm ex Φ X W a) : GoodAt fs cs nm ex Φ X W (.lrng1 a) := .of rfl rfl fun x h => by
  split at h
  · simp only [Bool.and_eq_true, decide_eq_true_eq] at h
    obtain ⟨⟨⟨⟨⟨h1, h2⟩, h3⟩, h4⟩, h5⟩, h6⟩ := h
    subst h1 h3
    exact PE.imp (pe_listRg S.calm (gl_ok h2) (S.blt _ (by decide +kernel)) (prg_1 (gl_ok h4) (S.blt _ (by decide +kernel)) (ga.one _ h6) (star_ok h5)) rfl) fun σ H Q q => t_lrng1 q
  · cases h
theorem g_lrng2 {a b : E} (ga : GoodAt fs cs nm ex Φ X W a) (gb : GoodAt fs cs nm ex Φ X W b) : GoodAt fs cs nm ex Φ X W (.lrng2 a b) := .of rfl rfl fun x h => by
  split at h
  · simp only [Bool.and_eq_true, decide_eq_true_eq] at h
    obtain ⟨⟨⟨⟨⟨⟨⟨h1, h2⟩, h3⟩, h4⟩, h5⟩, h6⟩, h7⟩, h8⟩ := h
    subst h1 h3
    exact PE.imp (pe_listRg S.calm (gl_ok h2) (S.blt _ (by decide +kernel)) (prg_2 (gl_ok h4) (S.blt _ (by decide +kernel)) (ga.one _ h7) (gb.one _ h8) (star_ok h5) (star_ok h6) (by rw [star_ok h6]; rfl)) rfl) fun σ H Q q => t_lrng2 q
  · cases h
omit S in
theorem tup_of {e : Expr} (h : isTup e = true) : ∃ l k p, e = .Tuple l k p := by
  cases e <;> first | exact ⟨_, _, _, rfl⟩ | cases h
theorem g_enum {a : E} (ga : GoodAt fs cs nm ex Φ X W a) : GoodAt fs cs nm ex Φ X W (.enum a) := .itr1 rfl rfl fun tg x h => by
  split at h
  · simp only [Bool.and_eq_true, decide_eq_true_eq] at h
    obtain ⟨⟨⟨⟨h0, h1⟩, h2⟩, h3⟩, h4⟩ := h
    subst h1
    obtain ⟨l, kk, p, rfl⟩ := tup_of h0
    exact PI.imp (pi_enumA (gl_ok h2) (S.blt _ (by decide +kernel)) (ga.one _ h4) (star_ok h3)) fun σ H Q q => t_enum q
  · cases h
theorem g_zip {a b : E} (ga : GoodAt fs cs nm ex Φ X W a) (gb : GoodAt fs cs nm ex Φ X W b) : GoodAt fs cs nm ex Φ X W (.zip a b) := .itr1 rfl rfl fun tg x h => by
  split at h
  · simp only [Bool.and_eq_true, decide_eq_true_eq] at h
    obtain ⟨⟨⟨⟨⟨⟨h0, h1⟩, h2⟩, h3⟩, h4⟩, h5⟩, h6⟩ := h
    subst h1
    obtain ⟨l, kk, p, rfl⟩ := tup_of h0
    exact PI.imp (pi_zipA (gl_ok h2) (S.blt _ (by decide +kernel)) (pa_cons (ga.one _ h5) (pa_cons (gb.one _ h6) pa_nil (star_ok h4)) (star_ok h3)) (star_ok h3) (by rw [star_ok h4]; rfl)) fun σ H Q q => t_zip q
  · cases h
theorem g_rev {a : E} (ga : GoodAt fs cs nm ex Φ X W a) : GoodAt fs cs nm ex Φ X W (.rev a) := .itr1 rfl rfl fun tg x h => by
  split at h
  · simp only [Bool.and_eq_true, decide_eq_true_eq] at h
    obtain ⟨⟨⟨h1, h2⟩, h3⟩, h4⟩ := h
    subst h1
    exact PI.imp (pi_revA (gl_ok h2) (S.blt _ (by decide +kernel)) (ga.one _ h4) (star_ok h3)) fun σ H Q q => t_rev q
  · cases h
theorem g_nil : GoodAt fs cs nm ex Φ X W .nil where
  one := fun x h => nomatch h
  tst := fun x h => nomatch h
  bV := fun op l pos h => nomatch h
  bT := fun op l pos h => nomatch h
  lst := fun l h => by
    match l, h with
    | [], _ => exact PA.imp pa_nil fun σ H Q q => t_nil q
    | _ :: _, h => cases h
  itr := fun tg x h => nomatch h
  opt := fun o h => nomatch h
  ifs := fun l h => by
    match l, h with
    | [], _ =>
      refine ⟨fun pins s σ H Q I q => pts_nil.run pins s σ H Q I ?_⟩
      obtain ⟨F0, G, F, ρ, S1, P⟩ := q
      exact P F H S1 (Same.refl _)
    | _ :: _, h => cases h
theorem g_cons {a b : E} (ga : GoodAt fs cs nm ex Φ X W a) (gb : GoodAt fs cs nm ex Φ X W b) : GoodAt fs cs nm ex Φ X W (.cons a b) where
  one := fun x h => nomatch h
  tst := fun x h => nomatch h
  bV := fun op l pos h => nomatch h
  bT := fun op l pos h => nomatch h
  lst := fun l h => by
    match l, h with
    | [], h => cases h
    | x :: r, h =>
      have h : (notStar x && (chk fs cs X.N a X.env.scope).one x && (chk fs cs X.N b X.env.scope).lst r) = true := h
      simp only [Bool.and_eq_true] at h
      exact PA.imp (pa_cons (ga.one _ h.1.2) (gb.lst _ h.2) (star_ok h.1.1)) fun σ H Q q => t_cons q
  itr := fun tg x h => nomatch h
  opt := fun o h => nomatch h
  ifs := fun l h => nomatch h
omit S in
theorem loc_blk {sc1 : Scope} {x : Str} {s : Shared} {H : Hp} {C : Addr} {cl : List (Str × Addr)} {fp : List Addr} (h : locB sc1 x = true) :
    Loc (X.blk s H sc1 (compEnvC sc1 cl C X.env) fp).env.scope x ∧ ((X.blk s H sc1 (compEnvC sc1 cl C X.env) fp).fn x = true ∨ (X.blk s H sc1 (compEnvC sc1 cl C X.env) fp).env.scope.names.lookup x = some .local) := by
  rcases loc_ok h with e | e
  · have e2 : (X.blk s H sc1 (compEnvC sc1 cl C X.env) fp).env.scope.names.lookup x = some .local := lookup_relS_keep (sc := X.env.scope) (by decide) e
    exact ⟨.inl e2, .inr e2⟩
  · have e2 : (X.blk s H sc1 (compEnvC sc1 cl C X.env) fp).env.scope.names.lookup x = some .cell := lookup_relS_keep (sc := X.env.scope) (by decide) e
    refine ⟨.inr e2, .inl ?_⟩
    show (sc1.names.lookup x == some .cell) = true
    rw [e]; rfl
omit S in
theorem assignEach_names {env : PySem.Env} : ∀ {N : List Str} {sc : Scope} {is : List Nat} {l : List Expr}, namesB N sc is l = true → (assignEach l env).length = is.length ∧ (assignEach l env).findIdx? (·.1) = none
  | N, sc, [], [], _ => ⟨rfl, rfl⟩
  | N, sc, [], _ :: _, h => by simp [namesB] at h
  | N, sc, i :: is, l, h => by
    match l, h with
    | .Name x p :: r, h =>
      simp only [namesB, Bool.and_eq_true] at h
      obtain ⟨h1, h2⟩ := assignEach_names (env := env) h.2
      have e : assignEach (.Name x p :: r) env = (false, assign (.Name x p) env) :: assignEach r env := rfl
      rw [e]
      refine ⟨by rw [List.length_cons, List.length_cons, h1], ?_⟩
      rw [List.findIdx?_cons, h2]; rfl
omit S in
theorem pgs_blk {sc1 : Scope} {s : Shared} {H : Hp} {C : Addr} {cl : List (Str × Addr)} {fp : List Addr} (hN : X.N.Nodup) : ∀ {is : List Nat} {l : List Expr}, namesB X.N sc1 is l = true → PGs (X.blk s H sc1 (compEnvC sc1 cl C X.env) fp) l (gNs is)
  | [], [], _ => pgs_nil
  | [], _ :: _, h => by simp [namesB] at h
  | i :: is, l, h => by
    match l, h with
    | .Name x p :: r, h =>
      simp only [namesB, Bool.and_eq_true, decide_eq_true_eq] at h
      obtain ⟨⟨h1, h2⟩, h3⟩ := h
      obtain ⟨k1, k2⟩ := loc_blk (X := X) (s := s) (H := H) (C := C) (cl := cl) (fp := fp) h2
      exact pgs_cons (pg_name hN h1 k1 k2) (pgs_blk hN h3) rfl
omit S in
theorem pg_blk {sc1 : Scope} {s : Shared} {H : Hp} {C : Addr} {cl : List (Str × Addr)} {fp : List Addr} (hc : X.calm = true) (hN : X.N.Nodup) {tg : T} {t : Expr} (h : tgB X.N sc1 tg t = true) : PG (X.blk s H sc1 (compEnvC sc1 cl C X.env) fp) t (gT X.K tg) := by
  cases tg with
  | one i =>
    cases t <;> first | (cases h; done) | skip
    simp only [tgB, Bool.and_eq_true, decide_eq_true_eq] at h
    obtain ⟨k1, k2⟩ := loc_blk (X := X) (s := s) (H := H) (C := C) (cl := cl) (fp := fp) h.2
    exact pg_name hN h.1 k1 k2
  | many is =>
    cases t <;> first | (cases h; done) | skip
    simp only [tgB] at h
    obtain ⟨k1, k2⟩ := assignEach_names (env := (X.blk s H sc1 (compEnvC sc1 cl C X.env) fp).env) h
    exact pg_tup hc (pgs_blk hN h) k1 k2
theorem g_lc (tg : T) {it c el : E} (gi : GoodAt fs cs nm ex Φ X W it) (gc : ∀ X W, Std fs cs k nm ex Φ X W → GoodAt fs cs nm ex Φ X W c) (ge : ∀ X W, Std fs cs k nm ex Φ X W → GoodAt fs cs nm ex Φ X W el) : GoodAt fs cs nm ex Φ X W (.lc tg it c el) := .of rfl rfl fun x h => by
  split at h
  · rename_i elt t iter ifs as sc1 pos
    simp only [Bool.and_eq_true, decide_eq_true_eq] at h
    obtain ⟨⟨⟨⟨⟨⟨h1, h2⟩, h3⟩, h4⟩, h5⟩, h6⟩, h7⟩ := h
    subst h1
    refine PE.imp (pe_lc (tt := tT X.K nm ex W0 (sem (ioOf fs) Φ c).tst) (te := tE X.K nm ex W0 (sem (ioOf fs) Φ el).val) S.calm S.nod (gi.itr _ _ h3) (blkOk_by h5) (fun s H C cl fp => pg_blk S.calm S.nod h4) (fun s H C cl fp => (gc _ _ (S.blk s H sc1 (compEnvC sc1 cl C X.env) fp)).ifs _ h6) (fun s H C cl fp => (ge _ _ (S.blk s H sc1 (compEnvC sc1 cl C X.env) fp)).one _ h7) (set_ok h2)) fun σ H Q q => ?_
    rw [ownOf_snd]
    exact t_lc (fun i hi => hi) q
  · cases h
theorem g_lc2 (tg : T) {it c : E} (tg2 : T) {it2 c2 el : E} (gi : GoodAt fs cs nm ex Φ X W it) (gc : ∀ X W, Std fs cs k nm ex Φ X W → GoodAt fs cs nm ex Φ X W c) (gi2 : ∀ X W, Std fs cs k nm ex Φ X W → GoodAt fs cs nm ex Φ X W it2) (gc2 : ∀ X W, Std fs cs k nm ex Φ X W → GoodAt fs cs nm ex Φ X W c2) (ge : ∀ X W, Std fs cs k nm ex Φ X W → GoodAt fs cs nm ex Φ X W el) :
    GoodAt fs cs nm ex Φ X W (.lc2 tg it c tg2 it2 c2 el) := .of rfl rfl fun x h => by
  split at h
  · rename_i elt t iter ifs as t2 iter2 ifs2 as2 sc1 pos
    simp only [Bool.and_eq_true, decide_eq_true_eq] at h
    obtain ⟨⟨⟨⟨⟨⟨⟨⟨⟨⟨⟨h1, h1'⟩, h2⟩, h2'⟩, h3⟩, h4⟩, h4'⟩, h5⟩, h6⟩, h7⟩, h8⟩, h9⟩ := h
    subst h1 h1'
    refine PE.imp (pe_lc2 (tt := tT X.K nm ex W0 (sem (ioOf fs) Φ c).tst) (wi1 := tI X.K nm ex W0 (sem (ioOf fs) Φ it2).itr) (tt1 := tT X.K nm ex W0 (sem (ioOf fs) Φ c2).tst) (te := tE X.K nm ex W0 (sem (ioOf fs) Φ el).val) (vs1 := tg2.slots) S.calm S.nod (gi.itr _ _ h3) (blkOk_by h5) (fun i hi => by rw [ownOf_snd]; exact List.mem_append_right _ hi) (fun s H C cl fp => pg_blk S.calm S.nod h4) (fun s H C cl fp => (gc _ _ (S.blk s H sc1 (compEnvC sc1 cl C X.env) fp)).ifs _ h6)
      (fun s H C cl fp => (gi2 _ _ (S.blk s H sc1 (compEnvC sc1 cl C X.env) fp)).itr _ _ h7) (fun s H C cl fp => pg_blk S.calm S.nod h4') (fun s H C cl fp => (gc2 _ _ (S.blk s H sc1 (compEnvC sc1 cl C X.env) fp)).ifs _ h8) (fun s H C cl fp => (ge _ _ (S.blk s H sc1 (compEnvC sc1 cl C X.env) fp)).one _ h9) (set_ok h2) (fun env => set_ok h2')) fun σ H Q q => ?_
    rw [ownOf_snd]
    exact t_lc2 (fun i hi => List.mem_append_left _ hi) (fun i hi => hi) q
  · cases h
end
end Pv

set_option Elab.async false
set_option linter.all false
set_option maxRecDepth 100000
set_option maxHeartbeats 8000000
set_option autoImplicit false
/-! Pv, part S: sets of ints, made and looked at at once. -/
namespace Pv
open PySem PySem.Spec PyProof.Rows L2
section
variable {P : Program} {w : World} {A : Around} {E : Value → Shared → Prop} {s : Shared}
/-- set(xs), xs a tuple of tuples of ints -/
theorem set_tupT {l : Addr} {items : Array Value} (ks : List (Addr × List Int)) {Q : Value → Shared → Prop} (hh : A.handled = none) (hl : s.heap.IsTuple l items) (hit : items.toList = ks.map fun p => Value.ref p.1) (hk : ∀ p ∈ ks, IsT P w s.heap p.2 p.1) (hfew : ks.length < 64) (hu : A.units + 3 < cLine)
    (h : ∀ (h' : Heap) (tk : Nat) L es ep t, SetTR P w h' s.heap.objs.size L es ep t → Got ks ks.length L → (∀ b o, s.heap.get? b = some o → h'.get? b = some o) → Q (.ref s.heap.objs.size) { s with heap := h', toks := tk }) :
    wpAny (model P w) A (call (.type "set") [.ref l]) Q E s := by
  have hn : items.size = ks.length := by rw [← Array.length_toList, hit, List.length_map]
  obtain ⟨c, tl, hmro⟩ := F.called_set.mro
  have m1 := F.called_set.made
  have m2 := F.called_set.sub
  refine wpAny_call (codeAny_of_tree ?_)
  show wpAny _ _ (callAny (.type "set") _) _ _ _
  refine wpAny_pure ⟨Code.quiet_builtin _ (by decide +kernel), codeAny_builtin F.entry_type_call ?_⟩
  rw [Around.under_plain (weight_type_call_type "set" [.ref l] []) rfl]
  have m3 := F.called_set.notType
  have m4 := F.called_set.canCreate
  have m5 := F.typeCall_set_1 (.ref l)
  repeat (any_goals (first | assumption | wp_step))
  refine codeAny_mono (code_set_led1 (.ref l) (E := E) (Q₁ := fun v s₁ => v = .ref s.heap.objs.size ∧ s₁ = { s with heap := s.heap.push (set0 w) }) ⟨rfl, rfl⟩) fun r s₁ hr => ?_
  cases r with
  | error e => exact hr
  | ok fl =>
    cases fl with
    | ret v =>
      obtain ⟨rfl, rfl⟩ := hr
      have at0 : (s.heap.push (set0 w)).get? s.heap.objs.size = some (set0 w) := Heap.get?_push_size _ rfl
      have ty0 : Shared.TypeIs { s with heap := s.heap.push (set0 w) } (.ref s.heap.objs.size) "set" := ⟨_, at0, rfl⟩
      have i1 := F.called_set.init.lookup
      have i2 := F.called_set.init.bind (.ref s.heap.objs.size)
      repeat (any_goals (first | assumption | wp_step))
      refine codeAny_mono (codeAny_call_builtin (R := wants (fun r s₂ => r = .none ∧ ∃ h' tk L es ep t, s₂ = { s with heap := h', toks := tk } ∧ SetTR P w h' s.heap.objs.size L es ep t ∧ Got ks ks.length L ∧
          (∀ b o, s.heap.get? b = some o → h'.get? b = some o)) E) F.called_set.init.plain F.entry_set_init (check_set_init_1 ty0 ?_)) fun r₂ s₂ hr₂ => ?_
      · obtain ⟨⟨cl, dc, dt, sl⟩, hol, e1, nl, e2⟩ := hl
        simp only at e1 e2
        subst e1; subst e2
        have hol' : (s.heap.push (set0 w)).get? l = some { cls := .type "tuple", dict := dc, data := .seq items nl, slots := sl } := Heap.get?_push_of_some _ hol
        have s1 := F.sub_tuple_set
        have s2 := F.sub_tuple_frozenset
        have ne1 : (Value.type "tuple" == Value.type "dict") = false := by decide
        have il : (s.heap.push (set0 w)).IsTuple l items := ⟨_, hol', rfl, nl, rfl⟩
        unfold Builtin.«set.__init__» noKeywords Builtin.Frozenset.updateFrom
        generalize hPI : pyIter = PI
        wp_walk
        subst hPI
        refine wpAny_pyIter_tuple il ?_
        refine wpAny_bind (wpAny_runValue ?_)
        have hlS : l < s.heap.objs.size := Heap.lt_size hol
        have hh3 : A.in1.in1.in1.handled = none := by simp [hh]
        have neI : l ≠ (s.heap.push (set0 w)).objs.size := by
          rw [Heap.size_push]; exact Nat.ne_of_lt (Nat.lt_succ_of_lt hlS)
        have notIn : s.heap.objs.size ∉ [(s.heap.push (set0 w)).objs.size, l] := by
          rw [Heap.size_push, List.mem_cons, List.mem_singleton, not_or]; exact ⟨Nat.ne_of_lt (Nat.lt_succ_self _), Nat.ne_of_gt hlS⟩
        have val : ∀ (i : Nat) (v : Value), items[i]? = some v → ∃ p, ks[i]? = some p ∧ v = .ref p.1 := fun i v hv => by
          have q : items.toList[i]? = some v := by rw [Array.getElem?_toList]; exact hv
          rw [hit, List.getElem?_map] at q
          obtain ⟨p, hp, e⟩ := Option.map_eq_some_iff.mp q
          exact ⟨p, hp, e.symm⟩
        have gone : ∀ b, s.heap.objs.size ≤ b → s.heap.get? b = none := fun b hb => Heap.get?_none_of_le hb
        refine set_update_tups ((Walks.tuple hh3 _ l neI items).toS) s.heap.objs.size notIn ks hn hfew val s.heap hk (gone _ (Nat.le_refl _)) (fun b hb => gone b (by rw [List.mem_singleton.mp hb, Heap.size_push]; exact Nat.le_succ _)) hu
          (items.size - 0) 0 _ (by omega) (Nat.zero_le _) ⟨⟨_, Heap.get?_push_size _ rfl, rfl, rfl⟩, (il.push _)⟩ (fun b o e => Heap.get?_push_of_some _ (Heap.get?_push_of_some _ e)) ?h0 ?hR
        case h0 => exact ⟨[], #[], 0, _, setTR_fresh (Heap.get?_push_of_some _ at0), Got.zero ks⟩
        case hR =>
          intro s' L es ep t hm hS' g' hkp
          obtain ⟨h', g2, d', tk', os'⟩ := s'
          obtain rfl : g2 = s.gens := hm.gens
          obtain rfl : d' = s.drawn := hm.drawn
          obtain rfl : os' = s.os := hm.os
          show wpAny _ _ _ _ _ _
          refine wpAny_pure ?_
          show wpAny _ _ (ret Value.none) _ _ _
          rw [hn] at g'
          exact wpAny_pure ⟨rfl, h', tk', L, es, ep, t, rfl, hS', g', hkp⟩
      · cases r₂ with
        | error e => exact hr₂
        | ok fl₂ =>
          cases fl₂ with
          | ret r =>
            obtain ⟨rfl, h', tk, L, es, ep, t, rfl, hS', g', hk'⟩ := hr₂
            repeat (any_goals (first | assumption | wp_step))
            exact h _ _ _ _ _ _ hS' g' hk'
          | _ => exact hr₂.elim
    | _ => exact hr.elim
end
end Pv

set_option Elab.async false
set_option linter.all false
set_option maxRecDepth 100000
set_option maxHeartbeats 8000000
set_option autoImplicit false
/-! Pv, part S: sets of ints, made and looked at at once. -/
namespace Pv
open PySem PySem.Spec PyProof.Rows L2 RT RZ
/-! ### the order of rows of ints -/
theorem lex_code {B : Int} : ∀ {a b : List Int}, a.length = b.length → TS.Bd B a → TS.Bd B b → HT.lexLt a b = true → TS.code B a < TS.code B b
  | [], [], _, _, _, h => by cases h
  | [], _ :: _, h, _, _, _ => by cases h
  | _ :: _, [], h, _, _, _ => by cases h
  | x :: xs, y :: ys, hl, ha, hb, h => by
    have hl' : xs.length = ys.length := by simpa using hl
    rw [HT.lexLt_cons] at h
    by_cases e : x = y
    · rw [if_pos e] at h
      subst e
      have ih := lex_code hl' ha.tail hb.tail h
      show x * B ^ xs.length + TS.code B xs < x * B ^ ys.length + TS.code B ys
      rw [hl']
      omega
    · rw [if_neg e] at h
      exact TS.code_lt hl' ha.tail hb.tail (of_decide_eq_true h)
theorem lex_tri : ∀ {a b : List Int}, a.length = b.length → HT.lexLt a b = true ∨ a = b ∨ HT.lexLt b a = true
  | [], [], _ => .inr (.inl rfl)
  | [], _ :: _, h => by cases h
  | _ :: _, [], h => by cases h
  | x :: xs, y :: ys, hl => by
    have hl' : xs.length = ys.length := by simpa using hl
    rw [HT.lexLt_cons, HT.lexLt_cons]
    by_cases e : x = y
    · subst e
      rw [if_pos rfl, if_pos rfl]
      rcases lex_tri hl' with h | h | h
      · exact .inl h
      · exact .inr (.inl (by rw [h]))
      · exact .inr (.inr h)
    · rw [if_neg e, if_neg (Ne.symm e)]
      rcases Int.lt_or_gt_of_ne e with h | h
      · exact .inl (decide_eq_true h)
      · exact .inr (.inr (decide_eq_true h))
theorem lex_trans : ∀ {a b c : List Int}, HT.lexLt a b = true → HT.lexLt b c = true → HT.lexLt a c = true
  | [], [], _, h, _ => by cases h
  | [], _ :: _, [], _, h => by cases h
  | [], _ :: _, _ :: _, _, _ => rfl
  | _ :: _, [], _, h, _ => by cases h
  | _ :: _, _ :: _, [], _, h => by cases h
  | x :: xs, y :: ys, z :: zs, h1, h2 => by
    rw [HT.lexLt_cons] at h1 h2 ⊢
    by_cases e1 : x = y
    · subst e1
      rw [if_pos rfl] at h1
      by_cases e2 : x = z
      · subst e2
        rw [if_pos rfl] at h2 ⊢
        exact lex_trans h1 h2
      · rw [if_neg e2] at h2 ⊢
        exact h2
    · rw [if_neg e1] at h1
      have l1 := of_decide_eq_true h1
      by_cases e2 : y = z
      · subst e2
        rw [if_neg e1]
        exact decide_eq_true l1
      · rw [if_neg e2] at h2
        have l2 := of_decide_eq_true h2
        rw [if_neg (by omega)]
        exact decide_eq_true (by omega)
theorem mem_insTs {x y : List Int} : ∀ {l : List (List Int)}, y ∈ insTs x l ↔ y = x ∨ y ∈ l
  | [] => by simp [insTs]
  | z :: r => by
    unfold insTs
    split
    · simp
    · split
      · rename_i h; subst h; simp
      · rw [List.mem_cons, mem_insTs (l := r), List.mem_cons]
        constructor
        · rintro (h | h | h) <;> simp [h]
        · rintro (h | h | h) <;> simp [h]
theorem mem_setTs {y : List Int} : ∀ {l : List (List Int)}, y ∈ setTs l ↔ y ∈ l
  | [] => Iff.rfl
  | x :: r => by
    show y ∈ insTs x (setTs r) ↔ _
    rw [mem_insTs, mem_setTs (l := r), List.mem_cons]
theorem insTs_pw {n : Nat} {x : List Int} (hx : x.length = n) : ∀ {l : List (List Int)}, (∀ y ∈ l, y.length = n) → l.Pairwise (fun a b => HT.lexLt a b = true) → (insTs x l).Pairwise (fun a b => HT.lexLt a b = true)
  | [], _, _ => by simp [insTs]
  | z :: r, hl, h => by
    obtain ⟨h1, h2⟩ := List.pairwise_cons.mp h
    unfold insTs
    split
    · rename_i hlt
      exact List.pairwise_cons.mpr ⟨fun y hy => by
        rcases List.mem_cons.mp hy with rfl | hy
        · exact hlt
        · exact lex_trans hlt (h1 y hy), h⟩
    · rename_i hlt
      split
      · exact h
      · rename_i hne
        refine List.pairwise_cons.mpr ⟨fun y hy => ?_, insTs_pw hx (fun y hy => hl y (.tail _ hy)) h2⟩
        rcases mem_insTs.mp hy with rfl | hy
        · rcases lex_tri (a := y) (b := z) (by rw [hx, hl z (.head _)]) with h | h | h
          · exact absurd h hlt
          · exact absurd h hne
          · exact h
        · exact h1 y hy
theorem setTs_pw {n : Nat} : ∀ {l : List (List Int)}, (∀ y ∈ l, y.length = n) → (setTs l).Pairwise (fun a b => HT.lexLt a b = true)
  | [], _ => .nil
  | x :: r, h => insTs_pw (n := n) (h x (.head _)) (fun y hy => h y (.tail _ (mem_setTs.mp hy))) (setTs_pw fun y hy => h y (.tail _ hy))
theorem map_inj_on {α β : Type} {f : α → β} : ∀ {l m : List α}, (∀ a ∈ l, ∀ b ∈ m, f a = f b → a = b) → l.map f = m.map f → l = m
  | [], [], _, _ => rfl
  | [], _ :: _, _, h => by cases h
  | _ :: _, [], _, h => by cases h
  | a :: l, b :: m, i, h => by
    rw [List.map_cons, List.map_cons] at h
    injection h with h1 h2
    rw [i a (.head _) b (.head _) h1, map_inj_on (fun a ha b hb => i a (.tail _ ha) b (.tail _ hb)) h2]
/-- the rows, sorted, none twice: one list -/
theorem rows_unique {n : Nat} {B : Int} {ts l : List (List Int)} (hn : ∀ t ∈ ts, t.length = n ∧ TS.Bd B t) (hm : ∀ t, t ∈ l ↔ t ∈ ts) (hd : l.Nodup) (hs : l.Pairwise fun a b => TS.code B a ≤ TS.code B b) : l = setTs ts := by
  have inj : ∀ a, a ∈ ts → ∀ b, b ∈ ts → TS.code B a = TS.code B b → a = b := fun a ha b hb e => by
    obtain ⟨a1, a2⟩ := hn a ha
    obtain ⟨b1, b2⟩ := hn b hb
    rcases lex_tri (a := a) (b := b) (by omega) with h | h | h
    · have := lex_code (by omega) a2 b2 h; omega
    · exact h
    · have := lex_code (by omega) b2 a2 h; omega
  refine map_inj_on (f := TS.code B) (fun a ha b hb e => inj a ((hm a).mp ha) b (mem_setTs.mp hb) e) (asc_eq ?_ ?_ fun k => ?_)
  · refine List.pairwise_map.mpr (List.Pairwise.imp_of_mem (fun {a b} ha hb h => ?_) (hd.and hs))
    rcases Int.lt_or_eq_of_le h.2 with h' | h'
    · exact h'
    · exact absurd (inj a ((hm a).mp ha) b ((hm b).mp hb) h') h.1
  · refine List.pairwise_map.mpr (List.Pairwise.imp_of_mem (fun {a b} ha hb h => ?_) (setTs_pw (n := n) fun t ht => (hn t ht).1))
    obtain ⟨a1, a2⟩ := hn a (mem_setTs.mp ha)
    obtain ⟨b1, b2⟩ := hn b (mem_setTs.mp hb)
    exact lex_code (by omega) a2 b2 h
  · rw [List.mem_map, List.mem_map]
    constructor
    · rintro ⟨a, ha, e⟩; exact ⟨a, mem_setTs.mpr ((hm a).mp ha), e⟩
    · rintro ⟨a, ha, e⟩; exact ⟨a, (hm a).mpr (mem_setTs.mp ha), e⟩
section
variable {X : Cx} {nm : Nat → Option Addr}
/-- sorted(set(x)), ints -/
theorem ss_ints {pins : List (Addr × Obj)} {σ : L2.St} {H : Hp} {s : Shared} {x : V} {v : Value} {Q : VK} (hc : X.calm = true) (I : Inv X pins σ H s) (rx : RelV x v) (h : rSortedset X.K nm x H Q) :
    wpAny (model X.prog X.w) X.A (call (.type "set") [v]) (fun u s' => wpAny (model X.prog X.w) X.A (call (.builtin "sorted") [u]) (EP X pins σ Q) X.xe s') X.xe s := by
  obtain ⟨F, d, r, sF, l, e, q1⟩ := h
  unfold bSortedset at e
  obtain ⟨ns, e1, e2⟩ := Option.bind_eq_some_iff.mp e
  obtain ⟨xs, e3, e4⟩ := Option.bind_eq_some_iff.mp e1
  split at e2
  · rename_i hz
    cases e2
    refine set_any hc I sF l rx e3 e4 (by unfold scanBound; omega) fun h' tk c R k => ?_
    have hcn : c = (setI ns).length := by
      obtain ⟨o, es, ep, t, ho, hex, hd, g, nd, hmem, hb, hf, hn, hr, hl⟩ := R
      have := same_length nd (setI_nodup ns) (fun j => by rw [← hmem j, mem_setI]; simp)
      rw [List.length_map, Array.length_toList, hn] at this
      exact this
    have lt64 : ∀ m : List Int, (setI m).length ≤ m.length := by
      intro m
      induction m with
      | nil => exact Nat.le_refl _
      | cons y m ih =>
        have : ∀ (z : Int) (l : List Int), (insI z l).length ≤ l.length + 1 := by
          intro z l
          induction l with
          | nil => simp [insI]
          | cons w l ih2 =>
            unfold insI
            split
            · simp
            · split
              · simp
              · simpa using ih2
        exact Nat.le_trans (this y (setI m)) (Nat.succ_le_succ ih)
    have I2 : Inv X pins σ H { s with heap := h', toks := tk } := I.kept k
    refine sorted_set R (I.ok.hd hc) (by have := lt64 ns; omega) fun s' p out c2 ms k2 g o hp hg3 hi hs hmem hl => ?_
    have em : ms = setI ns := setI_unique hs fun j => by rw [hmem j]; simp
    subst em
    have hlen : ((setI ns).map V.int).length ≤ sizeLine := by rw [List.length_map, sizeLine_eq]; have := lt64 ns; omega
    have hn : H p = none := I2.hok.fresh hp
    have J : Inv X pins σ (upd H p (.lst ((setI ns).map V.int))) { ({ s with heap := h', toks := tk } : Shared) with heap := s'.heap, gens := s'.gens, drawn := s'.drawn, toks := s'.toks } :=
      I2.call (ch := []) (Un.laid k2 hp hn) (I2.hok.laid k2 hp ⟨hlen, out.toList, c2, vals_of_ints hi, hg3⟩) (by rw [g]; exact I2.bare) (fun _ z => nomatch z)
    have e : s' = { ({ s with heap := h', toks := tk } : Shared) with heap := s'.heap, gens := s'.gens, drawn := s'.drawn, toks := s'.toks } := by
      cases s'
      cases o
      rfl
    rw [e]
    exact ⟨.ref p, _, J, rfl, q1 _ _ (.lst hn hlen (Reps.ofInts _))⟩
  · cases e2
theorem Reps.tups {K : PySem.W.Frag} {F : Hp} : ∀ {vs : List V} {xs : List D} {ts : List (List Int)}, Reps K nm F vs xs → tupsOf xs = some ts → ∃ ks : List (Addr × List Int), vs = ks.map (fun p => V.ref p.1) ∧ ks.map (·.2) = ts ∧ ∀ p ∈ ks, TupF F p.1 (p.2.map V.int) ∧ p.2.length ≤ sizeLine
  | _, [], ts, r, e => by
    cases r
    simp [tupsOf] at e
    subst e
    exact ⟨[], rfl, rfl, fun _ h => nomatch h⟩
  | _, d :: xs, ts, r, e => by
    cases r with
    | @cons v _ vs _ h r =>
      cases d <;> simp only [tupsOf] at e <;> first | (cases e; done) | skip
      rename_i a
      split at e
      · rename_i m ms e1 e2
        cases e
        cases h with
        | @tup p us _ hp lp rp =>
          cases rp.ints e1
          obtain ⟨ks, k1, k2, k3⟩ := Reps.tups r e2
          refine ⟨(p, m) :: ks, by rw [k1]; rfl, by rw [List.map_cons, k2], fun q hq => ?_⟩
          rcases List.mem_cons.mp hq with rfl | hq
          · exact ⟨hp, by simpa using lp⟩
          · exact k3 q hq
      · cases e
/-- sorted(set(x)), tuples of ints -/
theorem ss_tups {pins : List (Addr × Obj)} {σ : L2.St} {H F : Hp} {s : Shared} {x : V} {v : Value} {d : D} {xs : List D} {ts : List (List Int)} {Q : VK} (hc : X.calm = true) (hu : X.A.units + 64 < cLine) (I : Inv X pins σ H s) (rx : RelV x v) (sF : Same F H) (l : Lk X.K nm F H x d) (e1 : d.seq = some xs) (e2 : tupsOf xs = some ts) (ok : setOk ts = true)
    (q : ∀ v H', Rz X.K nm F H ⟨.lst ((setTs ts).map fun t => D.tup (t.map D.int)), .f⟩ v H' → Q v H') :
    wpAny (model X.prog X.w) X.A (call (.type "set") [v]) (fun u s' => wpAny (model X.prog X.w) X.A (call (.builtin "sorted") [u]) (EP X pins σ Q) X.xe s') X.xe s := by
  unfold setOk at ok
  simp only [Bool.and_eq_true, decide_eq_true_eq, List.all_eq_true] at ok
  obtain ⟨⟨hlen, hsame⟩, hbd⟩ := ok
  obtain ⟨n, hn1, hn⟩ : ∃ n, 1 ≤ n ∧ ∀ t ∈ ts, t.length = n := by
    cases ts with
    | nil => exact ⟨1, Nat.le_refl _, fun _ h => nomatch h⟩
    | cons t r =>
      simp only [Bool.and_eq_true, decide_eq_true_eq, List.all_eq_true] at hsame
      exact ⟨t.length, hsame.1, hsame.2⟩
  have hB : ∀ t ∈ ts, t.length = n ∧ TS.Bd (2 ^ 62) t := fun t ht => ⟨hn t ht, fun m hm => hbd t ht m hm⟩
  have fin : ∀ (ks : List (Addr × List Int)), ks.map (·.2) = ts → (∀ p ∈ ks, TupF F p.1 (p.2.map V.int) ∧ p.2.length ≤ sizeLine) → ∀ (h' : Heap) (tk : Nat) L es ep t, SetTR X.prog X.w h' s.heap.objs.size L es ep t → Got ks ks.length L → (∀ b o, s.heap.get? b = some o → h'.get? b = some o) →
      wpAny (model X.prog X.w) X.A (call (.builtin "sorted") [.ref s.heap.objs.size]) (EP X pins σ Q) X.xe { s with heap := h', toks := tk } := fun ks k2 k3 h' tk L es ep t R g kp => by
    have hL : ∀ p ∈ L, p ∈ ks := fun p hp => by have := g.sub p hp; rwa [List.take_length] at this
    have hts : ∀ p ∈ ks, p.2 ∈ ts := fun p hp => by rw [← k2]; exact List.mem_map.mpr ⟨p, hp, rfl⟩
    have I2 : Inv X pins σ H { s with heap := h', toks := tk } := I.kept kp
    refine sorted_setT R (I.ok.hd hc) hn1 (B := 2 ^ 62) (fun p hp => hB p.2 (hts p (hL p hp))) fun s' p out c L' k g' o' hp hg hout pm pw => ?_
    have hfew : L'.length < 64 := by rw [pm.length_eq]; exact R.few
    have hz : (L'.map fun q => V.ref q.1).length ≤ sizeLine := by rw [List.length_map, sizeLine_eq]; omega
    have hn' : H p = none := I2.hok.fresh hp
    have hv : Vals (L'.map fun q => V.ref q.1) out.toList := by rw [hout]; exact vals_of_refs L'
    have J : Inv X pins σ (upd H p (.lst (L'.map fun q => V.ref q.1))) { ({ s with heap := h', toks := tk } : Shared) with heap := s'.heap, gens := s'.gens, drawn := s'.drawn, toks := s'.toks } :=
      I2.call (ch := []) (Un.laid k hp hn') (I2.hok.laid k hp ⟨hz, out.toList, c, hv, hg⟩) (by rw [g']; exact I2.bare) (fun _ z => nomatch z)
    have e : s' = { ({ s with heap := h', toks := tk } : Shared) with heap := s'.heap, gens := s'.gens, drawn := s'.drawn, toks := s'.toks } := by
      cases s'
      cases o'
      rfl
    rw [e]
    have hnd : (L'.map (·.2)).Nodup := (pm.map (·.2)).nodup_iff.mpr R.nd
    have emap : L'.map (·.2) = setTs ts := rows_unique hB (fun t => by
      rw [(pm.map (·.2)).mem_iff]
      constructor
      · intro h
        obtain ⟨p, hp, rfl⟩ := List.mem_map.mp h
        exact hts p (hL p hp)
      · intro h
        rw [← k2] at h
        obtain ⟨p, hp, rfl⟩ := List.mem_map.mp h
        exact g.all p (by rw [List.take_length]; exact hp)) hnd (List.pairwise_map.mpr pw)
    refine ⟨.ref p, _, J, rfl, q _ _ ?_⟩
    rw [← emap, List.map_map]
    have hL' : ∀ q ∈ L', q ∈ ks := fun q hq => hL q (pm.mem_iff.mp hq)
    have reps : ∀ l : List (Addr × List Int), (∀ q ∈ l, q ∈ ks) → Reps X.K nm F (l.map fun q => V.ref q.1) (l.map ((fun t => D.tup (t.map D.int)) ∘ fun q => q.2)) := by
      intro l
      induction l with
      | nil => intro _; exact .nil
      | cons q r ih =>
        intro h
        obtain ⟨t1, t2⟩ := k3 q (h q (.head _))
        exact .cons (.tup t1 (by rw [List.length_map]; exact t2) (Reps.ofInts q.2)) (ih fun q hq => h q (.tail _ hq))
    exact .lst hn' hz (reps L' hL')
  cases d <;> simp only [D.seq] at e1 <;> first | (cases e1; done) | skip
  · cases e1
    obtain ⟨p, vs, rfl, hp, lp, rp⟩ := l.tup sF
    obtain rfl : v = Value.ref p := rx
    obtain ⟨its, r1, pl, hz⟩ := I.tuple (hp.sq sF)
    obtain ⟨ks, k1, k2, k3⟩ := rp.tups e2
    subst k1
    have hkl : ks.length < 64 := by rw [← List.length_map (f := (·.2)) (as := ks), k2]; exact hlen
    exact set_tupT ks (I.ok.hd hc) pl (by simpa using refs_of_vals r1) (fun p hp => I.isT ((k3 p hp).1.sq sF)) hkl (by omega) (fin ks k2 k3)
  · cases e1
    obtain ⟨p, vs, rfl, hp, lp, rp⟩ := l.lst sF
    obtain rfl : v = Value.ref p := rx
    obtain ⟨its, r1, pl, hz⟩ := I.list (SqL.of hp)
    obtain ⟨ks, k1, k2, k3⟩ := rp.tups e2
    subst k1
    have hkl : ks.length < 64 := by rw [← List.length_map (f := (·.2)) (as := ks), k2]; exact hlen
    exact call_set_tups ks (I.ok.hd hc) pl.isList (by simpa using refs_of_vals r1) (fun p hp => I.isT ((k3 p hp).1.sq sF)) hkl (by omega) (fin ks k2 k3)
theorem pe_sset {a : Expr} {ta : TE} {p p2 q pos : Pos} (hc : X.calm = true) (hu : X.A.units + 64 < cLine) (hg : Gl X "sorted") (hm : X.mg "sorted" = none) (hg2 : Gl X "set") (hm2 : X.mg "set" = none) (ha : PE X a ta)
    (na : starEach [a] X.env = (false, eval a X.env) :: starEach [] X.env) : PE X (.Call (.Name "sorted" p) [.Call (.Name "set" p2) [a] [] q] [] pos) (fun σ H Q => ta σ H fun x H1 => r1G X.K nm bSset x H1 Q) := by
  refine ⟨fun pins s σ H Q I h => ?_⟩
  refine Call_ (ld_blt I hg hm (by decide +kernel : bootBuiltins "sorted" = some (.builtin "sorted")) (PyProof.Rows.callWith_builtin1 (PyProof.Rows.args_cons ?_ rfl) rfl rfl))
  refine Call_ (ld_blt I hg2 hm2 PyProof.Rows.boot_set (PyProof.Rows.callWith_type1 (PyProof.Rows.args_cons (thn (ha.run pins s σ H _ I h) fun v s1 ⟨x, H1, I1, r1, F, d, r, sF, l, e, q1⟩ => PyProof.Rows.args_nil ?_) na) na rfl))
  unfold bSset at e
  split at e
  · rename_i r' er
    cases e
    exact thn (ss_ints (nm := nm) hc I1 r1 ⟨F, d, _, sF, l, er, q1⟩) fun u s2 w => PyProof.Rows.args_nil w
  · obtain ⟨ts, e1, e2⟩ := Option.bind_eq_some_iff.mp e
    obtain ⟨xs, e3, e4⟩ := Option.bind_eq_some_iff.mp e1
    split at e2
    · rename_i ok
      cases e2
      exact thn (ss_tups hc hu I1 r1 sF l e3 e4 ok q1) fun u s2 w => PyProof.Rows.args_nil w
    · cases e2
end
section
variable {fs : List FnI} {cs : List (Str × Int)} {k : Nat} {nm : Nat → Option Addr} {ex : Nat → Value} {Φ : Nat → Fn} {X : Cx} {W : WX} (S : Std fs cs k nm ex Φ X W)
include S
theorem g_sset {a : E} (ga : GoodAt fs cs nm ex Φ X W a) : GoodAt fs cs nm ex Φ X W (.sset a) := .of rfl rfl fun x h => by
  split at h
  · simp only [Bool.and_eq_true, decide_eq_true_eq] at h
    obtain ⟨⟨⟨⟨⟨h1, h2⟩, h3⟩, h4⟩, h5⟩, h6⟩ := h
    subst h1 h2
    exact PE.imp (pe_sset S.calm (by have := S.u65; omega) (gl_ok h3) (S.blt _ (by decide +kernel)) (gl_ok h4) (S.blt _ (by decide +kernel)) (ga.one _ h6) (star_ok h5)) fun σ H Q q => t_un q
  · cases h
end
theorem no_one {fs : List FnI} {cs : List (Str × Int)} {nm : Nat → Option Addr} {ex : Nat → Value} {Φ : Nat → Fn} {X : Cx} {W : WX} {e : E} {m : M R} (hs : sem (ioOf fs) Φ e = .of m) (hc : chk fs cs X.N e X.env.scope = .of no1) : GoodAt fs cs nm ex Φ X W e := .of hs hc fun x h => nomatch h
/-- each term's text does what the term computes -/
theorem good {fs : List FnI} {cs : List (Str × Int)} {k : Nat} {nm : Nat → Option Addr} {ex : Nat → Value} {Φ : Nat → Fn} (e : E) : ∀ (X : Cx) (W : WX), Std fs cs k nm ex Φ X W → GoodAt fs cs nm ex Φ X W e := by
  induction e with
  | nm i => exact fun X W S => g_nm S i
  | lit a => exact fun X W S => g_lit S a
  | gi y v => exact fun X W S => g_gi S y v
  | gf g => exact fun X W S => g_gf S g
  | op o a b ha hb => exact fun X W S => g_op S o (ha X W S) (hb X W S)
  | neg a ha => exact fun X W S => g_neg S (ha X W S)
  | isn n a ha => exact fun X W S => g_isn S n (ha X W S)
  | chain o p a b c ha hb hc => exact fun X W S => g_chain S o p (ha X W S) (hb X W S) (hc X W S)
  | and a b ha hb => exact fun X W S => g_and S (ha X W S) (hb X W S)
  | or a b ha hb => exact fun X W S => g_or S (ha X W S) (hb X W S)
  | bo1 a ha => exact fun X W S => g_bo1 S (ha X W S)
  | not a ha => exact fun X W S => g_not S (ha X W S)
  | ort a b ha hb => exact fun X W S => g_ort S (ha X W S) (hb X W S)
  | ife c a b hc ha hb => exact fun X W S => g_ife S (hc X W S) (ha X W S) (hb X W S)
  | tup es he => exact fun X W S => g_tup S (he X W S)
  | lst es he => exact fun X W S => g_lst S (he X W S)
  | ix a i ha hi => exact fun X W S => g_ix S (ha X W S) (hi X W S)
  | sl a lo hi ha hl hh => exact fun X W S => g_sl S (ha X W S) (hl X W S) (hh X W S)
  | no => exact fun X W S => g_no S
  | bi b es he => exact fun X W S => g_bi S b (he X W S)
  | isi a ts many ha => exact fun X W S => g_isi S (ha X W S)
  | call g es he => exact fun X W S => g_call S g (he X W S)
  | callk g es ks kes he hk => exact fun X W S => no_one rfl rfl
  | callv i es he => exact fun X W S => g_callv S i (he X W S)
  | idx a b ha hb => exact fun X W S => g_idx S (ha X W S) (hb X W S)
  | cnt a b ha hb => exact fun X W S => no_one rfl rfl
  | app i a ha => exact fun X W S => g_app S i (ha X W S)
  | ext i a ha => exact fun X W S => g_ext S i (ha X W S)
  | pop i => exact fun X W S => g_pop S i
  | popi i a ha => exact fun X W S => g_popi S i (ha X W S)
  | rem i a ha => exact fun X W S => no_one rfl rfl
  | dnew => exact fun X W S => g_dnew S
  | disp a b ha hb => exact fun X W S => g_disp S (ha X W S) (hb X W S)
  | lset a ha => exact fun X W S => g_lset S (ha X W S)
  | sset a ha => exact fun X W S => g_sset S (ha X W S)
  | rng1 a ha => exact fun X W S => g_rng1 S (ha X W S)
  | rng2 a b ha hb => exact fun X W S => g_rng2 S (ha X W S) (hb X W S)
  | lrng1 a ha => exact fun X W S => g_lrng1 S (ha X W S)
  | lrng2 a b ha hb => exact fun X W S => g_lrng2 S (ha X W S) (hb X W S)
  | enum a ha => exact fun X W S => g_enum S (ha X W S)
  | zip a b ha hb => exact fun X W S => g_zip S (ha X W S) (hb X W S)
  | rev a ha => exact fun X W S => g_rev S (ha X W S)
  | lc tg it c el hi hc he => exact fun X W S => g_lc S tg (hi X W S) hc he
  | lc2 tg it c tg2 it2 c2 el hi hc hi2 hc2 he => exact fun X W S => g_lc2 S tg tg2 (hi X W S) hc hi2 hc2 he
  | nil => exact fun X W S => g_nil S
  | cons a b ha hb => exact fun X W S => g_cons S (ha X W S) (hb X W S)
end Pv

set_option Elab.async false
set_option linter.all false
set_option maxRecDepth 100000
set_option maxHeartbeats 4000000
set_option autoImplicit false
/-! Pv, part U: readings of statements. -/
namespace Pv
open PySem PySem.Spec PyProof.Rows L2 RT RZ
section
variable (K : PySem.W.Frag) (nm : Nat → Option Addr) (ex : Nat → Value) (W : WX) (pin : L2.St → Prop)
/-- what is to stand behind a statement -/
def PoS (F0 G F : Hp) (o : Out Fl × Env) (D : Ends) : Prop := match o with
  | (.ok .nx, ρ') => ∀ F' σ' H', SR K nm F0 G F' ρ' σ' H' → Same F F' → pin σ' → D.nx σ' H'
  | (.ok .bk, ρ') => ∀ F' σ' H', SR K nm F0 G F' ρ' σ' H' → Same F F' → pin σ' → D.bk σ' H'
  | (.ok .ct, ρ') => ∀ F' σ' H', SR K nm F0 G F' ρ' σ' H' → Same F F' → pin σ' → D.ct σ' H'
  | (.ok (.rt d fr), ρ') => ∀ F' σ' H' v, SR K nm F0 G F' ρ' σ' H' → Same F F' → pin σ' → RR K nm F' G H' ρ' σ' ⟨d, if fr then .f else .z⟩ v → D.rt v H'
  | (.exc n, ρ') => ∀ F' σ' H', SR K nm F0 G F' ρ' σ' H' → Same F F' → pin σ' → W (ex n) none σ' H'
  | (.bad, _) => False
def tS (m : M Fl) : TS := fun D σ H => ∃ F0 G F ρ, SR K nm F0 G F ρ σ H ∧ pin σ ∧ PoS K nm ex W pin F0 G F (m ρ) D
end
section
variable {K : PySem.W.Frag} {nm : Nat → Option Addr} {ex : Nat → Value} {W : WX} {pin : L2.St → Prop} {F0 G F F' H H' : Hp} {ρ : Env} {σ : L2.St} {r q : R} {x v : V} {d : D} {α β : Type} {D : Ends}
theorem PoS.weak {o : Out Fl × Env} (s : Same F F') (h : PoS K nm ex W pin F0 G F o D) : PoS K nm ex W pin F0 G F' o D := by
  obtain ⟨o, ρ'⟩ := o
  cases o with
  | ok f =>
    cases f with
    | nx => exact fun F1 σ1 H1 S s1 => h F1 σ1 H1 S (s.trans s1)
    | bk => exact fun F1 σ1 H1 S s1 => h F1 σ1 H1 S (s.trans s1)
    | ct => exact fun F1 σ1 H1 S s1 => h F1 σ1 H1 S (s.trans s1)
    | rt d fr => exact fun F1 σ1 H1 v S s1 => h F1 σ1 H1 v S (s.trans s1)
  | exc n => exact fun F1 σ1 H1 S s1 => h F1 σ1 H1 S (s.trans s1)
  | bad => exact h
/-- an expression's part ahead -/
theorem PoS.bind {m : M α} {f : α → M Fl} (p : pin σ) (h : PoS K nm ex W pin F0 G F (M.bind m f ρ) D) : Po K nm ex W F0 G F σ (m ρ) fun a ρ' F' H' => PoS K nm ex W pin F0 G F' (f a ρ') D := by
  unfold M.bind at h
  cases e : m ρ with
  | mk o ρ' =>
    rw [e] at h
    cases o with
    | ok a => exact fun F1 H1 S s1 => PoS.weak s1 h
    | exc n => exact fun F1 H1 S s1 => h F1 σ H1 S s1 p
    | bad => exact h
theorem PoS.pk {f : Pv.D → M Fl} (h : PoS K nm ex W pin F0 G F (M.bind (pk r) f ρ) D) : ∃ d, look ρ r = some d ∧ PoS K nm ex W pin F0 G F (f d ρ) D := by
  unfold M.bind Pv.pk at h
  cases e : look ρ r with
  | none => rw [e] at h; exact h.elim
  | some d => rw [e] at h; exact ⟨d, rfl, h⟩
theorem PoS.ofO {o : Option α} {f : α → M Fl} (h : PoS K nm ex W pin F0 G F (M.bind (Pv.ofO o) f ρ) D) : ∃ a, o = some a ∧ PoS K nm ex W pin F0 G F (f a ρ) D := by
  cases o with
  | none => exact h.elim
  | some a => exact ⟨a, rfl, h⟩
/-- a value stands for good from now on -/
theorem PoS.frz {f : Pv.D → M Fl} (S : SR K nm F0 G F ρ σ H) (h : WR K nm F G H ρ σ r v) (P : PoS K nm ex W pin F0 G F (M.bind (frz r) f ρ) D) :
    ∃ F1 ρ1 d, SR K nm F0 G F1 ρ1 σ H ∧ Same F F1 ∧ Rep K nm F1 v d ∧ (∀ q y, WR K nm F G H ρ σ q y → WR K nm F1 G H ρ1 σ q y) ∧ PoS K nm ex W pin F0 G F1 (f d ρ1) D := by
  cases e : Pv.frz r ρ with
  | mk o ρ1 =>
    have P' : Po K nm ex W0 F0 G F σ (M.bind (Pv.frz r) (fun d => M.pure d) ρ) (fun _ _ _ _ => True) := by
      unfold M.bind at P ⊢
      rw [e] at P ⊢
      cases o with
      | ok d => exact fun _ _ _ _ => trivial
      | exc n =>
        exfalso
        -- a freeze lets nothing out
        obtain ⟨rd, kd⟩ := r
        cases kd with
        | z => cases e
        | f => cases e
        | s i =>
          simp only [Pv.frz] at e
          split at e <;> cases e
      | bad => exact P
    obtain ⟨F1, ρ2, d, S1, s1, rd, e1, k1, _⟩ := frz_ok S h P'
    rw [e] at e1
    injection e1 with e2 e3
    subst e2 e3
    refine ⟨F1, _, d, S1, s1, rd, k1, ?_⟩
    unfold M.bind at P
    rw [e] at P
    exact PoS.weak s1 P
/-- one value, then the rest -/
theorem oneS {ma : M R} {f : R → M Fl} {T : V → Hp → Prop} (S : SR K nm F0 G F ρ σ H) (p : pin σ) (P : PoS K nm ex W pin F0 G F (M.bind ma f ρ) D)
    (fin : ∀ r ρ2 F2 H2 x, SR K nm F0 G F2 ρ2 σ H2 → Same F F2 → RR K nm F2 G H2 ρ2 σ r x → PoS K nm ex W pin F0 G F2 (f r ρ2) D → T x H2) : tE K nm ex W ma σ H T := by
  refine ⟨F0, G, F, ρ, S, ?_⟩
  have P1 := P.bind p
  cases e : ma ρ with
  | mk o ρ' =>
    rw [e] at P1
    cases o with
    | ok r => exact fun F1 H1 S1 s1 x hx => fin r ρ' F1 H1 x S1 s1 hx (P1 F1 H1 S1 s1)
    | exc n => exact P1
    | bad => exact P1
theorem testS {ma : M Bool} {f : Bool → M Fl} {T : Bool → Hp → Prop} (S : SR K nm F0 G F ρ σ H) (p : pin σ) (P : PoS K nm ex W pin F0 G F (M.bind ma f ρ) D)
    (fin : ∀ b ρ2 F2 H2, SR K nm F0 G F2 ρ2 σ H2 → Same F F2 → PoS K nm ex W pin F0 G F2 (f b ρ2) D → T b H2) : tT K nm ex W ma σ H T := by
  refine ⟨F0, G, F, ρ, S, ?_⟩
  have P1 := P.bind p
  cases e : ma ρ with
  | mk o ρ' =>
    rw [e] at P1
    cases o with
    | ok r => exact fun F1 H1 S1 s1 => fin r ρ' F1 H1 S1 s1 (P1 F1 H1 S1 s1)
    | exc n => exact P1
    | bad => exact P1
theorem itrS {ma : M (List Pv.D)} {f : List Pv.D → M Fl} {T : It → Hp → Prop} (S : SR K nm F0 G F ρ σ H) (p : pin σ) (P : PoS K nm ex W pin F0 G F (M.bind ma f ρ) D)
    (fin : ∀ b ρ2 F2 H2, SR K nm F0 G F2 ρ2 σ H2 → Same F F2 → PoS K nm ex W pin F0 G F2 (f b ρ2) D → ∀ J, ItOk K nm F2 J b → T J H2) : tI K nm ex W ma σ H T := by
  refine ⟨F0, G, F, ρ, S, ?_⟩
  have P1 := P.bind p
  cases e : ma ρ with
  | mk o ρ' =>
    rw [e] at P1
    cases o with
    | ok r => exact fun F1 H1 S1 s1 => fin r ρ' F1 H1 S1 s1 (P1 F1 H1 S1 s1)
    | exc n => exact P1
    | bad => exact P1
/-- a second value, the first kept -/
theorem sndS {mb : M R} {g : R → M Fl} {T : V → Hp → Prop} (S : SR K nm F0 G F ρ σ H) (p : pin σ) (hx : RR K nm F G H ρ σ r x) (P : PoS K nm ex W pin F0 G F (M.bind mb g ρ) D)
    (fin : ∀ q ρ2 F2 H2 y, SR K nm F0 G F2 ρ2 σ H2 → Same F F2 → RR K nm F2 G H2 ρ2 σ r x → RR K nm F2 G H2 ρ2 σ q y → (∀ a b, r.k = .f → x = .ref a → q.k = .f → y = .ref b → a ≠ b) → PoS K nm ex W pin F0 G F2 (g q ρ2) D → T y H2) : tE K nm ex W mb σ H T := by
  obtain ⟨G1, Sp, hne, back⟩ := prot S hx
  refine ⟨F, G1, F, ρ, Sp, ?_⟩
  refine Po.under (r := r) (x := x) (fun F2 H2 ρ2 S2 => (back F2 H2 ρ2 S2).1) (P.bind p) fun q ρ2 F2 H2 S2 s2 P2 y hy => ?_
  obtain ⟨b1, b2, b3, b4⟩ := back F2 H2 ρ2 S2
  refine fin q ρ2 F2 H2 y b1 s2 b2 (b4 q y hy) (fun a b e1 e2 e3 e4 z => ?_) P2
  obtain ⟨qd, qk⟩ := q
  cases e3
  obtain ⟨b', e5, ⟨f5, g5, h5⟩, p5⟩ := hy
  rw [e4] at e5; cases e5
  subst z
  exact hne a e1 e2 g5
/-- a new list or dict at a name -/
theorem SR.setF {i : Nat} {a : Addr} (S : SR K nm F0 G F ρ σ H) (o : Own K nm F G H a d) (ap : Apart ρ σ a) : SR K nm F0 G F (setE ρ i d true) (σ.set i (some (.ref a))) H := by
  unfold setE
  refine ⟨by rw [List.length_set, List.length_set]; exact S.len, S.fh, S.gh, S.ff, S.new, fun j e q => ?_, fun j e q => ?_, fun j l d1 d2 b q1 q2 z1 z2 => ?_⟩
  · rcases get_set q with ⟨rfl, h', hl⟩ | ⟨hne, h'⟩
    · cases h'
    · obtain ⟨w, e1, r⟩ := S.fz j e h'
      exact ⟨w, by rw [List.getElem?_set_ne hne]; exact e1, r⟩
  · rcases get_set q with ⟨rfl, h', hl⟩ | ⟨hne, h'⟩
    · cases h'
      exact ⟨a, List.getElem?_set_self (by rw [← S.len]; exact hl), o⟩
    · obtain ⟨b, e1, o'⟩ := S.mu j e h'
      exact ⟨b, by rw [List.getElem?_set_ne hne]; exact e1, o'⟩
  · rcases get_set q1 with ⟨rfl, h1, hl1⟩ | ⟨hne1, h1⟩
    · rcases get_set q2 with ⟨rfl, h2, hl2⟩ | ⟨hne2, h2⟩
      · rfl
      · rw [List.getElem?_set_self (by rw [← S.len]; exact hl1)] at z1
        rw [List.getElem?_set_ne hne2] at z2
        cases z1
        exact absurd z2 (ap l d2 h2)
    · rw [List.getElem?_set_ne hne1] at z1
      rcases get_set q2 with ⟨rfl, h2, hl2⟩ | ⟨hne2, h2⟩
      · rw [List.getElem?_set_self (by rw [← S.len]; exact hl2)] at z2
        cases z2
        exact absurd z1 (ap j d1 h1)
      · rw [List.getElem?_set_ne hne2] at z2
        exact S.ap j l d1 d2 b h1 h2 z1 z2
/-- name = value: what storeR says -/
theorem store_ok {me : Bool} {i : Nat} {f : Unit → M Fl} {T : L2.St → Hp → Prop} (S : SR K nm F0 G F ρ σ H) (hx : RR K nm F G H ρ σ r x) (P : PoS K nm ex W pin F0 G F (M.bind (storeR me i r) f ρ) D) (hp : (me && i == 0) = false → pin (σ.set i (some x)))
    (fin : ∀ ρ' F' , SR K nm F0 G F' ρ' (σ.set i (some x)) H → Same F F' → pin (σ.set i (some x)) → PoS K nm ex W pin F0 G F' (f () ρ') D → T (σ.set i (some x)) H) : T (σ.set i (some x)) H := by
  by_cases h0 : (me && i == 0) = true
  · have e : storeR me i r = M.bad := if_pos h0
    rw [e] at P
    exact P.elim
  · have h0' : (me && i == 0) = false := by simpa using h0
    have zz : storeR me i r = M.bind (Pv.frz r) (fun d => setM i d false) → T (σ.set i (some x)) H := fun e => by
      rw [e, bind_assoc'] at P
      obtain ⟨F1, ρ1, d, S1, s1, rd, _, P2⟩ := PoS.frz S hx.wr P
      exact fin _ _ (S1.setZ rd) s1 (hp h0') P2
    obtain ⟨rd, kd⟩ := r
    cases kd with
    | z => exact zz (if_neg h0)
    | s j => exact zz (if_neg h0)
    | f =>
      have e : storeR me i ⟨rd, .f⟩ = setM i rd true := if_neg h0
      rw [e] at P
      obtain ⟨a, rfl, o, ap⟩ := hx
      exact fin _ _ (S.setF o ap) (Same.refl _) (hp h0') P
theorem s_set {me : Bool} {i : Nat} {ma : M R} (hp : ∀ σ x, (me && i == 0) = false → pin σ → pin (σ.set i (some x))) (h : tS K nm ex W pin (M.bind ma fun r => M.bind (storeR me i r) fun _ => M.pure .nx) D σ H) : tAsg (tE K nm ex W ma) (gName i) D σ H := by
  obtain ⟨F0, G, F, ρ, S, p, P⟩ := h
  refine oneS S p P fun r ρ2 F2 H2 x S2 s2 hx P2 => ?_
  exact store_ok (T := D.nx) S2 hx P2 (fun h => hp σ x h p) fun ρ' F' S' s' p' P' => P' F' _ H2 S' (Same.refl _) p'
theorem s_seq {m n : M Fl} (h : tS K nm ex W pin (M.bind m fun f => match f with
    | .nx => n
    | f => M.pure f) D σ H) : tSeq (tS K nm ex W pin m) (tS K nm ex W pin n) D σ H := by
  obtain ⟨F0, G, F, ρ, S, p, P⟩ := h
  refine ⟨F0, G, F, ρ, S, p, ?_⟩
  unfold M.bind at P
  cases e : m ρ with
  | mk o ρ' =>
    rw [e] at P
    cases o with
    | ok f =>
      cases f with
      | nx => exact fun F1 σ1 H1 S1 s1 p1 => ⟨F0, G, F1, ρ', S1, p1, PoS.weak s1 P⟩
      | bk => exact P
      | ct => exact P
      | rt d fr => exact P
    | exc n => exact P
    | bad => exact P
theorem s_nil (h : tS K nm ex W pin (M.pure .nx) D σ H) : tNext D σ H := by
  obtain ⟨F0, G, F, ρ, S, p, P⟩ := h
  exact P F σ H S (Same.refl _) p
theorem s_brk (h : tS K nm ex W pin (M.pure .bk) D σ H) : tBreak D σ H := by
  obtain ⟨F0, G, F, ρ, S, p, P⟩ := h
  exact P F σ H S (Same.refl _) p
theorem s_cont (h : tS K nm ex W pin (M.pure .ct) D σ H) : tCont D σ H := by
  obtain ⟨F0, G, F, ρ, S, p, P⟩ := h
  exact P F σ H S (Same.refl _) p
theorem s_retn (h : tS K nm ex W pin (M.pure (.rt .non false)) D σ H) : tRetN D σ H := by
  obtain ⟨F0, G, F, ρ, S, p, P⟩ := h
  exact P F σ H .non S (Same.refl _) p .non
theorem s_exp {ma : M R} (h : tS K nm ex W pin (M.bind ma fun _ => M.pure .nx) D σ H) : tDrop (tE K nm ex W ma) D σ H := by
  obtain ⟨F0, G, F, ρ, S, p, P⟩ := h
  exact oneS S p P fun r ρ2 F2 H2 x S2 s2 hx P2 => P2 F2 σ H2 S2 (Same.refl _) p
theorem s_ife {mc : M Bool} {m n : M Fl} (h : tS K nm ex W pin (M.bind mc fun k => if k then m else n) D σ H) : tIfS (tT K nm ex W mc) (tS K nm ex W pin m) (tS K nm ex W pin n) D σ H := by
  obtain ⟨F0, G, F, ρ, S, p, P⟩ := h
  refine testS S p P fun b ρ2 F2 H2 S2 s2 P2 => ?_
  cases b with
  | true => rw [if_pos rfl] at P2 ⊢; exact ⟨F0, G, F2, ρ2, S2, p, P2⟩
  | false => rw [if_neg (by decide)] at P2 ⊢; exact ⟨F0, G, F2, ρ2, S2, p, P2⟩
theorem SR.dropS {i : Nat} (S : SR K nm F0 G F ρ σ H) : SR K nm F0 G F (ρ.set i none) σ H := by
  refine ⟨by rw [List.length_set]; exact S.len, S.fh, S.gh, S.ff, S.new, fun j e q => ?_, fun j e q => ?_, fun j l d1 d2 b q1 q2 => ?_⟩
  · rcases get_set q with ⟨rfl, h', hl⟩ | ⟨hne, h'⟩
    · cases h'
    · exact S.fz j e h'
  · rcases get_set q with ⟨rfl, h', hl⟩ | ⟨hne, h'⟩
    · cases h'
    · exact S.mu j e h'
  · rcases get_set q1 with ⟨rfl, h', hl⟩ | ⟨hne, h'⟩
    · cases h'
    · rcases get_set q2 with ⟨rfl, h2, hl⟩ | ⟨hne2, h2⟩
      · cases h2
      · exact S.ap j l d1 d2 b h' h2
theorem s_ret {me : Bool} {ma : M R} (h : tS K nm ex W pin (M.bind ma (retM me)) D σ H) : tRet (tE K nm ex W ma) D σ H := by
  obtain ⟨F0, G, F, ρ, S, p, P⟩ := h
  refine oneS S p P fun r ρ2 F2 H2 x S2 s2 hx P2 => ?_
  obtain ⟨rd, kd⟩ := r
  cases kd with
  | z => exact P2 F2 σ H2 x S2 (Same.refl _) p hx
  | f => exact P2 F2 σ H2 x S2 (Same.refl _) p hx
  | s i =>
    by_cases h0 : (me && i == 0) = true
    · have e : retM me ⟨rd, .s i⟩ = M.bad := if_pos h0
      rw [e] at P2
      exact P2.elim
    · have e : retM me ⟨rd, .s i⟩ = fun ρ => match ρ[i]? with
        | some (some (d, true)) => (.ok (.rt d true), ρ.set i none)
        | _ => (.bad, ρ) := if_neg h0
      rw [e] at P2
      dsimp only at P2
      split at P2
      · rename_i d e
        obtain ⟨a, e1, o⟩ := S2.mu i d e
        have hx : σ[i]? = some (some x) := hx
        rw [e1] at hx; cases hx
        refine P2 F2 σ H2 _ S2.dropS (Same.refl _) p ⟨a, rfl, o, fun j d' q z => ?_⟩
        rcases get_set q with ⟨rfl, h', hl⟩ | ⟨hne, h'⟩
        · cases h'
        · exact hne (S2.ap i j d d' a e h' e1 z)
      · exact P2.elim
theorem s_rais {n : Nat} (h : tS K nm ex W pin (M.exc n) D σ H) : W (ex n) none σ H := by
  obtain ⟨F0, G, F, ρ, S, p, P⟩ := h
  exact P F σ H S (Same.refl _) p
theorem s_whl {mc : M Bool} {mb : M Fl} (n : Nat) (h : tS K nm ex W pin (whileN mc mb n) D σ H) : tWhile (tT K nm ex W mc) (tS K nm ex W pin mb) D σ H := by
  refine ⟨fun m σ H => tS K nm ex W pin (whileN mc mb m) D σ H, ⟨n, h⟩, fun m σ H hm => ?_⟩
  obtain ⟨F0, G, F, ρ, S, p, P⟩ := hm
  cases m with
  | zero => exact P.elim
  | succ m =>
    refine testS S p P fun b ρ2 F2 H2 S2 s2 P2 => ?_
    cases b with
    | false => rw [if_neg (by decide)] at P2 ⊢; exact P2 F2 σ H2 S2 (Same.refl _) p
    | true =>
      rw [if_pos rfl] at P2 ⊢
      refine ⟨fun σ' H' => tS K nm ex W pin (whileN mc mb m) D σ' H', fun σ' H' q => ⟨m, Nat.lt_succ_self m, q⟩, F0, G, F2, ρ2, S2, p, ?_⟩
      unfold M.bind at P2
      cases e : mb ρ2 with
      | mk o ρ' =>
        rw [e] at P2
        cases o with
        | ok f =>
          cases f with
          | nx => exact fun F1 σ1 H1 S1 s1 p1 => ⟨F0, G, F1, ρ', S1, p1, PoS.weak s1 P2⟩
          | ct => exact fun F1 σ1 H1 S1 s1 p1 => ⟨F0, G, F1, ρ', S1, p1, PoS.weak s1 P2⟩
          | bk => exact P2
          | rt d fr => exact P2
        | exc n => exact P2
        | bad => exact P2
theorem pin_off {is : List Nat} {σ σ' : L2.St} (hp : ∀ σ σ' : L2.St, σ'[0]? = σ[0]? → pin σ → pin σ') (w : L2.wipe σ' is = L2.wipe σ is) (h : 0 ∉ is) (p : pin σ) : pin σ' := hp σ σ' (wipe_off w h) p
theorem s_for {me : Bool} {tg : T} {mi : M (List Pv.D)} {mb : M Fl} (hp : ∀ σ σ' : L2.St, σ'[0]? = σ[0]? → pin σ → pin σ') (hp2 : me = false → ∀ σ, pin σ) (h : tS K nm ex W pin (M.bind mi fun xs => if freeOf me tg.slots then forGo tg mb xs else M.bad) D σ H) :
    tFor (tI K nm ex W mi) (gT K tg) (tS K nm ex W pin mb) D σ H := by
  obtain ⟨F0, G, F, ρ, S, p, P⟩ := h
  refine itrS S p P fun xs ρ1 F1 H1 S1 s1 P1 J hJ => ?_
  by_cases hf : freeOf me tg.slots = true
  · rw [if_pos hf] at P1
    have hpin : ∀ σ σ' : L2.St, L2.wipe σ' tg.slots = L2.wipe σ tg.slots → pin σ → pin σ' := fun σ σ' w p => by
      unfold freeOf at hf
      cases me with
      | false => exact hp2 rfl σ'
      | true => exact pin_off hp w (by simpa using hf) p
    refine ⟨fun i m σ H => m = xs.length - i ∧ i ≤ xs.length ∧ ∃ F ρ, SR K nm F0 G F ρ σ H ∧ Same F1 F ∧ pin σ ∧ PoS K nm ex W pin F0 G F (forGo tg mb (xs.drop i) ρ) D, ⟨_, rfl, Nat.zero_le _, F1, ρ1, S1, Same.refl _, p, P1⟩, ?_⟩
    rintro i m σ H ⟨rfl, hi, F2, ρ2, S2, s2, p2, P2⟩
    by_cases hlt : i < xs.length
    · obtain ⟨ex', ed⟩ := drop_cons hlt
      rw [ed] at P2
      refine .inr ⟨(hJ.2 i _ ex' H (s2.trans S2.fh)).1, fun σ H => i + 1 ≤ xs.length ∧ ∃ F ρ, SR K nm F0 G F ρ σ H ∧ Same F1 F ∧ pin σ ∧ PoS K nm ex W pin F0 G F (forGo tg mb (xs.drop (i + 1)) ρ) D, fun σ' H' iv => ⟨_, by omega, rfl, iv⟩, fun x H' y => ?_⟩
      obtain ⟨Fa, Sa, sa, rx, kH, kF⟩ := yld_ok hJ s2 S2 ex' y
      unfold forGo at P2
      cases es : setT tg xs[i] ρ2 with
      | none => simp only [es] at P2; exact P2.elim
      | some ρ3 =>
        simp only [es] at P2
        refine gT_ok (os := tg.slots) (fun i hi => hi) Sa rx es fun σ1 Sb wb => ?_
        have p3 := hpin _ _ wb p2
        refine ⟨F0, G, Fa, ρ3, Sb, p3, ?_⟩
        unfold M.bind at P2
        cases e : mb ρ3 with
        | mk o ρ' =>
          rw [e] at P2
          have P2 := PoS.weak sa P2
          cases o with
          | ok f =>
            cases f with
            | nx => exact fun F4 σ4 H4 S4 s4 p4 => ⟨hlt, F4, ρ', S4, (s2.trans sa).trans s4, p4, PoS.weak s4 P2⟩
            | ct => exact fun F4 σ4 H4 S4 s4 p4 => ⟨hlt, F4, ρ', S4, (s2.trans sa).trans s4, p4, PoS.weak s4 P2⟩
            | bk => exact P2
            | rt d fr => exact P2
          | exc n => exact P2
          | bad => exact P2
    · have e : i = xs.length := by omega
      subst e
      rw [List.drop_length] at P2
      exact .inl ⟨hJ.1 H (s2.trans S2.fh), P2 F2 σ H S2 (Same.refl _) p2⟩
  · rw [if_neg hf] at P1
    exact P1.elim
theorem s_unp {me : Bool} {is : List Nat} {ma : M R} (hp : ∀ σ σ' : L2.St, σ'[0]? = σ[0]? → pin σ → pin σ') (hp2 : me = false → ∀ σ, pin σ) (h : tS K nm ex W pin (M.bind (M.bind ma Pv.frz) (unpM me is)) D σ H) : tAsg (tE K nm ex W ma) (gT K (.many is)) D σ H := by
  obtain ⟨F0, G, F, ρ, S, p, P⟩ := h
  rw [bind_assoc'] at P
  refine oneS S p P fun r ρ2 F2 H2 x S2 s2 hx P2 => ?_
  obtain ⟨F3, ρ3, d, S3, s3, rd, _, P3⟩ := PoS.frz S2 hx.wr P2
  unfold unpM at P3
  by_cases hf : freeOf me is = true
  · rw [if_pos hf] at P3
    cases es : setT (.many is) d ρ3 with
    | none => rw [es] at P3; exact P3.elim
    | some ρ4 =>
      rw [es] at P3
      refine gT_ok (os := is) (fun i hi => hi) S3 rd es fun σ1 Sb wb => ?_
      have p3 : pin σ1 := by
        unfold freeOf at hf
        cases me with
        | false => exact hp2 rfl σ1
        | true => exact pin_off hp wb (by simpa using hf) p
      exact P3 F3 σ1 H2 Sb (Same.refl _) p3
  · rw [if_neg hf] at P3
    exact P3.elim
/-- a change of a name's list or dict, in a statement -/
theorem PoS.put {i : Nat} {f : R → M Fl} {dk dv : Pv.D} {y v : V} {a0 : Addr} {T : Hp → Prop} (p : pin σ) (S : SR K nm F0 G F ρ σ H) (ea : σ[i]? = some (some (.ref a0))) (ly : Lk K nm F H y dk) (rv : Rep K nm F v dv) (P : PoS K nm ex W pin F0 G F (M.bind (mutS i (putD dk dv)) f ρ) D)
    (fin : ∀ ρ' H' r, SR K nm F0 G F ρ' σ H' → PoS K nm ex W pin F0 G F (f r ρ') D → T H') : rPut (.ref a0) y v H T := by
  have P' : Po K nm ex W F0 G F σ (M.bind (mutS i (putD dk dv)) (fun r => M.pure r) ρ) (fun r ρ' F' H' => PoS K nm ex W pin F0 G F' (f r ρ') D) := by
    have q := P.bind p
    have e : M.bind (mutS i (putD dk dv)) (fun r => M.pure r) = mutS i (putD dk dv) := by
      funext ρ
      unfold M.bind
      cases mutS i (putD dk dv) ρ with
      | mk o ρ' => cases o <;> rfl
    rw [e]; exact q
  refine put_ok S ea ly rv P' fun ρ' H' r S' P2 => fin ρ' H' r S' (P2 F H' S' (Same.refl _))
theorem PoS.mutOk {i : Nat} {f : Unit → M Fl} (p : pin σ) (S : SR K nm F0 G F ρ σ H) (P : PoS K nm ex W pin F0 G F (M.bind (mutOk i) f ρ) D) : ∃ a, σ[i]? = some (some (.ref a)) ∧ PoS K nm ex W pin F0 G F (f () ρ) D := by
  have P' : Po K nm ex W F0 G F σ (M.bind (Pv.mutOk i) (fun r => M.pure r) ρ) (fun _ _ _ _ => True) := by
    unfold M.bind at P ⊢
    cases e : Pv.mutOk i ρ with
    | mk o ρ' =>
      rw [e] at P
      cases o with
      | ok u => exact fun _ _ _ _ => trivial
      | bad => exact P
      | exc n =>
        exfalso
        unfold Pv.mutOk at e
        split at e <;> cases e
  obtain ⟨a, e1, _⟩ := mutOk_ok S P'
  refine ⟨a, e1, ?_⟩
  unfold M.bind at P
  cases e : Pv.mutOk i ρ with
  | mk o ρ' =>
    rw [e] at P
    cases o with
    | bad => exact P.elim
    | exc n =>
      unfold Pv.mutOk at e
      split at e <;> cases e
    | ok u =>
      have e' : ρ' = ρ := by
        unfold Pv.mutOk at e
        split at e <;> cases e <;> rfl
      rw [e'] at P
      exact P
theorem s_seti {i : Nat} {me mk : M R} (h : tS K nm ex W pin (M.bind (M.bind me Pv.frz) fun v => M.bind (Pv.mutOk i) fun _ => M.bind mk fun r => M.bind (Pv.pk r) fun x => M.bind (mutS i (putD x v)) fun _ => M.pure .nx) D σ H) :
    tAsg (tE K nm ex W me) (gSub (tVar i) (tE K nm ex W mk) rPut) D σ H := by
  obtain ⟨F0, G, F, ρ, S, p, P⟩ := h
  rw [bind_assoc'] at P
  refine oneS S p P fun r ρ2 F2 H2 x S2 s2 hx P2 => ?_
  obtain ⟨F3, ρ3, d, S3, s3, rd, _, P3⟩ := PoS.frz S2 hx.wr P2
  obtain ⟨a, ea, P4⟩ := PoS.mutOk p S3 P3
  refine ⟨.ref a, ea, ?_⟩
  refine oneS S3 p P4 fun r ρ5 F5 H5 y S5 s5 hy P5 => ?_
  obtain ⟨dk, ek, P6⟩ := P5.pk
  exact PoS.put p S5 ea (hy.wr.lk S5 ek) (rd.mono s5) P6 fun ρ' H' r S' P7 => P7 F5 σ H' S' (Same.refl _) p
theorem s_unp2 {i j : Nat} {me mk ml : M R} (h : tS K nm ex W pin (M.bind (M.bind me Pv.frz) fun d => match d with
    | .tup [v, w] => M.bind (Pv.mutOk i) fun _ => M.bind mk fun r => M.bind (Pv.pk r) fun x => M.bind (mutS i (putD x v)) fun _ =>
        M.bind (Pv.mutOk j) fun _ => M.bind ml fun r => M.bind (Pv.pk r) fun x => M.bind (mutS j (putD x w)) fun _ => M.pure .nx
    | _ => M.bad) D σ H) :
    tAsg (tE K nm ex W me) (gTup K 2 (gCons (gSub (tVar i) (tE K nm ex W mk) rPut) (gCons (gSub (tVar j) (tE K nm ex W ml) rPut) gNil))) D σ H := by
  obtain ⟨F0, G, F, ρ, S, p, P⟩ := h
  rw [bind_assoc'] at P
  refine oneS S p P fun r ρ2 F2 H2 x S2 s2 hx P2 => ?_
  obtain ⟨F3, ρ3, d, S3, s3, rd, _, P3⟩ := PoS.frz S2 hx.wr P2
  match d, rd, P3 with
  | .tup [dv, dw], rd, P3 =>
    cases rd with
    | @tup a vs _ ha la ra =>
      cases ra with
      | @cons v _ vs _ rv ra =>
        cases ra with
        | @cons w _ ws _ rw' ra =>
          cases ra
          refine ⟨a, [v, w], rfl, ha.sq S3.fh, rfl, v, [w], rfl, ?_⟩
          obtain ⟨b, eb, P4⟩ := PoS.mutOk p S3 P3
          refine ⟨.ref b, eb, ?_⟩
          refine oneS S3 p P4 fun r ρ5 F5 H5 y S5 s5 hy P5 => ?_
          obtain ⟨dk, ek, P6⟩ := P5.pk
          refine PoS.put p S5 eb (hy.wr.lk S5 ek) (rv.mono s5) P6 fun ρ' H' r S' P7 => ?_
          refine ⟨w, [], rfl, ?_⟩
          obtain ⟨c, ec, P8⟩ := PoS.mutOk p S' P7
          refine ⟨.ref c, ec, ?_⟩
          refine oneS S' p P8 fun r ρ9 F9 H9 z S9 s9 hz P9 => ?_
          obtain ⟨dl, el, P10⟩ := P9.pk
          refine PoS.put p S9 ec (hz.wr.lk S9 el) ((rw'.mono s5).mono s9) P10 fun ρ' H' r S' P11 => ?_
          exact ⟨rfl, P11 F9 σ H' S' (Same.refl _) p⟩
  | .tup [], _, P3 => exact P3.elim
  | .tup [_], _, P3 => exact P3.elim
  | .tup (_ :: _ :: _ :: _), _, P3 => exact P3.elim
  | .non, _, P3 => exact P3.elim
  | .bl _, _, P3 => exact P3.elim
  | .int _, _, P3 => exact P3.elim
  | .str _, _, P3 => exact P3.elim
  | .pr _, _, P3 => exact P3.elim
  | .lst _, _, P3 => exact P3.elim
  | .scr _, _, P3 => exact P3.elim
  | .fn _, _, P3 => exact P3.elim
  | .dic _, _, P3 => exact P3.elim
end
end Pv

set_option Elab.async false
set_option linter.all false
set_option maxRecDepth 100000
set_option maxHeartbeats 8000000
set_option autoImplicit false
/-! Pv, part V: each statement's text does what the statement computes. -/
namespace Pv
open PySem PySem.Spec PyProof.Rows L2 RT RZ
section
variable {K : PySem.W.Frag} {nm : Nat → Option Addr} {ex : Nat → Value} {W : WX} {pin : L2.St → Prop} {F0 G F F' H H' : Hp} {ρ : Env} {σ : L2.St} {r q : R} {x y v : V} {d : D} {α β : Type} {D : Ends}
def kd (fr : Bool) : Kd := if fr then .f else .z
theorem parV_ok {f : Pv.D × Bool → M Fl} (S : SR K nm F0 G F ρ σ H) (hx : RR K nm F G H ρ σ r x) (hy : RR K nm F G H ρ σ q y) (ne : ∀ a b, r.k = .f → x = .ref a → q.k = .f → y = .ref b → a ≠ b) (P : PoS K nm ex W pin F0 G F (M.bind (parV r) f ρ) D) :
    ∃ F1 ρ1 d fr, SR K nm F0 G F1 ρ1 σ H ∧ Same F F1 ∧ RR K nm F1 G H ρ1 σ ⟨d, kd fr⟩ x ∧ RR K nm F1 G H ρ1 σ q y ∧ (fr = true → r.k = .f) ∧ PoS K nm ex W pin F0 G F1 (f (d, fr) ρ1) D := by
  have zz : (∀ ρ : Env, ∀ F, WR K nm F G H ρ σ r x → ∀ G1, WR K nm F G1 H ρ σ r x) → parV r = M.bind (Pv.frz r) (fun d => M.pure (d, false)) → ∃ F1 ρ1 d fr, SR K nm F0 G F1 ρ1 σ H ∧ Same F F1 ∧ RR K nm F1 G H ρ1 σ ⟨d, kd fr⟩ x ∧ RR K nm F1 G H ρ1 σ q y ∧ (fr = true → r.k = .f) ∧ PoS K nm ex W pin F0 G F1 (f (d, fr) ρ1) D := fun hw e => by
    rw [e, bind_assoc'] at P
    cases ez : Pv.frz r ρ with
    | mk o ρ1 =>
      obtain ⟨F1, ρ2, d, S1, s1, rd, k1, P1⟩ := PoS.frz S hx.wr P
      cases o with
      | ok d0 =>
        obtain ⟨G1, Sp, hne, back⟩ := prot S hy
        obtain ⟨F2, S2, s2, r2⟩ := frz_ok2 Sp (hw ρ F hx.wr G1) ez
        obtain ⟨b1, b2, _, _⟩ := back F2 H ρ1 S2
        refine ⟨F2, ρ1, d0, false, b1, s2, r2, b2, (fun z => nomatch z), ?_⟩
        unfold M.bind at P
        rw [ez] at P
        exact PoS.weak s2 P
      | exc n =>
        unfold M.bind at P
        rw [ez] at P
        exfalso
        obtain ⟨rd, kd⟩ := r
        cases kd with
        | z => cases ez
        | f => cases ez
        | s i =>
          simp only [Pv.frz] at ez
          split at ez <;> cases ez
      | bad =>
        unfold M.bind at P
        rw [ez] at P
        exact P.elim
  obtain ⟨rd, kk⟩ := r
  cases kk with
  | z => exact zz (fun _ _ h _ => h) rfl
  | s i => exact zz (fun _ _ h _ => h) rfl
  | f => exact ⟨F, ρ, rd, true, S, Same.refl _, hx, hy, fun _ => rfl, P⟩
theorem store1 {i : Nat} {fr : Bool} (S : SR K nm F0 G F ρ σ H) (hx : RR K nm F G H ρ σ ⟨d, kd fr⟩ x) : SR K nm F0 G F (setE ρ i d fr) (σ.set i (some x)) H := by
  cases fr with
  | false => exact S.setZ hx
  | true =>
    obtain ⟨a, rfl, o, ap⟩ := hx
    exact S.setF o ap
theorem keep1 {i : Nat} {fr fq : Bool} {dq : Pv.D} (S : SR K nm F0 G F ρ σ H) (hx : RR K nm F G H ρ σ ⟨d, kd fr⟩ x) (hy : RR K nm F G H ρ σ ⟨dq, kd fq⟩ y) (ne : ∀ a b, fr = true → x = .ref a → fq = true → y = .ref b → a ≠ b) :
    RR K nm F G H (setE ρ i d fr) (σ.set i (some x)) ⟨dq, kd fq⟩ y := by
  cases fq with
  | false => exact hy
  | true =>
    obtain ⟨b, rfl, o, ap⟩ := hy
    refine ⟨b, rfl, o, fun j e q z => ?_⟩
    unfold setE at q
    rcases get_set q with ⟨rfl, h', hl⟩ | ⟨hne, h'⟩
    · injection h' with h1
      injection h1 with h1 h2
      subst h2
      rw [List.getElem?_set_self (by rw [← S.len]; exact hl)] at z
      injection z with z
      injection z with z
      exact ne b b rfl z rfl rfl rfl
    · rw [List.getElem?_set_ne hne] at z
      exact ap j e h' z
theorem s_par {me : Bool} {i j : Nat} {ma mb : M R} (hp : ∀ σ i x, (me && i == 0) = false → pin σ → pin (σ.set i (some x))) (h : tS K nm ex W pin (M.bind ma fun r => M.bind mb fun q => M.bind (storePar me i j r q) fun _ => M.pure .nx) D σ H) :
    tPar i j (tCons (tE K nm ex W ma) (tCons (tE K nm ex W mb) tNil)) D σ H := by
  obtain ⟨F0, G, F, ρ, S, p, P⟩ := h
  refine oneS S p P fun r ρ2 F2 H2 x S2 s2 hx P2 => ?_
  refine sndS S2 p hx P2 fun q ρ3 F3 H3 y S3 s3 hx hy ne P3 => ?_
  refine ⟨x, y, rfl, ?_⟩
  by_cases h0 : (me && (i == 0 || j == 0)) = true
  · have e : storePar me i j r q = M.bad := if_pos h0
    rw [e] at P3
    exact P3.elim
  · have e : storePar me i j r q = M.bind (parV r) fun x => M.bind (parV q) fun y => setM2 i j x y := if_neg h0
    rw [e, bind_assoc'] at P3
    obtain ⟨F4, ρ4, d1, f1, S4, s4, hx4, hy4, k4, P4⟩ := parV_ok S3 hx hy ne P3
    rw [bind_assoc'] at P4
    obtain ⟨F5, ρ5, d2, f2, S5, s5, hy5, hx5, k5, P5⟩ := parV_ok S4 hy4 hx4 (fun a b e1 e2 e3 e4 => fun z => by
      have hf : f1 = true := by cases f1 with | true => rfl | false => cases e3
      exact ne b a (k4 hf) e4 e1 e2 z.symm) P4
    have h1 : (me && i == 0) = false ∧ (me && j == 0) = false := by
      cases me <;> simp at h0 ⊢
      exact h0
    have S6 := store1 (i := i) S5 hx5
    have ne5 : ∀ a b, f1 = true → x = .ref a → f2 = true → y = .ref b → a ≠ b := fun a b e1 e2 e3 e4 => ne a b (k4 e1) e2 (k5 e3) e4
    have S7 := store1 (i := j) S6 (keep1 (i := i) S5 hx5 hy5 ne5)
    exact P5 F5 _ H3 S7 (Same.refl _) (hp _ j y h1.2 (hp _ i x h1.1 p))
end
end Pv

set_option Elab.async false
set_option linter.all false
set_option maxRecDepth 100000
set_option maxHeartbeats 8000000
set_option autoImplicit false
/-! Pv, part W: the text stands for the statement (a check); what each statement's text does. -/
namespace Pv
open PySem PySem.Spec PyProof.Rows L2 RT RZ
structure CkS where
  one : Stmt → Bool
  lst : List Stmt → Bool
def lclB (sc : Scope) (x : Str) : Bool := decide (sc.names.lookup x = some .local)
def knB (sc : Scope) : Bool := match sc.kind with
  | .function => true
  | _ => false
theorem kn_ok {sc : Scope} (h : knB sc = true) : sc.kind = .function := by
  unfold knB at h
  split at h
  · assumption
  · cases h
theorem blk_ok {env : PySem.Env} (h : env.scope.kind = .function) : env.blockKind = .function := by
  unfold Env.blockKind
  rw [h]
  rfl
def parB (sc : Scope) (x y : Str) (px py : Pos) (a b : Expr) : Bool :=
  knB sc && lclB sc x && lclB sc y && decide (py.line = px.line) && decide (x ≠ y) && notStar a && notStar b && !([a, b].all (foldedForSure 8)) && !([a, b].all (constantsAlone 8))
theorem par_ok {env : PySem.Env} {x y : Str} {px py pt pt2 : Pos} {kt k2 : Nat} {a b : Expr} (h : parB env.scope x y px py a b = true) : swappedStores [.Tuple [.Name x px, .Name y py] kt pt] (.Tuple [a, b] k2 pt2) env = pure (some [x, y]) := by
  unfold parB at h
  simp only [Bool.and_eq_true, Bool.not_eq_true', decide_eq_true_eq] at h
  obtain ⟨⟨⟨⟨⟨⟨⟨⟨h1, h2⟩, h3⟩, h4⟩, h5⟩, h6⟩, h7⟩, h8⟩, h9⟩ := h
  have hb := blk_ok (kn_ok h1)
  have e2 : env.kindOf x = some .local := of_decide_eq_true h2
  have e3 : env.kindOf y = some .local := of_decide_eq_true h3
  have s : ([a, b].any fun e => match e with | .Starred _ _ => true | _ => false) = false := by
    simp only [List.any_cons, List.any_nil, Bool.or_false]
    cases a <;> first | (simp [notStar] at h6; done) | skip
    all_goals (cases b <;> first | rfl | (simp [notStar] at h7; done))
  have ed : [x, y].eraseDups = [x, y] := by
    simp [List.eraseDups_cons, Ne.symm h5]
  have fm : ([Expr.Name x px, Expr.Name y py].filterMap fun e => match e with
      | .Name id pos => if env.kindOf id == some .local && pos.line == px.line then some id else none
      | _ => none) = [x, y] := by
    simp [e2, e3, h4]
  have fin : ∀ (n1 n2 n3 : List Str) (c : Bool), n1 = [x, y] → c = false → (if c = true then (pure none : Sem (Option (List Str))) else if (n1.length != 2 || n1.eraseDups.length != n1.length) = true then pure none else if [a, b].all (foldedForSure 8) = true then pure none else
      if [a, b].all (constantsAlone 8) = true then (do unsupported "assign.tuple-of-constant-expressions:order-of-the-stores"; pure (some n1)) else pure (some n1)) = pure (some [x, y]) := fun n1 n2 n3 c e1 e2 => by
    subst e1 e2
    rw [h8, h9, ed]
    rfl
  unfold swappedStores
  dsimp only
  rw [if_neg (by rw [hb]; exact Bool.false_ne_true)]
  exact fin _ [] [] _ fm s
def tupPlain : Expr → Bool
  | .Tuple l _ _ => l.all (foldedForSure 8)
  | _ => true
theorem tup_none {env : PySem.Env} {l : List Expr} {k : Nat} {p : Pos} {v : Expr} (h : tupPlain v = true) : swappedStores [.Tuple l k p] v env = pure none := by
  cases v <;> first | rfl | skip
  rename_i vs k2 p2
  have h : vs.all (foldedForSure 8) = true := h
  unfold swappedStores
  dsimp only
  simp only [h]
  repeat' split
  all_goals first | rfl | (exact absurd trivial (by assumption))
theorem sub_none {env : PySem.Env} {a b c d : Expr} {p1 p2 p : Pos} {k : Nat} {v : Expr} : swappedStores [.Tuple [.Subscript a b p1, .Subscript c d p2] k p] v env = pure none := by
  cases v <;> first | rfl | skip
  unfold swappedStores
  dsimp only
  repeat' split
  all_goals first | rfl | (rename_i h1 _ _; exact absurd rfl h1)
def swB (sc sc1 : Scope) (x : Str) (p pos : Pos) : Bool := knB sc && lclB sc x && decide (p.line = pos.line) && !(sc1.names.any fun (n, k) => n == x && (k == .local || k == .cell))
theorem sw_ok {env : PySem.Env} {sc1 : Scope} {x : Str} {p pos : Pos} {n : Nat} {elt : Expr} {gens : List Comprehension} (h : swB env.scope sc1 x p pos = true) : swapsWith (.ListComp elt gens sc1 pos) (some (.Name x p)) n env = pure true := by
  unfold swB at h
  simp only [Bool.and_eq_true, Bool.not_eq_true', decide_eq_true_eq] at h
  obtain ⟨⟨⟨h1, h2⟩, h3⟩, h4⟩ := h
  have hb := blk_ok (kn_ok h1)
  have e2 : env.kindOf x = some .local := of_decide_eq_true h2
  show (pure (env.blockKind == .function && env.kindOf x == some .local && p.line == pos.line && !(sc1.names.any fun (n, k) => n == x && (k == .local || k == .cell))) : Sem Bool) = pure true
  rw [hb, e2, h3, h4]
  simp
def isLc : E → Bool
  | .lc _ _ _ _ => true
  | .lc2 _ _ _ _ _ _ _ => true
  | _ => false
def chkS (fs : List FnI) (cs : List (Str × Int)) (es : List Str) (N : List Str) (sc : Scope) : S → CkS
  | .nil => ⟨no1, fun l => l.isEmpty⟩
  | .seq a b => ⟨no1, fun l => match l with
    | st :: r => (chkS fs cs es N sc a).one st && (chkS fs cs es N sc b).lst r
    | [] => false⟩
  | .set i e => ⟨fun st => match st with
    | .Assign [.Name x _] v _ => decide (N[i]? = some x) && locB sc x && notComp v && (chk fs cs N e sc).one v
    | _ => false, no1⟩
  | .setlc i e => ⟨fun st => match st with
    | .Assign [.Name x p] (.ListComp elt gens sc1 pos) _ => isLc e && decide (N[i]? = some x) && lclB sc x && swB sc sc1 x p pos && (chk fs cs N e sc).one (.ListComp elt gens sc1 pos)
    | _ => false, no1⟩
  | .par i j a b => ⟨fun st => match st with
    | .Assign [.Tuple [.Name x px, .Name y py] _ _] (.Tuple [v, w] _ _) _ => decide (N[i]? = some x) && decide (N[j]? = some y) && decide (i ≠ j) && lclB sc x && lclB sc y && parB sc x y px py v w && (chk fs cs N a sc).one v && (chk fs cs N b sc).one w
    | _ => false, no1⟩
  | .unp is e => ⟨fun st => match st with
    | .Assign [.Tuple l k p] v _ => namesB N sc is l && tupPlain v && notComp v && (chk fs cs N e sc).one v
    | _ => false, no1⟩
  | .unp2 i k j l e => ⟨fun st => match st with
    | .Assign [.Tuple [.Subscript (.Name x _) u _, .Subscript (.Name y _) w _] _ _] v _ => decide (N[i]? = some x) && visB sc x && ndB x && decide (N[j]? = some y) && visB sc y && ndB y && notSlice u && notSlice w && notComp v && (chk fs cs N k sc).one u && (chk fs cs N l sc).one w && (chk fs cs N e sc).one v
    | _ => false, no1⟩
  | .aug _ _ _ => ⟨no1, no1⟩
  | .seti i k e => ⟨fun st => match st with
    | .Assign [.Subscript (.Name x _) u _] v _ => decide (N[i]? = some x) && visB sc x && ndB x && notSlice u && notComp v && (chk fs cs N k sc).one u && (chk fs cs N e sc).one v
    | _ => false, no1⟩
  | .exp e => ⟨fun st => match st with
    | .Expr v _ => notComp v && (chk fs cs N e sc).one v
    | _ => false, no1⟩
  | .ret e => ⟨fun st => match st with
    | .Return (some v) _ => (chk fs cs N e sc).one v
    | _ => false, no1⟩
  | .retn => ⟨fun st => match st with
    | .Return none _ => true
    | _ => false, no1⟩
  | .ife c a b => ⟨fun st => match st with
    | .If t x y _ => (chk fs cs N c sc).tst t && (chkS fs cs es N sc a).lst x && (chkS fs cs es N sc b).lst y
    | _ => false, no1⟩
  | .whl c b => ⟨fun st => match st with
    | .While t x [] _ => (chk fs cs N c sc).tst t && (chkS fs cs es N sc b).lst x
    | _ => false, no1⟩
  | .for tg it b => ⟨fun st => match st with
    | .For t iter x [] _ => notSet iter && tgB N sc tg t && (chk fs cs N it sc).itr t iter && (chkS fs cs es N sc b).lst x
    | _ => false, no1⟩
  | .brk => ⟨fun st => match st with
    | .Break _ => true
    | _ => false, no1⟩
  | .cont => ⟨fun st => match st with
    | .Continue _ => true
    | _ => false, no1⟩
  | .pass => ⟨fun st => match st with
    | .Pass _ => true
    | _ => false, no1⟩
  | .rais n => ⟨fun st => match st with
    | .Raise (some (.Call (.Name x _) [] [] _)) none _ => decide (es[n]? = some x) && glB sc x && ndB x
    | _ => false, no1⟩
theorem sole_ok {t v : Expr} {n : Nat} {env : PySem.Env} (h : notComp v = true) : swapsWithSole [t] v n env = pure false := by
  show swapsWith v (some t) n env = pure false
  exact swap_ok h
/-- X() of an own exception class -/
theorem pmk_own0 {X : Cx} {C : Addr} {bmB : List Value} {B newId initId : String} {x : Str} {p pos : Pos} (F : ExcBaseFacts B newId initId bmB) (q : PySem.W.excIn X.K C bmB newId = true) (gC : X.mg x = some (.ref C)) (kC : PySem.W.keepIn X.K (.ref C) = true) (r : Raises X (.ref C)) (hg : Gl X x)
    (hdb : (x == ("__debug__" : Str)) = false) : PMk X (.Call (.Name x p) [] [] pos) (fun _ H Q => Q (.ref C) none H) := by
  intro pins s σ H Q I h
  refine wpAny_Call_Name_kw (ld_glob I hg gC ?_ hdb)
  refine PySem.W.callWith_K0 I.kIn kC ?_
  show wpAny _ _ (call (.ref C) []) _ _ _
  obtain ⟨bm, N, nm, qn, bs, hdct, sn, sub, ab, col, dd, k0, k1, k2, k3, k5, mN, hC, hN, hni, T⟩ := exc_obj I.kIn q
  refine wpAny_call_exc_subT F T hC hN hni (fun h' e hm => ?_) (Nat.zero_le _)
  exact mk_of I hm r h (I.hok.gone hm.new)
structure StdS (fs : List FnI) (cs : List (Str × Int)) (es : List Str) (k : Nat) (nm : Nat → Option Addr) (ex : Nat → Value) (Φ : Nat → Fn) (me : Bool) (pin : L2.St → Prop) (X : Cx) (W : WX) : Prop where
  std : Std fs cs k nm ex Φ X W
  pas : PassesOwn (model X.prog X.w) X.A X.env X.xe
  fnl : ∀ x, X.fn x = true
  exn : ∀ n x, es[n]? = some x → ∃ C, ex n = .ref C ∧ X.mg x = some (.ref C) ∧ PySem.W.excIn X.K C He.veBase "ValueError.__new__" = true ∧ PySem.W.keepIn X.K (.ref C) = true ∧ Raises X (.ref C)
  p1 : ∀ σ i x, (me && i == 0) = false → pin σ → pin (σ.set i (some x))
  p2 : ∀ σ σ' : L2.St, σ'[0]? = σ[0]? → pin σ → pin σ'
  p3 : me = false → ∀ σ, pin σ
section
variable {fs : List FnI} {cs : List (Str × Int)} {es : List Str} {k : Nat} {nm : Nat → Option Addr} {ex : Nat → Value} {Φ : Nat → Fn} {me : Bool} {pin : L2.St → Prop} {X : Cx} {W : WX}
theorem pgs_def (hN : X.N.Nodup) (hf : ∀ x, X.fn x = true) : ∀ {is : List Nat} {l : List Expr}, namesB X.N X.env.scope is l = true → PGs X l (gNs is)
  | [], [], _ => pgs_nil
  | [], _ :: _, h => by simp [namesB] at h
  | i :: is, l, h => by
    match l, h with
    | .Name x p :: r, h =>
      simp only [namesB, Bool.and_eq_true, decide_eq_true_eq] at h
      obtain ⟨⟨h1, h2⟩, h3⟩ := h
      exact pgs_cons (pg_name hN h1 (loc_ok h2) (.inl (hf x))) (pgs_def hN hf h3) rfl
theorem pg_def (hc : X.calm = true) (hN : X.N.Nodup) (hf : ∀ x, X.fn x = true) {tg : T} {t : Expr} (h : tgB X.N X.env.scope tg t = true) : PG X t (gT X.K tg) := by
  cases tg with
  | one i =>
    cases t <;> first | (cases h; done) | skip
    simp only [tgB, Bool.and_eq_true, decide_eq_true_eq] at h
    exact pg_name hN h.1 (loc_ok h.2) (.inl (hf _))
  | many is =>
    cases t <;> first | (cases h; done) | skip
    simp only [tgB] at h
    obtain ⟨k1, k2⟩ := assignEach_names (env := X.env) h
    exact pg_tup hc (pgs_def hN hf h) k1 k2
theorem asg_sub {o i : Expr} {pos : Pos} (h : notSlice i = true) : ∀ v, assign (.Subscript o i pos) X.env v = (do
      let ov ← holding [v] (eval o X.env)
      let iv ← holding [v, ov] (eval i X.env)
      standAt pos
      holding [v, ov, iv] (setItem ov iv v)
      release [v, ov, iv] []) := by
  intro v
  cases i <;> first | rfl | simp [notSlice] at h
structure GoodSt (fs : List FnI) (cs : List (Str × Int)) (es : List Str) (nm : Nat → Option Addr) (ex : Nat → Value) (Φ : Nat → Fn) (me : Bool) (pin : L2.St → Prop) (X : Cx) (W : WX) (s : S) : Prop where
  one : ∀ st, (chkS fs cs es X.N X.env.scope s).one st = true → PS X st (tS X.K nm ex W pin (exec (ioOf fs) Φ me s))
  lst : ∀ l, (chkS fs cs es X.N X.env.scope s).lst l = true → PSs X l (tS X.K nm ex W pin (exec (ioOf fs) Φ me s))
theorem goodS (Z : StdS fs cs es k nm ex Φ me pin X W) (s : S) : GoodSt fs cs es nm ex Φ me pin X W s := by
  have hc := Z.std.calm
  have hN := Z.std.nod
  have G := fun e => good (fs := fs) (cs := cs) (k := k) (nm := nm) (ex := ex) (Φ := Φ) e X W Z.std
  induction s with
  | nil =>
    refine ⟨(fun st h => nomatch h), fun l h => ?_⟩
    match l, h with
    | [], _ => exact PSs.imp pss_nil fun D σ H q => s_nil q
    | _ :: _, h => cases h
  | seq a b ha hb =>
    refine ⟨(fun st h => nomatch h), fun l h => ?_⟩
    match l, h with
    | [], h => cases h
    | st :: r, h =>
      have h : ((chkS fs cs es X.N X.env.scope a).one st && (chkS fs cs es X.N X.env.scope b).lst r) = true := h
      rw [Bool.and_eq_true] at h
      exact PSs.imp (pss_cons (ha.one st h.1) (hb.lst r h.2)) fun D σ H q => s_seq q
  | set i e =>
    refine ⟨fun st h => ?_, (fun l h => nomatch h)⟩
    simp only [chkS] at h
    split at h
    · simp only [Bool.and_eq_true, decide_eq_true_eq] at h
      obtain ⟨⟨⟨h1, h2⟩, h3⟩, h4⟩ := h
      exact PS.imp (ps_set hN h1 (loc_ok h2) ((G e).one _ h4) (swap_ok h3) (.inl (Z.fnl _))) fun D σ H q => s_set (me := me) (fun σ x h p => Z.p1 σ i x h p) q
    · cases h
  | setlc i e =>
    refine ⟨fun st h => ?_, (fun l h => nomatch h)⟩
    simp only [chkS] at h
    split at h
    · rename_i x p elt gens sc1 pos spos
      simp only [Bool.and_eq_true, decide_eq_true_eq] at h
      obtain ⟨⟨⟨⟨h0, h1⟩, h2⟩, h3⟩, h4⟩ := h
      have e2 : X.env.scope.names.lookup x = some .local := of_decide_eq_true h2
      cases e <;> first | (cases h0; done) | skip
      · rename_i tg it c el
        simp only [chk, Ck.of, Ck.of2] at h4
        split at h4
        · rename_i elt' t iter ifs as sc1' pos' heq
          cases heq
          simp only [Bool.and_eq_true, decide_eq_true_eq] at h4
          obtain ⟨⟨⟨⟨⟨⟨k1, k2⟩, k3⟩, k4⟩, k5⟩, k6⟩, k7⟩ := h4
          subst k1
          refine PS.imp (ps_setLc (tt := tT X.K nm ex W0 (sem (ioOf fs) Φ c).tst) (te := tE X.K nm ex W0 (sem (ioOf fs) Φ el).val) hc hN h1 e2 (sw_ok h3) ((G it).itr _ _ k3) (blkOk_by k5) (fun s H C cl fp => pg_blk hc hN k4)
            (fun s H C cl fp => (good (k := k) c _ _ (Z.std.blk s H sc1 (compEnvC sc1 cl C X.env) fp)).ifs _ k6) (fun s H C cl fp => (good (k := k) el _ _ (Z.std.blk s H sc1 (compEnvC sc1 cl C X.env) fp)).one _ k7) (set_ok k2)) fun D σ H q => ?_
          rw [ownOf_snd]
          exact t_lc (fun i hi => hi) (s_set (me := me) (fun σ x h p => Z.p1 σ i x h p) q)
        · cases h4
      · rename_i tg it c tg2 it2 c2 el
        simp only [chk, Ck.of, Ck.of2] at h4
        split at h4
        · rename_i elt' t iter ifs as t2 iter2 ifs2 as2 sc1' pos' heq
          cases heq
          simp only [Bool.and_eq_true, decide_eq_true_eq] at h4
          obtain ⟨⟨⟨⟨⟨⟨⟨⟨⟨⟨⟨k1, k1'⟩, k2⟩, k2'⟩, k3⟩, k4⟩, k4'⟩, k5⟩, k6⟩, k7⟩, k8⟩, k9⟩ := h4
          subst k1 k1'
          refine PS.imp (ps_setLc2 (tt := tT X.K nm ex W0 (sem (ioOf fs) Φ c).tst) (wi1 := tI X.K nm ex W0 (sem (ioOf fs) Φ it2).itr) (tt1 := tT X.K nm ex W0 (sem (ioOf fs) Φ c2).tst) (te := tE X.K nm ex W0 (sem (ioOf fs) Φ el).val) (vs1 := tg2.slots) hc hN h1 e2 (sw_ok h3) ((G it).itr _ _ k3) (blkOk_by k5)
            (fun i hi => by rw [ownOf_snd]; exact List.mem_append_right _ hi) (fun s H C cl fp => pg_blk hc hN k4) (fun s H C cl fp => (good (k := k) c _ _ (Z.std.blk s H sc1 (compEnvC sc1 cl C X.env) fp)).ifs _ k6)
            (fun s H C cl fp => (good (k := k) it2 _ _ (Z.std.blk s H sc1 (compEnvC sc1 cl C X.env) fp)).itr _ _ k7) (fun s H C cl fp => pg_blk hc hN k4') (fun s H C cl fp => (good (k := k) c2 _ _ (Z.std.blk s H sc1 (compEnvC sc1 cl C X.env) fp)).ifs _ k8)
            (fun s H C cl fp => (good (k := k) el _ _ (Z.std.blk s H sc1 (compEnvC sc1 cl C X.env) fp)).one _ k9) (set_ok k2) (fun env => set_ok k2')) fun D σ H q => ?_
          rw [ownOf_snd]
          exact t_lc2 (fun i hi => List.mem_append_left _ hi) (fun i hi => hi) (s_set (me := me) (fun σ x h p => Z.p1 σ i x h p) q)
        · cases h4
    · cases h
  | par i j a b =>
    refine ⟨fun st h => ?_, (fun l h => nomatch h)⟩
    simp only [chkS] at h
    split at h
    · rename_i x px y py _ _ v w _ _ _
      simp only [Bool.and_eq_true, decide_eq_true_eq] at h
      obtain ⟨⟨⟨⟨⟨⟨⟨h1, h2⟩, h3⟩, h4⟩, h5⟩, h6⟩, h7⟩, h8⟩ := h
      have hs : notStar v = true ∧ notStar w = true := by
        unfold parB at h6
        simp only [Bool.and_eq_true] at h6
        exact ⟨h6.1.1.1.2, h6.1.1.2⟩
      exact PS.imp (ps_par hc hN h1 h2 h3 (of_decide_eq_true h4) (of_decide_eq_true h5) (pa_cons ((G a).one _ h7) (pa_cons ((G b).one _ h8) pa_nil (star_ok hs.2)) (star_ok hs.1)) (par_ok h6) rfl) fun D σ H q => s_par Z.p1 q
    · cases h
  | unp is e =>
    refine ⟨fun st h => ?_, (fun l h => nomatch h)⟩
    simp only [chkS] at h
    split at h
    · simp only [Bool.and_eq_true] at h
      obtain ⟨⟨⟨h1, h2⟩, h3⟩, h4⟩ := h
      obtain ⟨k1, k2⟩ := assignEach_names (env := X.env) h1
      exact PS.imp (ps_asg ((G e).one _ h4) (pg_tup hc (pgs_def hN Z.fnl h1) k1 k2) (sole_ok h3) (tup_none h2) rfl) fun D σ H q => s_unp Z.p2 Z.p3 q
    · cases h
  | unp2 i kk j l e =>
    refine ⟨fun st h => ?_, (fun l h => nomatch h)⟩
    simp only [chkS] at h
    split at h
    · simp only [Bool.and_eq_true, decide_eq_true_eq] at h
      obtain ⟨⟨⟨⟨⟨⟨⟨⟨⟨⟨⟨h1, h2⟩, h3⟩, h4⟩, h5⟩, h6⟩, h7⟩, h8⟩, h9⟩, h10⟩, h11⟩, h12⟩ := h
      have u := Z.std.u65
      exact PS.imp (ps_asg ((G e).one _ h12) (pg_tup hc (pgs_cons (pg_sub (pe_var h1 (vis_ok h2) (nd_ok h3).1 (nd_ok h3).2) ((G kk).one _ h10) (set_put (by omega)) (asg_sub h7)) (pgs_cons (pg_sub (pe_var h4 (vis_ok h5) (nd_ok h6).1 (nd_ok h6).2) ((G l).one _ h11) (set_put (by omega)) (asg_sub h8)) pgs_nil rfl) rfl) rfl rfl) (sole_ok h9) sub_none rfl)
        fun D σ H q => s_unp2 q
    · cases h
  | aug i o e => exact ⟨(fun st h => nomatch h), (fun l h => nomatch h)⟩
  | seti i kk e =>
    refine ⟨fun st h => ?_, (fun l h => nomatch h)⟩
    simp only [chkS] at h
    split at h
    · simp only [Bool.and_eq_true, decide_eq_true_eq] at h
      obtain ⟨⟨⟨⟨⟨⟨h1, h2⟩, h3⟩, h4⟩, h5⟩, h6⟩, h7⟩ := h
      have u := Z.std.u65
      exact PS.imp (ps_asg ((G e).one _ h7) (pg_sub (pe_var h1 (vis_ok h2) (nd_ok h3).1 (nd_ok h3).2) ((G kk).one _ h6) (set_put (by omega)) (asg_sub h4)) (sole_ok h5) rfl rfl) fun D σ H q => s_seti q
    · cases h
  | exp e =>
    refine ⟨fun st h => ?_, (fun l h => nomatch h)⟩
    simp only [chkS] at h
    split at h
    · rw [Bool.and_eq_true] at h
      exact PS.imp (ps_expr ((G e).one _ h.2) (swap_ok h.1)) fun D σ H q => s_exp q
    · cases h
  | ret e =>
    refine ⟨fun st h => ?_, (fun l h => nomatch h)⟩
    simp only [chkS] at h
    split at h
    · exact PS.imp (ps_ret ((G e).one _ h)) fun D σ H q => s_ret q
    · cases h
  | retn =>
    refine ⟨fun st h => ?_, (fun l h => nomatch h)⟩
    simp only [chkS] at h
    split at h
    · exact PS.imp ps_retN fun D σ H q => s_retn q
    · cases h
  | ife c a b ha hb =>
    refine ⟨fun st h => ?_, (fun l h => nomatch h)⟩
    simp only [chkS] at h
    split at h
    · simp only [Bool.and_eq_true] at h
      exact PS.imp (ps_if ((G c).tst _ h.1.1) (ha.lst _ h.1.2) (hb.lst _ h.2)) fun D σ H q => s_ife q
    · cases h
  | whl c b hb =>
    refine ⟨fun st h => ?_, (fun l h => nomatch h)⟩
    simp only [chkS] at h
    split at h
    · simp only [Bool.and_eq_true] at h
      exact PS.imp (ps_while Z.pas ((G c).tst _ h.1) (hb.lst _ h.2)) fun D σ H q => s_whl fuel q
    · cases h
  | «for» tg it b hb =>
    refine ⟨fun st h => ?_, (fun l h => nomatch h)⟩
    simp only [chkS] at h
    split at h
    · simp only [Bool.and_eq_true] at h
      obtain ⟨⟨⟨h1, h2⟩, h3⟩, h4⟩ := h
      exact PS.imp (ps_for Z.pas hc ((G it).itr _ _ h3) (pg_def hc hN Z.fnl h2) (hb.lst _ h4) (set_ok h1)) fun D σ H q => s_for Z.p2 Z.p3 q
    · cases h
  | brk =>
    refine ⟨fun st h => ?_, (fun l h => nomatch h)⟩
    simp only [chkS] at h
    split at h
    · exact PS.imp ps_break fun D σ H q => s_brk q
    · cases h
  | cont =>
    refine ⟨fun st h => ?_, (fun l h => nomatch h)⟩
    simp only [chkS] at h
    split at h
    · exact PS.imp ps_continue fun D σ H q => s_cont q
    · cases h
  | pass =>
    refine ⟨fun st h => ?_, (fun l h => nomatch h)⟩
    simp only [chkS] at h
    split at h
    · exact PS.imp ps_pass fun D σ H q => s_nil q
    · cases h
  | rais n =>
    refine ⟨fun st h => ?_, (fun l h => nomatch h)⟩
    simp only [chkS] at h
    split at h
    · rename_i x p cp pos
      simp only [Bool.and_eq_true, decide_eq_true_eq] at h
      obtain ⟨C, e1, e2, e3, e4, e5⟩ := Z.exn n x h.1.1
      refine PS.imp (ps_raise hc Z.std.tk (pmk_own0 PySem.F.excBase_ValueError e3 e2 e4 e5 (gl_ok h.1.2) (nd_ok h.2).1)) fun D σ H q => ?_
      have := s_rais q
      rw [e1] at this
      exact this
    · cases h
end
end Pv

set_option Elab.async false
set_option linter.all false
set_option maxRecDepth 100000
set_option maxHeartbeats 8000000
set_option autoImplicit false
/-! Pv, part X: programs. -/
namespace Pv
open PySem PySem.Spec PyProof.Rows L2 RT RZ
/-! ### positional arguments -/
theorem look_zip : ∀ {ps : List Str} {us : List Value} (pre : List (Str × Value)), ps.Nodup → us.length = ps.length → (∀ p ∈ pre, p.1 ∉ ps) → ps.filterMap (fun n => ((pre ++ ps.zip us).lookup n).map (n, ·)) = ps.zip us ∧ ∀ n ∈ ps, ((pre ++ ps.zip us).lookup n).isSome = true
  | [], us, pre, _, _, _ => ⟨rfl, fun _ h => nomatch h⟩
  | n :: ps, [], pre, _, h, _ => by cases h
  | n :: ps, u :: us, pre, hd, hl, hp => by
    obtain ⟨h1, h2⟩ := List.nodup_cons.mp hd
    have e : pre ++ (n :: ps).zip (u :: us) = (pre ++ [(n, u)]) ++ ps.zip us := by simp
    obtain ⟨ih1, ih2⟩ := look_zip (ps := ps) (us := us) (pre ++ [(n, u)]) h2 (by simpa using hl) (fun p hp' => by
      rcases List.mem_append.mp hp' with h | h
      · exact fun z => hp p h (.tail _ z)
      · rw [List.mem_singleton.mp h]; exact h1)
    have ln : ((pre ++ (n :: ps).zip (u :: us)).lookup n) = some u := by
      have : pre.lookup n = none := by
        rw [List.lookup_eq_none_iff]
        intro p hp'
        have := hp p hp'
        simp only [List.mem_cons, not_or] at this
        simpa using Ne.symm this.1
      rw [List.lookup_append, this]
      simp
    refine ⟨?_, fun m hm => ?_⟩
    · rw [List.filterMap_cons, ln]
      show (n, u) :: _ = _
      rw [e, ih1]; rfl
    · rcases List.mem_cons.mp hm with rfl | hm
      · rw [ln]; rfl
      · rw [e]; exact ih2 m hm
theorem binds_any {fd : FuncData} {args : List Arg} {ps : List Str} {us : List Value} (hp : fd.params = ⟨[], args, none, [], [], none, []⟩) (hd : fd.defaults = .none) (ha : args.map (·.arg) = ps) (nd : ps.Nodup) (hl : us.length = ps.length) : bindArgs fd ⟨us, []⟩ = pure (ps.zip us) := by
  obtain ⟨f1, f2⟩ := look_zip (us := us) [] nd hl (fun _ h => nomatch h)
  have hm : (ps.filter fun n => ((ps.zip us).lookup n).isNone) = [] := by
    rw [List.filter_eq_nil_iff]
    intro n hn
    have := f2 n hn
    rw [List.nil_append] at this
    cases e : (ps.zip us).lookup n with
    | none => rw [e] at this; cases this
    | some v => simp
  have hlt : ¬ us.length > ps.length := by omega
  have hs : (seqItems? Value.none) = (pure none : Sem (Option (Array Value))) := rfl
  unfold bindArgs
  simp only [hp, hd, hs, ha, List.map_nil, List.nil_append, List.append_nil]
  simp [hlt, hm, hl]
  simp only [List.nil_append] at f1
  rw [f1]
/-! ### the checks of a whole program -/
def parsB (ps : List Str) (a : Arguments) : Bool := match a with
  | ⟨[], args, none, [], [], none, []⟩ => decide (args.map (·.arg) = ps)
  | _ => false
theorem pars_ok {ps : List Str} {a : Arguments} (h : parsB ps a = true) : ∃ args : List Arg, a = ⟨[], args, none, [], [], none, []⟩ ∧ args.map (·.arg) = ps := by
  unfold parsB at h
  split at h
  · exact ⟨_, rfl, of_decide_eq_true h⟩
  · cases h
def scopeB (N ps : List Str) (sc : Scope) : Bool := knB sc && !sc.isCoroutine && !sc.isGenerator && decide N.Nodup && decide (N.take ps.length = ps) && ps.all (locB sc) && sc.names.all fun y => match y.2 with
  | .free => false
  | _ => true
theorem scope_ok {N ps : List Str} {sc : Scope} (h : scopeB N ps sc = true) : FnScope N ps sc := by
  unfold scopeB at h
  simp only [Bool.and_eq_true, Bool.not_eq_true', decide_eq_true_eq, List.all_eq_true] at h
  obtain ⟨⟨⟨⟨⟨⟨h1, h2⟩, h3⟩, h4⟩, h5⟩, h6⟩, h7⟩ := h
  refine ⟨kn_ok h1, h2, h3, h4, h5, fun x hx => loc_ok (h6 x hx), fun y hy e => ?_⟩
  have := h7 y hy
  rw [e] at this
  cases this
def okFn (fs : List FnI) (cs : List (Str × Int)) (es : List Str) (f : FnI) (d : He.DefD) : Bool :=
  decide (d.at_ = (f.name, none)) && d.dfl.isEmpty && d.kwd.isEmpty && parsB f.ps d.params && scopeB f.N f.ps d.scope && (chkS fs cs es f.N d.scope f.body).lst d.body
def hasGlo (fa : List He.Fa) (x : Str) : Bool := fa.any fun f => match f with
  | .glo y => decide (y = x)
  | _ => false
def hasFree (fa : List He.Fa) (x : Str) : Bool := fa.any fun f => match f with
  | .free y => decide (y = x)
  | _ => false
def hasExc (fa : List He.Fa) (x : Str) : Bool := fa.any fun f => match f with
  | .exc y => decide (y = x)
  | _ => false
def hasInt (fa : List He.Fa) (p : Str × Int) : Bool := fa.any fun f => match f with
  | .int y i => decide (y = p.1) && decide (i = p.2)
  | _ => false
theorem hasGlo_mem {fa : List He.Fa} {x : Str} (h : hasGlo fa x = true) : He.Fa.glo x ∈ fa := by
  obtain ⟨f, hf, h⟩ := List.any_eq_true.mp h
  cases f <;> first | (cases h; done) | skip
  rw [← of_decide_eq_true h]; exact hf
theorem hasFree_mem {fa : List He.Fa} {x : Str} (h : hasFree fa x = true) : He.Fa.free x ∈ fa := by
  obtain ⟨f, hf, h⟩ := List.any_eq_true.mp h
  cases f <;> first | (cases h; done) | skip
  rw [← of_decide_eq_true h]; exact hf
theorem hasExc_mem {fa : List He.Fa} {x : Str} (h : hasExc fa x = true) : He.Fa.exc x ∈ fa := by
  obtain ⟨f, hf, h⟩ := List.any_eq_true.mp h
  cases f <;> first | (cases h; done) | skip
  rw [← of_decide_eq_true h]; exact hf
theorem hasInt_mem {fa : List He.Fa} {p : Str × Int} (h : hasInt fa p = true) : He.Fa.int p.1 p.2 ∈ fa := by
  obtain ⟨f, hf, h⟩ := List.any_eq_true.mp h
  cases f <;> first | (cases h; done) | skip
  rw [Bool.and_eq_true] at h
  rw [← of_decide_eq_true h.1, ← of_decide_eq_true h.2]; exact hf
def fnsOk (fs : List FnI) (cs : List (Str × Int)) (es : List Str) : List FnI → List He.DefD → Bool
  | [], [] => true
  | f :: r, d :: q => okFn fs cs es f d && fnsOk fs cs es r q
  | _, _ => false
theorem fnsOk_at {fs : List FnI} {cs : List (Str × Int)} {es : List Str} : ∀ {l : List FnI} {q : List He.DefD}, fnsOk fs cs es l q = true → (∀ (g : Nat) (f : FnI), l[g]? = some f → ∃ d, q[g]? = some d ∧ okFn fs cs es f d = true) ∧ l.length = q.length
  | [], [], _ => ⟨fun g f h => by simp at h, rfl⟩
  | [], _ :: _, h => by cases h
  | _ :: _, [], h => by cases h
  | f :: r, d :: q, h => by
    rw [fnsOk, Bool.and_eq_true] at h
    obtain ⟨h1, h2⟩ := fnsOk_at h.2
    refine ⟨fun g f' e => ?_, by rw [List.length_cons, List.length_cons, h2]⟩
    cases g with
    | zero => simp at e; subst e; exact ⟨d, rfl, h.1⟩
    | succ g => simp at e; obtain ⟨d', e1, e2⟩ := h1 g f' e; exact ⟨d', by simpa using e1, e2⟩
def progOk (fs : List FnI) (cs : List (Str × Int)) (es : List Str) (fa : List He.Fa) (fn : List He.DefD) : Bool :=
  fnsOk fs cs es fs fn && fs.all (fun f => hasGlo fa f.name) && bnames.all (hasFree fa) && cs.all (hasInt fa) && es.all (fun x => hasGlo fa x && hasExc fa x)
theorem fact_mem {fa : List He.Fa} {fn : List He.DefD} {K : PySem.W.Frag} (c : He.SaysD fa fn K) {f : He.Fa} (h : f ∈ fa) : f.ok K = true := by
  obtain ⟨i, e⟩ := List.getElem?_of_mem h
  exact c.fact i e
def nmOf (K : PySem.W.Frag) (fn : List He.DefD) (g : Nat) : Option Addr := (fn[g]?).map fun d => He.fAd K d.at_
def exOf (K : PySem.W.Frag) (es : List Str) (n : Nat) : Value := .ref (He.ga K ((es[n]?).getD Str.empty))
/-! ### a def's body: from the values of the arguments to what is promised -/
section
variable {K : PySem.W.Frag} {nm : Nat → Option Addr} {ex : Nat → Value} {F H : Hp}
theorem Args.length {io : Bool} {p : Option Addr} {vs : List V} {ds : List D} (h : Args K nm io F H p vs ds) : vs.length = ds.length := by
  match io, vs, ds, h with
  | true, v :: vs, c :: ds, h =>
    obtain ⟨a, _, _, _, _, r⟩ := h
    rw [List.length_cons, List.length_cons, r.length]
  | false, vs, ds, h => exact h.2.length
def startL (io : Bool) (ds : List D) : Env := match io, ds with
  | true, c :: r => some (c, true) :: r.map fun d => some (d, false)
  | _, _ => ds.map fun d => some (d, false)
theorem get_startL {io : Bool} {ds : List D} {i : Nat} {d : D} {b : Bool} (h : (startL io ds)[i]? = some (some (d, b))) : ds[i]? = some d ∧ (b = true → io = true ∧ i = 0) ∧ (io = true → i = 0 → b = true) := by
  have mp : ∀ {l : List D} {i : Nat}, (l.map fun d => some (d, false))[i]? = some (some (d, b)) → l[i]? = some d ∧ b = false := fun {l i} h => by
    rw [List.getElem?_map] at h
    obtain ⟨e, h1, h2⟩ := Option.map_eq_some_iff.mp h
    cases h2
    exact ⟨h1, rfl⟩
  cases io with
  | false =>
    have h : (ds.map fun d => some (d, false))[i]? = some (some (d, b)) := by cases ds <;> exact h
    obtain ⟨h1, h2⟩ := mp h
    subst h2
    exact ⟨h1, (fun z => nomatch z), fun z => nomatch z⟩
  | true =>
    cases ds with
    | nil => simp [startL] at h
    | cons c r =>
      cases i with
      | zero =>
        simp [startL] at h
        obtain ⟨h1, h2⟩ := h
        subst h1
        exact ⟨rfl, fun _ => ⟨rfl, rfl⟩, fun _ _ => by first | exact h2 | exact h2.symm⟩
      | succ i =>
        have h : (r.map fun d => some (d, false))[i]? = some (some (d, b)) := by simpa [startL] using h
        obtain ⟨h1, h2⟩ := mp h
        subst h2
        exact ⟨by simpa using h1, (fun z => nomatch z), fun _ z => nomatch z⟩
theorem get_start {f : FnI} {ds : List D} {i : Nat} {d : D} {b : Bool} (h : (startE f ds)[i]? = some (some (d, b))) : ds[i]? = some d ∧ (b = true → f.io = true ∧ i = 0) ∧ (f.io = true → i = 0 → b = true) := by
  have h : (startL f.io ds ++ List.replicate (f.N.length - ds.length) none)[i]? = some (some (d, b)) := h
  by_cases hi : i < (startL f.io ds).length
  · rw [List.getElem?_append_left hi] at h
    exact get_startL h
  · rw [List.getElem?_append_right (by omega), List.getElem?_replicate] at h
    split at h <;> cases h
theorem startE_length {f : FnI} {ds : List D} : (startE f ds).length = ds.length + (f.N.length - ds.length) := by
  have : (startL f.io ds).length = ds.length := by
    unfold startL
    split <;> simp
  show (startL f.io ds ++ List.replicate (f.N.length - ds.length) none).length = _
  rw [List.length_append, this, List.length_replicate]
theorem start_sr {f : FnI} {p : Option Addr} {vs : List V} {ds : List D} (sH : Same F H) (A : Args K nm f.io F H p vs ds) : SR K nm F (Gp H p) F (startE f ds) (L2.start f.N vs) H := by
  have hl := A.length
  have gv : ∀ {i : Nat} {v : V}, vs[i]? = some v → (L2.start f.N vs)[i]? = some (some v) := fun {i v} h => by
    unfold L2.start
    have hi : i < vs.length := (List.getElem?_eq_some_iff.mp h).1
    rw [List.getElem?_append_left (by rw [List.length_map]; exact hi), List.getElem?_map, h]; rfl
  have at_ : ∀ {i : Nat} {d : D}, ds[i]? = some d → ∃ v, vs[i]? = some v := fun {i d} h => by
    have hi : i < vs.length := by rw [hl]; exact (List.getElem?_eq_some_iff.mp h).1
    exact ⟨vs[i], by simp [hi]⟩
  refine ⟨?_, sH, fun b o e => ?_, Same.refl _, fun b o e => .inl ⟨o, e⟩, fun i d h => ?_, fun i d h => ?_, fun i j d e a h1 h2 _ _ => ?_⟩
  · rw [startE_length]
    unfold L2.start
    rw [List.length_append, List.length_map, List.length_replicate, hl]
  · unfold Gp at e
    split at e
    · cases e
    · exact e
  · obtain ⟨h1, h2, h3⟩ := get_start h
    obtain ⟨v, hv⟩ := at_ h1
    refine ⟨v, gv hv, ?_⟩
    generalize hio : f.io = io at A h3
    match io, vs, ds, A with
    | true, w :: vs', c :: ds', A =>
      obtain ⟨a, _, _, _, _, r⟩ := A
      cases i with
      | zero => exact absurd (h3 rfl rfl) (by decide)
      | succ i => exact r.get (by simpa using hv) (by simpa using h1)
    | false, vs, ds, A => exact A.2.get hv h1
  · obtain ⟨h1, h2, h3⟩ := get_start h
    obtain ⟨hio, rfl⟩ := h2 rfl
    rw [hio] at A
    match vs, ds, A, h1 with
    | w :: vs', c :: ds', A, h1 =>
      obtain ⟨a, ea, ev, fa, ha, r⟩ := A
      simp at h1
      subst h1 ev ea
      exact ⟨a, gv rfl, fa, gp_self, ha⟩
    | [], _, A, _ => exact A.elim
    | _ :: _, [], A, _ => exact A.elim
  · obtain ⟨_, k1, _⟩ := get_start h1
    obtain ⟨_, k2, _⟩ := get_start h2
    rw [(k1 rfl).2, (k2 rfl).2]
def pinOf (p : Option Addr) (σ : L2.St) : Prop := ∀ a, p = some a → σ[0]? = some (some (.ref a))
theorem Args.pin {f : FnI} {p : Option Addr} {vs : List V} {ds : List D} (A : Args K nm f.io F H p vs ds) : pinOf p (L2.start f.N vs) ∧ (f.io = false → p = none) := by
  generalize f.io = io at A
  match io, vs, ds, A with
  | true, w :: vs', c :: ds', A =>
    obtain ⟨a, ea, ev, fa, ha, r⟩ := A
    subst ea ev
    exact ⟨fun b eb => by cases eb; rfl, fun z => nomatch z⟩
  | false, vs, ds, A => exact ⟨fun a e => (by rw [A.1] at e; cases e), fun _ => A.1⟩
/-- the end of a body -/
theorem body_end {fs : List FnI} {k g : Nat} {f : FnI} {p : Option Addr} {vs : List V} {ds : List D} {Q : VK} {E : XK} (hf : fs[g]? = some f) (sH : Same F H) (A : Args K nm f.io F H p vs ds)
    (h : match run fs (k + 1) g ds with
      | (.ok (d, fr), c') => ∀ F' v H', Fin K nm F H p F' H' c' → RV K nm F' H H' p d fr v → Q v H'
      | (.exc n, c') => ∀ F' H', Fin K nm F H p F' H' c' → E (ex n) none H'
      | (.bad, _) => False) :
    tS K nm ex (fun cls d _ H => E cls d H) (pinOf p) (exec (ioOf fs) (run fs k) f.io f.body) { nx := fun _ H' => Q .non H', rt := Q } (L2.start f.N vs) H := by
  obtain ⟨pin, hio⟩ := A.pin
  refine ⟨F, Gp H p, F, startE f ds, start_sr sH A, pin, ?_⟩
  by_cases hl : ds.length = f.ps.length
  rotate_left
  · have er : run fs (k + 1) g ds = (.bad, .non) := by
      unfold run
      rw [hf]
      dsimp only
      rw [if_neg hl]
    rw [er] at h
    exact h.elim
  cases e : exec (ioOf fs) (run fs k) f.io f.body (startE f ds) with
  | mk o ρ =>
    have er : run fs (k + 1) g ds = match finC f.io ρ with
        | none => (.bad, .non)
        | some c => (resOf o, c) := by
      have e0 : run fs (k + 1) g ds = match fs[g]? with
          | none => (.bad, .non)
          | some f => if ds.length = f.ps.length then match exec (ioOf fs) (run fs k) f.io f.body (startE f ds) with
            | (o, ρ) => match finC f.io ρ with
              | none => (.bad, .non)
              | some c => (resOf o, c)
            else (.bad, .non) := rfl
      rw [e0, hf]
      show (if ds.length = f.ps.length then _ else _) = _
      rw [if_pos hl, e]
    rw [er] at h
    cases ec : finC f.io ρ with
    | none => rw [ec] at h; exact h.elim
    | some c =>
      rw [ec] at h
      dsimp only at h
      have fin : ∀ {F' : Hp} {σ' : L2.St} {H' : Hp}, SR K nm F (Gp H p) F' ρ σ' H' → pinOf p σ' → Fin K nm F H p F' H' c := fun {F' σ' H'} S pn => by
        refine ⟨S.ff, S.fh, S.gh, S.new, fun a ea => ?_⟩
        have hio1 : f.io = true := by
          cases q : f.io with
          | true => rfl
          | false => rw [hio q] at ea; cases ea
        unfold finC at ec
        rw [hio1, if_pos rfl] at ec
        split at ec
        · rename_i c' e0
          cases ec
          obtain ⟨b, e1, f1, g1, h1⟩ := S.mu 0 _ e0
          rw [pn a ea] at e1
          cases e1
          exact ⟨f1, h1⟩
        · cases ec
      have ne : ∀ {F' : Hp} {σ' : L2.St} {H' : Hp} {b : Addr}, SR K nm F (Gp H p) F' ρ σ' H' → pinOf p σ' → Apart ρ σ' b → p ≠ some b := fun {F' σ' H' b} S pn ap ea => by
        have hio1 : f.io = true := by
          cases q : f.io with
          | true => rfl
          | false => rw [hio q] at ea; cases ea
        unfold finC at ec
        rw [hio1, if_pos rfl] at ec
        split at ec
        · rename_i c' e0
          exact ap 0 _ e0 (pn b ea)
        · cases ec
      cases o with
      | bad => exact h.elim
      | exc n => exact fun F' σ' H' S s pn => h F' H' (fin S pn)
      | ok fl =>
        cases fl with
        | nx => exact fun F' σ' H' S s pn => h F' .non H' (fin S pn) (by unfold RV; rw [if_neg (by decide)]; exact .non)
        | bk => exact h.elim
        | ct => exact h.elim
        | rt d fr =>
          intro F' σ' H' v S s pn hv
          refine h F' v H' (fin S pn) ?_
          unfold RV
          cases fr with
          | false => rw [if_neg (by decide)]; exact hv
          | true =>
            rw [if_pos rfl]
            obtain ⟨b, rfl, ⟨f1, g1, h1⟩, ap⟩ := hv
            exact ⟨b, rfl, f1, g1, ne S pn ap, h1⟩
end
theorem run_len {fs : List FnI} {k g : Nat} {f : FnI} (hf : fs[g]? = some f) : ∀ ds, (run fs k g ds).1 ≠ .bad → ds.length = f.ps.length := fun ds h => by
  cases k with
  | zero => exact absurd rfl h
  | succ k =>
    unfold run at h
    rw [hf] at h
    dsimp only at h
    split at h
    · assumption
    · exact absurd rfl h
/-- EACH DEF OF THE PROGRAM DOES WHAT run SAYS -/
theorem prog_fns {fs : List FnI} {cs : List (Str × Int)} {es : List Str} {fa : List He.Fa} {fn : List He.DefD} {P : Program} {w : World} {K : PySem.W.Frag} {mg : Str → Option Value} {h : Heap} (ok : progOk fs cs es fa fn = true) (X : K.In h) (G : h.Ns mainGlobals mg) (c : He.SaysD fa fn K) :
    ∀ (k g : Nat) (f : FnI), fs[g]? = some f → ∃ a fd, nmOf K fn g = some a ∧ mg f.name = some (.ref a) ∧ PySem.W.keepIn K (.ref a) = true ∧ Binds K fd f.ps [] ∧
      (∀ (s : Shared) (us : List Value), us.length = f.ps.length → BindsTo s fd ⟨us, []⟩ (f.ps.zip us)) ∧ ∀ base : Heap, FnOk P w K mg base (L2.CX P w) k a fd f.ps (spF K (nmOf K fn) (exOf K es) f.io f.ps.length (run fs k g)) := by
  unfold progOk at ok
  simp only [Bool.and_eq_true, List.all_eq_true] at ok
  obtain ⟨⟨⟨⟨o1, o2⟩, o3⟩, o4⟩, o5⟩ := ok
  obtain ⟨o6, o7⟩ := fnsOk_at o1
  have key : ∀ (g : Nat) (f : FnI), fs[g]? = some f → ∃ d fd, fn[g]? = some d ∧ okFn fs cs es f d = true ∧ FunD K d.name d.qual d.params d.body d.scope [] [] (He.fAd K d.at_) fd ∧ mg f.name = some (.ref (He.fAd K d.at_)) := fun g f hf => by
    obtain ⟨d, hd, q⟩ := o6 g f hf
    obtain ⟨fd, F⟩ := c.def_ g hd
    have q' := q
    unfold okFn at q'
    simp only [Bool.and_eq_true, decide_eq_true_eq] at q'
    obtain ⟨⟨⟨⟨⟨q1, q2⟩, q3⟩, q4⟩, q5⟩, q6⟩ := q'
    have e1 : d.dvs K = [] := by unfold He.DefD.dvs; rw [List.isEmpty_iff.mp q2]; rfl
    have e2 : d.kws K = [] := by unfold He.DefD.kws; rw [List.isEmpty_iff.mp q3]; rfl
    rw [e1, e2] at F
    have hm := He.glo_ok X G (fact_mem c (hasGlo_mem (o2 f (List.mem_of_getElem? hf))))
    refine ⟨d, fd, hd, q, F, ?_⟩
    rw [hm, q1]; rfl
  intro k
  induction k with
  | zero =>
    intro g f hf
    obtain ⟨d, fd, hd, q, F, hm⟩ := key g f hf
    unfold okFn at q
    simp only [Bool.and_eq_true, decide_eq_true_eq] at q
    obtain ⟨⟨⟨⟨⟨q1, q2⟩, q3⟩, q4⟩, q5⟩, q6⟩ := q
    obtain ⟨args, ep, ea⟩ := pars_ok q4
    have S := scope_ok q5
    have nd : f.ps.Nodup := by rw [← S.pre]; exact S.nd.sublist (List.take_sublist _ _)
    refine ⟨_, fd, by unfold nmOf; rw [hd]; rfl, hm, F.kp, F.bindsN fun kV doc pm an cdv ct us hl => binds_any ep rfl ea nd hl, fun s us hl => F.bindsA (fun kV doc pm an cdv ct us hl => binds_any ep rfl ea nd hl) s us hl, fun base => ⟨fun vs H Q E h => h.1, fun A outer s H args us vs Q E _ _ _ _ h => ?_⟩⟩
    obtain ⟨_, F0, p, ds, _, _, z⟩ := h
    exact z.elim
  | succ k ih =>
    intro g f hf
    obtain ⟨d, fd, hd, q, F, hm⟩ := key g f hf
    unfold okFn at q
    simp only [Bool.and_eq_true, decide_eq_true_eq] at q
    obtain ⟨⟨⟨⟨⟨q1, q2⟩, q3⟩, q4⟩, q5⟩, q6⟩ := q
    obtain ⟨args, ep, ea⟩ := pars_ok q4
    have S := scope_ok q5
    have nd : f.ps.Nodup := by rw [← S.pre]; exact S.nd.sublist (List.take_sublist _ _)
    refine ⟨_, fd, by unfold nmOf; rw [hd]; rfl, hm, F.kp, F.bindsN fun kV doc pm an cdv ct us hl => binds_any ep rfl ea nd hl, fun s us hl => F.bindsA (fun kV doc pm an cdv ct us hl => binds_any ep rfl ea nd hl) s us hl, ?_⟩
    intro base
    refine F.ok S (fun vs H Q E h => h.1) fun cdv A outer s H vs Q E hr hsp => ?_
    obtain ⟨hlen, F0, p, ds, sH, hA, hq⟩ := hsp
    obtain ⟨_, hp3⟩ := hA.pin
    let Y : Cx := cxOf (L2.CX P w) P w K mg base f.N d.qual d.scope (He.fAd K d.at_) cdv A outer s H E
    have Z : StdS fs cs es k (nmOf K fn) (exOf K es) (run fs k) f.io (pinOf p) Y (fun cls d _ H => E cls d H) := by
      refine ⟨⟨hr, rfl, S.nd, takes_of rfl rfl rfl rfl, fun x hx => He.free_ok X G (fact_mem c (hasFree_mem (o3 x hx))), fun q hq => He.int_ok X G (fact_mem c (hasInt_mem (o4 q hq))), fun g' f' hf' => ?_, fun g' f' hf' => run_len hf', fun g' a ha => ?_⟩,
        passes_of rfl, fun _ => rfl, fun n x hx => ?_, fun σ i x h0 hp a e => ?_, fun σ σ' e hp a ea => by rw [e]; exact hp a ea, fun h0 σ a e => by rw [hp3 h0] at e; cases e⟩
      · obtain ⟨a, fd, r1, r2, r3, r4, _, r5⟩ := ih g' f' hf'
        exact ⟨a, fd, r1, r2, r3, r4, r5 base⟩
      · unfold nmOf at ha
        obtain ⟨d', hd', _⟩ := Option.map_eq_some_iff.mp ha
        have hlt : g' < fs.length := by rw [o7]; exact (List.getElem?_eq_some_iff.mp hd').1
        exact ⟨fs[g'], by simp [hlt]⟩
      · have hx' := o5 x (List.mem_of_getElem? hx)
        obtain ⟨r1, r2, r3, r4⟩ := He.exc_ok (fact_mem c (hasExc_mem hx'.2))
        refine ⟨He.ga K x, by unfold exOf; rw [hx]; rfl, He.glo_ok X G (fact_mem c (hasGlo_mem hx'.1)), r1, r2, raises_own r3 r4⟩
      · have hi : i ≠ 0 := by
          rintro rfl
          cases q : f.io with
          | true => rw [q] at h0; cases h0
          | false => rw [hp3 q] at e; cases e
        rw [List.getElem?_set_ne hi]
        exact hp a e
    exact ⟨_, (goodS Z f.body).lst _ q6, body_end hf sH hA hq⟩
/-- a law's promise: what run says of every script -/
theorem law_fin {fs : List FnI} {es : List Str} {fn : List He.DefD} {K : PySem.W.Frag} {k g : Nat} {n : Nat} (hn : n ≤ sizeLine) (plain : ∀ ns : List Int, ns.length ≤ n → (run fs k g [.scr ns]).1 = .ok (.bl true, false)) (H : Hp) (a : Addr) (ns : List Int) (hl : ns.length ≤ n) (hS : SqL K H a (ns.map V.int)) :
    spF K (nmOf K fn) (exOf K es) false 1 (run fs k g) [.ref a] H (fun v _ => v = .bl true) fun _ _ _ => False := by
  refine ⟨rfl, H, none, [.scr ns], Same.refl _, ⟨rfl, .cons (.scr hS (Nat.le_trans hl hn)) .nil⟩, ?_⟩
  have e := plain ns hl
  cases q : run fs k g [.scr ns] with
  | mk o c' =>
    rw [q] at e
    have e : o = .ok (.bl true, false) := e
    subst e
    intro F' v H' _ rv
    unfold RV at rv
    rw [if_neg (by decide)] at rv
    cases rv
    rfl
theorem cx_no {P : Program} {w : World} : ∀ (H : Hp) (s : Shared) (e : Value) (s' : Shared), L2.CX P w [] H s (fun _ _ _ => False) e s' → False := fun _ _ _ _ ⟨_, _, _, _, _, _, _, _, _, _, _, _, z⟩ => z
/-- a law's end, where what a call lets out knows its world -/
theorem walk_W {l : PySem.W.OpenLaw} {n k : Nat} {q : Program} {loose : List Str} {XP : (Str → Option Value) → Heap → Prop} {YP : World → Heap → Prop} {d : DefRec} {CX : World → CXT} {x : Str}
    (hn : l.most = some n) (hn2 : n ≤ sizeLine) (hdf : d.params.defaults = []) (hr : Room k callerA)
    (F : ∀ (w : World) (mg : Str → Option Value) (f : Addr) (h : Heap), YP w h → h.Ns mainGlobals mg → mg d.name = some (.ref f) →
      ∃ (K : PySem.W.Frag) (fd : FuncData) (sp : Sp), K.In h ∧ (∀ (s : Shared) (u : Value), BindsTo s fd ⟨[u], []⟩ [(x, u)]) ∧
        (∀ (H : Hp) (a : Addr) (ns : List Int), ns.length ≤ n → SqL K H a (ns.map V.int) → sp [.ref a] H (fun v _ => v = .bl true) fun _ _ _ => False) ∧
        ∀ base : Heap, FnOk l.prog w K mg base (CX w) k f fd [x] sp)
    (hCX : ∀ (w : World) (H : Hp) (s : Shared) (e : Value) (s' : Shared), CX w [] H s (fun _ _ _ => False) e s' → False) :
    PySem.W.WalkO q loose XP YP l.row.toRowW d [] (fun f vs => PySem.call f vs) := by
  refine Att.attach_call hn hdf fun w s₀ s₁ mg mb f o pm cd doc a vs ns G Y ho hd hcd hmg hobj hints hlen hg => ?_
  obtain ⟨K, fd, sp, KX, hb, hsp, hF⟩ := F w mg f _ Y G.T.g hmg
  exact law_call KX G.T.g G.T.b G.T.builtins G.T.nolimit hg hobj hints (Nat.le_trans hlen hn2) hr (fun base _ _ => hF base) hb (fun H _ hS => hsp H a ns hlen hS) fun H e s' => hCX w H s₁ e s'
end Pv

set_option Elab.async false
set_option linter.all false
set_option maxRecDepth 100000
set_option maxHeartbeats 4000000
set_option autoImplicit false
/-! Pv, part Y: what the laws' own helpers compute (drawing from a script). -/
namespace Pv
open PySem PySem.Spec PyProof.Rows L2
def takeF : FnI := ⟨"_law_take", ["tin", "below_so"], ["tin", "below_so", "once_so", "wide_so", "twice_so", "drawn_so"], true, .seq (.ife (.op .gt (.ix (.nm 0) (.lit (.int 0))) (.lit (.int 0))) (.seq (.set 5 (.op .mod (.bi .int (.cons (.ix (.nm 0) (.lit (.int 0))) .nil)) (.nm 1))) (.seq (.seti 0 (.lit (.int 0)) (.op .fdiv (.ix (.nm 0) (.lit (.int 0))) (.nm 1))) (.seq (.ret (.nm 5)) .nil))) .nil) (.seq (.seti 0 (.lit (.int 2)) (.op .add (.ix (.nm 0) (.lit (.int 2))) (.lit (.int 1)))) (.seq (.set 2 (.op .mod (.bi .int (.cons (.op .mul (.op .add (.ix (.nm 0) (.lit (.int 1))) (.op .mul (.lit (.int 48271)) (.ix (.nm 0) (.lit (.int 2))))) (.op .add (.lit (.int 39373)) (.ix (.nm 0) (.lit (.int 2))))) .nil)) (.lit (.int 2147483647)))) (.seq (.set 3 (.op .add (.op .mod (.bi .int (.cons (.nm 2) .nil)) (.lit (.int 40009))) (.lit (.int 7)))) (.seq (.set 4 (.op .mod (.bi .int (.cons (.op .mul (.op .add (.op .add (.nm 2) (.ix (.nm 0) (.lit (.int 2)))) (.op .fdiv (.ix (.nm 0) (.lit (.int 1))) (.lit (.int 1000003)))) (.nm 3)) .nil)) (.lit (.int 2147483629)))) (.seq (.ret (.op .mod (.bi .int (.cons (.op .fdiv (.op .mod (.bi .int (.cons (.op .add (.op .mul (.nm 4) (.lit (.int 48271))) (.nm 2)) .nil)) (.lit (.int 2147483587))) (.lit (.int 64))) .nil)) (.nm 1))) .nil)))))⟩
theorem run_at {fs : List FnI} {k g : Nat} {f : FnI} {ds : List D} (hf : fs[g]? = some f) (hl : ds.length = f.ps.length) : run fs (k + 1) g ds = match exec (ioOf fs) (run fs k) f.io f.body (startE f ds) with
    | (o, ρ) => match finC f.io ρ with
      | none => (.bad, .non)
      | some c => (resOf o, c) := by
  have e0 : run fs (k + 1) g ds = match fs[g]? with
      | none => (.bad, .non)
      | some f => if ds.length = f.ps.length then match exec (ioOf fs) (run fs k) f.io f.body (startE f ds) with
        | (o, ρ) => match finC f.io ρ with
          | none => (.bad, .non)
          | some c => (resOf o, c)
        else (.bad, .non) := rfl
  rw [e0, hf]
  show (if ds.length = f.ps.length then _ else _) = _
  rw [if_pos hl]
theorem take_pos {fs : List FnI} {k g : Nat} (hf : fs[g]? = some takeF) {a b c n : Int} (ha : 0 < a) (hn : 0 < n ∧ n < 1073741824) :
    run fs (k + 1) g [.lst [.int a, .int b, .int c], .int n] = (.ok (.int (a % n), false), .lst [.int (a / n), .int b, .int c]) := by
  rw [run_at hf rfl]
  simp [takeF, startE, exec, sem, Sm.of, truM, itrM, optM, M.bind, M.pure, ofO, pk, pks, frz, look, O2.run, zR, ixD, atI, ixN, bInt, B.run, truD, storeR, setM, setE, mutS, mutOk, putD, retM, finC, resOf, At.d, ha, hn.1, hn.2]
theorem small_of {x : Int} (h0 : 0 ≤ x) (h1 : x < 18446744073709551616) : small64 x = true := by
  unfold small64
  simp
  omega
theorem take_zero {fs : List FnI} {k g : Nat} (hf : fs[g]? = some takeF) {b c n : Int} (hc : 0 ≤ c ∧ c < 1000000) (hn : 0 < n) :
    ∃ r : Int, run fs (k + 1) g [.lst [.int 0, .int b, .int c], .int n] = (.ok (.int (r % n), false), .lst [.int 0, .int b, .int (c + 1)]) := by
  have h1 : small64 (39373 + (c + 1)) = true := small_of (by omega) (by omega)
  have h2 : ∀ x : Int, small64 (x % 40009 + 7) = true := fun x => small_of (by omega) (by omega)
  have h3 : small64 48271 = true := by decide
  let once : Int := ((b + 48271 * (c + 1)) * (39373 + (c + 1))) % 2147483647
  let twice : Int := ((once + (c + 1) + b / 1000003) * (once % 40009 + 7)) % 2147483629
  refine ⟨((twice * 48271 + once) % 2147483587) / 64, ?_⟩
  rw [run_at hf rfl]
  simp [takeF, startE, exec, sem, Sm.of, truM, itrM, optM, M.bind, M.pure, ofO, pk, pks, frz, look, O2.run, zR, ixD, atI, ixN, bInt, B.run, truD, storeR, setM, setE, mutS, mutOk, putD, retM, finC, resOf, At.d, h1, h2, h3, hn, once, twice]
/-- what a draw's state may be: at most m draws so far -/
def Tin (m : Nat) (d : D) : Prop := ∃ a b c : Int, d = .lst [.int a, .int b, .int c] ∧ 0 ≤ a ∧ 0 ≤ c ∧ c ≤ m
theorem take_ok {fs : List FnI} {k g m : Nat} (hf : fs[g]? = some takeF) {t : D} (ht : Tin m t) (hm : m < 1000000) {n : Int} (hn : 0 < n ∧ n < 1073741824) :
    ∃ (r : Int) (t' : D), run fs (k + 1) g [t, .int n] = (.ok (.int r, false), t') ∧ 0 ≤ r ∧ r < n ∧ Tin (m + 1) t' := by
  obtain ⟨a, b, c, rfl, ha, hc0, hc1⟩ := ht
  by_cases h : 0 < a
  · refine ⟨_, _, take_pos hf h hn, Int.emod_nonneg _ (by omega), Int.emod_lt_of_pos _ hn.1, _, b, c, rfl, Int.ediv_nonneg ha (by omega), hc0, by omega⟩
  · have e : a = 0 := by omega
    subst e
    obtain ⟨r, hr⟩ := take_zero hf (k := k) (b := b) (c := c) (n := n) ⟨hc0, by omega⟩ hn.1
    exact ⟨_, _, hr, Int.emod_nonneg _ (by omega), Int.emod_lt_of_pos _ hn.1, 0, b, c + 1, rfl, Int.le_refl _, by omega, by omega⟩
def pickS (gt : Nat) : S := .seq (.exp (.app 5 (.popi 4 (.call gt (.cons (.nm 0) (.cons (.bi .len (.cons (.nm 4) .nil)) .nil)))))) .nil
def pickF (gt : Nat) : FnI := ⟨"_law_pick", ["tin", "goods_so", "count_so"], ["tin", "goods_so", "count_so", "lap", "pool_so", "found"], true, .seq (.par 4 5 (.bi .list (.cons (.nm 1) .nil)) (.lst .nil)) (.seq (.for (.one 3) (.rng1 (.bi .min2 (.cons (.bi .int (.cons (.nm 2) .nil)) (.cons (.bi .len (.cons (.nm 4) .nil)) .nil)))) (pickS gt)) (.seq (.ret (.nm 5)) .nil))⟩
theorem pick_step {io : Nat → Bool} {Φ : Nat → Fn} {gt : Nat} {t t' y : D} {g1 g2 s3 : Option (D × Bool)} {pool found : List D} {r : Int} (hio : io gt = true) (hr : Φ gt [t, .int pool.length] = (.ok (.int r, false), t')) (h0 : 0 ≤ r) (h1 : r < pool.length) (hy : pool[r.toNat]? = some y) (hl : found.length < sizeLine) :
    exec io Φ true (pickS gt) [some (t, true), g1, g2, s3, some (.lst pool, true), some (.lst found, true)] = (.ok .nx, [some (t', true), g1, g2, s3, some (.lst (pool.eraseIdx r.toNat), true), some (.lst (found ++ [y]), true)]) := by
  have hi : ixN pool.length r = some r.toNat := by unfold ixN; rw [if_pos h0, if_pos h1]
  simp [pickS, exec, sem, Sm.of, M.bind, M.pure, ofO, pk, pks, frz, frzs, look, zR, B.run, bLen, callF, mutS, mutOkL, appD, popiD, hio, hr, hi, hy, hl]
theorem pick_loop {io : Nat → Bool} {Φ : Nat → Fn} {gt : Nat} {goods : List D} {g1 g2 : Option (D × Bool)} (hio : io gt = true) (hg : goods.length < 1073741824) (hN : goods.length ≤ sizeLine)
    (take : ∀ (m : Nat) (t : D) (n : Int), Tin m t → m < 1000000 → 0 < n ∧ n < 1073741824 → ∃ (r : Int) (t' : D), Φ gt [t, .int n] = (.ok (.int r, false), t') ∧ 0 ≤ r ∧ r < n ∧ Tin (m + 1) t') :
    ∀ (xs : List D) (m : Nat) (t : D) (s3 : Option (D × Bool)) (pool found : List D), xs.length ≤ pool.length → pool.length + found.length ≤ goods.length → (∀ x ∈ pool, x ∈ goods) → (∀ x ∈ found, x ∈ goods) → Tin m t → m + xs.length ≤ 1000000 →
      ∃ t' s3' pool' found', forGo (.one 3) (exec io Φ true (pickS gt)) xs [some (t, true), g1, g2, s3, some (.lst pool, true), some (.lst found, true)] = (.ok .nx, [some (t', true), g1, g2, s3', some (.lst pool', true), some (.lst found', true)]) ∧ (∀ x ∈ found', x ∈ goods) ∧ Tin (m + xs.length) t'
  | [], m, t, s3, pool, found, _, _, _, hf, ht, _ => ⟨t, s3, pool, found, rfl, hf, ht⟩
  | x :: xs, m, t, s3, pool, found, h1, h2, h3, h4, ht, hm => by
    rw [List.length_cons] at h1 hm
    obtain ⟨r, t', e, r0, r1, ht'⟩ := take m t pool.length ht (by omega) ⟨by omega, by omega⟩
    have hrn : r.toNat < pool.length := by omega
    have hy : pool[r.toNat]? = some pool[r.toNat] := List.getElem?_eq_getElem hrn
    have st := pick_step (io := io) (Φ := Φ) (gt := gt) (g1 := g1) (g2 := g2) (s3 := some (x, false)) (found := found) hio e r0 r1 hy (by omega)
    have hlen : (pool.eraseIdx r.toNat).length = pool.length - 1 := by rw [List.length_eraseIdx, if_pos hrn]
    obtain ⟨t2, s32, pool2, found2, e2, f2, ht2⟩ := pick_loop hio hg hN take xs (m + 1) t' (some (x, false)) (pool.eraseIdx r.toNat) (found ++ [pool[r.toNat]]) (by omega) (by rw [hlen, List.length_append]; show _ + (_ + 1) ≤ _; omega)
      (fun z hz => h3 z (List.mem_of_mem_eraseIdx hz)) (fun z hz => by
        rcases List.mem_append.mp hz with h | h
        · exact h4 z h
        · rw [List.mem_singleton.mp h]; exact h3 _ (List.getElem_mem hrn)) ht' (by omega)
    refine ⟨t2, s32, pool2, found2, ?_, f2, by rw [List.length_cons]; rw [show m + (xs.length + 1) = m + 1 + xs.length by omega]; exact ht2⟩
    show M.bind (exec io Φ true (pickS gt)) _ [some (t, true), g1, g2, some (x, false), some (.lst pool, true), some (.lst found, true)] = _
    unfold M.bind
    rw [st]
    exact e2
/-- PICK: some of the goods, each time -/
theorem pick_ok {fs : List FnI} {k g gt m : Nat} (hf : fs[g]? = some (pickF gt)) (hgt : fs[gt]? = some takeF) {t : D} (ht : Tin m t) {goods : List D} {cnt : Nat} (hc : cnt ≤ 1000) (hg : goods.length ≤ 1000) (hm : m + 1000 ≤ 1000000) :
    ∃ (out : List D) (t' : D), run fs (k + 2) g [t, .lst goods, .int (cnt : Int)] = (.ok (.lst out, true), t') ∧ (∀ x ∈ out, x ∈ goods) ∧ Tin (m + 1000) t' := by
  have hio : ioOf fs gt = true := by unfold ioOf; rw [hgt]; rfl
  have hs := sizeLine_eq
  rw [run_at hf rfl]
  -- the loop's range
  have hr : rngD [.int (if goods.length < cnt then (goods.length : Int) else (cnt : Int))] = some ((rngI 0 ((min cnt goods.length : Nat) : Int)).map D.int) := by
    have e : (if goods.length < cnt then (goods.length : Int) else (cnt : Int)) = ((min cnt goods.length : Nat) : Int) := by
      split <;> omega
    have ok : rngOk 0 ((min cnt goods.length : Nat) : Int) = true := by
      unfold rngOk
      simp only [Bool.and_eq_true, decide_eq_true_eq]
      rw [hs]
      omega
    rw [e]
    unfold rngD
    show (if rngOk 0 ((min cnt goods.length : Nat) : Int) = true then _ else _) = _
    rw [if_pos ok]
  have hlen : ((rngI 0 ((min cnt goods.length : Nat) : Int)).map D.int).length = min cnt goods.length := by simp [rngI]
  obtain ⟨t', s3, pool', found', e, f, ht'⟩ := pick_loop (io := ioOf fs) (Φ := run fs (k + 1)) (gt := gt) (goods := goods) (g1 := some (.lst goods, false)) (g2 := some (.int (cnt : Int), false)) hio (by omega) (by omega)
    (fun m t n h1 h2 h3 => take_ok hgt h1 h2 h3) ((rngI 0 ((min cnt goods.length : Nat) : Int)).map D.int) m t none goods [] (by rw [hlen]; omega) (by simp) (fun x h => h) (fun x h => nomatch h) ht (by rw [hlen]; omega)
  refine ⟨found', t', ?_, f, ?_⟩
  · have ex1 : exec (ioOf fs) (run fs (k + 1)) (pickF gt).io (pickF gt).body (startE (pickF gt) [t, .lst goods, .int (cnt : Int)]) = (.ok (.rt (.lst found') true), [some (t', true), some (.lst goods, false), some (.int (cnt : Int), false), s3, some (.lst pool', true), none]) := by
      simp [pickF, startE, exec, sem, Sm.of, M.bind, M.pure, ofO, pk, pks, frz, frzs, look, zR, B.run, bLen, bList, bInt, bMin2, storePar, parV, setM2, setE, retM, freeOf, T.slots, hr, e]
    rw [ex1]
    rfl
  · obtain ⟨a, b, c, e1, e2, e3, e4⟩ := ht'
    exact ⟨a, b, c, e1, e2, e3, by rw [hlen] at e4; omega⟩
end Pv

set_option Elab.async false
set_option linter.all false
set_option maxRecDepth 100000
set_option maxHeartbeats 4000000
set_option autoImplicit false
/-! Pv, part Y2: what the laws' own helpers compute (cells of a script, the source of draws). -/
namespace Pv
open PySem PySem.Spec PyProof.Rows L2
def boxF : FnI := ⟨"_law_box", ["script", "k"], ["script", "k", "bit_so"], false, .seq (.set 2 (.ife (.op .lt (.nm 1) (.bi .len (.cons (.nm 0) .nil))) (.ix (.nm 0) (.nm 1)) (.lit (.int 0)))) (.seq (.ret (.lst (.cons (.op .mul (.bi .abs (.cons (.nm 2) .nil)) (.bi .int (.cons (.op .ge (.bi .abs (.cons (.nm 2) .nil)) (.op .pow (.lit (.int 10)) (.lit (.int 18)))) .nil))) (.cons (.op .add (.op .add (.op .mod (.bi .int (.cons (.nm 2) .nil)) (.lit (.int 2305843009213693951))) (.op .mul (.lit (.int 39373)) (.nm 1))) (.lit (.int 268830))) (.cons (.lit (.int 0)) .nil))))) .nil)⟩
def cellsB : S := .seq (.set 5 (.op .mod (.bi .int (.cons (.nm 3) .nil)) (.nm 1))) (.seq (.seti 2 (.nm 5) (.op .add (.ix (.nm 2) (.nm 5)) (.op .mul (.nm 4) (.op .add (.nm 3) (.lit (.int 2)))))) .nil)
def cellsF : FnI := ⟨"_law_cells", ["script", "most_so"], ["script", "most_so", "cells_so", "k", "bit_so", "at_so"], false, .seq (.set 2 (.ort (.bi .list (.cons (.sl (.nm 0) .no (.nm 1)) .nil)) (.lst (.cons (.lit (.int 0)) .nil)))) (.seq (.for (.many [3, 4]) (.enum (.sl (.nm 0) (.nm 1) (.lit (.int 63)))) cellsB) (.seq (.ret (.nm 2)) .nil))⟩
theorem cells_step {io : Nat → Bool} {Φ : Nat → Fn} {m : Nat} (hm : 0 < m) {s0 s3 s4 : Option (D × Bool)} {xs : List Int} {k : Nat} {b : Int} {s5 : Option (D × Bool)} (hx : xs.length = m) (hk : k < 4000) :
    ∃ (xs' : List Int) (s5' : Option (D × Bool)), exec io Φ false cellsB [s0, some (.int (m : Int), false), some (.lst (xs.map D.int), true), some (.int (k : Int), false), some (.int b, false), s5] = (.ok .nx, [s0, some (.int (m : Int), false), some (.lst (xs'.map D.int), true), some (.int (k : Int), false), some (.int b, false), s5']) ∧ xs'.length = m := by
  have hmi : (0 : Int) < m := by omega
  have hlt : k % m < xs.length := by rw [hx]; exact Nat.mod_lt _ hm
  have e0 : ((k : Int) % (m : Int)) = ((k % m : Nat) : Int) := by omega
  have hi : ixN (xs.map D.int).length ((k : Int) % (m : Int)) = some (k % m) := by
    rw [e0, List.length_map]
    unfold ixN
    rw [if_pos (by omega), if_pos (by omega), Int.toNat_natCast]
  have hs : small64 ((k : Int) + 2) = true := small_of (by omega) (by omega)
  refine ⟨xs.set (k % m) (xs[k % m] + b * ((k : Int) + 2)), some (.int ((k : Int) % (m : Int)), false), ?_, by rw [List.length_set]; exact hx⟩
  rw [List.map_set]
  rw [List.length_map] at hi
  have hg : (xs.map D.int)[k % m]? = some (D.int xs[k % m]) := by rw [List.getElem?_map, List.getElem?_eq_getElem hlt]; rfl
  simp [cellsB, exec, sem, Sm.of, M.bind, M.pure, ofO, pk, pks, frz, look, O2.run, zR, ixD, atI, bInt, B.run, storeR, setM, setE, mutS, mutOk, putD, At.d, hm, hi, hs, hlt, hg]
theorem cells_loop {io : Nat → Bool} {Φ : Nat → Fn} {m : Nat} (hm : 0 < m) {s0 : Option (D × Bool)} :
    ∀ (bs : List Int) (k : Nat) (xs : List Int) (s3 s4 s5 : Option (D × Bool)), xs.length = m → k + bs.length < 4000 →
    ∃ (xs' : List Int) (s3' s4' s5' : Option (D × Bool)), forGo (.many [3, 4]) (exec io Φ false cellsB) (enumD k (bs.map D.int)) [s0, some (.int (m : Int), false), some (.lst (xs.map D.int), true), s3, s4, s5] = (.ok .nx, [s0, some (.int (m : Int), false), some (.lst (xs'.map D.int), true), s3', s4', s5']) ∧ xs'.length = m
  | [], k, xs, s3, s4, s5, h, _ => ⟨xs, s3, s4, s5, rfl, h⟩
  | b :: bs, k, xs, s3, s4, s5, h, hk => by
    rw [List.length_cons] at hk
    obtain ⟨xs1, s51, e1, h1⟩ := cells_step (io := io) (Φ := Φ) hm (s0 := s0) (s3 := s3) (s4 := s4) (b := b) (s5 := s5) h (show k < 4000 by omega)
    obtain ⟨xs2, s32, s42, s52, e2, h2⟩ := cells_loop hm bs (k + 1) xs1 (some (.int (k : Int), false)) (some (.int b, false)) s51 h1 (by omega)
    refine ⟨xs2, s32, s42, s52, ?_, h2⟩
    show M.bind (exec io Φ false cellsB) _ [s0, some (.int (m : Int), false), some (.lst (xs.map D.int), true), some (.int (k : Int), false), some (.int b, false), s5] = _
    unfold M.bind
    rw [e1]
    exact e2
/-- CELLS: some numbers, at least one -/
theorem cells_ok {fs : List FnI} {k g : Nat} (hf : fs[g]? = some cellsF) {ns : List Int} (hn : ns.length ≤ 63) {m : Nat} (hm : 0 < m) (hm2 : m < 63) :
    ∃ (xs : List Int), run fs (k + 1) g [.scr ns, .int (m : Int)] = (.ok (.lst (xs.map D.int), true), .non) ∧ xs ≠ [] ∧ xs.length ≤ m := by
  have hsz := sizeLine_eq
  have c1 : cutD (ns.map D.int) none (some (m : Int)) = (ns.take m).map D.int := by
    unfold cutD
    rw [HT.sIx_none, HT.sIx_nat, List.drop_zero, List.length_map, Nat.sub_zero, ← List.map_take]
    congr 1
    by_cases h : m ≤ ns.length
    · rw [Nat.min_eq_left h]
    · rw [Nat.min_eq_right (by omega), List.take_of_length_le (Nat.le_refl _), List.take_of_length_le (by omega)]
  have c2 : cutD (ns.map D.int) (some (m : Int)) (some 63) = (ns.drop m).map D.int := by
    unfold cutD
    rw [HT.sIx_nat, show (63 : Int) = ((63 : Nat) : Int) from rfl, HT.sIx_nat, List.length_map, ← List.map_drop, ← List.map_take]
    congr 1
    rw [Nat.min_eq_right (show ns.length ≤ 63 from hn)]
    by_cases h : m ≤ ns.length
    · rw [Nat.min_eq_left h, List.take_of_length_le (by rw [List.length_drop]; omega)]
    · rw [Nat.min_eq_right (by omega), List.drop_of_length_le (Nat.le_refl _), List.drop_of_length_le (by omega), List.take_nil]
  have key : ∀ (xs : List Int) (hx : xs ≠ []) (hl : xs.length ≤ m) (hor : (if ns.take m = [] then [0] else ns.take m) = xs), ∃ (ys : List Int), ys ≠ [] ∧ ys.length ≤ m ∧ ∃ s3 s4 s5, forGo (.many [3, 4]) (exec (ioOf fs) (run fs k) false cellsB) (enumD 0 ((ns.drop m).map D.int)) [some (.scr ns, false), some (.int (m : Int), false), some (.lst (xs.map D.int), true), none, none, none] = (.ok .nx, [some (.scr ns, false), some (.int (m : Int), false), some (.lst (ys.map D.int), true), s3, s4, s5]) := by
    intro xs hx hl hor
    by_cases h : ns.length ≤ m
    · rw [List.drop_of_length_le h]
      exact ⟨xs, hx, hl, none, none, none, rfl⟩
    · have ht : ns.take m ≠ [] := by
        intro e
        have := congrArg List.length e
        rw [List.length_take, Nat.min_eq_left (by omega)] at this
        simp at this
        omega
      rw [if_neg ht] at hor
      have hxl : xs.length = m := by rw [← hor, List.length_take, Nat.min_eq_left (by omega)]
      obtain ⟨ys, s3, s4, s5, e, hy⟩ := cells_loop (io := ioOf fs) (Φ := run fs k) hm (s0 := some (.scr ns, false)) (ns.drop m) 0 xs none none none hxl (by rw [List.length_drop]; omega)
      refine ⟨ys, ?_, by omega, s3, s4, s5, e⟩
      intro e0
      rw [e0] at hy
      simp at hy
      omega
  obtain ⟨ys, h1, h2, s3, s4, s5, e⟩ := key (if ns.take m = [] then [0] else ns.take m) (by
      split
      · exact List.cons_ne_nil _ _
      · assumption) (by
      split
      · exact hm
      · rw [List.length_take]; exact Nat.min_le_left _ _) rfl
  refine ⟨ys, ?_, h1, h2⟩
  rw [run_at hf rfl]
  have ex1 : exec (ioOf fs) (run fs k) cellsF.io cellsF.body (startE cellsF [.scr ns, .int (m : Int)]) = (.ok (.rt (.lst (ys.map D.int)) true), [some (.scr ns, false), some (.int (m : Int), false), none, s3, s4, s5]) := by
    generalize (ns.drop m).map D.int = Q at c2 e
    cases ht : ns.take m with
    | nil =>
      rw [if_pos ht] at e
      rw [ht] at c1
      simp only [List.map_cons, List.map_nil] at e c1
      simp [cellsF, startE, exec, sem, Sm.of, truM, itrM, optM, M.bind, M.pure, ofO, pk, pks, frz, frzs, look, zR, B.run, bLen, bList, bInt, slD, storeR, setM, setE, retM, freeOf, T.slots, D.items, truD, At.d, c1, c2, e]
    | cons z zs =>
      rw [if_neg (by rw [ht]; exact List.cons_ne_nil _ _)] at e
      rw [ht] at c1 e
      simp only [List.map_cons] at e c1
      simp [cellsF, startE, exec, sem, Sm.of, truM, itrM, optM, M.bind, M.pure, ofO, pk, pks, frz, frzs, look, zR, B.run, bLen, bList, bInt, slD, storeR, setM, setE, retM, freeOf, T.slots, D.items, truD, At.d, c1, c2, e]
  rw [ex1]
  rfl
theorem box_ok {fs : List FnI} {k g : Nat} (hf : fs[g]? = some boxF) {xs : List Int} {j : Nat} (hj : j < 1000) :
    ∃ (t : D), run fs (k + 1) g [.lst (xs.map D.int), .int (j : Int)] = (.ok (t, true), .non) ∧ Tin 0 t := by
  have hs1 : small64 39373 = true := by decide
  have key : ∀ b : Int, (if j < xs.length then (xs[j]?).getD 0 else 0) = b → ∃ (t : D), run fs (k + 1) g [.lst (xs.map D.int), .int (j : Int)] = (.ok (t, true), .non) ∧ Tin 0 t := by
    intro b hb
    have hs0 : small64 0 = true := by decide
    have hs2 : ∀ (p : Prop) [Decidable p], small64 (if p then (1 : Int) else 0) = true := by intro p _; split <;> decide
    let a : Int := if b < 0 then -b else b
    let c : Bool := decide ((10 : Int) ^ 18 ≤ a)
    refine ⟨.lst [.int (a * (if c then 1 else 0)), .int (b % 2305843009213693951 + 39373 * (j : Int) + 268830), .int 0], ?_, _, _, _, rfl, ?_, Int.le_refl _, Int.le_refl _⟩
    · rw [run_at hf rfl]
      by_cases h : j < xs.length
      · rw [if_pos h, List.getElem?_eq_getElem h, Option.getD_some] at hb
        have hi : ixN (xs.map D.int).length (j : Int) = some j := by
          unfold ixN
          rw [if_pos (by omega), if_pos (by rw [List.length_map]; omega)]
          simp
        rw [List.length_map] at hi
        have hlt : (j : Int) < (xs.length : Int) := by omega
        simp [boxF, startE, exec, sem, Sm.of, truM, itrM, optM, M.bind, M.pure, ofO, pk, pks, frz, frzs, look, zR, B.run, bLen, bInt, bAbs, O2.run, ixD, atI, storeR, setM, setE, retM, truD, At.d, hi, h, hb, hs1, hs2, a, c, finC, resOf]
      · rw [if_neg h] at hb
        subst hb
        have hlt : ¬ (j : Int) < (xs.length : Int) := by omega
        simp [boxF, startE, exec, sem, Sm.of, truM, itrM, optM, M.bind, M.pure, ofO, pk, pks, frz, frzs, look, zR, B.run, bLen, bInt, bAbs, O2.run, ixD, atI, storeR, setM, setE, retM, truD, At.d, h, hlt, hs1, hs2, hs0, a, c, finC, resOf]
    · show 0 ≤ a * (if c then 1 else 0)
      have ha : 0 ≤ a := by show 0 ≤ (if b < 0 then -b else b); split <;> omega
      split
      · omega
      · omega
  exact key _ rfl
end Pv

set_option Elab.async false
set_option linter.all false
set_option maxRecDepth 100000
set_option maxHeartbeats 4000000
set_option autoImplicit false
/-! Pv, part Y3: going through a def's statements in steps; loops that keep a promise. -/
namespace Pv
open PySem PySem.Spec PyProof.Rows L2
/-- the first n statements -/
def S.tk : Nat → S → S
  | 0, _ => .nil
  | n + 1, .seq a b => .seq a (b.tk n)
  | _ + 1, s => s
/-- what stands behind the first n statements -/
def S.dp : Nat → S → S
  | 0, s => s
  | n + 1, .seq _ b => b.dp n
  | _ + 1, _ => .nil
def S.hd : S → S
  | .seq a _ => a
  | s => s
def S.bd : S → S
  | .for _ _ b => b
  | s => s
theorem exec_seq {io : Nat → Bool} {Φ : Nat → Fn} {me : Bool} {a b : S} {ρ ρ' : Env} (h : exec io Φ me a ρ = (.ok .nx, ρ')) : exec io Φ me (.seq a b) ρ = exec io Φ me b ρ' := by
  show M.bind (exec io Φ me a) _ ρ = _
  unfold M.bind
  rw [h]
theorem exec_cut {io : Nat → Bool} {Φ : Nat → Fn} {me : Bool} : ∀ (n : Nat) (s : S) {ρ ρ' : Env}, exec io Φ me (s.tk n) ρ = (.ok .nx, ρ') → exec io Φ me s ρ = exec io Φ me (s.dp n) ρ'
  | 0, s, ρ, ρ', h => by
    have h : ((.ok .nx, ρ) : Out Fl × Env) = (.ok .nx, ρ') := h
    cases h
    rfl
  | n + 1, .seq a b, ρ, ρ', h => by
    have h : M.bind (exec io Φ me a) (fun f => match f with
      | .nx => exec io Φ me (b.tk n)
      | f => M.pure f) ρ = (.ok .nx, ρ') := h
    show M.bind (exec io Φ me a) (fun f => match f with
      | .nx => exec io Φ me b
      | f => M.pure f) ρ = exec io Φ me (b.dp n) ρ'
    unfold M.bind at h ⊢
    cases e : exec io Φ me a ρ with
    | mk o ρ1 =>
      rw [e] at h
      cases o with
      | ok f => cases f with
        | nx => exact exec_cut n b h
        | rt d fr => exact absurd (congrArg Prod.fst h) (fun q => by cases q)
        | bk => exact absurd (congrArg Prod.fst h) (fun q => by cases q)
        | ct => exact absurd (congrArg Prod.fst h) (fun q => by cases q)
      | exc n => exact absurd (congrArg Prod.fst h) (fun q => by cases q)
      | bad => exact absurd (congrArg Prod.fst h) (fun q => by cases q)
  | n + 1, .nil, ρ, ρ', h => h
  | n + 1, .set i e, ρ, ρ', h => h
  | n + 1, .setlc i e, ρ, ρ', h => h
  | n + 1, .par i j a b, ρ, ρ', h => h
  | n + 1, .unp is e, ρ, ρ', h => h
  | n + 1, .unp2 i k j l e, ρ, ρ', h => h
  | n + 1, .aug i o e, ρ, ρ', h => h
  | n + 1, .seti i k e, ρ, ρ', h => h
  | n + 1, .exp e, ρ, ρ', h => h
  | n + 1, .ret e, ρ, ρ', h => h
  | n + 1, .retn, ρ, ρ', h => h
  | n + 1, .ife c a b, ρ, ρ', h => h
  | n + 1, .whl c b, ρ, ρ', h => h
  | n + 1, .for tg it b, ρ, ρ', h => h
  | n + 1, .brk, ρ, ρ', h => h
  | n + 1, .cont, ρ, ρ', h => h
  | n + 1, .pass, ρ, ρ', h => h
  | n + 1, .rais m, ρ, ρ', h => h
theorem forGo_inv {tg : T} {b : M Fl} {P : Nat → Env → Prop} : ∀ (xs : List D) (i : Nat) (ρ : Env), P i ρ →
    (∀ x ∈ xs, ∀ (j : Nat) (ρ : Env), j < i + xs.length → P j ρ → ∃ ρ1 ρ', setT tg x ρ = some ρ1 ∧ b ρ1 = (.ok .nx, ρ') ∧ P (j + 1) ρ') →
    ∃ ρ', forGo tg b xs ρ = (.ok .nx, ρ') ∧ P (i + xs.length) ρ'
  | [], i, ρ, h, _ => ⟨ρ, rfl, h⟩
  | x :: xs, i, ρ, h, st => by
    rw [List.length_cons] at st ⊢
    obtain ⟨ρ1, ρ2, e1, e2, h2⟩ := st x (List.mem_cons_self ..) i ρ (by omega) h
    obtain ⟨ρ', e3, h3⟩ := forGo_inv xs (i + 1) ρ2 h2 (fun y hy j ρ hj hp => st y (List.mem_cons_of_mem _ hy) j ρ (by omega) hp)
    refine ⟨ρ', ?_, by rw [show i + (xs.length + 1) = i + 1 + xs.length by omega]; exact h3⟩
    show (match setT tg x ρ with
      | none => ((.bad, ρ) : Out Fl × Env)
      | some ρ1 => M.bind b (fun f => match f with
        | .nx => forGo tg b xs
        | .ct => forGo tg b xs
        | .bk => M.pure .nx
        | .rt d fr => M.pure (.rt d fr)) ρ1) = _
    rw [e1]
    show M.bind b _ ρ1 = _
    unfold M.bind
    rw [e2]
    exact e3
theorem exec_for {io : Nat → Bool} {Φ : Nat → Fn} {me : Bool} {tg : T} {it : E} {b : S} {xs : List D} {ρ ρ1 ρ' : Env} (h : (sem io Φ it).itr ρ = (.ok xs, ρ1)) (hf : freeOf me tg.slots = true) (hg : forGo tg (exec io Φ me b) xs ρ1 = (.ok .nx, ρ')) : exec io Φ me (.for tg it b) ρ = (.ok .nx, ρ') := by
  show M.bind (sem io Φ it).itr _ ρ = _
  unfold M.bind
  rw [h]
  show (if freeOf me tg.slots = true then forGo tg (exec io Φ me b) xs else M.bad) ρ1 = _
  rw [if_pos hf]
  exact hg
/-- a bool told by a def that changes nothing -/
def resB (b : Bool) : Out (D × Bool) × D → Bool
  | (.ok (.bl c, false), .non) => b == c
  | _ => false
theorem resB_eq {b : Bool} {x : Out (D × Bool) × D} (h : resB b x = true) : x = (.ok (.bl b, false), .non) := by
  unfold resB at h
  split at h
  · rw [eq_of_beq h]
  · cases h
/-- the question of a judge: is what it says as it is due? -/
def askS (gs gc i j s : Nat) (w : Bool) : S := .ife (.not (.call gs (.cons (.call gc (.cons (.nm i) (.cons (.op .add (.nm j) (.tup (.cons (.nm s) .nil))) .nil))) (.cons (.lit (.bl w)) .nil)))) (.seq (.ret (.lit (.bl false))) .nil) .nil
theorem ask_ok {io : Nat → Bool} {Φ : Nat → Fn} {gs gc i j s g : Nat} {w : Bool} {ρ : Env} {ah : List D} {d : D} (h1 : io gs = false) (h2 : io gc = false) (hi : ρ[i]? = some (some (.fn g, false))) (hj : ρ[j]? = some (some (.tup ah, false))) (hs : ρ[s]? = some (some (d, false)))
    (hl : ah.length < 4000) (hc : Φ gc [.fn g, .tup (ah ++ [d])] = (.ok (.bl w, false), .non)) (hS : Φ gs [.bl w, .bl w] = (.ok (.bl true, false), .non)) : exec io Φ false (askS gs gc i j s w) ρ = (.ok .nx, ρ) := by
  have hz := sizeLine_eq
  have hl' : ah.length + 1 ≤ sizeLine := by omega
  simp [askS, exec, sem, Sm.of, truM, M.bind, M.pure, ofO, pk, pks, frz, frzs, look, O2.run, zR, callF, truD, At.d, h1, h2, hi, hj, hs, hl', hc, hS]
end Pv

set_option Elab.async false
set_option linter.all false
set_option maxRecDepth 100000
set_option maxHeartbeats 0
namespace Hd
open PySem PySem.Spec PyProof.Rows L2
def top (i : Nat) : Stmt := PySem.Challenge.pw_lotsthatlead_k16_judges_and_odd_things_h.main.body.getD i (.Pass ⟨0, 0, 0, 0⟩)
def mkD (x : Str) (i : Nat) : He.DefD := ⟨(x, none), x, x, defArgs (top i), defBody (top i), defScope (top i), [], []⟩
def fn : List He.DefD := [mkD "is_number" 4, mkD "is_within" 5, mkD "is_long" 6, mkD "are_within" 7, mkD "tupled" 8, mkD "is_set_below" 9, mkD "sure_set" 10, mkD "sets_of_size" 11, mkD "is_order_of" 12, mkD "is_arrow_in" 15, mkD "are_arrows_in" 16, mkD "is_web_in" 17, mkD "sure_web" 18, mkD "sure_some" 19, mkD "next_in" 20, mkD "ahead_in" 21, mkD "is_still_in" 22, mkD "reach_in" 23, mkD "is_hued_in" 26, mkD "sure_hued" 27, mkD "hue_web" 28, mkD "led_in" 29, mkD "is_lot_in" 30, mkD "is_hued" 31, mkD "is_leading_lot" 32, mkD "is_hued_way_in" 33, mkD "is_hued_way" 34, mkD "are_leading_roads" 35, mkD "is_row_in" 38, mkD "is_wishes_in" 39, mkD "sure_wishes" 40, mkD "pairs_in" 41, mkD "is_pairing_in" 42, mkD "wishes_more" 43, mkD "partners" 44, mkD "breaking_in" 45, mkD "is_wishes" 46, mkD "is_pairing" 47, mkD "is_firm" 48, mkD "is_duel_in" 51, mkD "sure_duel" 52, mkD "small_duel" 53, mkD "forward_in" 54, mkD "tails_of" 55, mkD "is_duel" 56, mkD "sure_row" 57, mkD "is_best_order" 58, mkD "is_ring_through" 59, mkD "is_score_paper" 60, mkD "is_committee_in" 64, mkD "ahead_of" 65, mkD "web_of" 66, mkD "is_committee" 67, mkD "is_committee_for" 68, mkD "is_chain" 69, mkD "is_tie_in" 74, mkD "is_listed_in" 75, mkD "sure_listed" 76, mkD "do_touch" 77, mkD "most_in" 78, mkD "is_hueing_in" 79, mkD "touching_alike" 80, mkD "is_listed" 81, mkD "is_hueing" 82, mkD "are_plain_hues" 83, mkD "is_hue_walk" 84, mkD "far_in" 86, mkD "is_second_in" 87, mkD "is_second_rest" 88, mkD "are_second_roads" 89, mkD "is_road_in" 90, mkD "_law_box" 92, mkD "_law_take" 93, mkD "_law_cells" 94, mkD "_law_pick" 95, mkD "_law_same" 96, mkD "_law_call" 97, mkD "law" 98]
def fa : List He.Fa := [.glo "is_number", .glo "is_within", .glo "is_long", .glo "are_within", .glo "tupled", .glo "is_set_below", .glo "sure_set", .glo "sets_of_size", .glo "is_order_of", .glo "is_arrow_in", .glo "are_arrows_in", .glo "is_web_in", .glo "sure_web", .glo "sure_some", .glo "next_in", .glo "ahead_in", .glo "is_still_in", .glo "reach_in", .glo "is_hued_in", .glo "sure_hued", .glo "hue_web", .glo "led_in", .glo "is_lot_in", .glo "is_hued", .glo "is_leading_lot", .glo "is_hued_way_in", .glo "is_hued_way", .glo "are_leading_roads", .glo "is_row_in", .glo "is_wishes_in", .glo "sure_wishes", .glo "pairs_in", .glo "is_pairing_in", .glo "wishes_more", .glo "partners", .glo "breaking_in", .glo "is_wishes", .glo "is_pairing", .glo "is_firm", .glo "is_duel_in", .glo "sure_duel", .glo "small_duel", .glo "forward_in", .glo "tails_of", .glo "is_duel", .glo "sure_row", .glo "is_best_order", .glo "is_ring_through", .glo "is_score_paper", .glo "is_committee_in", .glo "ahead_of", .glo "web_of", .glo "is_committee", .glo "is_committee_for", .glo "is_chain", .glo "is_tie_in", .glo "is_listed_in", .glo "sure_listed", .glo "do_touch", .glo "most_in", .glo "is_hueing_in", .glo "touching_alike", .glo "is_listed", .glo "is_hueing", .glo "are_plain_hues", .glo "is_hue_walk", .glo "far_in", .glo "is_second_in", .glo "is_second_rest", .glo "are_second_roads", .glo "is_road_in", .glo "_law_box", .glo "_law_take", .glo "_law_cells", .glo "_law_pick", .glo "_law_same", .glo "_law_call", .glo "law", .glo "TooMany", .glo "Unfit", .exc "TooMany", .exc "Unfit", .int "MOST_PLACES" 12, .int "MOST_HUES" 4, .int "MOST_SIDE" 5, .int "MOST_ORDERED" 8, .int "MOST_CHOICES" 12, .int "MOST_VOTES" 200, .int "MOST_ENDS" 6, .int "MOST_TIES" 20, .int "MOST_COLOURS" 12, .free "ValueError", .free "abs", .free "all", .free "any", .free "bool", .free "enumerate", .free "int", .free "isinstance", .free "len", .free "list", .free "max", .free "min", .free "range", .free "reversed", .free "set", .free "sorted", .free "str", .free "sum", .free "tuple", .free "zip"]
def loose0 : List PySem.Str := ["is_number", "is_within", "is_long", "are_within", "tupled", "is_set_below", "sure_set", "sets_of_size", "is_order_of", "is_arrow_in", "are_arrows_in", "is_web_in", "sure_web", "sure_some", "next_in", "ahead_in", "is_still_in", "reach_in", "is_hued_in", "sure_hued"]
def loose1 : List PySem.Str := ["hue_web", "led_in", "is_lot_in", "is_hued", "is_leading_lot", "is_hued_way_in", "is_hued_way", "are_leading_roads", "is_row_in", "is_wishes_in", "sure_wishes", "pairs_in", "is_pairing_in", "wishes_more", "partners", "breaking_in", "is_wishes", "is_pairing", "is_firm", "is_duel_in"]
def loose2 : List PySem.Str := ["sure_duel", "small_duel", "forward_in", "tails_of", "is_duel", "sure_row", "is_best_order", "is_ring_through", "is_score_paper", "is_committee_in", "ahead_of", "web_of", "is_committee", "is_committee_for", "is_chain", "is_tie_in", "is_listed_in", "sure_listed", "do_touch", "most_in"]
def loose3 : List PySem.Str := ["is_hueing_in", "touching_alike", "is_listed", "is_hueing", "are_plain_hues", "is_hue_walk", "far_in", "is_second_in", "is_second_rest", "are_second_roads", "is_road_in", "_law_box", "_law_take", "_law_cells", "_law_pick", "_law_same", "_law_call", "TooMany", "Unfit", "MOST_PLACES"]
def loose4 : List PySem.Str := ["MOST_HUES", "MOST_SIDE", "MOST_ORDERED", "MOST_CHOICES", "MOST_VOTES", "MOST_ENDS", "MOST_TIES", "MOST_COLOURS"]
def loose : List PySem.Str := loose0 ++ loose1 ++ loose2 ++ loose3 ++ loose4
abbrev R : PySem.W.OpenRow := PySem.W.OpenLaw.row PySem.Challenge.rw_lotsthatlead_k16_judges_and_odd_things_h
abbrev hk : PySem.W.Hook := He.hookD 4 fa fn
def ob (s : PySem.W.SharedT) : He.AlD := He.obsDG 4 fa fn (HandSHeadRun.getT s)
theorem ob_eq (s : PySem.W.SharedT) : ob s = hk.obs s.abs := He.obsDG_eq (HandSHeadRun.getT_eq s)
theorem headrun (w : World) : HandSHeadRun.RunEq R (PySem.W.view R.prog [98]) hk ob 6000 loose w := by
  intro os
  kernel_rfl
end Hd

set_option Elab.async false
set_option linter.all false
set_option maxRecDepth 1000000
set_option maxHeartbeats 0
namespace Hd
open PySem PySem.Spec PyProof.Rows L2 Pv
def f0 : FnI := ⟨"is_number", ["thing"], ["thing"], false, .seq (.ret (.and (.isi (.nm 0) ["int"] false) (.bo1 (.not (.isi (.nm 0) ["bool"] false))))) .nil⟩
def f1 : FnI := ⟨"is_within", ["thing", "least", "most"], ["thing", "least", "most"], false, .seq (.ret (.and (.call 0 (.cons (.nm 0) .nil)) (.bo1 (.chain .le .le (.nm 1) (.nm 0) (.nm 2))))) .nil⟩
def f2 : FnI := ⟨"is_long", ["thing", "length"], ["thing", "length"], false, .seq (.ret (.and (.isi (.nm 0) ["tuple"] false) (.bo1 (.op .eq (.bi .len (.cons (.nm 0) .nil)) (.nm 1))))) .nil⟩
def f3 : FnI := ⟨"are_within", ["thing", "least", "most"], ["thing", "least", "most", "own"], false, .seq (.ret (.and (.isi (.nm 0) ["tuple"] false) (.bo1 (.bi .all (.cons (.lc (.one 3) (.nm 0) .nil (.call 1 (.cons (.nm 3) (.cons (.nm 1) (.cons (.nm 2) .nil))))) .nil))))) .nil⟩
def f4 : FnI := ⟨"tupled", ["value"], ["value", "own"], false, .seq (.ret (.ife (.isi (.nm 0) ["list", "tuple"] true) (.bi .tuple (.cons (.lc (.one 1) (.nm 0) .nil (.call 4 (.cons (.nm 1) .nil))) .nil)) (.nm 0))) .nil⟩
def f5 : FnI := ⟨"is_set_below", ["thing", "many"], ["thing", "many", "k"], false, .seq (.ife (.not (.call 3 (.cons (.nm 0) (.cons (.lit (.int 0)) (.cons (.op .sub (.nm 1) (.lit (.int 1))) .nil))))) (.seq (.ret (.lit (.bl false))) .nil) .nil) (.seq (.ret (.bi .all (.cons (.lc (.one 2) (.rng1 (.op .sub (.bi .len (.cons (.nm 0) .nil)) (.lit (.int 1)))) .nil (.op .lt (.ix (.nm 0) (.nm 2)) (.ix (.nm 0) (.op .add (.nm 2) (.lit (.int 1)))))) .nil))) .nil)⟩
def f6 : FnI := ⟨"sure_set", ["value", "many"], ["value", "many", "own"], false, .seq (.set 2 (.call 4 (.cons (.nm 0) .nil))) (.seq (.ife (.not (.call 5 (.cons (.nm 2) (.cons (.nm 1) .nil)))) (.seq (.rais 1) .nil) .nil) (.seq (.ret (.nm 2)) .nil))⟩
def f7 : FnI := ⟨"sets_of_size", ["some", "size"], ["some", "size", "found", "_", "own", "its"], false, .seq (.set 2 (.lst (.cons (.tup .nil) .nil))) (.seq (.for (.one 3) (.rng1 (.nm 1)) (.seq (.setlc 2 (.lc2 (.one 4) (.nm 2) .nil (.one 5) (.nm 0) (.or (.op .eq (.nm 4) (.tup .nil)) (.bo1 (.op .gt (.nm 5) (.ix (.nm 4) (.neg (.lit (.int 1))))))) (.op .add (.nm 4) (.tup (.cons (.nm 5) .nil))))) .nil)) (.seq (.ret (.nm 2)) .nil))⟩
def f8 : FnI := ⟨"is_order_of", ["thing", "many"], ["thing", "many"], false, .seq (.ife (.not (.call 3 (.cons (.nm 0) (.cons (.lit (.int 0)) (.cons (.op .sub (.nm 1) (.lit (.int 1))) .nil))))) (.seq (.ret (.lit (.bl false))) .nil) .nil) (.seq (.ret (.and (.op .eq (.bi .len (.cons (.nm 0) .nil)) (.nm 1)) (.bo1 (.op .eq (.lset (.nm 0)) (.nm 1))))) .nil)⟩
def f9 : FnI := ⟨"is_arrow_in", ["thing", "many"], ["thing", "many", "own"], false, .seq (.ret (.and (.call 2 (.cons (.nm 0) (.cons (.lit (.int 2)) .nil))) (.and (.bi .all (.cons (.lc (.one 2) (.nm 0) .nil (.call 1 (.cons (.nm 2) (.cons (.lit (.int 0)) (.cons (.op .sub (.nm 1) (.lit (.int 1))) .nil))))) .nil)) (.bo1 (.op .ne (.ix (.nm 0) (.lit (.int 0))) (.ix (.nm 0) (.lit (.int 1)))))))) .nil⟩
def f10 : FnI := ⟨"are_arrows_in", ["thing", "many"], ["thing", "many", "k", "own"], false, .seq (.ife (.or (.not (.isi (.nm 0) ["tuple"] false)) (.bo1 (.not (.bi .all (.cons (.lc (.one 3) (.nm 0) .nil (.call 9 (.cons (.nm 3) (.cons (.nm 1) .nil)))) .nil))))) (.seq (.ret (.lit (.bl false))) .nil) .nil) (.seq (.ret (.bi .all (.cons (.lc (.one 2) (.rng1 (.op .sub (.bi .len (.cons (.nm 0) .nil)) (.lit (.int 1)))) .nil (.op .lt (.ix (.nm 0) (.nm 2)) (.ix (.nm 0) (.op .add (.nm 2) (.lit (.int 1)))))) .nil))) .nil)⟩
def f11 : FnI := ⟨"is_web_in", ["thing"], ["thing"], false, .seq (.ret (.and (.call 2 (.cons (.nm 0) (.cons (.lit (.int 2)) .nil))) (.and (.call 1 (.cons (.ix (.nm 0) (.lit (.int 0))) (.cons (.lit (.int 1)) (.cons (.gi "MOST_PLACES" 12) .nil)))) (.bo1 (.call 10 (.cons (.ix (.nm 0) (.lit (.int 1))) (.cons (.ix (.nm 0) (.lit (.int 0))) .nil))))))) .nil⟩
def f12 : FnI := ⟨"sure_web", ["value"], ["value", "own"], false, .seq (.set 1 (.call 4 (.cons (.nm 0) .nil))) (.seq (.ife (.not (.call 11 (.cons (.nm 1) .nil))) (.seq (.rais 1) .nil) .nil) (.seq (.ret (.nm 1)) .nil))⟩
def f13 : FnI := ⟨"sure_some", ["web", "value"], ["web", "value"], false, .seq (.ret (.call 6 (.cons (.nm 1) (.cons (.ix (.nm 0) (.lit (.int 0))) .nil)))) .nil⟩
def f14 : FnI := ⟨"next_in", ["web", "place"], ["web", "place", "here", "other"], false, .seq (.ret (.bi .tuple (.cons (.lc (.many [2, 3]) (.ix (.nm 0) (.lit (.int 1))) (.op .eq (.nm 2) (.nm 1)) (.nm 3)) .nil))) .nil⟩
def f15 : FnI := ⟨"ahead_in", ["web", "place"], ["web", "place", "here", "other"], false, .seq (.ret (.bi .tuple (.cons (.lc (.many [2, 3]) (.ix (.nm 0) (.lit (.int 1))) (.op .eq (.nm 3) (.nm 1)) (.nm 2)) .nil))) .nil⟩
def f16 : FnI := ⟨"is_still_in", ["web", "some"], ["web", "some", "here", "other"], false, .seq (.ret (.not (.bi .any (.cons (.lc (.many [2, 3]) (.ix (.nm 0) (.lit (.int 1))) .nil (.and (.op .in (.nm 2) (.nm 1)) (.bo1 (.op .in (.nm 3) (.nm 1))))) .nil)))) .nil⟩
def f17 : FnI := ⟨"reach_in", ["web", "place"], ["web", "place", "found", "line", "here", "other"], false, .seq (.par 2 3 (.lst (.cons (.nm 1) .nil)) (.lst (.cons (.nm 1) .nil))) (.seq (.whl (.op .ne (.nm 3) (.lst .nil)) (.seq (.set 4 (.pop 3)) (.seq (.for (.one 5) (.call 14 (.cons (.nm 0) (.cons (.nm 4) .nil))) (.seq (.ife (.op .notin (.nm 5) (.nm 2)) (.seq (.exp (.app 2 (.nm 5))) (.seq (.exp (.app 3 (.nm 5))) .nil)) .nil) .nil)) .nil))) (.seq (.ret (.bi .tuple (.cons (.bi .sorted (.cons (.nm 2) .nil)) .nil))) .nil))⟩
def f18 : FnI := ⟨"is_hued_in", ["thing"], ["thing", "own"], false, .seq (.ife (.or (.not (.call 2 (.cons (.nm 0) (.cons (.lit (.int 2)) .nil)))) (.or (.not (.call 1 (.cons (.ix (.nm 0) (.lit (.int 0))) (.cons (.lit (.int 1)) (.cons (.gi "MOST_PLACES" 12) .nil))))) (.bo1 (.not (.isi (.ix (.nm 0) (.lit (.int 1))) ["tuple"] false))))) (.seq (.ret (.lit (.bl false))) .nil) .nil) (.seq (.ret (.and (.chain .le .le (.lit (.int 1)) (.bi .len (.cons (.ix (.nm 0) (.lit (.int 1))) .nil)) (.gi "MOST_HUES" 4)) (.bo1 (.bi .all (.cons (.lc (.one 1) (.ix (.nm 0) (.lit (.int 1))) .nil (.call 10 (.cons (.nm 1) (.cons (.ix (.nm 0) (.lit (.int 0))) .nil)))) .nil))))) .nil)⟩
def f19 : FnI := ⟨"sure_hued", ["value"], ["value", "own"], false, .seq (.set 1 (.call 4 (.cons (.nm 0) .nil))) (.seq (.ife (.not (.call 18 (.cons (.nm 1) .nil))) (.seq (.rais 1) .nil) .nil) (.seq (.ret (.nm 1)) .nil))⟩
def f20 : FnI := ⟨"hue_web", ["hued", "hue"], ["hued", "hue"], false, .seq (.ret (.tup (.cons (.ix (.nm 0) (.lit (.int 0))) (.cons (.ix (.ix (.nm 0) (.lit (.int 1))) (.nm 1)) .nil)))) .nil⟩
def f21 : FnI := ⟨"led_in", ["hued"], ["hued", "found", "place", "own", "hue", "other"], false, .seq (.set 1 (.lst .nil)) (.seq (.for (.one 2) (.rng1 (.ix (.nm 0) (.lit (.int 0)))) (.seq (.set 3 (.lst .nil)) (.seq (.for (.one 4) (.rng1 (.bi .len (.cons (.ix (.nm 0) (.lit (.int 1))) .nil))) (.seq (.exp (.ext 3 (.call 17 (.cons (.call 20 (.cons (.nm 0) (.cons (.nm 4) .nil))) (.cons (.nm 2) .nil))))) .nil)) (.seq (.exp (.app 1 (.bi .tuple (.cons (.sset (.lc (.one 5) (.nm 3) (.op .ne (.nm 5) (.nm 2)) (.nm 5))) .nil)))) .nil)))) (.seq (.ret (.nm 1)) .nil))⟩
def f22 : FnI := ⟨"is_lot_in", ["hued", "some", "led"], ["hued", "some", "led", "one", "other", "place"], false, .seq (.ife (.bi .any (.cons (.lc2 (.one 3) (.nm 1) .nil (.one 4) (.nm 1) (.op .ne (.nm 3) (.nm 4)) (.op .in (.nm 4) (.ix (.nm 2) (.nm 3)))) .nil)) (.seq (.ret (.lit (.bl false))) .nil) .nil) (.seq (.ret (.bi .all (.cons (.lc (.one 5) (.rng1 (.ix (.nm 0) (.lit (.int 0)))) (.op .notin (.nm 5) (.nm 1)) (.bi .any (.cons (.lc (.one 4) (.nm 1) .nil (.op .in (.nm 4) (.ix (.nm 2) (.nm 5)))) .nil))) .nil))) .nil)⟩
def f23 : FnI := ⟨"is_hued", ["thing"], ["thing"], false, .seq (.ret (.call 18 (.cons (.nm 0) .nil))) .nil⟩
def f24 : FnI := ⟨"is_leading_lot", ["hued", "thing"], ["hued", "thing", "own"], false, .seq (.set 2 (.call 19 (.cons (.nm 0) .nil))) (.seq (.ret (.and (.call 5 (.cons (.nm 1) (.cons (.ix (.nm 2) (.lit (.int 0))) .nil))) (.bo1 (.call 22 (.cons (.nm 2) (.cons (.nm 1) (.cons (.call 21 (.cons (.nm 2) .nil)) .nil))))))) .nil)⟩
def f25 : FnI := ⟨"is_hued_way_in", ["hued", "thing"], ["hued", "thing", "road", "k", "own"], false, .seq (.ife (.or (.not (.call 2 (.cons (.nm 1) (.cons (.lit (.int 2)) .nil)))) (.or (.not (.call 1 (.cons (.ix (.nm 1) (.lit (.int 0))) (.cons (.lit (.int 0)) (.cons (.op .sub (.bi .len (.cons (.ix (.nm 0) (.lit (.int 1))) .nil)) (.lit (.int 1))) .nil))))) (.bo1 (.not (.isi (.ix (.nm 1) (.lit (.int 1))) ["tuple"] false))))) (.seq (.ret (.lit (.bl false))) .nil) .nil) (.seq (.set 2 (.ix (.nm 1) (.lit (.int 1)))) (.seq (.ife (.or (.op .lt (.bi .len (.cons (.nm 2) .nil)) (.lit (.int 2))) (.bo1 (.not (.bi .all (.cons (.lc (.one 4) (.nm 2) .nil (.call 1 (.cons (.nm 4) (.cons (.lit (.int 0)) (.cons (.op .sub (.ix (.nm 0) (.lit (.int 0))) (.lit (.int 1))) .nil))))) .nil))))) (.seq (.ret (.lit (.bl false))) .nil) .nil) (.seq (.ret (.bi .all (.cons (.lc (.one 3) (.rng1 (.op .sub (.bi .len (.cons (.nm 2) .nil)) (.lit (.int 1)))) .nil (.op .in (.tup (.cons (.ix (.nm 2) (.nm 3)) (.cons (.ix (.nm 2) (.op .add (.nm 3) (.lit (.int 1)))) .nil))) (.ix (.ix (.nm 0) (.lit (.int 1))) (.ix (.nm 1) (.lit (.int 0)))))) .nil))) .nil)))⟩
def f26 : FnI := ⟨"is_hued_way", ["hued", "thing"], ["hued", "thing"], false, .seq (.ret (.call 25 (.cons (.call 19 (.cons (.nm 0) .nil)) (.cons (.nm 1) .nil)))) .nil⟩
def f27 : FnI := ⟨"are_leading_roads", ["hued", "some", "thing"], ["hued", "some", "thing", "own", "its", "place", "told"], false, .seq (.set 3 (.call 19 (.cons (.nm 0) .nil))) (.seq (.set 4 (.call 6 (.cons (.nm 1) (.cons (.ix (.nm 3) (.lit (.int 0))) .nil)))) (.seq (.ife (.not (.call 2 (.cons (.nm 2) (.cons (.ix (.nm 3) (.lit (.int 0))) .nil)))) (.seq (.ret (.lit (.bl false))) .nil) .nil) (.seq (.for (.many [5, 6]) (.enum (.nm 2)) (.seq (.ife (.and (.op .in (.nm 5) (.nm 4)) (.bo1 (.isn true (.nm 6)))) (.seq (.ret (.lit (.bl false))) .nil) .nil) (.seq (.ife (.op .notin (.nm 5) (.nm 4)) (.seq (.ife (.or (.not (.call 25 (.cons (.nm 3) (.cons (.nm 6) .nil)))) (.or (.op .ne (.ix (.ix (.nm 6) (.lit (.int 1))) (.lit (.int 0))) (.nm 5)) (.bo1 (.op .notin (.ix (.ix (.nm 6) (.lit (.int 1))) (.neg (.lit (.int 1)))) (.nm 4))))) (.seq (.ret (.lit (.bl false))) .nil) .nil) .nil) .nil) .nil))) (.seq (.ret (.lit (.bl true))) .nil))))⟩
def f28 : FnI := ⟨"is_row_in", ["thing", "many"], ["thing", "many", "own"], false, .seq (.ife (.or (.not (.isi (.nm 0) ["tuple"] false)) (.bo1 (.not (.bi .all (.cons (.lc (.one 2) (.nm 0) .nil (.call 1 (.cons (.nm 2) (.cons (.lit (.int 0)) (.cons (.op .sub (.nm 1) (.lit (.int 1))) .nil))))) .nil))))) (.seq (.ret (.lit (.bl false))) .nil) .nil) (.seq (.ret (.op .eq (.lset (.nm 0)) (.bi .len (.cons (.nm 0) .nil)))) .nil)⟩
def f29 : FnI := ⟨"is_wishes_in", ["thing"], ["thing", "lefts", "rights", "row", "side"], false, .seq (.ife (.or (.not (.call 2 (.cons (.nm 0) (.cons (.lit (.int 2)) .nil)))) (.bo1 (.not (.bi .all (.cons (.lc (.one 4) (.nm 0) .nil (.and (.isi (.nm 4) ["tuple"] false) (.bo1 (.chain .le .le (.lit (.int 1)) (.bi .len (.cons (.nm 4) .nil)) (.gi "MOST_SIDE" 5))))) .nil))))) (.seq (.ret (.lit (.bl false))) .nil) .nil) (.seq (.unp [1, 2] (.nm 0)) (.seq (.ret (.and (.bi .all (.cons (.lc (.one 3) (.nm 1) .nil (.call 28 (.cons (.nm 3) (.cons (.bi .len (.cons (.nm 2) .nil)) .nil)))) .nil)) (.bo1 (.bi .all (.cons (.lc (.one 3) (.nm 2) .nil (.call 28 (.cons (.nm 3) (.cons (.bi .len (.cons (.nm 1) .nil)) .nil)))) .nil))))) .nil))⟩
def f30 : FnI := ⟨"sure_wishes", ["value"], ["value", "own"], false, .seq (.set 1 (.call 4 (.cons (.nm 0) .nil))) (.seq (.ife (.not (.call 29 (.cons (.nm 1) .nil))) (.seq (.rais 1) .nil) .nil) (.seq (.ret (.nm 1)) .nil))⟩
def f31 : FnI := ⟨"pairs_in", ["wishes"], ["wishes", "lefts", "rights", "a", "b"], false, .seq (.unp [1, 2] (.nm 0)) (.seq (.ret (.lc2 (.one 3) (.rng1 (.bi .len (.cons (.nm 1) .nil))) .nil (.one 4) (.bi .sorted (.cons (.ix (.nm 1) (.nm 3)) .nil)) (.op .in (.nm 3) (.ix (.nm 2) (.nm 4))) (.tup (.cons (.nm 3) (.cons (.nm 4) .nil))))) .nil)⟩
def f32 : FnI := ⟨"is_pairing_in", ["wishes", "thing"], ["wishes", "thing", "may", "own", "a", "b"], false, .seq (.ife (.or (.not (.isi (.nm 1) ["tuple"] false)) (.bo1 (.not (.bi .all (.cons (.lc (.one 3) (.nm 1) .nil (.call 2 (.cons (.nm 3) (.cons (.lit (.int 2)) .nil)))) .nil))))) (.seq (.ret (.lit (.bl false))) .nil) .nil) (.seq (.ife (.not (.bi .all (.cons (.lc (.many [4, 5]) (.nm 1) .nil (.and (.call 1 (.cons (.nm 4) (.cons (.lit (.int 0)) (.cons (.op .sub (.bi .len (.cons (.ix (.nm 0) (.lit (.int 0))) .nil)) (.lit (.int 1))) .nil)))) (.bo1 (.call 1 (.cons (.nm 5) (.cons (.lit (.int 0)) (.cons (.op .sub (.bi .len (.cons (.ix (.nm 0) (.lit (.int 1))) .nil)) (.lit (.int 1))) .nil))))))) .nil))) (.seq (.ret (.lit (.bl false))) .nil) .nil) (.seq (.set 2 (.call 31 (.cons (.nm 0) .nil))) (.seq (.ife (.or (.not (.bi .all (.cons (.lc (.one 3) (.nm 1) .nil (.op .in (.nm 3) (.nm 2))) .nil))) (.bo1 (.op .ne (.bi .list (.cons (.nm 1) .nil)) (.sset (.nm 1))))) (.seq (.ret (.lit (.bl false))) .nil) .nil) (.seq (.ret (.chain .eq .eq (.lset (.lc (.many [4, 5]) (.nm 1) .nil (.nm 4))) (.bi .len (.cons (.nm 1) .nil)) (.lset (.lc (.many [4, 5]) (.nm 1) .nil (.nm 5))))) .nil))))⟩
def f33 : FnI := ⟨"wishes_more", ["row", "one", "other"], ["row", "one", "other"], false, .seq (.ret (.or (.isn false (.nm 2)) (.bo1 (.and (.isn true (.nm 1)) (.bo1 (.op .lt (.idx (.nm 0) (.nm 1)) (.idx (.nm 0) (.nm 2)))))))) .nil⟩
def f34 : FnI := ⟨"partners", ["wishes", "pairing"], ["wishes", "pairing", "lefts", "rights", "a", "b"], false, .seq (.set 2 (.op .mul (.lst (.cons (.lit .non) .nil)) (.bi .len (.cons (.ix (.nm 0) (.lit (.int 0))) .nil)))) (.seq (.set 3 (.op .mul (.lst (.cons (.lit .non) .nil)) (.bi .len (.cons (.ix (.nm 0) (.lit (.int 1))) .nil)))) (.seq (.for (.many [4, 5]) (.nm 1) (.seq (.unp2 2 (.nm 4) 3 (.nm 5) (.tup (.cons (.nm 5) (.cons (.nm 4) .nil)))) .nil)) (.seq (.ret (.tup (.cons (.bi .tuple (.cons (.nm 2) .nil)) (.cons (.bi .tuple (.cons (.nm 3) .nil)) .nil)))) .nil)))⟩
def f35 : FnI := ⟨"breaking_in", ["wishes", "pairing"], ["wishes", "pairing", "found", "lefts", "rights", "a", "b"], false, .seq (.unp [3, 4] (.call 34 (.cons (.nm 0) (.cons (.nm 1) .nil)))) (.seq (.set 2 (.lst .nil)) (.seq (.for (.many [5, 6]) (.call 31 (.cons (.nm 0) .nil)) (.seq (.ife (.and (.op .ne (.ix (.nm 3) (.nm 5)) (.nm 6)) (.and (.call 33 (.cons (.ix (.ix (.nm 0) (.lit (.int 0))) (.nm 5)) (.cons (.nm 6) (.cons (.ix (.nm 3) (.nm 5)) .nil)))) (.bo1 (.call 33 (.cons (.ix (.ix (.nm 0) (.lit (.int 1))) (.nm 6)) (.cons (.nm 5) (.cons (.ix (.nm 4) (.nm 6)) .nil))))))) (.seq (.exp (.app 2 (.tup (.cons (.nm 5) (.cons (.nm 6) .nil))))) .nil) .nil) .nil)) (.seq (.ret (.nm 2)) .nil)))⟩
def f36 : FnI := ⟨"is_wishes", ["thing"], ["thing"], false, .seq (.ret (.call 29 (.cons (.nm 0) .nil))) .nil⟩
def f37 : FnI := ⟨"is_pairing", ["wishes", "thing"], ["wishes", "thing"], false, .seq (.ret (.call 32 (.cons (.call 30 (.cons (.nm 0) .nil)) (.cons (.nm 1) .nil)))) .nil⟩
def f38 : FnI := ⟨"is_firm", ["wishes", "thing"], ["wishes", "thing", "own"], false, .seq (.set 2 (.call 30 (.cons (.nm 0) .nil))) (.seq (.ret (.and (.call 32 (.cons (.nm 2) (.cons (.nm 1) .nil))) (.bo1 (.op .eq (.call 35 (.cons (.nm 2) (.cons (.nm 1) .nil))) (.lst .nil))))) .nil)⟩
def f39 : FnI := ⟨"is_duel_in", ["web"], ["web", "pairs", "a", "b"], false, .seq (.set 1 (.call 7 (.cons (.lrng1 (.ix (.nm 0) (.lit (.int 0)))) (.cons (.lit (.int 2)) .nil)))) (.seq (.ret (.bi .all (.cons (.lc (.many [2, 3]) (.nm 1) .nil (.op .ne (.op .in (.tup (.cons (.nm 2) (.cons (.nm 3) .nil))) (.ix (.nm 0) (.lit (.int 1)))) (.op .in (.tup (.cons (.nm 3) (.cons (.nm 2) .nil))) (.ix (.nm 0) (.lit (.int 1)))))) .nil))) .nil)⟩
def f40 : FnI := ⟨"sure_duel", ["value"], ["value", "own"], false, .seq (.set 1 (.call 4 (.cons (.nm 0) .nil))) (.seq (.ife (.or (.not (.call 11 (.cons (.nm 1) .nil))) (.bo1 (.not (.call 39 (.cons (.nm 1) .nil))))) (.seq (.rais 1) .nil) .nil) (.seq (.ret (.nm 1)) .nil))⟩
def f41 : FnI := ⟨"small_duel", ["value"], ["value", "own"], false, .seq (.set 1 (.call 40 (.cons (.nm 0) .nil))) (.seq (.ife (.op .gt (.ix (.nm 1) (.lit (.int 0))) (.gi "MOST_ORDERED" 8)) (.seq (.rais 0) .nil) .nil) (.seq (.ret (.nm 1)) .nil))⟩
def f42 : FnI := ⟨"forward_in", ["web", "order"], ["web", "order", "k", "j"], false, .seq (.ret (.bi .len (.cons (.lc2 (.one 2) (.rng1 (.bi .len (.cons (.nm 1) .nil))) .nil (.one 3) (.rng2 (.op .add (.nm 2) (.lit (.int 1))) (.bi .len (.cons (.nm 1) .nil))) (.op .in (.tup (.cons (.ix (.nm 1) (.nm 2)) (.cons (.ix (.nm 1) (.nm 3)) .nil))) (.ix (.nm 0) (.lit (.int 1)))) (.lit (.int 1))) .nil))) .nil⟩
def f43 : FnI := ⟨"tails_of", ["web"], ["web", "many", "found", "mask", "tops", "last", "rest", "own"], false, .seq (.set 1 (.ix (.nm 0) (.lit (.int 0)))) (.seq (.set 2 (.disp (.lit (.int 0)) (.lit (.int 0)))) (.seq (.for (.one 3) (.rng2 (.lit (.int 1)) (.op .shl (.lit (.int 1)) (.nm 1))) (.seq (.set 4 (.lst .nil)) (.seq (.for (.one 5) (.rng1 (.nm 1)) (.seq (.ife (.op .band (.op .shr (.nm 3) (.nm 5)) (.lit (.int 1))) (.seq (.set 6 (.op .bxor (.nm 3) (.op .shl (.lit (.int 1)) (.nm 5)))) (.seq (.exp (.app 4 (.op .add (.ix (.nm 2) (.nm 6)) (.bi .len (.cons (.lc (.one 7) (.call 15 (.cons (.nm 0) (.cons (.nm 5) .nil))) (.op .band (.op .shr (.nm 6) (.nm 7)) (.lit (.int 1))) (.lit (.int 1))) .nil))))) .nil)) .nil) .nil)) (.seq (.seti 2 (.nm 3) (.bi .max1 (.cons (.nm 4) .nil))) .nil)))) (.seq (.ret (.nm 2)) .nil)))⟩
def f44 : FnI := ⟨"is_duel", ["thing"], ["thing"], false, .seq (.ret (.and (.call 11 (.cons (.nm 0) .nil)) (.bo1 (.call 39 (.cons (.nm 0) .nil))))) .nil⟩
def f45 : FnI := ⟨"sure_row", ["value"], ["value", "own"], false, .seq (.set 1 (.call 4 (.cons (.nm 0) .nil))) (.seq (.ife (.or (.not (.call 3 (.cons (.nm 1) (.cons (.lit (.int 0)) (.cons (.lit (.int 11)) .nil))))) (.bo1 (.not (.chain .le .le (.lit (.int 1)) (.bi .len (.cons (.nm 1) .nil)) (.lit (.int 12)))))) (.seq (.rais 1) .nil) .nil) (.seq (.ret (.nm 1)) .nil))⟩
def f46 : FnI := ⟨"is_best_order", ["web", "thing"], ["web", "thing", "own"], false, .seq (.set 2 (.call 41 (.cons (.nm 0) .nil))) (.seq (.ret (.and (.call 8 (.cons (.nm 1) (.cons (.ix (.nm 2) (.lit (.int 0))) .nil))) (.bo1 (.op .eq (.call 42 (.cons (.nm 2) (.cons (.nm 1) .nil))) (.ix (.call 43 (.cons (.nm 2) .nil)) (.op .sub (.op .shl (.lit (.int 1)) (.ix (.nm 2) (.lit (.int 0)))) (.lit (.int 1)))))))) .nil)⟩
def f47 : FnI := ⟨"is_ring_through", ["web", "thing"], ["web", "thing", "own", "k"], false, .seq (.set 2 (.call 40 (.cons (.nm 0) .nil))) (.seq (.ife (.or (.not (.call 8 (.cons (.nm 1) (.cons (.ix (.nm 2) (.lit (.int 0))) .nil)))) (.or (.op .lt (.ix (.nm 2) (.lit (.int 0))) (.lit (.int 3))) (.bo1 (.op .ne (.ix (.nm 1) (.lit (.int 0))) (.lit (.int 0)))))) (.seq (.ret (.lit (.bl false))) .nil) .nil) (.seq (.ret (.bi .all (.cons (.lc (.one 3) (.rng1 (.bi .len (.cons (.nm 1) .nil))) .nil (.op .in (.tup (.cons (.ix (.nm 1) (.op .sub (.nm 3) (.lit (.int 1)))) (.cons (.ix (.nm 1) (.nm 3)) .nil))) (.ix (.nm 2) (.lit (.int 1))))) .nil))) .nil))⟩
def f48 : FnI := ⟨"is_score_paper", ["row", "thing"], ["row", "thing", "told", "due"], false, .seq (.set 2 (.bi .sorted (.cons (.call 45 (.cons (.nm 0) .nil)) .nil))) (.seq (.ife (.or (.not (.call 2 (.cons (.nm 1) (.cons (.lit (.int 2)) .nil)))) (.or (.not (.call 1 (.cons (.ix (.nm 1) (.lit (.int 0))) (.cons (.lit (.int 1)) (.cons (.bi .len (.cons (.nm 2) .nil)) .nil))))) (.bo1 (.not (.call 1 (.cons (.ix (.nm 1) (.lit (.int 1))) (.cons (.lit (.int 0)) (.cons (.lit (.int 999)) .nil)))))))) (.seq (.ret (.lit (.bl false))) .nil) .nil) (.seq (.ife (.op .ne (.ix (.nm 1) (.lit (.int 1))) (.bi .sum (.cons (.sl (.nm 2) .no (.ix (.nm 1) (.lit (.int 0)))) .nil))) (.seq (.ret (.lit (.bl false))) .nil) .nil) (.seq (.set 3 (.op .fdiv (.op .mul (.ix (.nm 1) (.lit (.int 0))) (.op .sub (.ix (.nm 1) (.lit (.int 0))) (.lit (.int 1)))) (.lit (.int 2)))) (.seq (.ret (.or (.op .lt (.ix (.nm 1) (.lit (.int 1))) (.nm 3)) (.bo1 (.and (.op .eq (.ix (.nm 1) (.lit (.int 0))) (.bi .len (.cons (.nm 2) .nil))) (.bo1 (.op .gt (.ix (.nm 1) (.lit (.int 1))) (.nm 3))))))) .nil))))⟩
def f49 : FnI := ⟨"is_committee_in", ["thing"], ["thing", "own"], false, .seq (.ife (.or (.not (.call 2 (.cons (.nm 0) (.cons (.lit (.int 2)) .nil)))) (.or (.not (.call 1 (.cons (.ix (.nm 0) (.lit (.int 0))) (.cons (.lit (.int 1)) (.cons (.gi "MOST_CHOICES" 12) .nil))))) (.bo1 (.not (.isi (.ix (.nm 0) (.lit (.int 1))) ["tuple"] false))))) (.seq (.ret (.lit (.bl false))) .nil) .nil) (.seq (.ret (.and (.op .le (.bi .len (.cons (.ix (.nm 0) (.lit (.int 1))) .nil)) (.gi "MOST_VOTES" 200)) (.bo1 (.bi .all (.cons (.lc (.one 1) (.ix (.nm 0) (.lit (.int 1))) .nil (.call 8 (.cons (.nm 1) (.cons (.ix (.nm 0) (.lit (.int 0))) .nil)))) .nil))))) .nil)⟩
def f50 : FnI := ⟨"ahead_of", ["committee", "one", "other"], ["committee", "one", "other", "vote"], false, .seq (.ret (.bi .len (.cons (.lc (.one 3) (.ix (.nm 0) (.lit (.int 1))) (.op .lt (.idx (.nm 3) (.nm 1)) (.idx (.nm 3) (.nm 2))) (.lit (.int 1))) .nil))) .nil⟩
def f51 : FnI := ⟨"web_of", ["committee"], ["committee", "found", "one", "other"], false, .seq (.set 1 (.lst .nil)) (.seq (.for (.one 2) (.rng1 (.ix (.nm 0) (.lit (.int 0)))) (.seq (.for (.one 3) (.rng1 (.ix (.nm 0) (.lit (.int 0)))) (.seq (.ife (.and (.op .ne (.nm 2) (.nm 3)) (.bo1 (.op .gt (.call 50 (.cons (.nm 0) (.cons (.nm 2) (.cons (.nm 3) .nil)))) (.call 50 (.cons (.nm 0) (.cons (.nm 3) (.cons (.nm 2) .nil))))))) (.seq (.exp (.app 1 (.tup (.cons (.nm 2) (.cons (.nm 3) .nil))))) .nil) .nil) .nil)) .nil)) (.seq (.ret (.tup (.cons (.ix (.nm 0) (.lit (.int 0))) (.cons (.bi .tuple (.cons (.nm 1) .nil)) .nil)))) .nil))⟩
def f52 : FnI := ⟨"is_committee", ["thing"], ["thing"], false, .seq (.ret (.call 49 (.cons (.nm 0) .nil))) .nil⟩
def f53 : FnI := ⟨"is_committee_for", ["web", "thing"], ["web", "thing", "own"], false, .seq (.set 2 (.call 12 (.cons (.nm 0) .nil))) (.seq (.ret (.and (.call 49 (.cons (.nm 1) .nil)) (.bo1 (.op .eq (.call 51 (.cons (.nm 1) .nil)) (.nm 2))))) .nil)⟩
def f54 : FnI := ⟨"is_chain", ["web", "thing"], ["web", "thing", "own", "pairs", "k", "j", "pair", "its"], false, .seq (.set 2 (.call 40 (.cons (.nm 0) .nil))) (.seq (.ife (.or (.not (.isi (.nm 1) ["tuple"] false)) (.or (.op .eq (.nm 1) (.tup .nil)) (.bo1 (.not (.bi .all (.cons (.lc (.one 7) (.nm 1) .nil (.call 1 (.cons (.nm 7) (.cons (.lit (.int 0)) (.cons (.op .sub (.ix (.nm 2) (.lit (.int 0))) (.lit (.int 1))) .nil))))) .nil)))))) (.seq (.ret (.lit (.bl false))) .nil) .nil) (.seq (.setlc 3 (.lc2 (.one 4) (.rng1 (.bi .len (.cons (.nm 1) .nil))) .nil (.one 5) (.rng2 (.op .add (.nm 4) (.lit (.int 1))) (.bi .len (.cons (.nm 1) .nil))) .nil (.tup (.cons (.ix (.nm 1) (.nm 4)) (.cons (.ix (.nm 1) (.nm 5)) .nil))))) (.seq (.ret (.bi .all (.cons (.lc (.one 6) (.nm 3) .nil (.op .in (.nm 6) (.ix (.nm 2) (.lit (.int 1))))) .nil))) .nil)))⟩
def f55 : FnI := ⟨"is_tie_in", ["thing", "lefts", "rights"], ["thing", "lefts", "rights"], false, .seq (.ret (.and (.call 2 (.cons (.nm 0) (.cons (.lit (.int 2)) .nil))) (.and (.call 1 (.cons (.ix (.nm 0) (.lit (.int 0))) (.cons (.lit (.int 0)) (.cons (.op .sub (.nm 1) (.lit (.int 1))) .nil)))) (.bo1 (.call 1 (.cons (.ix (.nm 0) (.lit (.int 1))) (.cons (.lit (.int 0)) (.cons (.op .sub (.nm 2) (.lit (.int 1))) .nil)))))))) .nil⟩
def f56 : FnI := ⟨"is_listed_in", ["thing"], ["thing", "ties", "lists", "own"], false, .seq (.ife (.or (.not (.call 2 (.cons (.nm 0) (.cons (.lit (.int 4)) .nil)))) (.bo1 (.not (.bi .all (.cons (.lc (.one 3) (.sl (.nm 0) .no (.lit (.int 2))) .nil (.call 1 (.cons (.nm 3) (.cons (.lit (.int 1)) (.cons (.gi "MOST_ENDS" 6) .nil))))) .nil))))) (.seq (.ret (.lit (.bl false))) .nil) .nil) (.seq (.unp [1, 2] (.sl (.nm 0) (.lit (.int 2)) .no)) (.seq (.ife (.or (.not (.isi (.nm 1) ["tuple"] false)) (.bo1 (.not (.isi (.nm 2) ["tuple"] false)))) (.seq (.ret (.lit (.bl false))) .nil) .nil) (.seq (.ife (.or (.op .ne (.bi .len (.cons (.nm 1) .nil)) (.bi .len (.cons (.nm 2) .nil))) (.bo1 (.op .gt (.bi .len (.cons (.nm 1) .nil)) (.gi "MOST_TIES" 20)))) (.seq (.ret (.lit (.bl false))) .nil) .nil) (.seq (.ife (.or (.not (.bi .all (.cons (.lc (.one 3) (.nm 1) .nil (.call 55 (.cons (.nm 3) (.cons (.ix (.nm 0) (.lit (.int 0))) (.cons (.ix (.nm 0) (.lit (.int 1))) .nil))))) .nil))) (.bo1 (.op .ne (.bi .list (.cons (.nm 1) .nil)) (.sset (.nm 1))))) (.seq (.ret (.lit (.bl false))) .nil) .nil) (.seq (.ret (.bi .all (.cons (.lc (.one 3) (.nm 2) .nil (.call 5 (.cons (.nm 3) (.cons (.gi "MOST_COLOURS" 12) .nil)))) .nil))) .nil)))))⟩
def f57 : FnI := ⟨"sure_listed", ["value"], ["value", "own"], false, .seq (.set 1 (.call 4 (.cons (.nm 0) .nil))) (.seq (.ife (.not (.call 56 (.cons (.nm 1) .nil))) (.seq (.rais 1) .nil) .nil) (.seq (.ret (.nm 1)) .nil))⟩
def f58 : FnI := ⟨"do_touch", ["one", "other"], ["one", "other"], false, .seq (.ret (.or (.op .eq (.ix (.nm 0) (.lit (.int 0))) (.ix (.nm 1) (.lit (.int 0)))) (.bo1 (.op .eq (.ix (.nm 0) (.lit (.int 1))) (.ix (.nm 1) (.lit (.int 1))))))) .nil⟩
def f59 : FnI := ⟨"most_in", ["listed"], ["listed", "lefts", "rights", "own", "tie"], false, .seq (.setlc 1 (.lc (.one 3) (.rng1 (.ix (.nm 0) (.lit (.int 0)))) .nil (.bi .len (.cons (.lc (.one 4) (.ix (.nm 0) (.lit (.int 2))) (.op .eq (.ix (.nm 4) (.lit (.int 0))) (.nm 3)) (.lit (.int 1))) .nil)))) (.seq (.setlc 2 (.lc (.one 3) (.rng1 (.ix (.nm 0) (.lit (.int 1)))) .nil (.bi .len (.cons (.lc (.one 4) (.ix (.nm 0) (.lit (.int 2))) (.op .eq (.ix (.nm 4) (.lit (.int 1))) (.nm 3)) (.lit (.int 1))) .nil)))) (.seq (.ret (.bi .max1 (.cons (.op .add (.nm 1) (.nm 2)) .nil))) .nil))⟩
def f60 : FnI := ⟨"is_hueing_in", ["listed", "thing"], ["listed", "thing", "own", "some"], false, .seq (.ife (.or (.not (.call 2 (.cons (.nm 1) (.cons (.bi .len (.cons (.ix (.nm 0) (.lit (.int 2))) .nil)) .nil)))) (.bo1 (.not (.bi .all (.cons (.lc (.one 2) (.nm 1) .nil (.call 1 (.cons (.nm 2) (.cons (.lit (.int 0)) (.cons (.op .sub (.gi "MOST_COLOURS" 12) (.lit (.int 1))) .nil))))) .nil))))) (.seq (.ret (.lit (.bl false))) .nil) .nil) (.seq (.ife (.not (.bi .all (.cons (.lc (.many [2, 3]) (.zip (.nm 1) (.ix (.nm 0) (.lit (.int 3)))) .nil (.op .in (.nm 2) (.nm 3))) .nil))) (.seq (.ret (.lit (.bl false))) .nil) .nil) (.seq (.ret (.isn false (.call 61 (.cons (.nm 0) (.cons (.nm 1) .nil))))) .nil))⟩
def f61 : FnI := ⟨"touching_alike", ["listed", "hueing"], ["listed", "hueing", "k", "one", "j"], false, .seq (.for (.many [2, 3]) (.enum (.ix (.nm 0) (.lit (.int 2)))) (.seq (.for (.one 4) (.rng2 (.op .add (.nm 2) (.lit (.int 1))) (.bi .len (.cons (.ix (.nm 0) (.lit (.int 2))) .nil))) (.seq (.ife (.and (.op .eq (.ix (.nm 1) (.nm 2)) (.ix (.nm 1) (.nm 4))) (.bo1 (.call 58 (.cons (.nm 3) (.cons (.ix (.ix (.nm 0) (.lit (.int 2))) (.nm 4)) .nil))))) (.seq (.ret (.tup (.cons (.nm 2) (.cons (.nm 4) .nil)))) .nil) .nil) .nil)) .nil)) (.seq (.ret (.lit .non)) .nil)⟩
def f62 : FnI := ⟨"is_listed", ["thing"], ["thing"], false, .seq (.ret (.call 56 (.cons (.nm 0) .nil))) .nil⟩
def f63 : FnI := ⟨"is_hueing", ["listed", "thing"], ["listed", "thing"], false, .seq (.ret (.call 60 (.cons (.call 57 (.cons (.nm 0) .nil)) (.cons (.nm 1) .nil)))) .nil⟩
def f64 : FnI := ⟨"are_plain_hues", ["listed", "thing"], ["listed", "thing", "own", "hue"], false, .seq (.set 2 (.call 57 (.cons (.nm 0) .nil))) (.seq (.ife (.or (.not (.call 2 (.cons (.nm 1) (.cons (.bi .len (.cons (.ix (.nm 2) (.lit (.int 2))) .nil)) .nil)))) (.bo1 (.not (.bi .all (.cons (.lc (.one 3) (.nm 1) .nil (.call 1 (.cons (.nm 3) (.cons (.lit (.int 0)) (.cons (.op .sub (.call 59 (.cons (.nm 2) .nil)) (.lit (.int 1))) .nil))))) .nil))))) (.seq (.ret (.lit (.bl false))) .nil) .nil) (.seq (.ret (.isn false (.call 61 (.cons (.nm 2) (.cons (.nm 1) .nil))))) .nil))⟩
def f65 : FnI := ⟨"is_hue_walk", ["listed", "thing"], ["listed", "thing", "own", "found", "hue", "some", "k", "its"], false, .seq (.set 2 (.call 57 (.cons (.nm 0) .nil))) (.seq (.ife (.or (.not (.isi (.nm 1) ["tuple"] false)) (.bo1 (.not (.bi .all (.cons (.lc (.one 7) (.nm 1) .nil (.and (.call 2 (.cons (.nm 7) (.cons (.lit (.int 2)) .nil))) (.bo1 (.call 1 (.cons (.ix (.nm 7) (.lit (.int 0))) (.cons (.lit (.int 0)) (.cons (.lit (.int 11)) .nil))))))) .nil))))) (.seq (.ret (.lit (.bl false))) .nil) .nil) (.seq (.ife (.not (.bi .all (.cons (.lc (.one 7) (.nm 1) .nil (.and (.call 5 (.cons (.ix (.nm 7) (.lit (.int 1))) (.cons (.bi .len (.cons (.ix (.nm 2) (.lit (.int 2))) .nil)) .nil))) (.bo1 (.op .ne (.ix (.nm 7) (.lit (.int 1))) (.tup .nil))))) .nil))) (.seq (.ret (.lit (.bl false))) .nil) .nil) (.seq (.ife (.not (.bi .all (.cons (.lc (.one 6) (.rng1 (.op .sub (.bi .len (.cons (.nm 1) .nil)) (.lit (.int 1)))) .nil (.op .lt (.ix (.ix (.nm 1) (.nm 6)) (.lit (.int 0))) (.ix (.ix (.nm 1) (.op .add (.nm 6) (.lit (.int 1)))) (.lit (.int 0))))) .nil))) (.seq (.ret (.lit (.bl false))) .nil) .nil) (.seq (.set 3 .dnew) (.seq (.for (.many [4, 5]) (.nm 1) (.seq (.for (.one 6) (.nm 5) (.seq (.ife (.op .in (.nm 6) (.nm 3)) (.seq (.ret (.lit (.bl false))) .nil) .nil) (.seq (.seti 3 (.nm 6) (.nm 4)) .nil))) .nil)) (.seq (.ret (.and (.op .eq (.bi .len (.cons (.nm 3) .nil)) (.bi .len (.cons (.ix (.nm 2) (.lit (.int 2))) .nil))) (.bo1 (.call 60 (.cons (.nm 2) (.cons (.bi .tuple (.cons (.lc (.one 6) (.rng1 (.bi .len (.cons (.nm 3) .nil))) .nil (.ix (.nm 3) (.nm 6))) .nil)) .nil)))))) .nil))))))⟩
def f66 : FnI := ⟨"far_in", ["web", "some"], ["web", "some", "found", "place", "nearer", "own", "its"], false, .seq (.set 2 (.lst .nil)) (.seq (.for (.one 3) (.rng1 (.ix (.nm 0) (.lit (.int 0)))) (.seq (.set 4 (.call 14 (.cons (.nm 0) (.cons (.nm 3) .nil)))) (.seq (.ife (.op .in (.nm 3) (.nm 1)) (.seq (.exp (.app 2 (.lit (.int 0)))) .nil) (.seq (.ife (.bi .any (.cons (.lc (.one 5) (.nm 4) .nil (.op .in (.nm 5) (.nm 1))) .nil)) (.seq (.exp (.app 2 (.lit (.int 1)))) .nil) (.seq (.ife (.bi .any (.cons (.lc2 (.one 5) (.nm 4) .nil (.one 6) (.call 14 (.cons (.nm 0) (.cons (.nm 5) .nil))) .nil (.op .in (.nm 6) (.nm 1))) .nil)) (.seq (.exp (.app 2 (.lit (.int 2)))) .nil) (.seq (.exp (.app 2 (.lit .non))) .nil)) .nil)) .nil)) .nil))) (.seq (.ret (.bi .tuple (.cons (.nm 2) .nil))) .nil))⟩
def f67 : FnI := ⟨"is_second_in", ["web", "some"], ["web", "some"], false, .seq (.ret (.and (.call 16 (.cons (.nm 0) (.cons (.nm 1) .nil))) (.bo1 (.op .notin (.lit .non) (.call 66 (.cons (.nm 0) (.cons (.nm 1) .nil))))))) .nil⟩
def f68 : FnI := ⟨"is_second_rest", ["web", "thing"], ["web", "thing", "own"], false, .seq (.set 2 (.call 12 (.cons (.nm 0) .nil))) (.seq (.ret (.and (.call 5 (.cons (.nm 1) (.cons (.ix (.nm 2) (.lit (.int 0))) .nil))) (.bo1 (.call 67 (.cons (.nm 2) (.cons (.nm 1) .nil)))))) .nil)⟩
def f69 : FnI := ⟨"are_second_roads", ["web", "some", "thing"], ["web", "some", "thing", "own", "its", "place", "road"], false, .seq (.set 3 (.call 12 (.cons (.nm 0) .nil))) (.seq (.set 4 (.call 13 (.cons (.nm 3) (.cons (.nm 1) .nil)))) (.seq (.ife (.not (.call 2 (.cons (.nm 2) (.cons (.ix (.nm 3) (.lit (.int 0))) .nil)))) (.seq (.ret (.lit (.bl false))) .nil) .nil) (.seq (.ret (.bi .all (.cons (.lc (.many [5, 6]) (.enum (.nm 2)) .nil (.call 70 (.cons (.nm 3) (.cons (.nm 5) (.cons (.nm 4) (.cons (.nm 6) .nil)))))) .nil))) .nil)))⟩
def f70 : FnI := ⟨"is_road_in", ["web", "place", "some", "road"], ["web", "place", "some", "road", "k", "own"], false, .seq (.ife (.or (.not (.isi (.nm 3) ["tuple"] false)) (.bo1 (.not (.chain .lt .lt (.lit (.int 0)) (.bi .len (.cons (.nm 3) .nil)) (.lit (.int 4)))))) (.seq (.ret (.lit (.bl false))) .nil) .nil) (.seq (.ife (.or (.not (.bi .all (.cons (.lc (.one 5) (.nm 3) .nil (.call 1 (.cons (.nm 5) (.cons (.lit (.int 0)) (.cons (.op .sub (.ix (.nm 0) (.lit (.int 0))) (.lit (.int 1))) .nil))))) .nil))) (.or (.op .ne (.ix (.nm 3) (.lit (.int 0))) (.nm 1)) (.bo1 (.op .notin (.ix (.nm 3) (.neg (.lit (.int 1)))) (.nm 2))))) (.seq (.ret (.lit (.bl false))) .nil) .nil) (.seq (.ret (.bi .all (.cons (.lc (.one 4) (.rng1 (.op .sub (.bi .len (.cons (.nm 3) .nil)) (.lit (.int 1)))) .nil (.op .in (.tup (.cons (.ix (.nm 3) (.nm 4)) (.cons (.ix (.nm 3) (.op .add (.nm 4) (.lit (.int 1)))) .nil))) (.ix (.nm 0) (.lit (.int 1))))) .nil))) .nil))⟩
def f71 : FnI := ⟨"_law_box", ["script", "k"], ["script", "k", "bit_so"], false, .seq (.set 2 (.ife (.op .lt (.nm 1) (.bi .len (.cons (.nm 0) .nil))) (.ix (.nm 0) (.nm 1)) (.lit (.int 0)))) (.seq (.ret (.lst (.cons (.op .mul (.bi .abs (.cons (.nm 2) .nil)) (.bi .int (.cons (.op .ge (.bi .abs (.cons (.nm 2) .nil)) (.op .pow (.lit (.int 10)) (.lit (.int 18)))) .nil))) (.cons (.op .add (.op .add (.op .mod (.bi .int (.cons (.nm 2) .nil)) (.lit (.int 2305843009213693951))) (.op .mul (.lit (.int 39373)) (.nm 1))) (.lit (.int 268830))) (.cons (.lit (.int 0)) .nil))))) .nil)⟩
def f72 : FnI := ⟨"_law_take", ["tin", "below_so"], ["tin", "below_so", "once_so", "wide_so", "twice_so", "drawn_so"], true, .seq (.ife (.op .gt (.ix (.nm 0) (.lit (.int 0))) (.lit (.int 0))) (.seq (.set 5 (.op .mod (.bi .int (.cons (.ix (.nm 0) (.lit (.int 0))) .nil)) (.nm 1))) (.seq (.seti 0 (.lit (.int 0)) (.op .fdiv (.ix (.nm 0) (.lit (.int 0))) (.nm 1))) (.seq (.ret (.nm 5)) .nil))) .nil) (.seq (.seti 0 (.lit (.int 2)) (.op .add (.ix (.nm 0) (.lit (.int 2))) (.lit (.int 1)))) (.seq (.set 2 (.op .mod (.bi .int (.cons (.op .mul (.op .add (.ix (.nm 0) (.lit (.int 1))) (.op .mul (.lit (.int 48271)) (.ix (.nm 0) (.lit (.int 2))))) (.op .add (.lit (.int 39373)) (.ix (.nm 0) (.lit (.int 2))))) .nil)) (.lit (.int 2147483647)))) (.seq (.set 3 (.op .add (.op .mod (.bi .int (.cons (.nm 2) .nil)) (.lit (.int 40009))) (.lit (.int 7)))) (.seq (.set 4 (.op .mod (.bi .int (.cons (.op .mul (.op .add (.op .add (.nm 2) (.ix (.nm 0) (.lit (.int 2)))) (.op .fdiv (.ix (.nm 0) (.lit (.int 1))) (.lit (.int 1000003)))) (.nm 3)) .nil)) (.lit (.int 2147483629)))) (.seq (.ret (.op .mod (.bi .int (.cons (.op .fdiv (.op .mod (.bi .int (.cons (.op .add (.op .mul (.nm 4) (.lit (.int 48271))) (.nm 2)) .nil)) (.lit (.int 2147483587))) (.lit (.int 64))) .nil)) (.nm 1))) .nil)))))⟩
def f73 : FnI := ⟨"_law_cells", ["script", "most_so"], ["script", "most_so", "cells_so", "k", "bit_so", "at_so"], false, .seq (.set 2 (.ort (.bi .list (.cons (.sl (.nm 0) .no (.nm 1)) .nil)) (.lst (.cons (.lit (.int 0)) .nil)))) (.seq (.for (.many [3, 4]) (.enum (.sl (.nm 0) (.nm 1) (.lit (.int 63)))) (.seq (.set 5 (.op .mod (.bi .int (.cons (.nm 3) .nil)) (.nm 1))) (.seq (.seti 2 (.nm 5) (.op .add (.ix (.nm 2) (.nm 5)) (.op .mul (.nm 4) (.op .add (.nm 3) (.lit (.int 2)))))) .nil))) (.seq (.ret (.nm 2)) .nil))⟩
def f74 : FnI := ⟨"_law_pick", ["tin", "goods_so", "count_so"], ["tin", "goods_so", "count_so", "lap", "pool_so", "found"], true, .seq (.par 4 5 (.bi .list (.cons (.nm 1) .nil)) (.lst .nil)) (.seq (.for (.one 3) (.rng1 (.bi .min2 (.cons (.bi .int (.cons (.nm 2) .nil)) (.cons (.bi .len (.cons (.nm 4) .nil)) .nil)))) (.seq (.exp (.app 5 (.popi 4 (.call 72 (.cons (.nm 0) (.cons (.bi .len (.cons (.nm 4) .nil)) .nil)))))) .nil)) (.seq (.ret (.nm 5)) .nil))⟩
def f75 : FnI := ⟨"_law_same", ["got", "due"], ["got", "due", "mine", "its"], false, .seq (.ife (.isi (.nm 1) ["list", "tuple"] true) (.seq (.ife (.or (.op .ne (.isi (.nm 0) ["list"] false) (.isi (.nm 1) ["list"] false)) (.bo1 (.op .ne (.isi (.nm 0) ["tuple"] false) (.isi (.nm 1) ["tuple"] false)))) (.seq (.ret (.lit (.bl false))) .nil) .nil) (.seq (.ret (.and (.op .eq (.bi .len (.cons (.nm 0) .nil)) (.bi .len (.cons (.nm 1) .nil))) (.bo1 (.bi .all (.cons (.lc (.many [2, 3]) (.zip (.nm 0) (.nm 1)) .nil (.call 75 (.cons (.nm 2) (.cons (.nm 3) .nil)))) .nil))))) .nil)) .nil) (.seq (.ife (.isn false (.nm 1)) (.seq (.ret (.isn false (.nm 0))) .nil) .nil) (.seq (.ife (.isi (.nm 1) ["bool", "str"] true) (.seq (.ret (.and (.op .eq (.isi (.nm 0) ["bool"] false) (.isi (.nm 1) ["bool"] false)) (.and (.op .eq (.isi (.nm 0) ["str"] false) (.isi (.nm 1) ["str"] false)) (.bo1 (.op .eq (.nm 0) (.nm 1)))))) .nil) .nil) (.seq (.ret (.and (.isi (.nm 0) ["int"] false) (.and (.not (.isi (.nm 0) ["bool"] false)) (.bo1 (.op .eq (.nm 0) (.nm 1)))))) .nil)))⟩
def f76 : FnI := ⟨"_law_call", ["door", "goods_so"], ["door", "goods_so"], false, .seq (.ife (.op .eq (.bi .len (.cons (.nm 1) .nil)) (.lit (.int 1))) (.seq (.ret (.callv 0 (.cons (.ix (.nm 1) (.lit (.int 0))) .nil))) .nil) .nil) (.seq (.ife (.op .eq (.bi .len (.cons (.nm 1) .nil)) (.lit (.int 2))) (.seq (.ret (.callv 0 (.cons (.ix (.nm 1) (.lit (.int 0))) (.cons (.ix (.nm 1) (.lit (.int 1))) .nil)))) .nil) .nil) (.seq (.ife (.op .eq (.bi .len (.cons (.nm 1) .nil)) (.lit (.int 3))) (.seq (.ret (.callv 0 (.cons (.ix (.nm 1) (.lit (.int 0))) (.cons (.ix (.nm 1) (.lit (.int 1))) (.cons (.ix (.nm 1) (.lit (.int 2))) .nil))))) .nil) .nil) (.seq (.ife (.op .eq (.bi .len (.cons (.nm 1) .nil)) (.lit (.int 4))) (.seq (.ret (.callv 0 (.cons (.ix (.nm 1) (.lit (.int 0))) (.cons (.ix (.nm 1) (.lit (.int 1))) (.cons (.ix (.nm 1) (.lit (.int 2))) (.cons (.ix (.nm 1) (.lit (.int 3))) .nil)))))) .nil) .nil) (.seq (.ret (.callv 0 (.cons (.ix (.nm 1) (.lit (.int 0))) (.cons (.ix (.nm 1) (.lit (.int 1))) (.cons (.ix (.nm 1) (.lit (.int 2))) (.cons (.ix (.nm 1) (.lit (.int 3))) (.cons (.ix (.nm 1) (.lit (.int 4))) .nil))))))) .nil))))⟩
def f77 : FnI := ⟨"law", ["script"], ["script", "tin", "net_so", "rights_so", "wild_so", "deep_so", "step_so", "round_so", "line_so", "hued_so", "wishes_so", "door", "ahead_so", "own", "bends_so", "k", "bent_so", "its", "bad_so"], false, .seq (.set 1 (.call 71 (.cons (.call 73 (.cons (.nm 0) (.cons (.lit (.int 1)) .nil))) (.cons (.lit (.int 0)) .nil)))) (.seq (.unp [7, 8] (.tup (.cons (.tup (.cons (.lit (.int 3)) (.cons (.tup (.cons (.tup (.cons (.lit (.int 0)) (.cons (.lit (.int 1)) .nil))) (.cons (.tup (.cons (.lit (.int 1)) (.cons (.lit (.int 2)) .nil))) (.cons (.tup (.cons (.lit (.int 2)) (.cons (.lit (.int 0)) .nil))) .nil)))) .nil))) (.cons (.tup (.cons (.lit (.int 3)) (.cons (.tup (.cons (.tup (.cons (.lit (.int 0)) (.cons (.lit (.int 1)) .nil))) (.cons (.tup (.cons (.lit (.int 0)) (.cons (.lit (.int 2)) .nil))) (.cons (.tup (.cons (.lit (.int 1)) (.cons (.lit (.int 2)) .nil))) .nil)))) .nil))) .nil)))) (.seq (.unp [9, 10] (.tup (.cons (.tup (.cons (.lit (.int 3)) (.cons (.tup (.cons (.tup (.cons (.tup (.cons (.lit (.int 0)) (.cons (.lit (.int 1)) .nil))) (.cons (.tup (.cons (.lit (.int 1)) (.cons (.lit (.int 2)) .nil))) .nil))) (.cons (.tup (.cons (.tup (.cons (.lit (.int 2)) (.cons (.lit (.int 0)) .nil))) .nil)) .nil))) .nil))) (.cons (.tup (.cons (.tup (.cons (.tup (.cons (.lit (.int 0)) (.cons (.lit (.int 1)) .nil))) (.cons (.tup (.cons (.lit (.int 1)) (.cons (.lit (.int 0)) .nil))) .nil))) (.cons (.tup (.cons (.tup (.cons (.lit (.int 1)) (.cons (.lit (.int 0)) .nil))) (.cons (.tup (.cons (.lit (.int 0)) (.cons (.lit (.int 1)) .nil))) .nil))) .nil))) .nil)))) (.seq (.set 2 (.tup (.cons (.lit (.int 2)) (.cons (.lit (.int 2)) (.cons (.tup (.cons (.tup (.cons (.lit (.int 0)) (.cons (.lit (.int 0)) .nil))) (.cons (.tup (.cons (.lit (.int 0)) (.cons (.lit (.int 1)) .nil))) (.cons (.tup (.cons (.lit (.int 1)) (.cons (.lit (.int 0)) .nil))) (.cons (.tup (.cons (.lit (.int 1)) (.cons (.lit (.int 1)) .nil))) .nil))))) (.cons (.tup (.cons (.tup (.cons (.lit (.int 0)) (.cons (.lit (.int 1)) .nil))) (.cons (.tup (.cons (.lit (.int 0)) (.cons (.lit (.int 1)) .nil))) (.cons (.tup (.cons (.lit (.int 0)) (.cons (.lit (.int 1)) .nil))) (.cons (.tup (.cons (.lit (.int 0)) (.cons (.lit (.int 1)) .nil))) .nil))))) .nil)))))) (.seq (.set 3 (.lst (.cons (.tup (.cons (.gf 68) (.cons (.tup (.cons (.nm 7) .nil)) (.cons (.tup (.cons (.lit (.int 1)) .nil)) .nil)))) (.cons (.tup (.cons (.gf 69) (.cons (.tup (.cons (.nm 7) (.cons (.tup (.cons (.lit (.int 1)) .nil)) .nil))) (.cons (.tup (.cons (.tup (.cons (.lit (.int 0)) (.cons (.lit (.int 1)) .nil))) (.cons (.tup (.cons (.lit (.int 1)) .nil)) (.cons (.tup (.cons (.lit (.int 2)) (.cons (.lit (.int 0)) (.cons (.lit (.int 1)) .nil)))) .nil)))) .nil)))) (.cons (.tup (.cons (.gf 44) (.cons (.tup .nil) (.cons (.nm 8) .nil)))) (.cons (.tup (.cons (.gf 48) (.cons (.tup (.cons (.tup (.cons (.lit (.int 0)) (.cons (.lit (.int 0)) (.cons (.lit (.int 3)) .nil)))) .nil)) (.cons (.tup (.cons (.lit (.int 2)) (.cons (.lit (.int 0)) .nil))) .nil)))) (.cons (.tup (.cons (.gf 46) (.cons (.tup (.cons (.nm 8) .nil)) (.cons (.tup (.cons (.lit (.int 0)) (.cons (.lit (.int 1)) (.cons (.lit (.int 2)) .nil)))) .nil)))) .nil))))))) (.seq (.set 3 (.op .add (.nm 3) (.lst (.cons (.tup (.cons (.gf 47) (.cons (.tup (.cons (.nm 7) .nil)) (.cons (.tup (.cons (.lit (.int 0)) (.cons (.lit (.int 1)) (.cons (.lit (.int 2)) .nil)))) .nil)))) (.cons (.tup (.cons (.gf 52) (.cons (.tup .nil) (.cons (.tup (.cons (.lit (.int 2)) (.cons (.tup (.cons (.tup (.cons (.lit (.int 0)) (.cons (.lit (.int 1)) .nil))) (.cons (.tup (.cons (.lit (.int 1)) (.cons (.lit (.int 0)) .nil))) .nil))) .nil))) .nil)))) (.cons (.tup (.cons (.gf 53) (.cons (.tup (.cons (.tup (.cons (.lit (.int 2)) (.cons (.tup (.cons (.tup (.cons (.lit (.int 0)) (.cons (.lit (.int 1)) .nil))) .nil)) .nil))) .nil)) (.cons (.tup (.cons (.lit (.int 2)) (.cons (.tup (.cons (.tup (.cons (.lit (.int 0)) (.cons (.lit (.int 1)) .nil))) .nil)) .nil))) .nil)))) (.cons (.tup (.cons (.gf 54) (.cons (.tup (.cons (.nm 8) .nil)) (.cons (.tup (.cons (.lit (.int 0)) (.cons (.lit (.int 1)) (.cons (.lit (.int 2)) .nil)))) .nil)))) (.cons (.tup (.cons (.gf 23) (.cons (.tup .nil) (.cons (.nm 9) .nil)))) .nil)))))))) (.seq (.set 3 (.op .add (.nm 3) (.lst (.cons (.tup (.cons (.gf 24) (.cons (.tup (.cons (.nm 9) .nil)) (.cons (.tup (.cons (.lit (.int 2)) .nil)) .nil)))) (.cons (.tup (.cons (.gf 27) (.cons (.tup (.cons (.nm 9) (.cons (.tup (.cons (.lit (.int 2)) .nil)) .nil))) (.cons (.tup (.cons (.tup (.cons (.lit (.int 0)) (.cons (.tup (.cons (.lit (.int 0)) (.cons (.lit (.int 1)) (.cons (.lit (.int 2)) .nil)))) .nil))) (.cons (.tup (.cons (.lit (.int 0)) (.cons (.tup (.cons (.lit (.int 1)) (.cons (.lit (.int 2)) .nil))) .nil))) (.cons (.lit .non) .nil)))) .nil)))) (.cons (.tup (.cons (.gf 26) (.cons (.tup (.cons (.nm 9) .nil)) (.cons (.tup (.cons (.lit (.int 0)) (.cons (.tup (.cons (.lit (.int 0)) (.cons (.lit (.int 1)) (.cons (.lit (.int 2)) .nil)))) .nil))) .nil)))) (.cons (.tup (.cons (.gf 36) (.cons (.tup .nil) (.cons (.nm 10) .nil)))) .nil))))))) (.seq (.set 3 (.op .add (.nm 3) (.lst (.cons (.tup (.cons (.gf 37) (.cons (.tup (.cons (.nm 10) .nil)) (.cons (.tup (.cons (.tup (.cons (.lit (.int 0)) (.cons (.lit (.int 0)) .nil))) (.cons (.tup (.cons (.lit (.int 1)) (.cons (.lit (.int 1)) .nil))) .nil))) .nil)))) (.cons (.tup (.cons (.gf 38) (.cons (.tup (.cons (.nm 10) .nil)) (.cons (.tup (.cons (.tup (.cons (.lit (.int 0)) (.cons (.lit (.int 0)) .nil))) (.cons (.tup (.cons (.lit (.int 1)) (.cons (.lit (.int 1)) .nil))) .nil))) .nil)))) (.cons (.tup (.cons (.gf 62) (.cons (.tup .nil) (.cons (.nm 2) .nil)))) (.cons (.tup (.cons (.gf 63) (.cons (.tup (.cons (.nm 2) .nil)) (.cons (.tup (.cons (.lit (.int 0)) (.cons (.lit (.int 1)) (.cons (.lit (.int 1)) (.cons (.lit (.int 0)) .nil))))) .nil)))) (.cons (.tup (.cons (.gf 64) (.cons (.tup (.cons (.nm 2) .nil)) (.cons (.tup (.cons (.lit (.int 1)) (.cons (.lit (.int 0)) (.cons (.lit (.int 0)) (.cons (.lit (.int 1)) .nil))))) .nil)))) .nil)))))))) (.seq (.set 3 (.op .add (.nm 3) (.lst (.cons (.tup (.cons (.gf 65) (.cons (.tup (.cons (.nm 2) .nil)) (.cons (.tup (.cons (.tup (.cons (.lit (.int 0)) (.cons (.tup (.cons (.lit (.int 0)) (.cons (.lit (.int 3)) .nil))) .nil))) (.cons (.tup (.cons (.lit (.int 1)) (.cons (.tup (.cons (.lit (.int 1)) (.cons (.lit (.int 2)) .nil))) .nil))) .nil))) .nil)))) .nil)))) (.seq (.for (.many [11, 12, 13]) (.nm 3) (.seq (.ife (.not (.call 75 (.cons (.call 76 (.cons (.nm 11) (.cons (.op .add (.nm 12) (.tup (.cons (.nm 13) .nil))) .nil))) (.cons (.lit (.bl true)) .nil)))) (.seq (.ret (.lit (.bl false))) .nil) .nil) (.seq (.set 14 (.lst (.cons (.bi .list (.cons (.nm 13) .nil)) (.cons (.op .add (.nm 13) (.tup (.cons (.lit .non) .nil))) (.cons (.op .add (.nm 13) (.tup (.cons (.lit (.str "So")) .nil))) (.cons (.tup (.cons (.nm 13) .nil)) (.cons (.lst (.cons (.nm 13) .nil)) (.cons (.lit .non) .nil)))))))) (.seq (.for (.one 15) (.rng1 (.bi .len (.cons (.nm 13) .nil))) (.seq (.for (.one 18) (.tup (.cons (.lit (.str "So")) (.cons (.neg (.lit (.int 5))) (.cons (.lst (.cons (.ix (.nm 13) (.nm 15)) .nil)) (.cons (.tup (.cons (.ix (.nm 13) (.nm 15)) (.cons (.ix (.nm 13) (.nm 15)) (.cons (.ix (.nm 13) (.nm 15)) .nil)))) .nil))))) (.seq (.exp (.app 14 (.op .add (.op .add (.sl (.nm 13) .no (.nm 15)) (.tup (.cons (.nm 18) .nil))) (.sl (.nm 13) (.op .add (.nm 15) (.lit (.int 1))) .no)))) .nil)) .nil)) (.seq (.for (.one 16) (.call 74 (.cons (.nm 1) (.cons (.nm 14) (.cons (.lit (.int 8)) .nil)))) (.seq (.ife (.not (.call 75 (.cons (.call 76 (.cons (.nm 11) (.cons (.op .add (.nm 12) (.tup (.cons (.nm 16) .nil))) .nil))) (.cons (.lit (.bl false)) .nil)))) (.seq (.ret (.lit (.bl false))) .nil) .nil) .nil)) .nil))))) (.seq (.set 4 (.lst (.cons (.lit .non) (.cons (.lit (.bl true)) (.cons (.lit (.str "")) (.cons (.lit (.str "So")) (.cons (.neg (.lit (.int 7))) (.cons (.neg (.op .pow (.lit (.int 10)) (.lit (.int 60)))) (.cons (.lst .nil) (.cons (.lst (.cons (.lst .nil) .nil)) (.cons (.tup (.cons (.lit .non) .nil)) (.cons (.tup (.cons (.lit (.str "so")) (.cons (.lit (.int 1)) .nil))) (.cons (.tup (.cons (.tup (.cons (.lit (.bl true)) .nil)) .nil)) (.cons (.lst (.cons (.tup (.cons (.lit (.int 1)) .nil)) .nil)) (.cons (.tup (.cons (.nm 7) (.cons (.nm 2) .nil))) (.cons (.tup (.cons (.lit (.int 99)) (.cons (.lit (.int 99)) .nil))) (.cons (.tup (.cons (.lit (.str "a")) (.cons (.tup (.cons (.lit (.str "b")) .nil)) .nil))) .nil))))))))))))))))) (.seq (.set 5 (.tup .nil)) (.seq (.for (.one 6) (.rng1 (.lit (.int 12))) (.seq (.set 5 (.tup (.cons (.nm 5) (.cons (.nm 6) .nil)))) .nil)) (.seq (.for (.many [11, 12, 13]) (.call 74 (.cons (.nm 1) (.cons (.nm 3) (.cons (.lit (.int 10)) .nil)))) (.seq (.for (.one 17) (.op .add (.nm 4) (.lst (.cons (.nm 5) .nil))) (.seq (.ife (.not (.call 75 (.cons (.call 76 (.cons (.nm 11) (.cons (.op .add (.nm 12) (.tup (.cons (.nm 17) .nil))) .nil))) (.cons (.lit (.bl false)) .nil)))) (.seq (.ret (.lit (.bl false))) .nil) .nil) .nil)) .nil)) (.seq (.ret (.lit (.bl true))) .nil))))))))))))))⟩
def fs0 : List FnI := [f0, f1, f2, f3, f4, f5, f6, f7, f8, f9, f10, f11, f12, f13, f14, f15, f16, f17, f18, f19]
def fs1 : List FnI := [f20, f21, f22, f23, f24, f25, f26, f27, f28, f29, f30, f31, f32, f33, f34, f35, f36, f37, f38, f39]
def fs2 : List FnI := [f40, f41, f42, f43, f44, f45, f46, f47, f48, f49, f50, f51, f52, f53, f54, f55, f56, f57, f58, f59]
def fs3 : List FnI := [f60, f61, f62, f63, f64, f65, f66, f67, f68, f69, f70, f71, f72, f73, f74, f75, f76, f77]
def fs : List FnI := fs0 ++ fs1 ++ fs2 ++ fs3
def cs : List (Str × Int) := [("MOST_PLACES", 12), ("MOST_HUES", 4), ("MOST_SIDE", 5), ("MOST_ORDERED", 8), ("MOST_CHOICES", 12), ("MOST_VOTES", 200), ("MOST_ENDS", 6), ("MOST_TIES", 20), ("MOST_COLOURS", 12)]
def es : List Str := ["TooMany", "Unfit"]
end Hd

set_option Elab.async false
set_option linter.all false
set_option maxRecDepth 1000000
set_option maxHeartbeats 0
namespace Hd
open PySem PySem.Spec PyProof.Rows L2 Pv
abbrev io := ioOf fs
abbrev Φ := run fs 59
theorem hfs : fs[77]? = some f77 := rfl
theorem io75 : ioOf fs 75 = false := by decide +kernel
theorem io76 : ioOf fs 76 = false := by decide +kernel
theorem io74 : ioOf fs 74 = true := by decide +kernel
theorem take_ : fs[72]? = some takeF := rfl
theorem pick_ : fs[74]? = some (pickF 72) := rfl
theorem cells_ : fs[73]? = some cellsF := rfl
theorem box_ : fs[71]? = some boxF := rfl
theorem sameT : Φ 75 [.bl true, .bl true] = (.ok (.bl true, false), .non) := resB_eq (by decide +kernel)
theorem sameF : Φ 75 [.bl false, .bl false] = (.ok (.bl true, false), .non) := resB_eq (by decide +kernel)
def body : S := f77.body
def setupS : S := (body.dp 1).tk 8
def loop1 : S := (body.dp 9).hd
def midS : S := (body.dp 10).tk 3
def loop2 : S := (body.dp 13).hd
def partA : S := loop1.bd.tk 3
def in1 : S := (loop1.bd.dp 3).hd
def in2 : S := loop2.bd.hd
theorem in1_bd : in1.bd = .seq (askS 75 76 11 12 16 false) .nil := rfl
theorem in2_bd : in2.bd = .seq (askS 75 76 11 12 17 false) .nil := rfl
def envT : Pv.Env := ((exec io Φ false setupS (none :: none :: List.replicate 17 none)).2).drop 2
def sl (i : Nat) : Option (D × Bool) := (envT[i - 2]?).getD none
def slv (i : Nat) : D := match sl i with
  | some (d, _) => d
  | none => .non
def rights : List D := match sl 3 with
  | some (.lst xs, _) => xs
  | _ => []
theorem setup (s0 s1 : Option (D × Bool)) : exec io Φ false setupS (s0 :: s1 :: List.replicate 17 none) = (.ok .nx, [s0, s1, sl 2, some (.lst rights, true), none, none, none, sl 7, sl 8, sl 9, sl 10, none, none, none, none, none, none, none, none]) := by kernel_rfl
def rt (i : Nat) : D := (rights[i]?).getD .non
def rtN (r : D) : Nat := match r with
  | .tup [.fn g, _, _] => g
  | _ => 0
def rtA (r : D) : List D := match r with
  | .tup [_, .tup ah, _] => ah
  | _ => []
def rtO (r : D) : List D := match r with
  | .tup [_, _, .tup own] => own
  | _ => []
def outA (r : D) : Pv.Env := (exec io Φ false partA (none :: none :: none :: none :: none :: none :: none :: none :: none :: none :: none :: some (.fn (rtN r), false) :: some (.tup (rtA r), false) :: some (.tup (rtO r), false) :: List.replicate 5 none)).2
def bends (r : D) : List D := match ((outA r)[14]? : Option (Option (D × Bool))) with
  | some (some (.lst xs, true)) => xs
  | _ => []
def sl' (r : D) (i : Nat) : Option (D × Bool) := ((outA r)[i]?).getD none
def PA (r : D) : Prop := ∀ s0 s1 s2 s3 s7 s8 s9 s10 a14 a15 a16 a17 a18 : Option (D × Bool), exec io Φ false partA [s0, s1, s2, s3, none, none, none, s7, s8, s9, s10, some (.fn (rtN r), false), some (.tup (rtA r), false), some (.tup (rtO r), false), a14, a15, a16, a17, a18] = (.ok .nx, [s0, s1, s2, s3, none, none, none, s7, s8, s9, s10, some (.fn (rtN r), false), some (.tup (rtA r), false), some (.tup (rtO r), false), some (.lst (bends r), true), sl' r 15, a16, a17, sl' r 18])
theorem pa0 : PA (rt 0) := by
  unfold PA
  intro s0 s1 s2 s3 s7 s8 s9 s10 a14 a15 a16 a17 a18
  kernel_rfl
theorem pa1 : PA (rt 1) := by
  unfold PA
  intro s0 s1 s2 s3 s7 s8 s9 s10 a14 a15 a16 a17 a18
  kernel_rfl
theorem pa2 : PA (rt 2) := by
  unfold PA
  intro s0 s1 s2 s3 s7 s8 s9 s10 a14 a15 a16 a17 a18
  kernel_rfl
theorem pa3 : PA (rt 3) := by
  unfold PA
  intro s0 s1 s2 s3 s7 s8 s9 s10 a14 a15 a16 a17 a18
  kernel_rfl
theorem pa4 : PA (rt 4) := by
  unfold PA
  intro s0 s1 s2 s3 s7 s8 s9 s10 a14 a15 a16 a17 a18
  kernel_rfl
theorem pa5 : PA (rt 5) := by
  unfold PA
  intro s0 s1 s2 s3 s7 s8 s9 s10 a14 a15 a16 a17 a18
  kernel_rfl
theorem pa6 : PA (rt 6) := by
  unfold PA
  intro s0 s1 s2 s3 s7 s8 s9 s10 a14 a15 a16 a17 a18
  kernel_rfl
theorem pa7 : PA (rt 7) := by
  unfold PA
  intro s0 s1 s2 s3 s7 s8 s9 s10 a14 a15 a16 a17 a18
  kernel_rfl
theorem pa8 : PA (rt 8) := by
  unfold PA
  intro s0 s1 s2 s3 s7 s8 s9 s10 a14 a15 a16 a17 a18
  kernel_rfl
theorem pa9 : PA (rt 9) := by
  unfold PA
  intro s0 s1 s2 s3 s7 s8 s9 s10 a14 a15 a16 a17 a18
  kernel_rfl
theorem pa10 : PA (rt 10) := by
  unfold PA
  intro s0 s1 s2 s3 s7 s8 s9 s10 a14 a15 a16 a17 a18
  kernel_rfl
theorem pa11 : PA (rt 11) := by
  unfold PA
  intro s0 s1 s2 s3 s7 s8 s9 s10 a14 a15 a16 a17 a18
  kernel_rfl
theorem pa12 : PA (rt 12) := by
  unfold PA
  intro s0 s1 s2 s3 s7 s8 s9 s10 a14 a15 a16 a17 a18
  kernel_rfl
theorem pa13 : PA (rt 13) := by
  unfold PA
  intro s0 s1 s2 s3 s7 s8 s9 s10 a14 a15 a16 a17 a18
  kernel_rfl
theorem pa14 : PA (rt 14) := by
  unfold PA
  intro s0 s1 s2 s3 s7 s8 s9 s10 a14 a15 a16 a17 a18
  kernel_rfl
theorem pa15 : PA (rt 15) := by
  unfold PA
  intro s0 s1 s2 s3 s7 s8 s9 s10 a14 a15 a16 a17 a18
  kernel_rfl
theorem pa16 : PA (rt 16) := by
  unfold PA
  intro s0 s1 s2 s3 s7 s8 s9 s10 a14 a15 a16 a17 a18
  kernel_rfl
theorem pa17 : PA (rt 17) := by
  unfold PA
  intro s0 s1 s2 s3 s7 s8 s9 s10 a14 a15 a16 a17 a18
  kernel_rfl
theorem pa18 : PA (rt 18) := by
  unfold PA
  intro s0 s1 s2 s3 s7 s8 s9 s10 a14 a15 a16 a17 a18
  kernel_rfl
theorem pa19 : PA (rt 19) := by
  unfold PA
  intro s0 s1 s2 s3 s7 s8 s9 s10 a14 a15 a16 a17 a18
  kernel_rfl
theorem rights_len : rights.length = 20 := by decide +kernel
theorem pas : ∀ i, i < 20 → PA (rt i)
  | 0, _ => pa0
  | 1, _ => pa1
  | 2, _ => pa2
  | 3, _ => pa3
  | 4, _ => pa4
  | 5, _ => pa5
  | 6, _ => pa6
  | 7, _ => pa7
  | 8, _ => pa8
  | 9, _ => pa9
  | 10, _ => pa10
  | 11, _ => pa11
  | 12, _ => pa12
  | 13, _ => pa13
  | 14, _ => pa14
  | 15, _ => pa15
  | 16, _ => pa16
  | 17, _ => pa17
  | 18, _ => pa18
  | 19, _ => pa19
  | n + 20, h => absurd h (by omega)
def outM : Pv.Env := (exec io Φ false midS (none :: none :: sl 2 :: none :: none :: none :: none :: sl 7 :: sl 8 :: sl 9 :: sl 10 :: List.replicate 8 none)).2
def mv (i : Nat) : Option (D × Bool) := (outM[i]?).getD none
def wild : List D := match mv 4 with
  | some (.lst xs, _) => xs
  | _ => []
def deep : D := match mv 5 with
  | some (d, _) => d
  | _ => .non
theorem mids (s0 s1 s2 s3 a11 a12 a13 a14 a15 a16 a17 a18 : Option (D × Bool)) : exec io Φ false midS [s0, s1, sl 2, s3, none, none, none, sl 7, sl 8, sl 9, sl 10, a11, a12, a13, a14, a15, a16, a17, a18] = (.ok .nx, [s0, s1, sl 2, s3, some (.lst wild, true), some (deep, false), mv 6, sl 7, sl 8, sl 9, sl 10, a11, a12, a13, a14, a15, a16, a17, a18]) := by kernel_rfl
/-- what each judge says -/
def says (r d : D) (b : Bool) : Bool := resB b (Φ 76 [.fn (rtN r), .tup (rtA r ++ [d])])
def okR (i : Nat) : Bool := says (rt i) (.tup (rtO (rt i))) true && (bends (rt i)).all (fun d => says (rt i) d false) && (wild ++ [deep]).all (fun d => says (rt i) d false) && decide ((rtA (rt i)).length < 4000) && decide ((bends (rt i)).length ≤ 1000) && (match rt i with
  | .tup [.fn _, .tup _, .tup _] => true
  | _ => false)
theorem ok0 : okR 0 = true := by decide +kernel
theorem ok1 : okR 1 = true := by decide +kernel
theorem ok2 : okR 2 = true := by decide +kernel
theorem ok3 : okR 3 = true := by decide +kernel
theorem ok4 : okR 4 = true := by decide +kernel
theorem ok5 : okR 5 = true := by decide +kernel
theorem ok6 : okR 6 = true := by decide +kernel
theorem ok7 : okR 7 = true := by decide +kernel
theorem ok8 : okR 8 = true := by decide +kernel
theorem ok9 : okR 9 = true := by decide +kernel
theorem ok10 : okR 10 = true := by decide +kernel
theorem ok11 : okR 11 = true := by decide +kernel
theorem ok12 : okR 12 = true := by decide +kernel
theorem ok13 : okR 13 = true := by decide +kernel
theorem ok14 : okR 14 = true := by decide +kernel
theorem ok15 : okR 15 = true := by decide +kernel
theorem ok16 : okR 16 = true := by decide +kernel
theorem ok17 : okR 17 = true := by decide +kernel
theorem ok18 : okR 18 = true := by decide +kernel
theorem ok19 : okR 19 = true := by decide +kernel
theorem oks : ∀ i, i < 20 → okR i = true
  | 0, _ => ok0
  | 1, _ => ok1
  | 2, _ => ok2
  | 3, _ => ok3
  | 4, _ => ok4
  | 5, _ => ok5
  | 6, _ => ok6
  | 7, _ => ok7
  | 8, _ => ok8
  | 9, _ => ok9
  | 10, _ => ok10
  | 11, _ => ok11
  | 12, _ => ok12
  | 13, _ => ok13
  | 14, _ => ok14
  | 15, _ => ok15
  | 16, _ => ok16
  | 17, _ => ok17
  | 18, _ => ok18
  | 19, _ => ok19
  | n + 20, h => absurd h (by omega)
end Hd

set_option Elab.async false
set_option linter.all false
set_option maxRecDepth 1000000
set_option maxHeartbeats 0
namespace Hd
open PySem PySem.Spec PyProof.Rows L2 Pv
theorem rt_mem {x : D} (h : x ∈ rights) : ∃ i, i < 20 ∧ x = rt i := by
  obtain ⟨i, hi, e⟩ := List.mem_iff_getElem.mp h
  refine ⟨i, by rw [rights_len] at hi; exact hi, ?_⟩
  unfold rt
  rw [List.getElem?_eq_getElem hi, e]
  rfl
theorem rt_shape {r : D} (h : (match r with
  | .tup [.fn _, .tup _, .tup _] => true
  | _ => false) = true) : r = .tup [.fn (rtN r), .tup (rtA r), .tup (rtO r)] := by
  split at h
  · rfl
  · cases h
structure RtOk (r : D) : Prop where
  shape : r = .tup [.fn (rtN r), .tup (rtA r), .tup (rtO r)]
  part : PA r
  own : says r (.tup (rtO r)) true = true
  bent : ∀ d ∈ bends r, says r d false = true
  odd : ∀ d ∈ wild ++ [deep], says r d false = true
  alen : (rtA r).length < 4000
  blen : (bends r).length ≤ 1000
theorem rt_ok {x : D} (h : x ∈ rights) : RtOk x := by
  obtain ⟨i, hi, rfl⟩ := rt_mem h
  have k := oks i hi
  unfold okR at k
  simp only [Bool.and_eq_true, List.all_eq_true, decide_eq_true_eq] at k
  exact ⟨rt_shape k.2, pas i hi, k.1.1.1.1.1, k.1.1.1.1.2, k.1.1.1.2, k.1.1.2, k.1.2⟩
theorem partA_ok {r : D} (R : RtOk r) : True := trivial
def I1 (s0 : Option (D × Bool)) (rf : Bool) (b4 b5 b6 : Option (D × Bool)) (i : Nat) (ρ : Pv.Env) : Prop := ∃ (t : D) (a11 a12 a13 a14 a15 a16 a17 a18 : Option (D × Bool)), Tin (1000 * i) t ∧ ρ = [s0, some (t, true), sl 2, some (.lst rights, rf), b4, b5, b6, sl 7, sl 8, sl 9, sl 10, a11, a12, a13, a14, a15, a16, a17, a18]
theorem in1_ok {r d : D} (R : RtOk r) (hd : d ∈ bends r) {ρ : Pv.Env} (h11 : ρ[11]? = some (some (.fn (rtN r), false))) (h12 : ρ[12]? = some (some (.tup (rtA r), false))) (h16 : ρ[16]? = some (some (d, false))) : exec io Φ false in1.bd ρ = (.ok .nx, ρ) := by
  rw [in1_bd]
  rw [exec_seq (ask_ok io75 io76 h11 h12 h16 R.alen (resB_eq (R.bent d hd)) sameF)]
  rfl
theorem in2_ok {r d : D} (R : RtOk r) (hd : d ∈ wild ++ [deep]) {ρ : Pv.Env} (h11 : ρ[11]? = some (some (.fn (rtN r), false))) (h12 : ρ[12]? = some (some (.tup (rtA r), false))) (h17 : ρ[17]? = some (some (d, false))) : exec io Φ false in2.bd ρ = (.ok .nx, ρ) := by
  rw [in2_bd]
  rw [exec_seq (ask_ok io75 io76 h11 h12 h17 R.alen (resB_eq (R.odd d hd)) sameF)]
  rfl
theorem loop1_step (s0 : Option (D × Bool)) (x : D) (hx : x ∈ rights) (j : Nat) (ρ : Pv.Env) (hj : j < 900) (hp : I1 s0 false none none none j ρ) :
    ∃ ρ1 ρ', setT (.many [11, 12, 13]) x ρ = some ρ1 ∧ exec io Φ false loop1.bd ρ1 = (.ok .nx, ρ') ∧ I1 s0 false none none none (j + 1) ρ' := by
  have R := rt_ok hx
  obtain ⟨t, a11, a12, a13, a14, a15, a16, a17, a18, ht, rfl⟩ := hp
  refine ⟨[s0, some (t, true), sl 2, some (.lst rights, false), none, none, none, sl 7, sl 8, sl 9, sl 10, some (.fn (rtN x), false), some (.tup (rtA x), false), some (.tup (rtO x), false), a14, a15, a16, a17, a18], ?_⟩
  obtain ⟨out, t', e, hs, ht'⟩ := pick_ok (k := 57) pick_ take_ ht (goods := bends x) (cnt := 8) (by omega) R.blen (by omega)
  have cut := exec_cut 3 loop1.bd (R.part s0 (some (t, true)) (sl 2) (some (.lst rights, false)) (sl 7) (sl 8) (sl 9) (sl 10) a14 a15 a16 a17 a18)
  have fg : ∀ a16 : Option (D × Bool), ∃ ρ', forGo (.one 16) (exec io Φ false in1.bd) out [s0, some (t', true), sl 2, some (.lst rights, false), none, none, none, sl 7, sl 8, sl 9, sl 10, some (.fn (rtN x), false), some (.tup (rtA x), false), some (.tup (rtO x), false), some (.lst (bends x), false), sl' x 15, a16, a17, sl' x 18] = (.ok .nx, ρ') ∧ ∃ b16 : Option (D × Bool), ρ' = [s0, some (t', true), sl 2, some (.lst rights, false), none, none, none, sl 7, sl 8, sl 9, sl 10, some (.fn (rtN x), false), some (.tup (rtA x), false), some (.tup (rtO x), false), some (.lst (bends x), false), sl' x 15, b16, a17, sl' x 18] := fun a16 =>
    forGo_inv (P := fun _ ρ => ∃ b16 : Option (D × Bool), ρ = [s0, some (t', true), sl 2, some (.lst rights, false), none, none, none, sl 7, sl 8, sl 9, sl 10, some (.fn (rtN x), false), some (.tup (rtA x), false), some (.tup (rtO x), false), some (.lst (bends x), false), sl' x 15, b16, a17, sl' x 18]) out 0 _ ⟨a16, rfl⟩ (fun d hd j ρ _ hp => by
      obtain ⟨b16, rfl⟩ := hp
      exact ⟨_, _, rfl, in1_ok R (hs d hd) rfl rfl rfl, _, rfl⟩)
  obtain ⟨ρ', e1, b16, rfl⟩ := fg a16
  have ex : exec io Φ false loop1.bd [s0, some (t, true), sl 2, some (.lst rights, false), none, none, none, sl 7, sl 8, sl 9, sl 10, some (.fn (rtN x), false), some (.tup (rtA x), false), some (.tup (rtO x), false), a14, a15, a16, a17, a18] = (.ok .nx, [s0, some (t', true), sl 2, some (.lst rights, false), none, none, none, sl 7, sl 8, sl 9, sl 10, some (.fn (rtN x), false), some (.tup (rtA x), false), some (.tup (rtO x), false), some (.lst (bends x), false), sl' x 15, b16, a17, sl' x 18]) := by
    refine cut.trans ?_
    refine (exec_seq (b := .nil) (exec_for ?_ rfl e1)).trans rfl
    show (sem io Φ (.call 74 (.cons (.nm 1) (.cons (.nm 14) (.cons (.lit (.int 8)) .nil))))).itr _ = _
    have hio : io 74 = true := io74
    have e' : Φ 74 [t, .lst (bends x), .int 8] = (.ok (.lst out, true), t') := e
    simp [sem, Sm.of, itrM, callF, frzs, frz, M.bind, M.pure, D.items, ofO, At.d, hio, e']
  exact ⟨_, (congrArg (fun z => setT (.many [11, 12, 13]) z _) R.shape).trans rfl, ex, t', _, _, _, _, _, _, _, _, ht', rfl⟩
theorem loop2_step (s0 : Option (D × Bool)) (x : D) (hx : x ∈ rights) (j : Nat) (ρ : Pv.Env) (hp : ∃ (t : D) (f4 : Bool) (a11 a12 a13 a14 a15 a16 a17 a18 : Option (D × Bool)), ρ = [s0, some (t, true), sl 2, some (.lst rights, false), some (.lst wild, f4), some (deep, false), mv 6, sl 7, sl 8, sl 9, sl 10, a11, a12, a13, a14, a15, a16, a17, a18]) :
    ∃ ρ1 ρ', setT (.many [11, 12, 13]) x ρ = some ρ1 ∧ exec io Φ false loop2.bd ρ1 = (.ok .nx, ρ') ∧ (∃ (t : D) (f4 : Bool) (a11 a12 a13 a14 a15 a16 a17 a18 : Option (D × Bool)), ρ' = [s0, some (t, true), sl 2, some (.lst rights, false), some (.lst wild, f4), some (deep, false), mv 6, sl 7, sl 8, sl 9, sl 10, a11, a12, a13, a14, a15, a16, a17, a18]) := by
  have R := rt_ok hx
  obtain ⟨t, f4, a11, a12, a13, a14, a15, a16, a17, a18, rfl⟩ := hp
  obtain ⟨ρ', e1, b17, rfl⟩ := forGo_inv (tg := .one 17) (b := exec io Φ false in2.bd) (P := fun _ ρ => ∃ b17 : Option (D × Bool), ρ = [s0, some (t, true), sl 2, some (.lst rights, false), some (.lst wild, f4), some (deep, false), mv 6, sl 7, sl 8, sl 9, sl 10, some (.fn (rtN x), false), some (.tup (rtA x), false), some (.tup (rtO x), false), a14, a15, a16, b17, a18]) (wild ++ [deep]) 0 [s0, some (t, true), sl 2, some (.lst rights, false), some (.lst wild, f4), some (deep, false), mv 6, sl 7, sl 8, sl 9, sl 10, some (.fn (rtN x), false), some (.tup (rtA x), false), some (.tup (rtO x), false), a14, a15, a16, a17, a18] ⟨a17, rfl⟩ (fun d hd j ρ _ hp => by
      obtain ⟨b17, rfl⟩ := hp
      exact ⟨_, _, rfl, in2_ok R hd rfl rfl rfl, _, rfl⟩)
  have hw : wild.length + 1 ≤ sizeLine := by rw [show wild.length = 15 by decide +kernel, sizeLine_eq]; decide
  have ex : exec io Φ false loop2.bd [s0, some (t, true), sl 2, some (.lst rights, false), some (.lst wild, f4), some (deep, false), mv 6, sl 7, sl 8, sl 9, sl 10, some (.fn (rtN x), false), some (.tup (rtA x), false), some (.tup (rtO x), false), a14, a15, a16, a17, a18] = (.ok .nx, [s0, some (t, true), sl 2, some (.lst rights, false), some (.lst wild, f4), some (deep, false), mv 6, sl 7, sl 8, sl 9, sl 10, some (.fn (rtN x), false), some (.tup (rtA x), false), some (.tup (rtO x), false), a14, a15, a16, b17, a18]) := by
    refine (exec_seq (b := .nil) (exec_for ?_ rfl e1)).trans rfl
    show (sem io Φ (.op .add (.nm 4) (.lst (.cons (.nm 5) .nil)))).itr _ = _
    cases f4 <;> simp [itrM, sem, Sm.of, frzs, frz, M.bind, M.pure, D.items, ofO, pk, look, O2.run, hw]
  exact ⟨_, _, (congrArg (fun z => setT (.many [11, 12, 13]) z _) R.shape).trans rfl, ex, t, f4, _, _, _, _, _, _, _, _, rfl⟩
theorem law_plain (ns : List Int) (hn : ns.length ≤ 63) : (run fs 60 77 [.scr ns]).1 = .ok (.bl true, false) := by
  obtain ⟨xs, ec, hx, _⟩ := cells_ok (k := 58) cells_ hn (m := 1) (by omega) (by omega)
  obtain ⟨t, eb, ht⟩ := box_ok (k := 58) box_ (xs := xs) (j := 0) (by omega)
  have io71 : io 71 = false := by decide +kernel
  have io73 : io 73 = false := by decide +kernel
  have first : exec io Φ false (body.tk 1) (some (.scr ns, false) :: List.replicate 18 none) = (.ok .nx, some (.scr ns, false) :: some (t, true) :: List.replicate 17 none) := by
    show exec io Φ false (.seq (.set 1 (.call 71 (.cons (.call 73 (.cons (.nm 0) (.cons (.lit (.int 1)) .nil))) (.cons (.lit (.int 0)) .nil)))) .nil) _ = _
    have ec' : Φ 73 [.scr ns, .int 1] = (.ok (.lst (xs.map D.int), true), .non) := ec
    have eb' : Φ 71 [.lst (xs.map D.int), .int 0] = (.ok (t, true), .non) := eb
    simp [Pv.exec, sem, Sm.of, callF, frzs, frz, M.bind, M.pure, ofO, At.d, storeR, setM, setE, io71, io73, ec', eb', List.replicate]
  have l1 : ∃ ρ', exec io Φ false loop1 [some (.scr ns, false), some (t, true), sl 2, some (.lst rights, true), none, none, none, sl 7, sl 8, sl 9, sl 10, none, none, none, none, none, none, none, none] = (.ok .nx, ρ') ∧ I1 (some (.scr ns, false)) false none none none 20 ρ' := by
    obtain ⟨ρ', e, h⟩ := forGo_inv (tg := .many [11, 12, 13]) (b := exec io Φ false loop1.bd) (P := I1 (some (.scr ns, false)) false none none none) rights 0 [some (.scr ns, false), some (t, true), sl 2, some (.lst rights, false), none, none, none, sl 7, sl 8, sl 9, sl 10, none, none, none, none, none, none, none, none] ⟨t, _, _, _, _, _, _, _, _, ht, rfl⟩ (fun x hx j ρ hj hp => loop1_step _ x hx j ρ (by rw [rights_len] at hj; omega) hp)
    rw [rights_len] at h
    exact ⟨ρ', exec_for (it := .nm 3) rfl rfl e, h⟩
  obtain ⟨ρ1, e1, t1, a11, a12, a13, a14, a15, a16, a17, a18, ht1, rfl⟩ := l1
  have m1 := mids (some (.scr ns, false)) (some (t1, true)) none (some (.lst rights, false)) a11 a12 a13 a14 a15 a16 a17 a18
  have l2 : ∃ ρ', exec io Φ false loop2 [some (.scr ns, false), some (t1, true), sl 2, some (.lst rights, false), some (.lst wild, true), some (deep, false), mv 6, sl 7, sl 8, sl 9, sl 10, a11, a12, a13, a14, a15, a16, a17, a18] = (.ok .nx, ρ') := by
    obtain ⟨out, t2, e, hs, ht2⟩ := pick_ok (k := 57) pick_ take_ ht1 (goods := rights) (cnt := 10) (by omega) (by rw [rights_len]; omega) (by omega)
    obtain ⟨ρ', e2, h⟩ := forGo_inv (tg := .many [11, 12, 13]) (b := exec io Φ false loop2.bd) (P := fun _ ρ => ∃ (t : D) (f4 : Bool) (a11 a12 a13 a14 a15 a16 a17 a18 : Option (D × Bool)), ρ = [some (.scr ns, false), some (t, true), sl 2, some (.lst rights, false), some (.lst wild, f4), some (deep, false), mv 6, sl 7, sl 8, sl 9, sl 10, a11, a12, a13, a14, a15, a16, a17, a18]) out 0 [some (.scr ns, false), some (t2, true), sl 2, some (.lst rights, false), some (.lst wild, true), some (deep, false), mv 6, sl 7, sl 8, sl 9, sl 10, a11, a12, a13, a14, a15, a16, a17, a18] ⟨t2, true, _, _, _, _, _, _, _, _, rfl⟩ (fun x hx j ρ hj hp => loop2_step _ x (hs x hx) j ρ hp)
    refine ⟨ρ', exec_for ?_ rfl e2⟩
    show (sem io Φ (.call 74 (.cons (.nm 1) (.cons (.nm 3) (.cons (.lit (.int 10)) .nil))))).itr _ = _
    have hio : io 74 = true := io74
    have e' : Φ 74 [t1, .lst rights, .int 10] = (.ok (.lst out, true), t2) := e
    simp [sem, Sm.of, itrM, callF, frzs, frz, M.bind, M.pure, D.items, ofO, At.d, hio, e']
  obtain ⟨ρ2, e2⟩ := l2
  have all : exec io Φ false body (some (.scr ns, false) :: List.replicate 18 none) = (.ok (.rt (.bl true) false), ρ2) := by
    refine (exec_cut 1 body first).trans ?_
    refine (exec_cut 8 (body.dp 1) (setup (some (.scr ns, false)) (some (t, true)))).trans ?_
    show exec io Φ false (.seq loop1 (body.dp 10)) _ = _
    refine (exec_seq e1).trans ?_
    refine (exec_cut 3 (body.dp 10) m1).trans ?_
    show exec io Φ false (.seq loop2 (body.dp 14)) _ = _
    refine (exec_seq e2).trans ?_
    rfl
  rw [run_at hfs rfl]
  show (match exec io Φ false body (some (.scr ns, false) :: List.replicate 18 none) with
    | (o, ρ) => match finC false ρ with
      | none => ((.bad, .non) : Out (D × Bool) × D)
      | some c => (resOf o, c)).1 = _
  rw [all]
  rfl
end Hd

set_option Elab.async false
set_option linter.all false
set_option maxRecDepth 1000000
set_option maxHeartbeats 0
namespace Hd
open PySem PySem.Spec PyProof.Rows L2 Pv
theorem prog_ok : progOk fs cs es fa fn = true := by decide +kernel
theorem facts {P : Program} {w : World} {K : PySem.W.Frag} {h : Heap} {mg : Str → Option Value} {f : Addr} (X : K.In h) (G : h.Ns mainGlobals mg) (hfa : mg ("law" : Str) = some (.ref f)) (c : He.SaysD fa fn K) :
    ∃ fd : FuncData, (∀ (s : Shared) (v : Value), BindsTo s fd ⟨[v], []⟩ [("script", v)]) ∧ ∀ base : Heap, FnOk P w K mg base (L2.CX P w) 60 f fd ["script"] (spF K (nmOf K fn) (exOf K es) false 1 (Pv.run fs 60 77)) := by
  obtain ⟨a, fd, e1, e2, e3, e4, e5, e6⟩ := prog_fns (P := P) (w := w) prog_ok X G c 60 77 f77 hfs
  have e := hfa.symm.trans e2
  cases e
  exact ⟨fd, fun s v => e5 s [v] rfl, e6⟩
end Hd
open PySem PySem.W PySem.Calls PyProof.Rows
theorem PySem.Challenge.cw_lotsthatlead_k16_judges_and_odd_things_h_holds : PySem.Challenge.rw_lotsthatlead_k16_judges_and_odd_things_h.Holds := by
  w_on; o_law
  refine HandSHeadRun.head_any (r := OpenLaw.row PySem.Challenge.rw_lotsthatlead_k16_judges_and_odd_things_h) (q := view (OpenLaw.row PySem.Challenge.rw_lotsthatlead_k16_judges_and_odd_things_h).prog [98]) (H := Hd.hk) (ob := Hd.ob) (M := 6000) (loose := Hd.loose) (d := HandSHeadRun.topDef (OpenLaw.row PySem.Challenge.rw_lotsthatlead_k16_judges_and_odd_things_h).prog 98) (kwd := []) Hd.ob_eq
    (by kernel_rfl) (fun s => by kernel_rfl) Hd.headrun (by kernel_rfl) (by kernel_rfl) (by kernel_rfl) (by rfl) (by first | assumption | decide +kernel) (by decide +kernel) ⟨rfl, rfl, rfl, rfl, rfl, by decide +kernel⟩ ?hw ?hc
  case hw => w_witness2
  case hc =>
    refine Pv.walk_W (l := PySem.Challenge.rw_lotsthatlead_k16_judges_and_odd_things_h) (n := 63) (k := 60) (x := "script") (CX := L2.CX PySem.Challenge.rw_lotsthatlead_k16_judges_and_odd_things_h.prog) rfl (by decide) (by kernel_rfl) ⟨rfl, by decide, by decide⟩ ?F (fun _ => Pv.cx_no)
    intro w mg fa h Y G hmg0
    obtain ⟨K, KX, c⟩ := Y
    have hmg : mg ("law" : PySem.Str) = some (.ref fa) := by
      have e : (HandSHeadRun.topDef (OpenLaw.row PySem.Challenge.rw_lotsthatlead_k16_judges_and_odd_things_h).prog 98).name = ("law" : PySem.Str) := by kernel_rfl
      rw [← e]
      exact hmg0
    obtain ⟨fd, hb, hF⟩ := Hd.facts (P := (PySem.Challenge.rw_lotsthatlead_k16_judges_and_odd_things_h).prog) (w := w) KX G hmg c
    exact ⟨K, fd, _, KX, hb, fun H a ns hl hS => Pv.law_fin (by decide) Hd.law_plain H a ns hl hS, hF⟩

