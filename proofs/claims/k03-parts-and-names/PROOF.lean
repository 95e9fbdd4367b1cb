import PyProof.Rows.All
import Wide.All
import OpenK.AllK
import Wide.FinOn
import HandS.ForMost
import HandS.TupAny
import HandS.Deep
import HandS.IsInst
import HandS.Conv
import HandS.Style
import HandS.Strs
import KE.SortData
import KE.DataEq
import KE.DataCmp
import KE.DataIsa
import KE.DataMinMax
import HandS.Exc
import HandS.ExcOwn
import HandS.ExcInit
import HandS.TryOnly
import HandS.TryMany
import HandS.CallSlots
import HandS.WordsExc
import PyProof.SeqIndex
import KE.DataFind
import KE.KeyNested
import HandS.Walk
import HandS.Zip
import PyProof.FactsAll.dict
import KE.SortCalls
import HandS.TupSets
import HandS.SetFor
import KE.KDictKeyed
import KE.GoesMore
import PyProof.EnumMake
import PyProof.Draws
import PyProof.FactsLen
import PyProof.Rows.FactsT3
import PyProof.Rows.FactsN_isinstance
import HandS.Defaults
import HandS.HeadEnd
import HandS.HeadHook2
import PyProof.FitsInt
import PyProof.StrLawsRepr
import HandS.Head0
import HandS.Head1
import HandS.Head2
import HandS.HeadHook1
import KE.DatumOrd
import PySem.Challenge.RW_addedattacks_k03_parts_and_other_names
set_option Elab.async false
set_option linter.all false
set_option maxRecDepth 100000
set_option autoImplicit false
namespace Ad
open PySem

/-! ### outcomes -/
abbrev D := PyData
/-- an exception: its class by name, its fields -/
structure XV where
  cls : Str
  fs : List (Str × D)

/-- what is wanted may depend on how many numbers may still be drawn -/
structure M (α : Type) where
  run : (α → Nat → Prop) → (XV → Nat → Prop) → Nat → Prop
  mono : ∀ {Q Q' : α → Nat → Prop} {R R' : XV → Nat → Prop}, (∀ a {b}, Q a b → Q' a b) → (∀ x {b}, R x b → R' x b) → ∀ {b}, run Q R b → run Q' R' b

theorem M.ext {α : Type} {m n : M α} (h : m.run = n.run) : m = n := by
  cases m; cases n; cases h; rfl
def M.ret {α : Type} (a : α) : M α := ⟨fun Q _ => Q a, fun h _ _ q => h _ q⟩
def M.bnd {α β : Type} (m : M α) (f : α → M β) : M β :=
  ⟨fun Q R => m.run (fun a => (f a).run Q R) R, fun h k _ q => m.mono (fun a _ z => (f a).mono h k z) k q⟩
def M.fail {α : Type} : M α := ⟨fun _ _ _ => False, fun _ _ _ q => q⟩
def M.grd (p : Prop) : M Unit := ⟨fun Q _ b => p ∧ Q () b, fun h _ _ q => ⟨q.1, h _ q.2⟩⟩
def M.draw (n : Nat) : M Nat := ⟨fun Q _ b => 0 < b ∧ ∀ k, k < n → Q k (b - 1), fun h _ _ q => ⟨q.1, fun k hk => h _ (q.2 k hk)⟩⟩
def M.thr {α : Type} (x : XV) : M α := ⟨fun _ R => R x, fun _ k _ q => k _ q⟩
/-- any whole number -/
def M.anyInt : M Int := ⟨fun Q _ b => ∀ i, Q i b, fun h _ _ q i => h _ (q i)⟩
/-- the deck's parts: how many cells, the turn -/
def M.dk : M (Nat × Int) := ⟨fun Q _ b => ∀ (L : Nat) (t : Int), 0 < L → L ≤ 63 → 0 ≤ t → t + b ≤ 4294967296 → Q (L, t) b, fun h _ _ q L t h1 h2 h3 h4 => h _ (q L t h1 h2 h3 h4)⟩
/-- one more is drawn: the turn is v -/
def M.take (v : Int) : M Unit := ⟨fun Q _ b => 0 < b ∧ 0 ≤ v ∧ v + (b - 1 : Nat) ≤ 4294967296 ∧ Q () (b - 1), fun h _ _ q => ⟨q.1, q.2.1, q.2.2.1, h _ q.2.2.2⟩⟩
/-- nothing is raised -/
def M.quiet {α : Type} (m : M α) : M α := ⟨fun Q _ => m.run Q fun _ _ => False, fun h _ _ q => m.mono h (fun _ _ z => z) q⟩
instance : Monad M where
  pure := M.ret
  bind := M.bnd
theorem M.pure_run {α : Type} (a : α) (Q : α → Nat → Prop) (R : XV → Nat → Prop) : (pure a : M α).run Q R = Q a := rfl
theorem M.bind_run {α β : Type} (m : M α) (f : α → M β) (Q : β → Nat → Prop) (R : XV → Nat → Prop) : (m >>= f).run Q R = m.run (fun a => (f a).run Q R) R := rfl
theorem M.grd_run (p : Prop) (Q : Unit → Nat → Prop) (R : XV → Nat → Prop) (b : Nat) : (M.grd p).run Q R b = (p ∧ Q () b) := rfl
theorem M.draw_run (n : Nat) (Q : Nat → Nat → Prop) (R : XV → Nat → Prop) (b : Nat) : (M.draw n).run Q R b = (0 < b ∧ ∀ k, k < n → Q k (b - 1)) := rfl
theorem M.fail_run {α : Type} (Q : α → Nat → Prop) (R : XV → Nat → Prop) (b : Nat) : (M.fail : M α).run Q R b = False := rfl
theorem M.pb {α β : Type} (a : α) (f : α → M β) : (pure a >>= f : M β) = f a := rfl
instance : LawfulMonad M := LawfulMonad.mk' M
  (id_map := fun x => M.ext rfl)
  (pure_bind := fun a f => rfl)
  (bind_assoc := fun x f g => rfl)
theorem M.quiet_pure {α : Type} (a : α) : M.quiet (pure a) = pure a := rfl
theorem M.grd_of {p : Prop} (h : p) : M.grd p = pure () := M.ext (by
  funext Q R b
  show (p ∧ Q () b) = Q () b
  exact propext ⟨fun q => q.2, fun q => ⟨h, q⟩⟩)
theorem M.grd_bind {α : Type} {p : Prop} (h : p) (f : Unit → M α) : (M.grd p >>= f) = f () := by rw [M.grd_of h]; rfl

def mapE {α β : Type} (f : α → M β) : List α → M (List β)
  | [] => pure []
  | a :: as => do
    let b ← f a
    let bs ← mapE f as
    pure (b :: bs)
def addO {β : Type} : Option β → List β → List β
  | some b, bs => b :: bs
  | none, bs => bs
/-- a comprehension: none where the test falls -/
def lcE {α β : Type} (f : α → M (Option β)) : List α → M (List β)
  | [] => pure []
  | a :: as => do
    let b ← f a
    let bs ← lcE f as
    pure (addO b bs)
theorem mapE_pure {α β : Type} {f : α → M β} {g : α → β} : ∀ {as : List α}, (∀ a, a ∈ as → f a = pure (g a)) → mapE f as = pure (as.map g)
  | [], _ => rfl
  | a :: as, h => by
    unfold mapE
    rw [h a List.mem_cons_self, mapE_pure fun b hb => h b (List.mem_cons_of_mem _ hb)]
    rfl
theorem lcE_pure {α β : Type} {f : α → M (Option β)} {g : α → Option β} : ∀ {as : List α}, (∀ a, a ∈ as → f a = pure (g a)) → lcE f as = pure (as.filterMap g)
  | [], _ => rfl
  | a :: as, h => by
    unfold lcE
    rw [h a List.mem_cons_self, lcE_pure fun b hb => h b (List.mem_cons_of_mem _ hb)]
    rw [List.filterMap_cons]
    cases g a <;> rfl

/-! ### the slots -/
/-- a slot: its value, and whether it is a list of the def's own that nothing else knows -/
abbrev Ev := List (Option (D × Bool))
def look (ρ : Ev) (i : Nat) : M D := match ρ[i]? with
  | some (some (d, false)) => pure d
  | _ => M.fail
def lookB (ρ : Ev) (i : Nat) : M D := match ρ[i]? with
  | some (some (d, _)) => pure d
  | _ => M.fail
def lookO (ρ : Ev) (i : Nat) : M (List D) := match ρ[i]? with
  | some (some (.list ds, true)) => pure ds
  | _ => M.fail
def wipeE (ρ : Ev) : List Nat → Ev
  | [] => ρ
  | v :: vs => (wipeE ρ vs).set v none
/-- the deck of a law -/
def deckD : D := .dict [(.none, .none)]
/-- the deck's cells (false), its rests (true), so many -/
def volD (t : Bool) (L : Nat) : D := .dict [(.bool t, .int L)]
def volL : D → M (Bool × Int)
  | .dict [(.bool t, .int L)] => pure (t, L)
  | _ => M.fail
def isDeck : D → Bool
  | .dict [(.none, .none)] => true
  | _ => false

/-! ### operations on values -/
def asBool : D → M Bool
  | .bool b => pure b
  | _ => M.fail
def asInt : D → M Int
  | .int i => pure i
  | _ => M.fail
def asStr : D → M Str
  | .str x => pure x
  | _ => M.fail
def itemsOf : D → M (List D)
  | .list xs => pure xs
  | .tuple xs => pure xs
  | _ => M.fail
mutual
/-- plain data: no deck within, no dict but the empty one -/
def okD : D → Bool
  | .list xs => okAll xs
  | .tuple xs => okAll xs
  | .dict [] => true
  | .dict _ => false
  | _ => true
def okAll : List D → Bool
  | [] => true
  | x :: xs => okD x && okAll xs
end
mutual
/-- no list, no dict within -/
def fixedD : D → Bool
  | .list _ => false
  | .tuple xs => fixedAll xs
  | .dict _ => false
  | _ => true
def fixedAll : List D → Bool
  | [] => true
  | x :: xs => fixedD x && fixedAll xs
end
/-- may be compared by == : plain, without dicts, of small depth -/
def eqOk (d : D) : Prop := d.plain = true ∧ d.depth ≤ 64
/-- two lists of different lengths, a tuple and (): what lies in them is not looked at -/
def lenNe : D → D → Bool
  | .list xs, .list ys => decide (xs.length ≠ ys.length)
  | .tuple (_ :: _), .tuple [] => true
  | _, _ => false
/-- what may be compared by == -/
def eqG (a b : D) : Prop := (eqOk a ∧ eqOk b) ∨ (okD a = true ∧ okD b = true ∧ lenNe a b = true)
def eqD (a b : D) : M Bool := do
  M.grd (eqG a b)
  pure (PyData.eqv a b)
/-- an item of a list that is looked through, and what is looked for: {} may be one of both -/
def eqI (z a : D) : Prop := (eqOk z ∧ eqOk a) ∨ (z = .dict [] ∧ eqOk a) ∨ (eqOk z ∧ a = .dict [])
def inG (a : D) (xs : List D) : Prop := (eqOk a ∧ eqOk (.list xs)) ∨ (okD a = true ∧ okAll xs = true ∧ ∀ z, z ∈ xs → eqI z a)
def inD (a b : D) : M Bool := match b with
  | .list xs => do M.grd (inG a xs); pure (xs.any fun z => PyData.eqv z a)
  | .tuple xs => do M.grd (eqOk a ∧ eqOk (.tuple xs)); pure (xs.any fun z => PyData.eqv z a)
  | .str y => match a with
    | .str x => pure (!(Builtin.Str.occurrences y x 0 y.length 1).isEmpty)
    | _ => M.fail
  | _ => M.fail
end Ad
namespace Ad
open PySem

/-! ### operations, further -/
def addD : D → D → M D
  | .int i, .int j => pure (.int (i + j))
  | .str x, .str y => do M.grd (x.length + y.length ≤ sizeLine); pure (.str (x ++ y))
  | .tuple xs, .tuple ys => do M.grd (xs.length + ys.length ≤ sizeLine); pure (.tuple (xs ++ ys))
  | .list xs, .list ys => do M.grd (xs.length + ys.length ≤ sizeLine); pure (.list (xs ++ ys))
  | _, _ => M.fail
def mulD : D → D → M D
  | .int i, .int j => do M.grd (L2.CMul i j); pure (.int (i * j))
  | .list xs, .int k => do
    M.grd (-(2 ^ 63) ≤ k ∧ k < 2 ^ 63 ∧ xs.length * k.toNat ≤ sizeLine)
    pure (.list (List.replicate k.toNat xs).flatten)
  | _, _ => M.fail
def intOp (c : Int → Int → Prop) (g : Int → Int → Int) : D → D → M D
  | .int i, .int j => do M.grd (c i j); pure (.int (g i j))
  | _, _ => M.fail
def binD : Operator → D → D → M D
  | .Add => addD
  | .Sub => intOp (fun _ _ => True) fun i j => i - j
  | .Mult => mulD
  | .Mod => intOp (fun _ j => 0 < j) fun i j => i % j
  | .FloorDiv => intOp L2.CDiv fun i j => i / j
  | .Pow => intOp L2.CPow fun i j => i ^ j.toNat
  | .LShift => intOp L2.CPow fun i j => i * 2 ^ j.toNat
  | _ => fun _ _ => M.fail
/-- the order of plain data that are alike -/
def ltD : D → D → M Bool
  | .int i, .int j => pure (decide (i < j))
  | a, b => do
    M.grd (W.alike a b = true ∧ a ≠ .none ∧ a.depth ≤ 40 ∧ a.plain = true ∧ b.plain = true)
    pure (W.dataLt a b)
def cmpD : CmpOp → D → D → M Bool
  | .Eq, a, b => eqD a b
  | .NotEq, a, b => do let r ← eqD a b; pure (!r)
  | .Lt, a, b => ltD a b
  | .LtE, .int i, .int j => pure (decide (i ≤ j))
  | .Gt, .int i, .int j => pure (decide (j < i))
  | .GtE, .int i, .int j => pure (decide (j ≤ i))
  | .In, a, b => inD a b
  | .NotIn, a, b => do let r ← inD a b; pure (!r)
  | .Is, a, .none => pure (match a with | .none => true | _ => false)
  | .IsNot, a, .none => pure (match a with | .none => false | _ => true)
  | .Is, .bool a, .bool b => pure (decide (a = b))
  | .IsNot, .bool a, .bool b => pure (!decide (a = b))
  | _, _, _ => M.fail
def oget {α : Type} : Option α → M α
  | some a => pure a
  | none => M.fail
def ixD : D → D → M D
  | .list xs, .int i => oget (L2.atI xs i)
  | .tuple xs, .int i => oget (L2.atI xs i)
  | .str x, .int i => do
    M.grd (x.length ≤ sizeLine)
    let c ← oget (L2.atI x.cps.toList i)
    pure (.str ⟨#[c]⟩)
  | _, _ => M.fail
def cutD (xs : List D) (lo hi : Option Int) : List D := (xs.drop (HT.sIx xs.length 0 lo)).take (HT.sIx xs.length xs.length hi - HT.sIx xs.length 0 lo)
def slP (a : D) (l h : Option Int) : M D := match a with
  | .list xs => pure (.list (cutD xs l h))
  | .tuple xs => pure (.tuple (cutD xs l h))
  | .str x => do M.grd (x.length ≤ sizeLine); pure (.str (L2.cutS x l h))
  | _ => M.fail
def revD : D → M D
  | .list xs => pure (.list xs.reverse)
  | .tuple xs => pure (.tuple xs.reverse)
  | _ => M.fail

/-- what can be sorted: alike data, of small depth, all ints, all texts, or all tuples, or all lists -/
def sortable (xs : List D) : Prop :=
  W.AllAlike xs ∧ (∀ x, x ∈ xs → x ≠ .none ∧ x.depth ≤ 40 ∧ x.plain = true) ∧ ((∀ x, x ∈ xs → ∃ ys, x = .tuple ys) ∨ ∀ x, x ∈ xs → ∀ ys, x ≠ .tuple ys)
def sortD (xs : List D) : List D := xs.mergeSort (W.dataLe false id)
def sortedD (d : D) : M D := do
  let xs ← itemsOf d
  M.grd (sortable xs)
  pure (.list (sortD xs))
/-- each thing once, at its first place -/
def onceD : List D → List D
  | [] => []
  | x :: xs => x :: (onceD xs).filter fun y => !PyData.eqv y x
/-- a tuple of ints -/
def tupD (ns : List Int) : D := .tuple (ns.map .int)
/-- what a set may hold here: ints alone, or tuples of ints alone, not too many -/
def setOk (xs : List D) : Prop := ((∀ x, x ∈ xs → ∃ i, x = .int i) ∧ xs.length < 4000) ∨ ((∀ x, x ∈ xs → ∃ ns, x = tupD ns) ∧ (onceD xs).length ≤ 305)
/-! nested tuples of ints, as data -/
mutual
def nums : NestedKey → Bool
  | .num _ => true
  | .tup ks => numsAll ks
  | _ => false
def numsAll : List NestedKey → Bool
  | [] => true
  | k :: ks => nums k && numsAll ks
end
mutual
def nkD : NestedKey → D
  | .none => .none
  | .num i => .int i
  | .text x => .str x
  | .tup ks => .tuple (nkDs ks)
def nkDs : List NestedKey → List D
  | [] => []
  | k :: ks => nkD k :: nkDs ks
end
/-- a tuple fit for a set, nested or not -/
def nestOk (x : D) : Prop := ∃ ks, nums (.tup ks) = true ∧ (NestedKey.tup ks).depth ≤ 8 ∧ x = nkD (.tup ks)
def setOkL (xs : List D) : Prop := setOk xs ∨ ((∀ x, x ∈ xs → nestOk x) ∧ (onceD xs).length ≤ 305)
/-- these, in any order -/
def M.anyPerm (xs : List D) : M (List D) := ⟨fun Q _ b => ∀ ys, ys.Perm xs → Q ys b, fun h _ _ q ys p => h _ (q ys p)⟩
/-- sorted(set(d)): whatever the set's order was -/
def sortedSetD (d : D) : M D := do
  let xs ← itemsOf d
  M.grd (sortable xs ∧ setOk xs)
  let ys ← M.anyPerm (onceD xs)
  pure (.list (sortD ys))
def lenSetD (d : D) : M D := do
  let xs ← itemsOf d
  M.grd (setOkL xs)
  pure (.int (onceD xs).length)
def minOf (xs : List D) : Option D := match xs with
  | [] => none
  | x :: xs => some (W.minD x xs)
def maxOf (xs : List D) : Option D := match xs with
  | [] => none
  | x :: xs => some (W.maxD x xs)

/-- the built-ins, by name and number of arguments -/
inductive Bi where
  | len | tuple | list | int1 | str1 | min1 | min2 | max1 | max2 | sorted | sortedSet | lenSet | repr
  | isInt | isBool | isStr | isTuple | isList
  | range1 | range2 | enum | zip | listRange | tupRange1
  deriving DecidableEq
def rangeD (a b : Int) : List D := (List.range (b - a).toNat).map fun i => .int (a + (i : Nat))
def enumD (xs : List D) : List D := xs.zipIdx.map fun p => .tuple [.int (p.2 : Nat), p.1]
def lenD : D → M Int
  | .list xs => pure xs.length
  | .tuple xs => pure xs.length
  | .str x => do M.grd (x.length ≤ sizeLine); pure x.length
  | _ => M.fail
def on1 (f : D → M D) : List D → M D
  | [d] => f d
  | _ => M.fail
def on2 (f : D → D → M D) : List D → M D
  | [d, e] => f d e
  | _ => M.fail
def int1D : D → M D
  | .int i => pure (.int i)
  | .bool b => pure (.int (if b then 1 else 0))
  | .str x => do
    let n ← oget (intText? x)
    M.grd (x.length ≤ 640)
    pure (.int n)
  | _ => M.fail
def str1D : D → M D
  | .int i => do M.grd (i.natAbs.log2 < 1920); pure (.str (toString i))
  | _ => M.fail
def ints2 (g : Int → Int → Int) : D → D → M D
  | .int i, .int j => pure (.int (g i j))
  | _, _ => M.fail
def isaD (g : D → Bool) (d : D) : M D := do M.grd (okD d = true); pure (.bool (g d))
def biD : Bi → List D → M D
  | .len => on1 fun d => do let n ← lenD d; pure (.int n)
  | .tuple => on1 fun d => do let xs ← itemsOf d; pure (.tuple xs)
  | .list => on1 fun d => do let xs ← itemsOf d; pure (.list xs)
  | .int1 => on1 int1D
  | .str1 => on1 str1D
  | .min1 => on1 fun d => do let xs ← itemsOf d; M.grd (sortable xs); oget (minOf xs)
  | .max1 => on1 fun d => do let xs ← itemsOf d; M.grd (sortable xs); oget (maxOf xs)
  | .min2 => on2 (ints2 fun i j => if j < i then j else i)
  | .max2 => on2 (ints2 fun i j => if j > i then j else i)
  | .sorted => on1 sortedD
  | .sortedSet => on1 sortedSetD
  | .lenSet => on1 lenSetD
  | .repr => on1 fun d => do M.grd (okD d = true ∧ d.showable = true ∧ d.depth ≤ 40 ∧ d.shown.length ≤ sizeLine); pure (.str d.shown)
  | .isInt => on1 (isaD PyData.isInt)
  | .isBool => on1 (isaD PyData.isBool)
  | .isStr => on1 (isaD PyData.isStr)
  | .isTuple => on1 (isaD PyData.isTuple)
  | .isList => on1 (isaD PyData.isList)
  | .range1 => on1 fun d => do let j ← asInt d; M.grd (j ≤ 2 ^ 24 ∧ -(2 ^ 62) ≤ j); pure (.list (rangeD 0 j))
  | .range2 => on2 fun d e => do let i ← asInt d; let j ← asInt e; M.grd (L2.RgOk i j); pure (.list (rangeD i j))
  | .enum => on1 fun d => do let xs ← itemsOf d; pure (.list (enumD xs))
  | .listRange => on1 fun d => do let j ← asInt d; M.grd (L2.RgOk 0 j); pure (.list (rangeD 0 j))
  | .tupRange1 => on1 fun d => do let j ← asInt d; M.grd (L2.RgOk 0 j); pure (.tuple (rangeD 0 j))
  | _ => fun _ => M.fail
/-- methods that change nothing -/
inductive Mt where
  | join | split | replace | count | index | tindex | get1 | get2
  deriving DecidableEq
def strsOf : List D → M (List Str)
  | [] => pure []
  | .str x :: xs => do let ys ← strsOf xs; pure (x :: ys)
  | _ :: _ => M.fail
def mtD : Mt → D → List D → M D
  | .join, .str x, [d] => do
    let xs ← itemsOf d
    let ys ← strsOf xs
    M.grd ((ys.map (·.length)).sum + ys.length * x.length ≤ 16777216)
    pure (.str (Txt.join x ys))
  | .split, .str x, [.str y] => do
    M.grd ((y.length == 0) = false ∧ x.length + 2 ≤ sizeLine ∧ (Txt.split x y).length ≤ sizeLine)
    pure (.list ((Txt.split x y).map .str))
  | .count, .str x, [.str y] => pure (.int (Txt.count x y))
  | .index, .list xs, [y] => do
    M.grd (eqOk y ∧ eqOk (.list xs) ∧ true ∈ xs.map fun z => PyData.eqv z y)
    pure (.int ((xs.map fun z => PyData.eqv z y).idxOf true : Nat))
  | .tindex, .tuple xs, [y] => do
    M.grd (eqOk y ∧ eqOk (.tuple xs) ∧ true ∈ xs.map fun z => PyData.eqv z y)
    pure (.int ((xs.map fun z => PyData.eqv z y).idxOf true : Nat))
  | _, _, _ => M.fail
/-- what a method is asked of -/
def mtG : Mt → D → M Unit
  | .index, .list _ => pure ()
  | .index, _ => M.fail
  | .tindex, .tuple _ => pure ()
  | .tindex, _ => M.fail
  | .split, .str _ => pure ()
  | .split, _ => M.fail
  | _, _ => pure ()

/-! ### the syntax -/
inductive Tg where
  | n (i : Nat)
  | t (is : List Nat)
mutual
inductive E where
  | v (i : Nat)
  | w (i : Nat)
  | k (d : D)
  | g (nm : Str) (d : D)
  | tup (es : Es)
  | lst (es : Es)
  | dic
  | bin (op : Operator) (a b : E)
  | neg (a : E)
  | not (a : E)
  | and (a b : E)
  | or (a b : E)
  | cmp (op : CmpOp) (a b : E)
  | cmp2 (o1 o2 : CmpOp) (a b c : E)
  | ife (c a b : E)
  | ix (a i : E)
  | sl (lo : Bool) (a b : E)
  | rev (a : E)
  | lc (own : List Nat) (tg : Tg) (it tst elt : E)
  | call (nm : Str) (f : List D → M D) (es : Es)
  | callB (nm : Str) (f : List D → M D) (es : Es)
  | bi (b : Bi) (es : Es)
  | mt (m : Mt) (o : E) (es : Es)
  | vlen (i : Nat)
  | vg (i : Nat) (e : E)
inductive Es where
  | nil
  | cons (e : E) (es : Es)
end
/-- a value to a target -/
def bindT (ρ : Ev) : Tg → D → M Ev
  | .n i, d => pure (ρ.set i (some (d, false)))
  | .t is, .tuple xs => do
    M.grd (xs.length = is.length)
    pure ((is.zip xs).foldl (fun ρ p => ρ.set p.1 (some (p.2, false))) ρ)
  | .t is, .list xs => do
    M.grd (xs.length = is.length)
    pure ((is.zip xs).foldl (fun ρ p => ρ.set p.1 (some (p.2, false))) ρ)
  | _, _ => M.fail
/-- i, (js) = d -/
def bindN (ρ : Ev) (i : Nat) (js : List Nat) : D → M Ev
  | .tuple [x, y] => bindT (ρ.set i (some (x, false))) (.t js) y
  | _ => M.fail
def walked : D → M (List D)
  | .list xs => pure xs
  | .tuple xs => pure xs
  | .str x => pure (x.cps.toList.map fun c => .str ⟨#[c]⟩)
  | _ => M.fail
def noOwn (ρ : Ev) (own : List Nat) : Bool := own.all fun i => match ρ[i]? with
  | some (some (_, true)) => false
  | _ => true
/-- a result without lists, nothing raised -/
def fixM (m : M D) : M D := do
  let r ← M.quiet m
  M.grd (fixedD r = true)
  pure r
def asList : D → M (List D)
  | .list xs => pure xs
  | _ => M.fail
def fitsD (xs : List D) : Prop := xs.length ≤ sizeLine

mutual
def dE : E → Ev → M D
  | .v i, ρ => look ρ i
  | .w i, ρ => lookB ρ i
  | .k d, _ => pure d
  | .g _ d, _ => pure d
  | .tup es, ρ => do let ds ← dEs es ρ; pure (.tuple ds)
  | .lst es, ρ => do let ds ← dEs es ρ; pure (.list ds)
  | .dic, _ => pure (.dict [])
  | .bin op a b, ρ => do let x ← dE a ρ; let y ← dE b ρ; binD op x y
  | .neg a, ρ => do let x ← dE a ρ; let i ← asInt x; pure (.int (-i))
  | .not a, ρ => do let x ← dE a ρ; let b ← asBool x; pure (.bool (!b))
  | .and a b, ρ => do
    let x ← dE a ρ
    let c ← asBool x
    if c then (do let y ← dE b ρ; let d ← asBool y; pure (.bool d)) else pure (.bool false)
  | .or a b, ρ => do
    let x ← dE a ρ
    let c ← asBool x
    if c then pure (.bool true) else (do let y ← dE b ρ; let d ← asBool y; pure (.bool d))
  | .cmp op a b, ρ => do let x ← dE a ρ; let y ← dE b ρ; let r ← cmpD op x y; pure (.bool r)
  | .cmp2 o1 o2 a b c, ρ => do
    let x ← dE a ρ
    let y ← dE b ρ
    let r ← cmpD o1 x y
    if r then (do let z ← dE c ρ; let q ← cmpD o2 y z; pure (.bool q)) else pure (.bool false)
  | .ife c a b, ρ => do
    let x ← dE c ρ
    let r ← asBool x
    if r then dE a ρ else dE b ρ
  | .ix a i, ρ => do let x ← dE a ρ; let y ← dE i ρ; ixD x y
  | .sl lo a b, ρ => do let x ← dE a ρ; let y ← dE b ρ; let i ← asInt y; if lo then slP x (some i) none else slP x none (some i)
  | .rev a, ρ => do let x ← dE a ρ; revD x
  | .lc own tg it tst elt, ρ => do
    let s ← dE it ρ
    let xs ← walked s
    M.grd (noOwn ρ own = true ∧ fitsD xs)
    let ys ← M.quiet (lcE (fun d => do
      let ρ1 ← bindT (wipeE ρ own) tg d
      let t ← dE tst ρ1
      let b ← asBool t
      if b then (do let y ← dE elt ρ1; pure (some y)) else pure none) xs)
    pure (.list ys)
  | .call _ f es, ρ => do let ds ← dEs es ρ; f ds
  | .callB _ f es, ρ => do let ds ← dEs es ρ; fixM (f ds)
  | .bi b es, ρ => do let ds ← dEs es ρ; biD b ds
  | .mt m o es, ρ => do let x ← dE o ρ; mtG m x; let ds ← dEs es ρ; mtD m x ds
  | .vlen i, ρ => do let d ← look ρ i; let p ← volL d; pure (.int p.2)
  | .vg i e, ρ => do
    let d ← look ρ i
    let p ← volL d
    let x ← dE e ρ
    let j ← asInt x
    M.grd (0 ≤ j ∧ j < p.2)
    let k ← M.anyInt
    pure (.int k)
def dEs : Es → Ev → M (List D)
  | .nil, _ => pure []
  | .cons e es, ρ => do let x ← dE e ρ; let xs ← dEs es ρ; pure (x :: xs)
end

mutual
inductive S where
  | asg (i : Nat) (e : E)
  | asgO (i : Nat) (e : E)
  | pop (i w : Nat)
  | asgT (is : List Nat) (e : E)
  | asgN (i : Nat) (js : List Nat) (e : E)
  | par (is : List (Nat × Bool)) (es : Es)
  | app (w : Nat) (e : E)
  | appPop (w u : Nat) (e : E)
  | rot (w : Nat) (e : E)
  | rem (w : Nat) (e : E)
  | ext (w : Nat) (e : E)
  | set (w : Nat) (i e : E)
  | aug (i : Nat) (e : E)
  | ex (e : E)
  | ite (c : E) (a b : Ss)
  | for (tg : Tg) (it : E) (b : Ss)
  | forPop (tg : Tg) (a : E) (w : Nat) (b : Ss)
  | whl (c : E) (b : Ss)
  | ret (e : E)
  | retn
  | brk
  | pass
  | nev
  | frz (i : Nat)
  | dkUn (ic it ir w : Nat)
  | dkInc (w : Nat) (e : E)
  | vset (i : Nat) (j e : E)
inductive Ss where
  | nil
  | cons (s : S) (ss : Ss)
end
inductive Rz where
  | nx (ρ : Ev)
  | rt (d : D)
  | bk (ρ : Ev)
def Rz.go (k : Ev → M Rz) : Rz → M Rz
  | .nx ρ => k ρ
  | .bk ρ => pure (.nx ρ)
  | .rt r => pure (.rt r)
def Rz.sq (k : Ev → M Rz) : Rz → M Rz
  | .nx ρ => k ρ
  | .bk ρ => pure (.bk ρ)
  | .rt r => pure (.rt r)
def Rz.out : Rz → M D
  | .rt d => pure d
  | .nx _ => pure .none
  | .bk _ => M.fail
def forE (f : D → Ev → M Rz) : List D → Ev → M Rz
  | [], ρ => pure (.nx ρ)
  | d :: ds, ρ => f d ρ >>= Rz.go (forE f ds)
def whN (c : Ev → M Bool) (f : Ev → M Rz) : Nat → Ev → M Rz
  | 0, _ => M.fail
  | n + 1, ρ => do
    let b ← c ρ
    if b then f ρ >>= Rz.go (whN c f n) else pure (.nx ρ)
def whE (c : Ev → M Bool) (f : Ev → M Rz) (ρ : Ev) : M Rz :=
  ⟨fun Q R b => ∃ n, (whN c f n ρ).run Q R b, fun h k _ q => let ⟨n, z⟩ := q; ⟨n, (whN c f n ρ).mono h k z⟩⟩
def setO (ρ : Ev) (w : Nat) (xs : List D) : Ev := ρ.set w (some (.list xs, true))
def setAll : Ev → List (Nat × Bool) → List D → Ev
  | ρ, (i, o) :: is, d :: ds => (setAll ρ is ds).set i (some (d, o))
  | ρ, _, _ => ρ
def ownD : Bool → D → M D
  | true, d => do let xs ← asList d; pure (.list xs)
  | false, d => pure d
def dPar : List (Nat × Bool) → Es → Ev → M (List D)
  | [], .nil, _ => pure []
  | i :: is, .cons e es, ρ => do
    let d ← dE e ρ
    let d ← ownD i.2 d
    let ds ← dPar is es ρ
    pure (d :: ds)
  | _, _, _ => M.fail

mutual
def dS : S → Ev → M Rz
  | .asg i e, ρ => do let d ← dE e ρ; pure (.nx (ρ.set i (some (d, false))))
  | .asgO i e, ρ => do let d ← dE e ρ; let xs ← asList d; pure (.nx (setO ρ i xs))
  | .pop i w, ρ => do
    let xs ← lookO ρ w
    let d ← oget xs[xs.length - 1]?
    pure (.nx ((setO ρ w xs.dropLast).set i (some (d, false))))
  | .asgT is e, ρ => do
    let d ← dE e ρ
    let ρ' ← bindT ρ (.t is) d
    pure (.nx ρ')
  | .asgN i js e, ρ => do
    let d ← dE e ρ
    let ρ' ← bindN ρ i js d
    pure (.nx ρ')
  | .par is es, ρ => do
    let ds ← dPar is es ρ
    pure (.nx (setAll ρ is ds))
  | .app w e, ρ => do
    let xs ← lookO ρ w
    let d ← dE e ρ
    M.grd (xs.length < sizeLine)
    pure (.nx (setO ρ w (xs ++ [d])))
  | .appPop w u e, ρ => do
    let xs ← lookO ρ w
    let ys ← lookO ρ u
    let d ← dE e ρ
    let i ← asInt d
    M.grd (0 ≤ i ∧ i < ys.length ∧ w ≠ u)
    let y ← oget ys[i.toNat]?
    M.grd (xs.length < sizeLine)
    pure (.nx (setO (setO ρ u (ys.eraseIdx i.toNat)) w (xs ++ [y])))
  | .rot w e, ρ => do
    let xs ← lookO ρ w
    let d ← dE e ρ
    let i ← asInt d
    M.grd (0 ≤ i ∧ i < xs.length)
    let y ← oget xs[i.toNat]?
    pure (.nx (setO ρ w (xs.eraseIdx i.toNat ++ [y])))
  | .rem w e, ρ => do
    let xs ← lookO ρ w
    let d ← dE e ρ
    M.grd (eqOk d ∧ eqOk (.list xs))
    let j ← oget (xs.findIdx? fun z => PyData.eqv z d)
    pure (.nx (setO ρ w (xs.eraseIdx j)))
  | .ext w e, ρ => do
    let xs ← lookO ρ w
    let d ← dE e ρ
    let ys ← asList d
    M.grd (xs.length + ys.length ≤ sizeLine)
    pure (.nx (setO ρ w (xs ++ ys)))
  | .set w i e, ρ => do
    let d ← dE e ρ
    let xs ← lookO ρ w
    let j ← dE i ρ
    let k ← asInt j
    let n ← oget (L2.ixN xs.length k)
    pure (.nx (setO ρ w (xs.set n d)))
  | .aug i e, ρ => do
    let x ← look ρ i
    let a ← asInt x
    let y ← dE e ρ
    let b ← asInt y
    pure (.nx (ρ.set i (some (.int (a + b), false))))
  | .ex e, ρ => do let _ ← dE e ρ; pure (.nx ρ)
  | .ite c a b, ρ => do
    let x ← dE c ρ
    let r ← asBool x
    if r then dSs a ρ else dSs b ρ
  | .for tg it b, ρ => do
    let s ← dE it ρ
    let xs ← walked s
    forE (fun d ρ => do let ρ1 ← bindT ρ tg d; dSs b ρ1) xs ρ
  | .forPop tg a w b, ρ => do
    let ys ← lookO ρ w
    let x ← dE a ρ
    let y ← oget ys[ys.length - 1]?
    let s ← ixD x y
    let xs ← walked s
    forE (fun d ρ => do let ρ1 ← bindT ρ tg d; dSs b ρ1) xs (setO ρ w ys.dropLast)
  | .whl c b, ρ => whE (fun ρ => do let x ← dE c ρ; asBool x) (fun ρ => dSs b ρ) ρ
  | .ret e, ρ => do let d ← dE e ρ; pure (.rt d)
  | .retn, _ => pure (.rt .none)
  | .brk, ρ => pure (.bk ρ)
  | .pass, ρ => pure (.nx ρ)
  | .nev, _ => M.fail
  | .frz i, ρ => match ρ[i]? with
    | some (some (d, _)) => pure (.nx (ρ.set i (some (d, false))))
    | _ => M.fail
  | .dkUn ic it ir w, ρ => do
    let d ← look ρ w
    M.grd (isDeck d = true)
    let p ← M.dk
    pure (.nx (((ρ.set ic (some (volD false p.1, false))).set it (some (.int p.2, false))).set ir (some (volD true p.1, false))))
  | .dkInc w e, ρ => do
    let x ← dE e ρ
    let v ← asInt x
    let d ← look ρ w
    M.grd (isDeck d = true)
    M.take v
    pure (.nx ρ)
  | .vset i j e, ρ => do
    let x ← dE e ρ
    let v ← asInt x
    let d ← look ρ i
    let p ← volL d
    M.grd (p.1 = true)
    let y ← dE j ρ
    let k ← asInt y
    M.grd (0 ≤ k ∧ k < p.2)
    pure (.nx ρ)
def dSs : Ss → Ev → M Rz
  | .nil, ρ => pure (.nx ρ)
  | .cons s ss, ρ => dS s ρ >>= Rz.sq fun ρ => dSs ss ρ
end
/-- a def: n slots, its parameters first -/
def dFn (np n : Nat) (b : Ss) (ds : List D) : M D := do
  M.grd (ds.length = np)
  let r ← dSs b (ds.map (fun d => some (d, false)) ++ List.replicate (n - ds.length) none)
  r.out
end Ad
/-! tuples that are made: the very object is known, so that its methods can be called -/
namespace Ad
open PySem PySem.Calls PySem.W PySem.SeqAt PySem.Spec PyProof.Rows L2

/-- a made tuple: its object is known and has no dict -/
def TupR (H : Hp) (a : Addr) (vs : List V) : Prop := ∃ o : Obj, H a = some (.frz o (.tup vs)) ∧ o.dict = none
theorem TupR.rd {H : Hp} {a : Addr} {vs : List V} (h : TupR H a vs) : Rd H a (.tup vs) := .inr ⟨h.choose, h.choose_spec.1⟩
/-- what is wanted of a new tuple -/
def NewT (H : Hp) (Q : VK) (vs : List V) : Prop := ∀ (p : Addr) (o : Obj), H p = none → o.dict = none → Q (.ref p) (upd H p (.frz o (.tup vs)))
section
variable {X : Cx} {pins : List (Addr × Obj)} {σ : L2.St} {H : Hp} {s : Shared} {Q : VK} {vs : List V} {us : List Value}
theorem frz_new {P : Program} {w : World} {H' : Hp} {h : Heap} {z : List V} {t : List Value} (m : z.length ≤ sizeLine) (r : Vals z t) :
    ObjOk P w H' (h.push { cls := .type "tuple", data := .seq t.toArray }) h.objs.size (.frz { cls := .type "tuple", data := .seq t.toArray } (.tup z)) :=
  ⟨Heap.get?_push_size _ rfl, m, t, r, _, Heap.get?_push_size _ rfl, rfl, _, rfl⟩
/-- the new tuple is laid at the end -/
theorem newT_end (I : Inv X pins σ H s) {h : Heap} {tk : Nat} (kp : ∀ b o, s.heap.get? b = some o → h.get? b = some o) (m : vs.length ≤ sizeLine) (r : Vals vs us) (q : NewT H Q vs) :
    EP X pins σ Q (.ref h.objs.size) { s with heap := h.push { cls := .type "tuple", data := .seq us.toArray }, toks := tk } := by
  have J : Inv X pins σ H { s with heap := h, toks := tk } := I.kept kp
  exact ⟨.ref h.objs.size, _, J.laid (t' := tk) (fun c u e => Heap.get?_push_of_some _ e) (Nat.le_refl _) (frz_new m r), rfl, q _ _ (J.hok.fresh (Nat.le_refl _)) rfl⟩
end

section
variable {X : Cx}
/-- t + u -/
def rCatS (K : PySem.W.Frag) : R2 := fun x y H Q => ∃ (c d : Addr) (l m : List V), x = .ref c ∧ y = .ref d ∧ SqT K H c l ∧ SqT K H d m ∧ l.length + m.length ≤ sizeLine ∧
  (l = [] → Q (.ref d) H) ∧ (l ≠ [] → m = [] → Q (.ref c) H) ∧ (l ≠ [] → m ≠ [] → NewT H Q (l ++ m))
theorem op_catS : OpR X (binaryOp .Add) (rCatS X.K) := by
  intro pins s σ H x y v1 v2 Q I q1 q2 hh
  obtain ⟨c, d, l, m, rfl, rfl, tc, td, zz, w0, w1, w2⟩ := hh
  by_cases hl : l = []
  · exact op_catA pins s σ H _ _ v1 v2 Q I q1 q2 ⟨c, d, l, m, rfl, rfl, tc, td, zz, w0, w1, fun n => absurd hl n⟩
  by_cases hm : m = []
  · exact op_catA pins s σ H _ _ v1 v2 Q I q1 q2 ⟨c, d, l, m, rfl, rfl, tc, td, zz, w0, w1, fun _ n => absurd hm n⟩
  cases q1
  cases q2
  obtain ⟨lt, la, lp, _⟩ := I.tuple tc
  obtain ⟨mt, ma, mp, _⟩ := I.tuple td
  refine HT.cat_tup lp mp (fun z => hl (la.nil_iff.mp z)) (fun z => absurd (ma.nil_iff.mp z) hm) (fun _ => ?_) (by rw [← la.length, ← ma.length]; exact zz)
  exact newT_end I (h := s.heap) (tk := s.toks) (fun _ _ e => e) (by rw [List.length_append]; exact zz) (la.append ma) (w2 hl hm)

/-- t[i:j] -/
def rSlS2 (K : PySem.W.Frag) : V → Option Int → Option Int → Hp → VK → Prop := fun x i j H Q => ∃ (c : Addr) (l : List V), x = .ref c ∧ SqT K H c l ∧
  (HT.sIx l.length 0 i = 0 ∧ HT.sIx l.length l.length j = l.length → Q (.ref c) H) ∧ (¬ (HT.sIx l.length 0 i = 0 ∧ HT.sIx l.length l.length j = l.length) → NewT H Q (cutV l i j))
theorem sl_tupS : SlR X (rSlS2 X.K) := by
  intro pins s σ H x v pl pu i j sl Q I rx hs hl hu hh
  obtain ⟨c, l, rfl, tc, w1, w2⟩ := hh
  by_cases whole : HT.sIx l.length 0 i = 0 ∧ HT.sIx l.length l.length j = l.length
  · exact sl_tupA pins s σ H _ v pl pu i j sl Q I rx hs hl hu ⟨c, l, rfl, tc, w1, fun n => absurd whole n⟩
  cases rx
  obtain ⟨lt, la, lp, zz⟩ := I.tuple tc
  have hlen : lt.toArray.size = l.length := by rw [List.size_toArray, la.length]
  refine ⟨"tuple", _, PyProof.Rows.slot_tuple_getitem.lookup, lp.typeIs, HT.getItem_tuple_cut lp hs hl hu (by rw [hlen]; exact whole) ?_ (by rw [hlen]; exact zz)⟩
  rw [hlen]
  exact newT_end I (h := s.heap) (tk := s.toks) (fun _ _ e => e) (Nat.le_trans (cutV_length l i j) zz) ((la.drop _).take _) (w2 whole)

/-- tuple(xs) -/
theorem call_tupS : CallR X (.type "tuple") (fun xs H Q => ∃ (c : Addr) (l : List V), xs = [.ref c] ∧ ((SqL X.K H c l ∧ NewT H Q l) ∨ (SqT X.K H c l ∧ Q (.ref c) H))) := by
  intro pins s σ H xs us Q I r hh
  obtain ⟨c, l, e, hh⟩ := hh
  rcases hh with ⟨hq, w⟩ | ⟨hq, w⟩
  · subst e
    obtain ⟨u, rfl, ru⟩ := vals1 r
    cases ru
    obtain ⟨lt, la, lp, zz⟩ := I.list hq
    exact call_tuple_list lp.isList (fun h kp => newT_end I (tk := s.toks) kp zz la w) (by rw [List.size_toArray, ← la.length]; exact zz)
  · exact call_tuple_of pins s σ H xs us Q I r ⟨c, l, e, .inr ⟨hq, w⟩⟩

/-- (x, y, ..) -/
def tTupS (t : TA) : TE := fun σ H Q => t σ H fun xs H1 => xs.length ≤ sizeLine ∧ NewT H1 Q xs
theorem pe_tupS {es : List Expr} {t : TA} {pos : Pos} {k : Nat} (h : PA X es t) : PE X (.Tuple es k pos) (tTupS t) :=
  ⟨fun pins s σ H Q I hh => wpAny_Tuple_spliced (thn (h.run pos pins s σ H _ I hh) fun us t ⟨xs, H2, I2, r, m, w⟩ =>
    ⟨by rw [← r.length]; exact m, newT_end I2 (h := t.heap) (tk := t.toks) (fun _ _ e => e) m r w⟩)⟩

/-- tuple(range(..)) -/
def tRgS (te : L2.St → Hp → (Int → Int → Hp → Prop) → Prop) : TE := fun σ H Q => te σ H fun i j H1 => RgOk i j ∧ NewT H1 Q (rgV i j)
theorem pe_tupRgS {e : Expr} {te : L2.St → Hp → (Int → Int → Hp → Prop) → Prop} {p pos : Pos} (hc : X.calm = true) (hg : Gl X "tuple") (hm : X.mg "tuple" = none) (he : PRg X e te)
    (na : starEach [e] X.env = (false, eval e X.env) :: starEach [] X.env) : PE X (.Call (.Name "tuple" p) [e] [] pos) (tRgS te) := by
  refine ⟨fun pins s σ H Q I hh => Call_ (ld_blt I hg hm boot_tuple (PyProof.Rows.callWith_type1 (args_cons (thn (he pins s σ H _ I hh) fun x t ⟨r, i, j, z1, z2, z3, H2, ex, hr, I2, ok, w⟩ => args_nil ?_) na) na))⟩
  subst ex
  obtain ⟨c1, c2, c3, c4, c5⟩ := ok
  refine call_tuple_range (n := (j - i).toNat) (I2.ok.hd hc) hr (small_one c1 c2 c3 c4) (rangeSize_nat i j) c5 fun h tk acc kp its => ?_
  have m : (rgV i j).length ≤ sizeLine := by rw [rgV_length, sizeLine_eq]; omega
  have := newT_end I2 (tk := tk) kp m (vals_rg its) w
  rwa [Array.toArray_toList] at this
end

/-! ### enumerate -/
/-- the object of a pair that a loop makes -/
def TwoV (T : Addr) (H H' : Hp) (x y : V) : Prop := H T = none ∧ ∃ o : Obj, o.dict = none ∧ H' = upd H T (.frz o (.tup [x, y]))
def YTwo (xs ys : Nat → Option V) : Nat → Hp → V → Hp → Prop := fun i H v H' => ∃ T x y, v = .ref T ∧ TwoV T H H' x y ∧ xs i = some x ∧ ys i = some y
theorem two_new {P : Program} {w : World} {H' : Hp} {h : Heap} {T : Addr} {x y : V} {u1 u2 : Value} (r1 : RelV x u1) (r2 : RelV y u2) (e : h.get? T = some { cls := .type "tuple", data := .seq #[u1, u2] }) :
    ObjOk P w H' h T (.frz { cls := .type "tuple", data := .seq #[u1, u2] } (.tup [x, y])) :=
  ⟨e, by show 2 ≤ sizeLine; decide, [u1, u2], .cons r1 (.cons r2 .nil), _, e, rfl, _, rfl⟩
def IteS (K : PySem.W.Frag) (a : Addr) : It :=
  ⟨fun i H => ∃ (xs : List V) (x : V), SqL K H a xs ∧ xs[i]? = some x, fun i H v H' => ∃ T x, v = .ref T ∧ TwoV T H H' (.int (i : Nat)) x ∧ ∀ xs, SqL K H a xs → xs[i]? = some x, fun i H => ∃ xs : List V, SqL K H a xs ∧ xs.length ≤ i⟩
theorem turn_enumS {P : Program} {w : World} {K : PySem.W.Frag} {elts : List Expr} {kk : Nat} {tpos : Pos} (a e it : Addr) :
    Turn P w K (.Tuple elts kk tpos) (IteS K a) [e, it] e (fun i h => (∃ old, IsEnum h e it ((i : Nat) : Int) old) ∧ h.IsListIter it a i ∧ e ≠ it) := by
  have T0 : Turn P w K (.Tuple elts kk tpos) (Ite K a) [e, it] e (fun i h => (∃ old, IsEnum h e it ((i : Nat) : Int) old) ∧ h.IsListIter it a i ∧ e ≠ it) := turn_enum a e it
  refine { mem := T0.mem, obj := T0.obj, keep := T0.keep, item := ?_, done := T0.done, self := T0.self }
  intro X hP hw hK hc i pins s σ H E I hf st hg
  subst hP hw hK
  obtain ⟨⟨was, he⟩, li, hne⟩ := st
  obtain ⟨l, x, hq, hx⟩ := hg
  obtain ⟨lt, la, lp, _⟩ := I.list hq
  obtain ⟨u, hu, ru⟩ := la.get hx
  have le : e < s.heap.objs.size := Heap.lt_size he
  have li' : it < s.heap.objs.size := by obtain ⟨_, q, _⟩ := li; exact Heap.lt_size q
  have two : ∀ b, b ∈ [e, it] → b = e ∨ b = it := fun b hb => by simpa using hb
  refine wpAny_pyNext_enum_item he li lp.isList (x := u) (by simpa using hu) hne fun h1 g1 g2 g3 g4 g5 => ⟨_, rfl, wpAny_letOwnedTupleGo_enum (s := { s with heap := h1, toks := s.toks + 1 }) g1 fun h2 g6 sb => ?_⟩
  have at2 : h2.get? s.heap.objs.size = some { cls := .type "tuple", data := .seq #[.int i s.toks, u] } := (sb.2 _ (Nat.ne_of_gt le)).trans g3
  have J : Inv X pins σ (upd H s.heap.objs.size (.frz { cls := .type "tuple", data := .seq #[.int i s.toks, u] } (.tup [.int (i : Nat), x]))) { s with heap := h2, toks := s.toks + 1 } :=
    I.turnedNew (ch := [e, it]) (fun b ob hb q => (sb.2 b (fun z => hb (by rw [z]; simp))).trans (g5 b ob (fun z => hb (by rw [z]; simp)) (fun z => hb (by rw [z]; simp)) q)) hf (Nat.le_refl _) (two_new ⟨_, rfl⟩ ru at2)
  refine ⟨.ref s.heap.objs.size, _, J, rfl, ⟨_, x, rfl, ⟨I.hok.fresh (Nat.le_refl _), _, rfl, rfl⟩, fun m hm => by rw [I.list_inj hm hq]; exact hx⟩, ⟨⟨u, ?_⟩, g2.at fun o q => (sb.2 it (Ne.symm hne)).trans q, hne⟩, fun b hb => ?_⟩
  · rw [show ((i + 1 : Nat) : Int) = (i : Int) + 1 by omega]
    exact g6
  · have lb : b < s.heap.objs.size := by
      rcases two b hb with z | z
      · rw [z]; exact le
      · rw [z]; exact li'
    rw [upd_ne (Nat.ne_of_lt lb)]
    exact (hf b hb).1
theorem walk_enumS {K : PySem.W.Frag} {a : Addr} {xs : List V} : L2.Walk (IteS K a) xs.length (fun H => SqL K H a xs) (YTwo (fun i => some (.int (i : Nat))) (fun i => xs[i]?)) :=
  ⟨fun i _ hi q => ⟨xs, xs[i], q, by simp [hi]⟩, fun _ q => ⟨xs, q, Nat.le_refl _⟩, fun i H v H' _ q y => by
    obtain ⟨T, x, z1, z2, z3⟩ := y
    exact ⟨T, .int (i : Nat), x, z1, z2, rfl, z3 xs q⟩⟩

/-! ### the call of a tuple's method -/
def tyT (K : PySem.W.Frag) (x : V) (H : Hp) : Prop := ∃ p : Addr, x = .ref p ∧ ((∃ vs, TupR H p vs) ∨ ∃ o, K.lookup p = some o ∧ o.cls = .type "tuple" ∧ o.dict = none)
theorem tyT_is {X : Cx} {pins : List (Addr × Obj)} {σ : L2.St} {H : Hp} {s : Shared} {x : V} {v : Value} (I : Inv X pins σ H s) (r : RelV x v) (h : tyT X.K x H) :
    s.TypeIs v "tuple" ∧ ∀ a, v = .ref a → ∃ ob, s.heap.get? a = some ob ∧ ob.dict = none := by
  obtain ⟨p, rfl, h⟩ := h
  cases r
  have key : ∃ o, s.heap.get? p = some o ∧ o.cls = .type "tuple" ∧ o.dict = none := by
    rcases h with ⟨vs, o, h1, h2⟩ | ⟨o, h1, h2⟩
    · obtain ⟨e, z⟩ := I.hok p _ h1
      obtain ⟨_, _, _, o', e', c, _⟩ := z
      rw [e] at e'
      cases e'
      exact ⟨o, e, c, h2⟩
    · exact ⟨o, I.kIn p o h1, h2⟩
  obtain ⟨o, e, c, d⟩ := key
  exact ⟨⟨o, e, c⟩, fun a z => by cases z; exact ⟨o, e, d⟩⟩
def tBMT (K : PySem.W.Frag) (r : V → List V → Hp → VK → Prop) (to : TE) (t : TA) : TE := fun σ H Q => to σ H fun x H1 => tyT K x H1 ∧ t σ H1 fun xs H2 => r x xs H2 Q
theorem pe_bmT {X : Cx} {o e : Expr} {es : List Expr} {to : TE} {t : TA} {name : Str} {apos cpos : Pos} {id : String} {r : V → List V → Hp → VK → Prop} (slot : Slot "tuple" name id) (hty : typeOf (.builtin id) = pure (.type "method_descriptor")) (hm : MtR X id r)
    (ho : PE X o to) (ha : PA X (e :: es) t) (hbase : attributeBase o name X.env (eval o X.env) = eval o X.env)
    (hfew : ((backTo cpos (starEach (e :: es) X.env)).all (fun x => !x.1) && (backToKw cpos (keywordEach [] X.env)).all (fun x => x.1.isSome)
      && decide ((e :: es).length + ([] : List Keyword).length + (if ([] : List Keyword).isEmpty then 0 else 1) < 30)) = true)
    (hline : (apos.endLine == cpos.line) = true) (hs : starEach (e :: es) X.env = (false, eval e X.env) :: starEach es X.env) (hplain : (backTo cpos (starEach es X.env)).any (·.1) = false) :
    PE X (.Call (.Attribute o name apos) (e :: es) [] cpos) (tBMT X.K r to t) :=
  ⟨fun pins s σ H Q I hh => wpAny_Call_method_late hbase hfew hline rfl (thn (ho.run pins s σ H _ I hh) fun v t1 ⟨x, H2, I2, rx, ty, w⟩ => by
    obtain ⟨h1, h2⟩ := tyT_is I2 rx ty
    refine ⟨"tuple", id, PySem.F.plainAttrs_tuple, slot, hty, h1, h2, ?_⟩
    have hA := ha.run cpos pins t1 σ H2 _ I2 w
    rw [hs] at hA ⊢
    exact Calls.callWith_builtin (by show (false || (backTo cpos (starEach es X.env)).any (·.1)) = false; rw [hplain]; rfl)
      (Calls.evalArgs_plain (thn hA fun us t2 ⟨ys, H3, I3, ry, z⟩ => hm pins t2 σ H3 x ys v us Q I3 rx ry z)))⟩
end Ad
namespace Ad
open PySem PySem.Spec PyProof.Rows L2

/-! ### what stands for what -/
/-- objects that defs may change under their callers' hands (the deck of a law): where, and what is always true of them -/
structure Wd where
  vol : Addr → Prop
  dk : Option Addr
  vl : Bool → Option Addr
  len : Nat
  inv : Nat → Hp → Prop
  known : ∀ b H a, inv b H → vol a → ∃ vs, H a = some (.lst vs)
  keep : ∀ b H H', inv b H → (∀ a, vol a → H' a = H a) → inv b H'
  pos : 0 < len ∧ len ≤ 63
  dkv : ∀ a, dk = some a → vol a
  vlv : ∀ t a, vl t = some a → vol a
  dkk : ∀ b H a, inv b H → dk = some a → ∃ (c r : Addr) (t : Int), H a = some (.lst [.ref c, .int t, .ref r]) ∧ vl false = some c ∧ vl true = some r ∧ 0 ≤ t ∧ t + b ≤ 4294967296
  dkw : ∀ (b b' : Nat) H a (c r : Addr) (t v : Int), inv b H → dk = some a → H a = some (.lst [.ref c, .int t, .ref r]) → 0 ≤ v → v + b' ≤ 4294967296 → inv b' (upd H a (.lst [.ref c, .int v, .ref r]))
  vlk : ∀ b H t a, inv b H → vl t = some a → ∃ ns : List Int, H a = some (.lst (ns.map V.int)) ∧ ns.length = len
  vlw : ∀ b H a (ns : List Int), inv b H → vl true = some a → ns.length = len → inv b (upd H a (.lst (ns.map V.int)))
def Ext (N : Addr → Prop) (H H' : Hp) : Prop := ∀ a o, ¬ N a → H a = some o → H' a = some o
theorem Ext.refl {N : Addr → Prop} (H : Hp) : Ext N H H := fun _ _ _ h => h
theorem Ext.trans {N : Addr → Prop} {H H1 H2 : Hp} (a : Ext N H H1) (b : Ext N H1 H2) : Ext N H H2 := fun x o n h => b x o n (a x o n h)
theorem Ext.wide {N N' : Addr → Prop} {H H' : Hp} (e : Ext N H H') (h : ∀ a, N a → N' a) : Ext N' H H' := fun a o n q => e a o (fun z => n (h a z)) q
theorem Ext.new {N : Addr → Prop} {H : Hp} {p : Addr} {o : HO} (h : H p = none) : Ext N H (upd H p o) := fun a u _ e => by
  rw [upd_ne (ne_of_none e h)]
  exact e
theorem Ext.write {N : Addr → Prop} {H : Hp} {p : Addr} {o : HO} (h : N p) : Ext N H (upd H p o) := fun a u n e => by
  have hne : a ≠ p := fun z => n (by rw [z]; exact h)
  rw [upd_ne hne]
  exact e

/-- a tuple of the program's top level -/
def StT (K : PySem.W.Frag) (a : Addr) (xs : List V) : Prop := ∃ (o : Obj) (its : Array Value) (n : Nat), (K.lookup a = some o ∧ o.cls = .type "tuple" ∧ o.data = .seq its n ∧ its.size ≤ sizeLine ∧ Vals xs its.toList) ∧ o.dict = none
theorem StT.sq {K : PySem.W.Frag} {H : Hp} {a : Addr} {xs : List V} (h : StT K a xs) : SqT K H a xs := by
  obtain ⟨o, its, n, h, _⟩ := h
  exact .inr ⟨o, its, n, h⟩
/-- a dict of ints by ints, as data (marked, so that it is no plain data), as an object -/
def dkD (kvs : List (Int × Int)) : D := .dict ((.str "ints", .none) :: kvs.map fun p => (.int p.1, .int p.2))
def dkO (kvs : List (Int × Int)) : List (Key × V) := kvs.map fun p => (Sum.inl p.1, V.int p.2)
/-- a dict whose keys are tuples of ints, all with True -/
def dtD (ks : List (List Int)) : D := .dict ((.str "tuples", .none) :: ks.map fun k => (tupD k, .bool true))
def dtO (ks : List (List Int)) : List (List Key × V) := ks.map fun k => (k.map Sum.inl, V.bl true)
/-- objects that may change -/
def MutO : HO → Prop
  | .lst _ => True
  | .dK _ => True
  | .dT _ => True
  | _ => False
mutual
inductive Rep (K : PySem.W.Frag) (W : Wd) (N : Addr → Prop) (H : Hp) : V → D → Prop
  | non : Rep K W N H .non .none
  | bl (b : Bool) : Rep K W N H (.bl b) (.bool b)
  | int (i : Int) : Rep K W N H (.int i) (.int i)
  | str (x : Str) : Rep K W N H (.str x) (.str x)
  | lst {a : Addr} {vs : List V} {ds : List D} : H a = some (.lst vs) → ¬ N a → ds.length ≤ sizeLine → RepL K W N H vs ds → Rep K W N H (.ref a) (.list ds)
  | tup {a : Addr} {vs : List V} {ds : List D} : TupR H a vs → ¬ N a → ds.length ≤ sizeLine → RepL K W N H vs ds → Rep K W N H (.ref a) (.tuple ds)
  | stp {a : Addr} {vs : List V} {ds : List D} : StT K a vs → ds.length ≤ sizeLine → RepL K W N H vs ds → Rep K W N H (.ref a) (.tuple ds)
  | dic {a : Addr} : H a = some (.dK []) → ¬ N a → Rep K W N H (.ref a) (.dict [])
  | dci {a : Addr} {kvs : List (Int × Int)} : H a = some (.dK (dkO kvs)) → ¬ N a → kvs.length ≤ sizeLine → Rep K W N H (.ref a) (dkD kvs)
  | dct {a : Addr} {ks : List (List Int)} : H a = some (.dT (dtO ks)) → ¬ N a → ks.length ≤ sizeLine → Rep K W N H (.ref a) (dtD ks)
  | dck {a : Addr} : W.dk = some a → Rep K W N H (.ref a) deckD
  | vls {a : Addr} {t : Bool} : W.vl t = some a → Rep K W N H (.ref a) (volD t W.len)
inductive RepL (K : PySem.W.Frag) (W : Wd) (N : Addr → Prop) (H : Hp) : List V → List D → Prop
  | nil : RepL K W N H [] []
  | cons {v : V} {vs : List V} {d : D} {ds : List D} : Rep K W N H v d → RepL K W N H vs ds → RepL K W N H (v :: vs) (d :: ds)
end
section
variable {K : PySem.W.Frag} {W : Wd} {N N' : Addr → Prop} {H H' : Hp}
theorem rd_some {a : Addr} {o : HO} (h : Rd H a o) : H a ≠ none := by
  rcases h with h | ⟨_, h⟩ <;> rw [h] <;> simp
theorem TupR.some {a : Addr} {vs : List V} (h : TupR H a vs) : H a ≠ none := rd_some h.rd
theorem TupR.ext {a : Addr} {vs : List V} (e : Ext N H H') (n : ¬ N a) (h : TupR H a vs) : TupR H' a vs := by
  obtain ⟨o, h1, h2⟩ := h
  exact ⟨o, e a _ n h1, h2⟩
theorem rd_ext {a : Addr} {o : HO} (e : Ext N H H') (n : ¬ N a) (h : Rd H a o) : Rd H' a o := by
  rcases h with h | ⟨o, h⟩
  · exact .inl (e a _ n h)
  · exact .inr ⟨o, e a _ n h⟩
/-- a tuple, of the heap or of the top level -/
def TupN (K : PySem.W.Frag) (N : Addr → Prop) (H : Hp) (a : Addr) (vs : List V) : Prop := (TupR H a vs ∧ ¬ N a) ∨ StT K a vs
theorem TupN.sq {a : Addr} {vs : List V} (h : TupN K N H a vs) : SqT K H a vs := by
  rcases h with h | h
  · exact .inl h.1.rd
  · exact h.sq
theorem Rep.tupS {a : Addr} {vs : List V} {ds : List D} (h : TupN K N H a vs) (z : ds.length ≤ sizeLine) (l : RepL K W N H vs ds) : Rep K W N H (.ref a) (.tuple ds) := by
  rcases h with h | h
  · exact .tup h.1 h.2 z l
  · exact .stp h z l
mutual
theorem Rep.to (f : ∀ a, ¬ N a → H a ≠ none → ¬ N' a) (e : Ext N H H') : ∀ (d : D) (v : V), Rep K W N H v d → Rep K W N' H' v d
  | .none, _, h => by cases h; exact .non
  | .bool b, _, h => by cases h; exact .bl b
  | .int b, _, h => by cases h; exact .int b
  | .str b, _, h => by cases h; exact .str b
  | .list ds, _, h => by
    cases h with
    | lst h1 h2 h3 h4 => exact .lst (e _ _ h2 h1) (f _ h2 (by rw [h1]; simp)) h3 (RepL.to f e ds _ h4)
  | .tuple ds, _, h => by
    cases h with
    | tup h1 h2 h3 h4 => exact .tup (h1.ext e h2) (f _ h2 h1.some) h3 (RepL.to f e ds _ h4)
    | stp h1 h3 h4 => exact .stp h1 h3 (RepL.to f e ds _ h4)
  | .dict kvs, _, h => by
    cases h with
    | dic h1 h2 => exact .dic (e _ _ h2 h1) (f _ h2 (by rw [h1]; simp))
    | dci h1 h2 h3 => exact .dci (e _ _ h2 h1) (f _ h2 (by rw [h1]; simp)) h3
    | dct h1 h2 h3 => exact .dct (e _ _ h2 h1) (f _ h2 (by rw [h1]; simp)) h3
    | dck h1 => exact .dck h1
    | vls h1 => exact .vls h1
theorem RepL.to (f : ∀ a, ¬ N a → H a ≠ none → ¬ N' a) (e : Ext N H H') : ∀ (ds : List D) (vs : List V), RepL K W N H vs ds → RepL K W N' H' vs ds
  | [], _, h => by cases h; exact .nil
  | d :: ds, _, h => by
    cases h with
    | cons h1 h2 => exact .cons (Rep.to f e d _ h1) (RepL.to f e ds _ h2)
end
theorem Rep.ext {v : V} {d : D} (e : Ext N H H') (h : Rep K W N H v d) : Rep K W N H' v d := Rep.to (fun _ n _ => n) e d v h
theorem RepL.ext {v : List V} {d : List D} (e : Ext N H H') (h : RepL K W N H v d) : RepL K W N H' v d := RepL.to (fun _ n _ => n) e d v h
theorem Rep.anti {v : V} {d : D} (f : ∀ a, N' a → N a) (h : Rep K W N H v d) : Rep K W N' H v d := Rep.to (fun a n _ z => n (f a z)) (Ext.refl H) d v h
theorem RepL.anti {v : List V} {d : List D} (f : ∀ a, N' a → N a) (h : RepL K W N H v d) : RepL K W N' H v d := RepL.to (fun a n _ z => n (f a z)) (Ext.refl H) d v h
theorem RepL.length {vs : List V} : ∀ {ds : List D}, RepL K W N H vs ds → vs.length = ds.length := by
  intro ds h
  induction ds generalizing vs with
  | nil => cases h; rfl
  | cons d ds ih => cases h with | cons _ t => rw [List.length_cons, List.length_cons, ih t]
theorem RepL.get {vs : List V} {ds : List D} (h : RepL K W N H vs ds) {i : Nat} {d : D} (e : ds[i]? = some d) : ∃ v, vs[i]? = some v ∧ Rep K W N H v d := by
  induction ds generalizing vs i with
  | nil => simp at e
  | cons x ds ih =>
    cases h with
    | cons r t =>
      cases i with
      | zero => simp at e; subst e; exact ⟨_, rfl, r⟩
      | succ i => simpa using ih t (by simpa using e)
theorem RepL.getV {vs : List V} {ds : List D} (h : RepL K W N H vs ds) {i : Nat} {v : V} (e : vs[i]? = some v) : ∃ d, ds[i]? = some d ∧ Rep K W N H v d := by
  induction ds generalizing vs i with
  | nil => cases h; simp at e
  | cons x ds ih =>
    cases h with
    | cons r t =>
      cases i with
      | zero => simp at e; subst e; exact ⟨_, rfl, r⟩
      | succ i => simpa using ih t (by simpa using e)
theorem RepL.append {vs ws : List V} {ds es : List D} (h : RepL K W N H vs ds) (h' : RepL K W N H ws es) : RepL K W N H (vs ++ ws) (ds ++ es) := by
  induction ds generalizing vs with
  | nil => cases h; exact h'
  | cons x ds ih => cases h with | cons r t => exact .cons r (ih t)
theorem RepL.reverse {vs : List V} {ds : List D} (h : RepL K W N H vs ds) : RepL K W N H vs.reverse ds.reverse := by
  induction ds generalizing vs with
  | nil => cases h; exact .nil
  | cons x ds ih =>
    cases h with
    | cons r t =>
      rw [List.reverse_cons, List.reverse_cons]
      exact (ih t).append (.cons r .nil)
theorem RepL.drop {vs : List V} {ds : List D} (h : RepL K W N H vs ds) (n : Nat) : RepL K W N H (vs.drop n) (ds.drop n) := by
  induction n generalizing vs ds with
  | zero => exact h
  | succ n ih =>
    cases ds with
    | nil => cases h; exact .nil
    | cons x ds => cases h with | cons r t => exact ih t
theorem RepL.take {vs : List V} {ds : List D} (h : RepL K W N H vs ds) (n : Nat) : RepL K W N H (vs.take n) (ds.take n) := by
  induction n generalizing vs ds with
  | zero => exact .nil
  | succ n ih =>
    cases ds with
    | nil => cases h; exact .nil
    | cons x ds => cases h with | cons r t => exact .cons r (ih t)
theorem RepL.set {vs : List V} {ds : List D} (h : RepL K W N H vs ds) {v : V} {d : D} (r : Rep K W N H v d) (n : Nat) : RepL K W N H (vs.set n v) (ds.set n d) := by
  induction n generalizing vs ds with
  | zero =>
    cases ds with
    | nil => cases h; exact .nil
    | cons x ds => cases h with | cons _ t => exact .cons r t
  | succ n ih =>
    cases ds with
    | nil => cases h; exact .nil
    | cons x ds => cases h with | cons q t => exact .cons q (ih t)
theorem RepL.eraseIdx {vs : List V} {ds : List D} (h : RepL K W N H vs ds) (n : Nat) : RepL K W N H (vs.eraseIdx n) (ds.eraseIdx n) := by
  induction n generalizing vs ds with
  | zero =>
    cases ds with
    | nil => cases h; exact .nil
    | cons x ds => cases h with | cons _ t => exact t
  | succ n ih =>
    cases ds with
    | nil => cases h; exact .nil
    | cons x ds => cases h with | cons q t => exact .cons q (ih t)
theorem RepL.dropLast {vs : List V} {ds : List D} (h : RepL K W N H vs ds) : RepL K W N H vs.dropLast ds.dropLast := by
  rw [List.dropLast_eq_take, List.dropLast_eq_take, h.length]
  exact h.take _
theorem RepL.flat {vs : List V} {ds : List D} (h : RepL K W N H vs ds) (k : Nat) : RepL K W N H (List.replicate k vs).flatten (List.replicate k ds).flatten := by
  induction k with
  | zero => exact .nil
  | succ k ih =>
    rw [List.replicate_succ, List.replicate_succ, List.flatten_cons, List.flatten_cons]
    exact h.append ih
theorem repL_ints (ns : List Int) : RepL K W N H (ns.map V.int) (ns.map PyData.int) := by
  induction ns with
  | nil => exact .nil
  | cons n ns ih => exact .cons (.int n) ih
mutual
/-- what holds no list is told by no address that may change -/
theorem Rep.fixed : ∀ (d : D) (v : V), fixedD d = true → (∀ a vs, Rd H a (.tup vs) → ¬ N' a) → Rep K W N H v d → Rep K W N' H v d
  | .none, _, _, _, h => by cases h; exact .non
  | .bool b, _, _, _, h => by cases h; exact .bl b
  | .int b, _, _, _, h => by cases h; exact .int b
  | .str b, _, _, _, h => by cases h; exact .str b
  | .list ds, _, q, _, h => by simp [fixedD] at q
  | .tuple ds, _, q, f, h => by
    cases h with
    | tup h1 h2 h3 h4 => exact .tup h1 (f _ _ h1.rd) h3 (RepL.fixed ds _ (by simpa [fixedD] using q) f h4)
    | stp h1 h3 h4 => exact .stp h1 h3 (RepL.fixed ds _ (by simpa [fixedD] using q) f h4)
  | .dict kvs, _, q, _, h => by simp [fixedD] at q
theorem RepL.fixed : ∀ (ds : List D) (vs : List V), fixedAll ds = true → (∀ a vs, Rd H a (.tup vs) → ¬ N' a) → RepL K W N H vs ds → RepL K W N' H vs ds
  | [], _, _, _, h => by cases h; exact .nil
  | d :: ds, _, q, f, h => by
    cases h with
    | cons h1 h2 =>
      simp only [fixedAll, Bool.and_eq_true] at q
      exact .cons (Rep.fixed d _ q.1 f h1) (RepL.fixed ds _ q.2 f h2)
end
end

/-- plain values can be read off the heap -/
theorem not_mod {X : Cx} {pins : List (Addr × Obj)} {σ : L2.St} {H : Hp} {s : Shared} (I : Inv X pins σ H s) {a : Addr} {o : Obj} (h : X.K.lookup a = some o) : H a = none := (I.bs a o (I.ok.mod.kin a o h)).2
section
variable {X : Cx} {pins : List (Addr × Obj)} {σ : L2.St} {H : Hp} {s : Shared} {W : Wd} {N : Addr → Prop}
theorem dict_nil_get (I : Inv X pins σ H s) {a : Addr} (h : H a = some (.dK [])) : ∃ o n, s.heap.get? a = some o ∧ o.cls = .type "dict" ∧ o.data = .dict #[] n ∧ (a == sysModules) = false ∧ o.ExactDict := by
  obtain ⟨_, hs, vs, kv, o, es, ep, ho, hx, hd, he⟩ := I.hok a _ h
  have e0 : vs = [] := by cases kv; rfl
  subst e0
  obtain ⟨_, he, _⟩ := he
  have e1 : es = #[] := by
    have : es.toList = [] := by
      generalize es.toList = l at he
      cases he
      rfl
    exact Array.toList_eq_nil_iff.mp this
  subst e1
  exact ⟨o, ep, ho, hx.1, hd, hs, hx⟩
mutual
theorem Rep.reads (I : Inv X pins σ H s) : ∀ (d : D) (v : V) (u : Value), okD d = true → Rep X.K W N H v d → RelV v u → ∃ as, Reads s.heap u d as ∧ ((∃ o, X.base.get? sysModules = some o) → sysModules ∉ as)
  | .none, _, _, _, h, r => by cases h; cases r; exact ⟨_, Reads.none, by simp⟩
  | .bool b, _, _, _, h, r => by cases h; cases r; exact ⟨_, Reads.bool b, by simp⟩
  | .int i, _, _, _, h, r => by cases h; obtain ⟨t, rfl⟩ := r; exact ⟨_, Reads.int i t, by simp⟩
  | .str x, _, _, _, h, r => by cases h; obtain ⟨t, rfl⟩ := r; exact ⟨_, Reads.str x t, by simp⟩
  | .list ds, _, _, p, h, r => by
    cases h with
    | lst h1 h2 h3 h4 =>
      cases r
      obtain ⟨its, rv, ⟨o, n, ho, hc, _, hd⟩, _⟩ := I.list (SqL.of h1)
      obtain ⟨as, hr, hm⟩ := RepL.reads I ds _ its (by simpa [okD] using p) h4 rv
      refine ⟨_, Reads.list ho hc hd hr, ?_⟩
      intro hs hm'
      rcases List.mem_cons.mp hm' with e | e
      · obtain ⟨ob, hb⟩ := hs
        have q := (I.bs _ ob hb).2
        rw [e, h1] at q
        cases q
      · exact hm hs e
  | .tuple ds, _, _, p, h, r => by
    have go : ∀ {a : Addr} {vs : List V} {u : Value}, SqT X.K H a vs → RepL X.K W N H vs ds → RelV (.ref a) u → ∃ as, Reads s.heap u (.tuple ds) as ∧ ((∃ o, X.base.get? sysModules = some o) → sysModules ∉ as) := by
      intro a vs u h1 h4 r
      cases r
      obtain ⟨its, rv, ⟨o, ho, hc, n, hd⟩, _⟩ := I.tuple h1
      obtain ⟨as, hr, hm⟩ := RepL.reads I ds _ its (by simpa [okD] using p) h4 rv
      exact ⟨_, Reads.tuple ho hc hd hr, hm⟩
    cases h with
    | tup h1 h2 h3 h4 => exact go (.inl h1.rd) h4 r
    | stp h1 h3 h4 => exact go h1.sq h4 r
  | .dict [], _, _, p, h, r => by
    cases h with
    | dic h1 h2 =>
      cases r
      obtain ⟨o, n, ho, hc, hd, hs', _⟩ := dict_nil_get I h1
      refine ⟨_, Reads.dict (kvs := []) ho hc hd .nil .nil, ?_⟩
      simp only [List.append_nil, List.mem_singleton]
      intro _ e
      subst e
      simp at hs'
  | .dict (_ :: _), _, _, p, h, r => by simp [okD] at p
theorem RepL.reads (I : Inv X pins σ H s) : ∀ (ds : List D) (vs : List V) (us : List Value), okAll ds = true → RepL X.K W N H vs ds → Vals vs us → ∃ as, ReadsAll s.heap us ds as ∧ ((∃ o, X.base.get? sysModules = some o) → sysModules ∉ as)
  | [], _, _, _, h, r => by cases h; cases r; exact ⟨_, ReadsAll.nil, by simp⟩
  | d :: ds, _, _, p, h, r => by
    cases h with
    | cons h1 h2 =>
      cases r with
      | cons r1 r2 =>
        simp only [okAll, Bool.and_eq_true] at p
        obtain ⟨as, q1, m1⟩ := Rep.reads I d _ _ p.1 h1 r1
        obtain ⟨bs, q2, m2⟩ := RepL.reads I ds _ _ p.2 h2 r2
        exact ⟨_, ReadsAll.cons q1 q2, fun hs => by simp [m1 hs, m2 hs]⟩
end
end
end Ad
namespace Ad
open PySem PySem.Spec PyProof.Rows L2

/-! ### a def's frame: the world, what it must not touch, the heap at its entry -/
structure Cf where
  W : Wd
  B : Addr → Prop
  H0 : Hp
  b : Nat
/-- so many may still be drawn -/
abbrev Cf.at (c : Cf) (b : Nat) : Cf := { c with b := b }
def Nn (c : Cf) (ρ : Ev) (σ : L2.St) (a : Addr) : Prop := c.B a ∨ ∃ (i : Nat) (d : D), ρ[i]? = some (some (d, true)) ∧ σ[i]? = some (some (V.ref a))
/-- an owned slot's dict -/
inductive DictR : HO → D → Prop
  | dki {kvs : List (Int × Int)} : kvs.length ≤ sizeLine → DictR (.dK (dkO kvs)) (dkD kvs)
  | dkt {ks : List (List Int)} : ks.length ≤ sizeLine → DictR (.dT (dtO ks)) (dtD ks)
theorem DictR.dict {o : HO} {d : D} (h : DictR o d) : ∃ x kvs, d = .dict (x :: kvs) := by
  cases h with
  | dki _ => exact ⟨_, _, rfl⟩
  | dkt _ => exact ⟨_, _, rfl⟩
theorem DictR.mut {o : HO} {d : D} (h : DictR o d) : MutO o := by
  cases h with
  | dki _ => exact trivial
  | dkt _ => exact trivial
/-- what an owned slot's object is -/
inductive OwnR (K : PySem.W.Frag) (W : Wd) (N : Addr → Prop) (H : Hp) : HO → D → Prop
  | lst {vs : List V} {ds : List D} : ds.length ≤ sizeLine → RepL K W N H vs ds → OwnR K W N H (.lst vs) (.list ds)
  | dic {o : HO} {d : D} : DictR o d → OwnR K W N H o d
section
variable {K : PySem.W.Frag} {W : Wd} {N N' : Addr → Prop} {H H' : Hp} {o : HO} {d : D}
theorem OwnR.mut (h : OwnR K W N H o d) : MutO o := by
  cases h with
  | lst _ _ => exact trivial
  | dic h => exact h.mut
theorem OwnR.ext (e : Ext N H H') (h : OwnR K W N H o d) : OwnR K W N H' o d := by
  cases h with
  | lst z l => exact .lst z (l.ext e)
  | dic h => exact .dic h
theorem OwnR.anti (f : ∀ a, N' a → N a) (h : OwnR K W N H o d) : OwnR K W N' H o d := by
  cases h with
  | lst z l => exact .lst z (l.anti f)
  | dic h => exact .dic h
theorem OwnR.to (f : ∀ a, ¬ N a → H a ≠ none → ¬ N' a) (e : Ext N H H') (h : OwnR K W N H o d) : OwnR K W N' H' o d := by
  cases h with
  | lst z l => exact .lst z (RepL.to f e _ _ l)
  | dic h => exact .dic h
theorem OwnR.list {ds : List D} (h : OwnR K W N H o (.list ds)) : ∃ vs, o = .lst vs ∧ ds.length ≤ sizeLine ∧ RepL K W N H vs ds := by
  cases h with
  | lst z l => exact ⟨_, rfl, z, l⟩
  | dic h => obtain ⟨_, _, e⟩ := h.dict; cases e
end
structure EnvOk (K : PySem.W.Frag) (c : Cf) (ρ : Ev) (σ : L2.St) (H : Hp) : Prop where
  len : ρ.length = σ.length
  val : ∀ (i : Nat) (d : D), ρ[i]? = some (some (d, false)) → ∃ v, σ[i]? = some (some v) ∧ Rep K c.W (Nn c ρ σ) H v d
  own : ∀ (i : Nat) (d : D), ρ[i]? = some (some (d, true)) → ∃ a o, σ[i]? = some (some (V.ref a)) ∧ H a = some o ∧ OwnR K c.W (Nn c ρ σ) H o d ∧ c.H0 a = none ∧ ¬ c.B a
  dist : ∀ (i j : Nat) (d e : D) (a : Addr), ρ[i]? = some (some (d, true)) → ρ[j]? = some (some (e, true)) → σ[i]? = some (some (V.ref a)) → σ[j]? = some (some (V.ref a)) → i = j
  ext : Ext c.W.vol c.H0 H
  inv : c.W.inv c.b H
  bkn : ∀ a, c.B a → ∃ o, H a = some o ∧ MutO o
  bv : ∀ a, c.W.vol a → c.B a
/-- what a value-level step needs -/
structure VC (W : Wd) (N : Addr → Prop) (H : Hp) (b : Nat) : Prop where
  kl : ∀ a, N a → ∃ o, H a = some o ∧ MutO o
  bv : ∀ a, W.vol a → N a
  inv : W.inv b H
section
variable {K : PySem.W.Frag} {mg : Str → Option Value} {c : Cf} {W : Wd} {N : Addr → Prop} {ρ : Ev} {σ : L2.St} {H H' : Hp}
theorem EnvOk.vc (e : EnvOk K c ρ σ H) : VC c.W (Nn c ρ σ) H c.b := ⟨fun a h => by
  rcases h with h | ⟨i, d, h1, h2⟩
  · exact e.bkn a h
  · obtain ⟨b, o, h3, h4, h5, _⟩ := e.own i d h1
    rw [h2] at h3
    cases h3
    exact ⟨_, h4, h5.mut⟩, fun a h => .inl (e.bv a h), e.inv⟩
theorem EnvOk.ext' (e : EnvOk K c ρ σ H) {b : Nat} (x : Ext c.W.vol H H') (i : c.W.inv b H') : EnvOk K (c.at b) ρ σ H' where
  len := e.len
  val := fun j d h => let ⟨v, h1, h2⟩ := e.val j d h; ⟨v, h1, h2.ext (x.wide e.vc.bv)⟩
  own := fun j d h => by
    obtain ⟨a, o, h2, h3, h5, h6, h7⟩ := e.own j d h
    exact ⟨a, o, h2, x a _ (fun z => h7 (e.bv a z)) h3, h5.ext (x.wide e.vc.bv), h6, h7⟩
  dist := e.dist
  ext := e.ext.trans x
  inv := i
  bkn := fun a h => by
    by_cases hv : c.W.vol a
    · obtain ⟨vs, q⟩ := c.W.known _ H' a i hv
      exact ⟨_, q, trivial⟩
    · obtain ⟨o, q, m⟩ := e.bkn a h
      exact ⟨o, x a _ hv q, m⟩
  bv := e.bv
theorem VC.kn {b : Nat} (v : VC W N H b) : ∀ a, N a → H a ≠ none := fun a h => by
  obtain ⟨o, q, _⟩ := v.kl a h
  rw [q]; simp
theorem VC.new {b : Nat} {p : Addr} {o : HO} (v : VC W N H b) (h : H p = none) : Ext W.vol H (upd H p o) ∧ W.inv b (upd H p o) ∧ ¬ N p :=
  ⟨Ext.new h, W.keep _ H _ v.inv fun a ha => upd_ne fun z => v.kn a (v.bv a ha) (z ▸ h), fun z => v.kn p z h⟩
theorem VC.ext {b b' : Nat} (v : VC W N H b) (x : Ext W.vol H H') (i : W.inv b' H') : VC W N H' b' := ⟨fun a h => by
    by_cases hv : W.vol a
    · obtain ⟨vs, q⟩ := W.known _ H' a i hv
      exact ⟨_, q, trivial⟩
    · obtain ⟨o, q, m⟩ := v.kl a h
      exact ⟨o, x a _ hv q, m⟩, v.bv, i⟩
end

/-- a value, or a list of the def's own that is lent -/
def RepB (K : PySem.W.Frag) (W : Wd) (N : Addr → Prop) (H : Hp) (v : V) (d : D) : Prop :=
  Rep K W N H v d ∨ (∃ a vs ds, v = .ref a ∧ d = .list ds ∧ H a = some (.lst vs) ∧ ds.length ≤ sizeLine ∧ RepL K W N H vs ds ∧ ¬ W.vol a) ∨ ∃ a o, v = .ref a ∧ DictR o d ∧ H a = some o ∧ ¬ W.vol a
inductive RepBL (K : PySem.W.Frag) (W : Wd) (N : Addr → Prop) (H : Hp) : List V → List D → Prop
  | nil : RepBL K W N H [] []
  | cons {v : V} {vs : List V} {d : D} {ds : List D} : RepB K W N H v d → RepBL K W N H vs ds → RepBL K W N H (v :: vs) (d :: ds)
section
variable {K : PySem.W.Frag} {W : Wd} {N N' : Addr → Prop} {H H' : Hp}
theorem RepB.ext {v : V} {d : D} (e : Ext W.vol H H') (b : ∀ a, W.vol a → N a) (h : RepB K W N H v d) : RepB K W N H' v d := by
  rcases h with h | ⟨a, vs, ds, h1, h2, h3, h4, h5, h6⟩ | ⟨a, o, h1, h2, h3, h4⟩
  · exact .inl (h.ext (e.wide b))
  · exact .inr (.inl ⟨a, vs, ds, h1, h2, e a _ h6 h3, h4, h5.ext (e.wide b), h6⟩)
  · exact .inr (.inr ⟨a, o, h1, h2, e a _ h4 h3, h4⟩)
theorem RepBL.ext {vs : List V} {ds : List D} (e : Ext W.vol H H') (b : ∀ a, W.vol a → N a) (h : RepBL K W N H vs ds) : RepBL K W N H' vs ds := by
  induction h with
  | nil => exact .nil
  | cons h1 _ ih => exact .cons (h1.ext e b) ih
theorem RepB.list {v : V} {ds : List D} (h : RepB K W N H v (.list ds)) : ∃ a vs, v = .ref a ∧ H a = some (.lst vs) ∧ ds.length ≤ sizeLine ∧ RepL K W N H vs ds := by
  rcases h with h | ⟨a, vs, ds', h1, h2, h3, h4, h5, _⟩ | ⟨a, o, h1, h2, _⟩
  · cases h with
    | lst h1 h2 h3 h4 => exact ⟨_, _, rfl, h1, h3, h4⟩
  · cases h2
    exact ⟨a, vs, h1, h3, h4, h5⟩
  · obtain ⟨_, _, e⟩ := h2.dict
    cases e
theorem RepB.rep {v : V} {d : D} (h : RepB K W N H v d) (hn : ∀ ds, d ≠ .list ds) (hk : ∀ kvs, d ≠ .dict kvs) : Rep K W N H v d := by
  rcases h with h | ⟨a, vs, ds, h1, h2, _⟩ | ⟨a, o, h1, h2, _⟩
  · exact h
  · exact absurd h2 (hn ds)
  · obtain ⟨x, kvs, e⟩ := h2.dict
    exact absurd e (hk _)
theorem RepB.int {v : V} {i : Int} (h : RepB K W N H v (.int i)) : v = .int i := by
  have h := h.rep (fun _ z => nomatch z) (fun _ z => nomatch z)
  cases h; rfl
theorem RepB.bl {v : V} {i : Bool} (h : RepB K W N H v (.bool i)) : v = .bl i := by
  have h := h.rep (fun _ z => nomatch z) (fun _ z => nomatch z)
  cases h; rfl
theorem RepB.str {v : V} {i : Str} (h : RepB K W N H v (.str i)) : v = .str i := by
  have h := h.rep (fun _ z => nomatch z) (fun _ z => nomatch z)
  cases h; rfl
theorem RepB.non {v : V} (h : RepB K W N H v .none) : v = .non := by
  have h := h.rep (fun _ z => nomatch z) (fun _ z => nomatch z)
  cases h; rfl
theorem RepB.tup {v : V} {ds : List D} (h : RepB K W N H v (.tuple ds)) : ∃ a vs, v = .ref a ∧ SqT K H a vs ∧ TupN K N H a vs ∧ ds.length ≤ sizeLine ∧ RepL K W N H vs ds := by
  have h := h.rep (fun _ z => nomatch z) (fun _ z => nomatch z)
  cases h with
  | tup h1 h2 h3 h4 => exact ⟨_, _, rfl, .inl h1.rd, .inl ⟨h1, h2⟩, h3, h4⟩
  | stp h1 h3 h4 => exact ⟨_, _, rfl, h1.sq, .inr h1, h3, h4⟩
end

/-- an exception of a class of the program's own, with its own dict -/
def RepX (K : PySem.W.Frag) (mg : Str → Option Value) (W : Wd) (N : Addr → Prop) (H : Hp) (x : XV) (cls : Value) (d : Option Addr) : Prop :=
  ∃ C, mg x.cls = some (.ref C) ∧ cls = .ref C ∧ ((x.fs = [] ∧ d = none) ∨ (x.fs ≠ [] ∧ ∃ dd vs, d = some dd ∧ H dd = some (.xd ((x.fs.map (·.1)).zip vs)) ∧ RepL K W N H vs (x.fs.map (·.2))))

/-! ### readings -/
section
variable (K : PySem.W.Frag) (mg : Str → Option Value) (Wx : WX)
def XQ (c : Cf) (ρ : Ev) (σ : L2.St) (H : Hp) : XV → Nat → Prop := fun x b => ∀ cls d H', Ext c.W.vol H H' → c.W.inv b H' → RepX K mg c.W (Nn c ρ σ) H' x cls d → Wx cls d σ H'
def tE (m : Ev → M D) : TE := fun σ H Q => ∃ c ρ, EnvOk K c ρ σ H ∧ (m ρ).run (fun d b => ∀ v H', Ext c.W.vol H H' → c.W.inv b H' → Rep K c.W (Nn c ρ σ) H' v d → Q v H') (XQ K mg Wx c ρ σ H) c.b
def tEB (m : Ev → M D) : TE := fun σ H Q => ∃ c ρ, EnvOk K c ρ σ H ∧ (m ρ).run (fun d b => ∀ v H', Ext c.W.vol H H' → c.W.inv b H' → RepB K c.W (Nn c ρ σ) H' v d → Q v H') (XQ K mg Wx c ρ σ H) c.b
def tA (m : Ev → M (List D)) : TA := fun σ H Q => ∃ c ρ, EnvOk K c ρ σ H ∧ (m ρ).run (fun d b => ∀ v H', Ext c.W.vol H H' → c.W.inv b H' → RepL K c.W (Nn c ρ σ) H' v d → Q v H') (XQ K mg Wx c ρ σ H) c.b
def tAB (m : Ev → M (List D)) : TA := fun σ H Q => ∃ c ρ, EnvOk K c ρ σ H ∧ (m ρ).run (fun d b => ∀ v H', Ext c.W.vol H H' → c.W.inv b H' → RepBL K c.W (Nn c ρ σ) H' v d → Q v H') (XQ K mg Wx c ρ σ H) c.b
def tT (m : Ev → M D) : TT := fun σ H Q => ∃ c ρ, EnvOk K c ρ σ H ∧ (m ρ).run (fun d b => ∃ k, d = .bool k ∧ ∀ H', Ext c.W.vol H H' → c.W.inv b H' → Q k H') (XQ K mg Wx c ρ σ H) c.b
end
section
variable {K : PySem.W.Frag} {mg : Str → Option Value} {Wx : WX} {σ : L2.St} {H : Hp} {Q : VK}
theorem tE_of_B {m : Ev → M D} (h : tEB K mg Wx m σ H Q) : tE K mg Wx m σ H Q := by
  obtain ⟨c, ρ, e, h⟩ := h
  exact ⟨c, ρ, e, (m ρ).mono (fun d _ q v H' x i r => q v H' x i (.inl r)) (fun _ _ z => z) h⟩
theorem XQ.later {c : Cf} {ρ : Ev} {H' : Hp} (e : Ext c.W.vol H H') {x : XV} {b : Nat} (h : XQ K mg Wx c ρ σ H x b) : XQ K mg Wx c ρ σ H' x b := fun cls d H'' e' i r => h cls d H'' (e.trans e') i r
theorem EnvOk.novol {c : Cf} {ρ : Ev} (e : EnvOk K c ρ σ H) : True := trivial
/-- one part, then a step by values -/
theorem read1 {a : Ev → M D} {f : D → M D} {r : V → Hp → VK → Prop}
    (hv : ∀ (W : Wd) (N : Addr → Prop) (H : Hp) (b : Nat) (d : D) (v : V) (Q : VK) (R : XV → Nat → Prop), VC W N H b → RepB K W N H v d → (f d).run (fun d b => ∀ v H', Ext W.vol H H' → W.inv b H' → Rep K W N H' v d → Q v H') R b → r v H Q)
    (h : tE K mg Wx (fun ρ => a ρ >>= f) σ H Q) : tEB K mg Wx a σ H fun v H1 => r v H1 Q := by
  obtain ⟨c, ρ, e, h⟩ := h
  refine ⟨c, ρ, e, (a ρ).mono (fun d _ q v H1 x i rv => ?_) (fun _ _ z => z) h⟩
  refine hv c.W (Nn c ρ σ) H1 _ d v Q _ (e.ext' x i).vc rv ((f d).mono (fun d' _ q' v' H2 x2 i2 r2 => q' v' H2 (x.trans x2) i2 r2) (fun _ _ z => z) q)
theorem read1T {a : Ev → M D} {f : D → M D} {r : V → Hp → VK → Prop}
    (hv : ∀ (W : Wd) (N : Addr → Prop) (H : Hp) (b : Nat) (d : D) (v : V) (Q : VK) (R : XV → Nat → Prop), VC W N H b → Rep K W N H v d → (f d).run (fun d b => ∀ v H', Ext W.vol H H' → W.inv b H' → Rep K W N H' v d → Q v H') R b → r v H Q)
    (h : tE K mg Wx (fun ρ => a ρ >>= f) σ H Q) : tE K mg Wx a σ H fun v H1 => r v H1 Q := by
  obtain ⟨c, ρ, e, h⟩ := h
  refine ⟨c, ρ, e, (a ρ).mono (fun d _ q v H1 x i rv => ?_) (fun _ _ z => z) h⟩
  refine hv c.W (Nn c ρ σ) H1 _ d v Q _ (e.ext' x i).vc rv ((f d).mono (fun d' _ q' v' H2 x2 i2 r2 => q' v' H2 (x.trans x2) i2 r2) (fun _ _ z => z) q)
end
end Ad
namespace PySem.SeqAt
open PySem.AutoSeq1 (wpAny_loadPart')
open PySem.MeetsSeq

/-! ### == of a dict and a value of another kind -/
abbrev objD (es : Array DictEntry) (n : Nat) (dd : Option Addr) (sl : Array (Option Value)) : Obj := { cls := .type "dict", dict := dd, data := .dict es n, slots := sl }
abbrev objS (c : String) (items : Array Value) (n : Nat) (dd : Option Addr) (sl : Array (Option Value)) : Obj := { cls := .type c, dict := dd, data := .seq items n, slots := sl }
def DictAt (s : Shared) (l : Addr) : Prop := ∃ es n dd sl, s.heap.get? l = some (objD es n dd sl)

theorem dict_eq_declines_none (l : Addr) (es : Array DictEntry) (n : Nat) (dd : Option Addr) (sl : Array (Option Value)) :
    Meets (Builtin.«dict.__eq__» ⟨[.ref l, .none], []⟩) (fun _ R s => s.heap.get? l = some { cls := .type "dict", dict := dd, data := .dict es n, slots := sl } ∧ R (.ok (.ret .notImplemented)) s) :=
  .of_wp fun prog w A R s h => by obtain ⟨hp, g, d, tk, os⟩ := s; obtain ⟨hl, h⟩ := h; have f1 := F.sub_NoneType_dict; wp_walk using wpAny_loadPart' hl; exact ⟨_, rfl, h⟩
theorem dict_eq_declines_bool (l : Addr) (es : Array DictEntry) (n : Nat) (dd : Option Addr) (sl : Array (Option Value)) (b : Bool) :
    Meets (Builtin.«dict.__eq__» ⟨[.ref l, (.bool b)], []⟩) (fun _ R s => s.heap.get? l = some { cls := .type "dict", dict := dd, data := .dict es n, slots := sl } ∧ R (.ok (.ret .notImplemented)) s) :=
  .of_wp fun prog w A R s h => by obtain ⟨hp, g, d, tk, os⟩ := s; obtain ⟨hl, h⟩ := h; have f1 := F.sub_bool_dict; wp_walk using wpAny_loadPart' hl; exact ⟨_, rfl, h⟩
theorem bool_eq_declines_dict (b : Bool) (l : Addr) (es : Array DictEntry) (n : Nat) (dd : Option Addr) (sl : Array (Option Value)) :
    Meets (Builtin.«int.__eq__» ⟨[(.bool b), .ref l], []⟩) (fun _ R s => s.heap.get? l = some { cls := .type "dict", dict := dd, data := .dict es n, slots := sl } ∧ R (.ok (.ret .notImplemented)) s) :=
  .of_wp fun prog w A R s h => by obtain ⟨hp, g, d, tk, os⟩ := s; obtain ⟨hl, h⟩ := h; wp_walk using wpAny_loadPart' hl, wpAny_load hl; exact ⟨_, rfl, h⟩
theorem dict_eq_declines_int (l : Addr) (es : Array DictEntry) (n : Nat) (dd : Option Addr) (sl : Array (Option Value)) (b : Int) (u : Tok) :
    Meets (Builtin.«dict.__eq__» ⟨[.ref l, (.int b u)], []⟩) (fun _ R s => s.heap.get? l = some { cls := .type "dict", dict := dd, data := .dict es n, slots := sl } ∧ R (.ok (.ret .notImplemented)) s) :=
  .of_wp fun prog w A R s h => by obtain ⟨hp, g, d, tk, os⟩ := s; obtain ⟨hl, h⟩ := h; have f1 := F.sub_int_dict; wp_walk using wpAny_loadPart' hl; exact ⟨_, rfl, h⟩
theorem int_eq_declines_dict (b : Int) (u : Tok) (l : Addr) (es : Array DictEntry) (n : Nat) (dd : Option Addr) (sl : Array (Option Value)) :
    Meets (Builtin.«int.__eq__» ⟨[(.int b u), .ref l], []⟩) (fun _ R s => s.heap.get? l = some { cls := .type "dict", dict := dd, data := .dict es n, slots := sl } ∧ R (.ok (.ret .notImplemented)) s) :=
  .of_wp fun prog w A R s h => by obtain ⟨hp, g, d, tk, os⟩ := s; obtain ⟨hl, h⟩ := h; wp_walk using wpAny_loadPart' hl, wpAny_load hl; exact ⟨_, rfl, h⟩
theorem dict_eq_declines_str (l : Addr) (es : Array DictEntry) (n : Nat) (dd : Option Addr) (sl : Array (Option Value)) (b : Str) (u : Tok) :
    Meets (Builtin.«dict.__eq__» ⟨[.ref l, (.str b u)], []⟩) (fun _ R s => s.heap.get? l = some { cls := .type "dict", dict := dd, data := .dict es n, slots := sl } ∧ R (.ok (.ret .notImplemented)) s) :=
  .of_wp fun prog w A R s h => by obtain ⟨hp, g, d, tk, os⟩ := s; obtain ⟨hl, h⟩ := h; have f1 := F.sub_str_dict; wp_walk using wpAny_loadPart' hl; exact ⟨_, rfl, h⟩
theorem str_eq_declines_dict (b : Str) (u : Tok) (l : Addr) (es : Array DictEntry) (n : Nat) (dd : Option Addr) (sl : Array (Option Value)) :
    Meets (Builtin.«str.__eq__» ⟨[(.str b u), .ref l], []⟩) (fun _ R s => s.heap.get? l = some { cls := .type "dict", dict := dd, data := .dict es n, slots := sl } ∧ R (.ok (.ret .notImplemented)) s) :=
  .of_wp fun prog w A R s h => by obtain ⟨hp, g, d, tk, os⟩ := s; obtain ⟨hl, h⟩ := h; wp_walk using wpAny_loadPart' hl, wpAny_load hl; exact ⟨_, rfl, h⟩
theorem dict_eq_declines_list (l b : Addr) (es : Array DictEntry) (n : Nat) (dd : Option Addr) (sl : Array (Option Value)) (items2 : Array Value) (n2 : Nat) (dd2 : Option Addr) (sl2 : Array (Option Value)) :
    Meets (Builtin.«dict.__eq__» ⟨[.ref l, .ref b], []⟩) (fun _ R s => s.heap.get? l = some { cls := .type "dict", dict := dd, data := .dict es n, slots := sl } ∧ s.heap.get? b = some { cls := .type "list", dict := dd2, data := .seq items2 n2, slots := sl2 } ∧ R (.ok (.ret .notImplemented)) s) :=
  .of_wp fun prog w A R s h => by obtain ⟨hp, g, d, tk, os⟩ := s; obtain ⟨hl, hb, h⟩ := h; have f1 := F.sub_list_dict; wp_walk using wpAny_loadPart' hl, wpAny_loadPart' hb; exact ⟨_, rfl, h⟩
theorem list_eq_declines_dict (b l : Addr) (es : Array DictEntry) (n : Nat) (dd : Option Addr) (sl : Array (Option Value)) (items2 : Array Value) (n2 : Nat) (dd2 : Option Addr) (sl2 : Array (Option Value)) :
    Meets (Builtin.«list.__eq__» ⟨[.ref b, .ref l], []⟩) (fun _ R s => s.heap.get? b = some { cls := .type "list", dict := dd2, data := .seq items2 n2, slots := sl2 } ∧ s.heap.get? l = some { cls := .type "dict", dict := dd, data := .dict es n, slots := sl } ∧ R (.ok (.ret .notImplemented)) s) :=
  .of_wp fun prog w A R s h => by obtain ⟨hp, g, d, tk, os⟩ := s; obtain ⟨hb, hl, h⟩ := h; have f1 := F.sub_dict_list; wp_walk using wpAny_loadPart' hb, wpAny_loadPart' hl; exact ⟨_, rfl, h⟩
theorem dict_eq_declines_tuple (l b : Addr) (es : Array DictEntry) (n : Nat) (dd : Option Addr) (sl : Array (Option Value)) (items2 : Array Value) (n2 : Nat) (dd2 : Option Addr) (sl2 : Array (Option Value)) :
    Meets (Builtin.«dict.__eq__» ⟨[.ref l, .ref b], []⟩) (fun _ R s => s.heap.get? l = some { cls := .type "dict", dict := dd, data := .dict es n, slots := sl } ∧ s.heap.get? b = some { cls := .type "tuple", dict := dd2, data := .seq items2 n2, slots := sl2 } ∧ R (.ok (.ret .notImplemented)) s) :=
  .of_wp fun prog w A R s h => by obtain ⟨hp, g, d, tk, os⟩ := s; obtain ⟨hl, hb, h⟩ := h; have f1 := F.sub_tuple_dict; wp_walk using wpAny_loadPart' hl, wpAny_loadPart' hb; exact ⟨_, rfl, h⟩
theorem tuple_eq_declines_dict (b l : Addr) (es : Array DictEntry) (n : Nat) (dd : Option Addr) (sl : Array (Option Value)) (items2 : Array Value) (n2 : Nat) (dd2 : Option Addr) (sl2 : Array (Option Value)) :
    Meets (Builtin.«tuple.__eq__» ⟨[.ref b, .ref l], []⟩) (fun _ R s => s.heap.get? b = some { cls := .type "tuple", dict := dd2, data := .seq items2 n2, slots := sl2 } ∧ s.heap.get? l = some { cls := .type "dict", dict := dd, data := .dict es n, slots := sl } ∧ R (.ok (.ret .notImplemented)) s) :=
  .of_wp fun prog w A R s h => by obtain ⟨hp, g, d, tk, os⟩ := s; obtain ⟨hb, hl, h⟩ := h; have f1 := F.sub_dict_tuple; wp_walk using wpAny_loadPart' hb, wpAny_loadPart' hl; exact ⟨_, rfl, h⟩
section
variable {A : Around} {s : Shared}
theorem RcAt.dict_none {l : Addr} (hl : DictAt s l) (hu : A.units < cLine) : RcAt A s (.ref l) .none false := fun prog w E Q h => by
  obtain ⟨es, n, dd, sl, ho⟩ := hl
  exact rc_eq_decline_or (k := false) ⟨_, ho, rfl⟩ rfl (by decide) F.sub_NoneType_dict F.slot_dict_eq F.slot_NoneType_eq_refl
    (fun _ hq => call_meets F.slot_dict_eq ⟨_, ho, rfl⟩ F.entry_dict_eq (F.args_dict_eq_2 _ _) (dict_eq_declines_none l es n dd sl ) ⟨ho, hq⟩)
    (fun _ hq => call_gives F.slot_NoneType_eq_refl rfl F.entry_NoneType_eq (F.args_NoneType_eq_2 _ _) (NoneType___eq___none_ref_0 l) hq)
    (fun _ hq => wpAny_of_eq (rfl : isSame (.ref l) .none = pure false) hq) (.inr hu) h
theorem EqAt.dict_none {l : Addr} (hl : DictAt s l) (hu : A.units < cLine) : EqAt A s (.ref l) .none false := fun prog w E Q h => by
  unfold eqBool
  refine wpAny_holding ?_
  refine wpAny_ite_split (fun hab => absurd (eq_of_beq hab) nofun) (fun _ => ?_)
  exact wpAny_bind (RcAt.dict_none hl hu prog w E _ (wpAny_truthy_bool h))
theorem RcAt.none_dict {l : Addr} (hl : DictAt s l) (hu : A.units < cLine) : RcAt A s .none (.ref l) false := fun prog w E Q h => by
  obtain ⟨es, n, dd, sl, ho⟩ := hl
  exact rc_eq_decline_or (k := false) rfl ⟨_, ho, rfl⟩ (by decide) F.sub_dict_NoneType F.slot_NoneType_eq F.slot_dict_eq_refl
    (fun _ hq => call_gives F.slot_NoneType_eq rfl F.entry_NoneType_eq (F.args_NoneType_eq_2 _ _) (NoneType___eq___none_ref_0 l) hq)
    (fun _ hq => call_meets F.slot_dict_eq_refl ⟨_, ho, rfl⟩ F.entry_dict_eq (F.args_dict_eq_2 _ _) (dict_eq_declines_none l es n dd sl ) ⟨ho, hq⟩)
    (fun _ hq => wpAny_of_eq (rfl : isSame .none (.ref l) = pure false) hq) (.inr hu) h
theorem EqAt.none_dict {l : Addr} (hl : DictAt s l) (hu : A.units < cLine) : EqAt A s .none (.ref l) false := fun prog w E Q h => by
  unfold eqBool
  refine wpAny_holding ?_
  refine wpAny_ite_split (fun hab => absurd (eq_of_beq hab) nofun) (fun _ => ?_)
  exact wpAny_bind (RcAt.none_dict hl hu prog w E _ (wpAny_truthy_bool h))
theorem RcAt.dict_bool {l : Addr} (b : Bool) (hl : DictAt s l) (hu : A.units < cLine) : RcAt A s (.ref l) (.bool b) false := fun prog w E Q h => by
  obtain ⟨es, n, dd, sl, ho⟩ := hl
  exact rc_eq_decline_or (k := false) ⟨_, ho, rfl⟩ rfl (by decide) F.sub_bool_dict F.slot_dict_eq F.slot_bool_eq_refl
    (fun _ hq => call_meets F.slot_dict_eq ⟨_, ho, rfl⟩ F.entry_dict_eq (F.args_dict_eq_2 _ _) (dict_eq_declines_bool l es n dd sl b ) ⟨ho, hq⟩)
    (fun _ hq => call_meets F.slot_bool_eq_refl rfl F.entry_int_eq (F.args_int_eq_2 _ _) (bool_eq_declines_dict b l es n dd sl) ⟨ho, hq⟩)
    (fun _ hq => wpAny_of_eq (rfl : isSame (.ref l) (.bool b) = pure false) hq) (.inr hu) h
theorem EqAt.dict_bool {l : Addr} (b : Bool) (hl : DictAt s l) (hu : A.units < cLine) : EqAt A s (.ref l) (.bool b) false := fun prog w E Q h => by
  unfold eqBool
  refine wpAny_holding ?_
  refine wpAny_ite_split (fun hab => absurd (eq_of_beq hab) nofun) (fun _ => ?_)
  exact wpAny_bind (RcAt.dict_bool b hl hu prog w E _ (wpAny_truthy_bool h))
theorem RcAt.bool_dict {l : Addr} (b : Bool) (hl : DictAt s l) (hu : A.units < cLine) : RcAt A s (.bool b) (.ref l) false := fun prog w E Q h => by
  obtain ⟨es, n, dd, sl, ho⟩ := hl
  exact rc_eq_decline_or (k := false) rfl ⟨_, ho, rfl⟩ (by decide) F.sub_dict_bool F.slot_bool_eq F.slot_dict_eq_refl
    (fun _ hq => call_meets F.slot_bool_eq rfl F.entry_int_eq (F.args_int_eq_2 _ _) (bool_eq_declines_dict b l es n dd sl) ⟨ho, hq⟩)
    (fun _ hq => call_meets F.slot_dict_eq_refl ⟨_, ho, rfl⟩ F.entry_dict_eq (F.args_dict_eq_2 _ _) (dict_eq_declines_bool l es n dd sl b ) ⟨ho, hq⟩)
    (fun _ hq => wpAny_of_eq (rfl : isSame (.bool b) (.ref l) = pure false) hq) (.inr hu) h
theorem EqAt.bool_dict {l : Addr} (b : Bool) (hl : DictAt s l) (hu : A.units < cLine) : EqAt A s (.bool b) (.ref l) false := fun prog w E Q h => by
  unfold eqBool
  refine wpAny_holding ?_
  refine wpAny_ite_split (fun hab => absurd (eq_of_beq hab) nofun) (fun _ => ?_)
  exact wpAny_bind (RcAt.bool_dict b hl hu prog w E _ (wpAny_truthy_bool h))
theorem RcAt.dict_int {l : Addr} (b : Int) (u : Tok) (hl : DictAt s l) (hu : A.units < cLine) : RcAt A s (.ref l) (.int b u) false := fun prog w E Q h => by
  obtain ⟨es, n, dd, sl, ho⟩ := hl
  exact rc_eq_decline_or (k := false) ⟨_, ho, rfl⟩ (typeIs_int s b u) (by decide) F.sub_int_dict F.slot_dict_eq F.slot_int_eq_refl
    (fun _ hq => call_meets F.slot_dict_eq ⟨_, ho, rfl⟩ F.entry_dict_eq (F.args_dict_eq_2 _ _) (dict_eq_declines_int l es n dd sl b u ) ⟨ho, hq⟩)
    (fun _ hq => call_meets F.slot_int_eq_refl (typeIs_int s b u) F.entry_int_eq (F.args_int_eq_2 _ _) (int_eq_declines_dict b u l es n dd sl) ⟨ho, hq⟩)
    (fun _ hq => wpAny_of_eq (rfl : isSame (.ref l) (.int b u) = pure false) hq) (.inr hu) h
theorem EqAt.dict_int {l : Addr} (b : Int) (u : Tok) (hl : DictAt s l) (hu : A.units < cLine) : EqAt A s (.ref l) (.int b u) false := fun prog w E Q h => by
  unfold eqBool
  refine wpAny_holding ?_
  refine wpAny_ite_split (fun hab => absurd (eq_of_beq hab) nofun) (fun _ => ?_)
  exact wpAny_bind (RcAt.dict_int b u hl hu prog w E _ (wpAny_truthy_bool h))
theorem RcAt.int_dict {l : Addr} (b : Int) (u : Tok) (hl : DictAt s l) (hu : A.units < cLine) : RcAt A s (.int b u) (.ref l) false := fun prog w E Q h => by
  obtain ⟨es, n, dd, sl, ho⟩ := hl
  exact rc_eq_decline_or (k := false) (typeIs_int s b u) ⟨_, ho, rfl⟩ (by decide) F.sub_dict_int F.slot_int_eq F.slot_dict_eq_refl
    (fun _ hq => call_meets F.slot_int_eq (typeIs_int s b u) F.entry_int_eq (F.args_int_eq_2 _ _) (int_eq_declines_dict b u l es n dd sl) ⟨ho, hq⟩)
    (fun _ hq => call_meets F.slot_dict_eq_refl ⟨_, ho, rfl⟩ F.entry_dict_eq (F.args_dict_eq_2 _ _) (dict_eq_declines_int l es n dd sl b u ) ⟨ho, hq⟩)
    (fun _ hq => wpAny_of_eq (rfl : isSame (.int b u) (.ref l) = pure false) hq) (.inr hu) h
theorem EqAt.int_dict {l : Addr} (b : Int) (u : Tok) (hl : DictAt s l) (hu : A.units < cLine) : EqAt A s (.int b u) (.ref l) false := fun prog w E Q h => by
  unfold eqBool
  refine wpAny_holding ?_
  refine wpAny_ite_split (fun hab => absurd (eq_of_beq hab) nofun) (fun _ => ?_)
  exact wpAny_bind (RcAt.int_dict b u hl hu prog w E _ (wpAny_truthy_bool h))
theorem RcAt.dict_str {l : Addr} (b : Str) (u : Tok) (hl : DictAt s l) (hu : A.units < cLine) : RcAt A s (.ref l) (.str b u) false := fun prog w E Q h => by
  obtain ⟨es, n, dd, sl, ho⟩ := hl
  exact rc_eq_decline_or (k := false) ⟨_, ho, rfl⟩ (typeIs_str s b u) (by decide) F.sub_str_dict F.slot_dict_eq F.slot_str_eq_refl
    (fun _ hq => call_meets F.slot_dict_eq ⟨_, ho, rfl⟩ F.entry_dict_eq (F.args_dict_eq_2 _ _) (dict_eq_declines_str l es n dd sl b u ) ⟨ho, hq⟩)
    (fun _ hq => call_meets F.slot_str_eq_refl (typeIs_str s b u) F.entry_str_eq (F.args_str_eq_2 _ _) (str_eq_declines_dict b u l es n dd sl) ⟨ho, hq⟩)
    (fun _ hq => wpAny_of_eq (rfl : isSame (.ref l) (.str b u) = pure false) hq) (.inr hu) h
theorem EqAt.dict_str {l : Addr} (b : Str) (u : Tok) (hl : DictAt s l) (hu : A.units < cLine) : EqAt A s (.ref l) (.str b u) false := fun prog w E Q h => by
  unfold eqBool
  refine wpAny_holding ?_
  refine wpAny_ite_split (fun hab => absurd (eq_of_beq hab) nofun) (fun _ => ?_)
  exact wpAny_bind (RcAt.dict_str b u hl hu prog w E _ (wpAny_truthy_bool h))
theorem RcAt.str_dict {l : Addr} (b : Str) (u : Tok) (hl : DictAt s l) (hu : A.units < cLine) : RcAt A s (.str b u) (.ref l) false := fun prog w E Q h => by
  obtain ⟨es, n, dd, sl, ho⟩ := hl
  exact rc_eq_decline_or (k := false) (typeIs_str s b u) ⟨_, ho, rfl⟩ (by decide) F.sub_dict_str F.slot_str_eq F.slot_dict_eq_refl
    (fun _ hq => call_meets F.slot_str_eq (typeIs_str s b u) F.entry_str_eq (F.args_str_eq_2 _ _) (str_eq_declines_dict b u l es n dd sl) ⟨ho, hq⟩)
    (fun _ hq => call_meets F.slot_dict_eq_refl ⟨_, ho, rfl⟩ F.entry_dict_eq (F.args_dict_eq_2 _ _) (dict_eq_declines_str l es n dd sl b u ) ⟨ho, hq⟩)
    (fun _ hq => wpAny_of_eq (rfl : isSame (.str b u) (.ref l) = pure false) hq) (.inr hu) h
theorem EqAt.str_dict {l : Addr} (b : Str) (u : Tok) (hl : DictAt s l) (hu : A.units < cLine) : EqAt A s (.str b u) (.ref l) false := fun prog w E Q h => by
  unfold eqBool
  refine wpAny_holding ?_
  refine wpAny_ite_split (fun hab => absurd (eq_of_beq hab) nofun) (fun _ => ?_)
  exact wpAny_bind (RcAt.str_dict b u hl hu prog w E _ (wpAny_truthy_bool h))
theorem ne_of_list_dict {l b : Addr} {items : Array Value} (hb : s.heap.IsList b items) (hl : DictAt s l) : l ≠ b := fun e => by
  subst e
  obtain ⟨o, ho, hc, _⟩ := hb
  obtain ⟨es, n, dd, sl, ho2⟩ := hl
  rw [ho] at ho2
  cases ho2
  exact absurd hc (by simp)
theorem RcAt.dict_list {l b : Addr} {items : Array Value} (hl : DictAt s l) (hb : s.heap.IsList b items) (hu : A.units < cLine) : RcAt A s (.ref l) (.ref b) false := fun prog w E Q h => by
  have hne := ne_of_list_dict hb hl
  obtain ⟨es, n, dd, sl, ho⟩ := hl
  obtain ⟨⟨cls2, dd2, data2, sl2⟩, ho2, hc2, n2, hd2⟩ := id hb
  simp only at hc2 hd2
  subst hc2 hd2
  exact (rc_eq_decline_or (k := false) ⟨_, ho, rfl⟩ ⟨_, ho2, rfl⟩ (by decide) F.sub_list_dict F.slot_dict_eq F.slot_list_eq_refl
    (fun _ hq => call_meets F.slot_dict_eq ⟨_, ho, rfl⟩ F.entry_dict_eq (F.args_dict_eq_2 _ _) (dict_eq_declines_list l b es n dd sl items n2 dd2 sl2) ⟨ho, ho2, hq⟩)
    (fun _ hq => call_meets F.slot_list_eq_refl ⟨_, ho2, rfl⟩ F.entry_list_eq (F.args_list_eq_2 _ _) (list_eq_declines_dict b l es n dd sl items n2 dd2 sl2) ⟨ho2, ho, hq⟩)
    (fun _ hq => wpAny_isSame_ref_other hne ho ho2 (by simp) hq) (.inr hu) h)
theorem RcAt.list_dict {l b : Addr} {items : Array Value} (hb : s.heap.IsList b items) (hl : DictAt s l) (hu : A.units < cLine) : RcAt A s (.ref b) (.ref l) false := fun prog w E Q h => by
  have hne := ne_of_list_dict hb hl
  obtain ⟨es, n, dd, sl, ho⟩ := hl
  obtain ⟨⟨cls2, dd2, data2, sl2⟩, ho2, hc2, n2, hd2⟩ := id hb
  simp only at hc2 hd2
  subst hc2 hd2
  exact (rc_eq_decline_or (k := false) ⟨_, ho2, rfl⟩ ⟨_, ho, rfl⟩ (by decide) F.sub_dict_list F.slot_list_eq F.slot_dict_eq_refl
    (fun _ hq => call_meets F.slot_list_eq ⟨_, ho2, rfl⟩ F.entry_list_eq (F.args_list_eq_2 _ _) (list_eq_declines_dict b l es n dd sl items n2 dd2 sl2) ⟨ho2, ho, hq⟩)
    (fun _ hq => call_meets F.slot_dict_eq_refl ⟨_, ho, rfl⟩ F.entry_dict_eq (F.args_dict_eq_2 _ _) (dict_eq_declines_list l b es n dd sl items n2 dd2 sl2) ⟨ho, ho2, hq⟩)
    (fun _ hq => wpAny_isSame_ref_other' hne.symm ho2 ho (by simp) hq) (.inr hu) h)
theorem EqAt.dict_list {l b : Addr} {items : Array Value} (hl : DictAt s l) (hb : s.heap.IsList b items) (hu : A.units < cLine) : EqAt A s (.ref l) (.ref b) false := .of_refs (ne_of_list_dict hb hl) (.dict_list hl hb hu)
theorem EqAt.list_dict {l b : Addr} {items : Array Value} (hb : s.heap.IsList b items) (hl : DictAt s l) (hu : A.units < cLine) : EqAt A s (.ref b) (.ref l) false := .of_refs (ne_of_list_dict hb hl).symm (.list_dict hb hl hu)
theorem ne_of_tuple_dict {l b : Addr} {items : Array Value} (hb : s.heap.IsTuple b items) (hl : DictAt s l) : l ≠ b := fun e => by
  subst e
  obtain ⟨o, ho, hc, _⟩ := hb
  obtain ⟨es, n, dd, sl, ho2⟩ := hl
  rw [ho] at ho2
  cases ho2
  exact absurd hc (by simp)
theorem RcAt.dict_tuple {l b : Addr} {items : Array Value} (hl : DictAt s l) (hb : s.heap.IsTuple b items) (hu : A.units < cLine) : RcAt A s (.ref l) (.ref b) false := fun prog w E Q h => by
  have hne := ne_of_tuple_dict hb hl
  obtain ⟨es, n, dd, sl, ho⟩ := hl
  obtain ⟨⟨cls2, dd2, data2, sl2⟩, ho2, hc2, n2, hd2⟩ := id hb
  simp only at hc2 hd2
  subst hc2 hd2
  exact (rc_eq_decline_or (k := false) ⟨_, ho, rfl⟩ ⟨_, ho2, rfl⟩ (by decide) F.sub_tuple_dict F.slot_dict_eq F.slot_tuple_eq_refl
    (fun _ hq => call_meets F.slot_dict_eq ⟨_, ho, rfl⟩ F.entry_dict_eq (F.args_dict_eq_2 _ _) (dict_eq_declines_tuple l b es n dd sl items n2 dd2 sl2) ⟨ho, ho2, hq⟩)
    (fun _ hq => call_meets F.slot_tuple_eq_refl ⟨_, ho2, rfl⟩ F.entry_tuple_eq (F.args_tuple_eq_2 _ _) (tuple_eq_declines_dict b l es n dd sl items n2 dd2 sl2) ⟨ho2, ho, hq⟩)
    (fun _ hq => wpAny_isSame_ref_other hne ho ho2 (by simp) hq) (.inr hu) h)
theorem RcAt.tuple_dict {l b : Addr} {items : Array Value} (hb : s.heap.IsTuple b items) (hl : DictAt s l) (hu : A.units < cLine) : RcAt A s (.ref b) (.ref l) false := fun prog w E Q h => by
  have hne := ne_of_tuple_dict hb hl
  obtain ⟨es, n, dd, sl, ho⟩ := hl
  obtain ⟨⟨cls2, dd2, data2, sl2⟩, ho2, hc2, n2, hd2⟩ := id hb
  simp only at hc2 hd2
  subst hc2 hd2
  exact (rc_eq_decline_or (k := false) ⟨_, ho2, rfl⟩ ⟨_, ho, rfl⟩ (by decide) F.sub_dict_tuple F.slot_tuple_eq F.slot_dict_eq_refl
    (fun _ hq => call_meets F.slot_tuple_eq ⟨_, ho2, rfl⟩ F.entry_tuple_eq (F.args_tuple_eq_2 _ _) (tuple_eq_declines_dict b l es n dd sl items n2 dd2 sl2) ⟨ho2, ho, hq⟩)
    (fun _ hq => call_meets F.slot_dict_eq_refl ⟨_, ho, rfl⟩ F.entry_dict_eq (F.args_dict_eq_2 _ _) (dict_eq_declines_tuple l b es n dd sl items n2 dd2 sl2) ⟨ho, ho2, hq⟩)
    (fun _ hq => wpAny_isSame_ref_other' hne.symm ho2 ho (by simp) hq) (.inr hu) h)
theorem EqAt.dict_tuple {l b : Addr} {items : Array Value} (hl : DictAt s l) (hb : s.heap.IsTuple b items) (hu : A.units < cLine) : EqAt A s (.ref l) (.ref b) false := .of_refs (ne_of_tuple_dict hb hl) (.dict_tuple hl hb hu)
theorem EqAt.tuple_dict {l b : Addr} {items : Array Value} (hb : s.heap.IsTuple b items) (hl : DictAt s l) (hu : A.units < cLine) : EqAt A s (.ref b) (.ref l) false := .of_refs (ne_of_tuple_dict hb hl).symm (.tuple_dict hb hl hu)
theorem DictAt.of {l : Addr} {o : Obj} {es : Array DictEntry} {n : Nat} (h : s.heap.get? l = some o) (hc : o.cls = .type "dict") (hd : o.data = .dict es n) : DictAt s l := by
  obtain ⟨cls, dd, data, sl⟩ := o
  simp only at hc hd
  subst hc hd
  exact ⟨_, _, _, _, h⟩
/-- a dict and plain data: never equal -/
theorem eqAt_dict {kvs : List (PyData × PyData)} {db : PyData} {a b : Value} {as bs : List Addr} (ra : Reads s.heap a (.dict kvs) as) (rb : Reads s.heap b db bs) (hb : db.plain = true) (hu : A.units < cLine) : EqAt A s a b false := by
  cases ra with
  | dict h1 h2 h3 h4 h5 =>
    have hl := DictAt.of h1 h2 h3
    cases rb with
    | none => exact EqAt.dict_none hl hu
    | bool y => exact EqAt.dict_bool y hl hu
    | int y u => exact EqAt.dict_int y u hl hu
    | str y u => exact EqAt.dict_str y u hl hu
    | list k1 k2 k3 k4 => exact EqAt.dict_list hl ⟨_, k1, k2, _, k3⟩ hu
    | tuple k1 k2 k3 k4 => exact EqAt.dict_tuple hl ⟨_, k1, k2, _, k3⟩ hu
    | dict => exact nomatch hb
theorem eqAt_of_dict {kvs : List (PyData × PyData)} {db : PyData} {a b : Value} {as bs : List Addr} (ra : Reads s.heap a (.dict kvs) as) (rb : Reads s.heap b db bs) (hb : db.plain = true) (hu : A.units < cLine) : EqAt A s b a false := by
  cases ra with
  | dict h1 h2 h3 h4 h5 =>
    have hl := DictAt.of h1 h2 h3
    cases rb with
    | none => exact EqAt.none_dict hl hu
    | bool y => exact EqAt.bool_dict y hl hu
    | int y u => exact EqAt.int_dict y u hl hu
    | str y u => exact EqAt.str_dict y u hl hu
    | list k1 k2 k3 k4 => exact EqAt.list_dict ⟨_, k1, k2, _, k3⟩ hl hu
    | tuple k1 k2 k3 k4 => exact EqAt.tuple_dict ⟨_, k1, k2, _, k3⟩ hl hu
    | dict => exact nomatch hb
end
end PySem.SeqAt
namespace Ad
open PySem PySem.Spec PyProof.Rows L2

theorem oget_run {α : Type} {o : Option α} {Q : α → Nat → Prop} {b : Nat} {R : XV → Nat → Prop} (h : (oget o).run Q R b) : ∃ a, o = some a ∧ Q a b := by
  cases o with
  | none => exact h.elim
  | some a => exact ⟨a, rfl, h⟩
theorem items_run {d : D} {Q : List D → Nat → Prop} {b : Nat} {R : XV → Nat → Prop} (h : (itemsOf d).run Q R b) : ∃ xs, (d = .list xs ∨ d = .tuple xs) ∧ Q xs b := by
  cases d <;> first | exact h.elim | exact ⟨_, .inl rfl, h⟩ | exact ⟨_, .inr rfl, h⟩
theorem asBool_run {d : D} {Q : Bool → Nat → Prop} {n : Nat} {R : XV → Nat → Prop} (h : (asBool d).run Q R n) : ∃ b, d = .bool b ∧ Q b n := by
  cases d <;> first | exact h.elim | exact ⟨_, rfl, h⟩
theorem asInt_run {d : D} {Q : Int → Nat → Prop} {n : Nat} {R : XV → Nat → Prop} (h : (asInt d).run Q R n) : ∃ b, d = .int b ∧ Q b n := by
  cases d <;> first | exact h.elim | exact ⟨_, rfl, h⟩

section
variable {K : PySem.W.Frag} {W : Wd} {N : Addr → Prop} {H : Hp} {Q : VK} {R : XV → Nat → Prop} {v1 v2 : V} {d1 d2 : D} {b : Nat}
/-- what is wanted of a value -/
abbrev VQ (K : PySem.W.Frag) (W : Wd) (N : Addr → Prop) (H : Hp) (Q : VK) : D → Nat → Prop := fun d b => ∀ v H', Ext W.vol H H' → W.inv b H' → Rep K W N H' v d → Q v H'
theorem VC.vint (c : VC W N H b) {i : Int} (h : VQ K W N H Q (.int i) b) : Q (.int i) H := h _ H (Ext.refl H) c.inv (.int i)
theorem VC.vbl (c : VC W N H b) {i : Bool} (h : VQ K W N H Q (.bool i) b) : Q (.bl i) H := h _ H (Ext.refl H) c.inv (.bl i)
theorem VC.vstr (c : VC W N H b) {i : Str} (h : VQ K W N H Q (.str i) b) : Q (.str i) H := h _ H (Ext.refl H) c.inv (.str i)
theorem VC.vrep (c : VC W N H b) {v : V} {d : D} (r : Rep K W N H v d) (h : VQ K W N H Q d b) : Q v H := h _ H (Ext.refl H) c.inv r
/-- a new list, a new tuple -/
theorem VC.vlst (c : VC W N H b) {vs : List V} {ds : List D} (r : RepL K W N H vs ds) (z : ds.length ≤ sizeLine) (h : VQ K W N H Q (.list ds) b) : ∀ p, H p = none → Q (.ref p) (upd H p (.lst vs)) := fun p hp => by
  obtain ⟨a, b, n⟩ := c.new (o := .lst vs) hp
  exact h _ _ a b (.lst upd_same n z (r.ext (a.wide c.bv)))
theorem VC.vtup (c : VC W N H b) {vs : List V} {ds : List D} (r : RepL K W N H vs ds) (z : ds.length ≤ sizeLine) (h : VQ K W N H Q (.tuple ds) b) : NewT H Q vs := fun p o hp ho => by
  obtain ⟨a, b, n⟩ := c.new (o := .frz o (.tup vs)) hp
  exact h _ _ a b (.tup ⟨o, upd_same, ho⟩ n z (r.ext (a.wide c.bv)))

/-! ### + and * -/
def rAddK (K : PySem.W.Frag) : R2 := fun x y H Q => rI0 (fun i j => .int (i + j)) x y H Q ∨ (fun x y H Q => ∃ i j, x = .str i ∧ y = .str j ∧ i.length + j.length ≤ sizeLine ∧ Q (.str (i ++ j)) H) x y H Q ∨ rCatS K x y H Q ∨ rCat x y H Q
theorem or_add {X : Cx} : OpR X (binaryOp .Add) (rAddK X.K) := op_add.or (op_add_str.or (op_catS.or op_cat))
theorem val_add (c : VC W N H b) (r1 : RepB K W N H v1 d1) (r2 : RepB K W N H v2 d2) (h : (addD d1 d2).run (VQ K W N H Q) R b) : rAddK K v1 v2 H Q := by
  unfold addD at h
  split at h
  · have e1 := r1.int; have e2 := r2.int
    exact .inl ⟨_, _, e1, e2, c.vint h⟩
  · have e1 := r1.str; have e2 := r2.str
    exact .inr (.inl ⟨_, _, e1, e2, h.1, c.vstr h.2⟩)
  · obtain ⟨a, vs, rfl, h1, n1, z1, l1⟩ := r1.tup
    obtain ⟨b, ws, rfl, h2, n2, z2, l2⟩ := r2.tup
    refine .inr (.inr (.inl ⟨a, b, vs, ws, rfl, rfl, h1, h2, by rw [l1.length, l2.length]; exact h.1, fun e => ?_, fun e e2 => ?_, fun _ _ => ?_⟩))
    · subst e
      cases l1
      exact c.vrep (.tupS n2 z2 l2) h.2
    · subst e2
      cases l2
      have h' := h.2
      rw [List.append_nil] at h'
      exact c.vrep (.tupS n1 z1 l1) h'
    · exact c.vtup (l1.append l2) (by rw [List.length_append]; exact h.1) h.2
  · obtain ⟨a, vs, rfl, h1, z1, l1⟩ := r1.list
    obtain ⟨b, ws, rfl, h2, z2, l2⟩ := r2.list
    exact .inr (.inr (.inr ⟨a, b, vs, ws, rfl, rfl, h1, h2, by rw [l1.length, l2.length]; exact h.1, c.vlst (l1.append l2) (by rw [List.length_append]; exact h.1) h.2⟩))
  · exact h.elim
def rMulK : R2 := fun x y H Q => rI CMul (fun i j => .int (i * j)) x y H Q ∨ rRep x y H Q
theorem or_mul {X : Cx} : OpR X (binaryOp .Mult) rMulK := op_mul.or op_rep
theorem val_mul (c : VC W N H b) (r1 : RepB K W N H v1 d1) (r2 : RepB K W N H v2 d2) (h : (mulD d1 d2).run (VQ K W N H Q) R b) : rMulK v1 v2 H Q := by
  unfold mulD at h
  split at h
  · exact .inl ⟨_, _, r1.int, r2.int, h.1, c.vint h.2⟩
  · obtain ⟨a, vs, rfl, h1, z1, l1⟩ := r1.list
    obtain ⟨⟨b1, b2, b3⟩, h⟩ := h
    refine .inr ⟨a, _, vs, rfl, r2.int, h1, b1, b2, by rw [l1.length]; exact b3, c.vlst (l1.flat _) ?_ h⟩
    rw [List.length_flatten, List.map_replicate, List.sum_replicate_nat]
    rw [Nat.mul_comm]
    exact b3
  · exact h.elim
/-! ### other operators on whole numbers -/
theorem val_int {cc : Int → Int → Prop} {g : Int → Int → Int} (c : VC W N H b) (r1 : RepB K W N H v1 d1) (r2 : RepB K W N H v2 d2) (h : (intOp cc g d1 d2).run (VQ K W N H Q) R b) : rI cc (fun i j => .int (g i j)) v1 v2 H Q := by
  unfold intOp at h
  split at h
  · exact ⟨_, _, r1.int, r2.int, h.1, c.vint h.2⟩
  · exact h.elim
theorem or_sub {X : Cx} : OpR X (binaryOp .Sub) (rI (fun _ _ => True) fun i j => .int (i - j)) := opI (g := fun i j => i - j) fun _ _ _ _ _ _ _ _ q => sub_int q
/-- the reading of a binary operator -/
def rBin (K : PySem.W.Frag) : Operator → R2
  | .Add => rAddK K
  | .Sub => rI (fun _ _ => True) fun i j => .int (i - j)
  | .Mult => rMulK
  | .Mod => rI (fun _ j => 0 < j) fun i j => .int (i % j)
  | .FloorDiv => rI CDiv fun i j => .int (i / j)
  | .Pow => rI CPow fun i j => .int (i ^ j.toNat)
  | .LShift => rI CPow fun i j => .int (i * 2 ^ j.toNat)
  | _ => fun _ _ _ _ => False
theorem or_bin {X : Cx} (op : Operator) : OpR X (binaryOp op) (rBin X.K op) := by
  cases op <;> first
    | exact or_add
    | exact or_sub
    | exact or_mul
    | exact op_mod
    | exact op_fdiv
    | exact op_pow
    | exact op_shl
    | (intro pins s σ H x y v u Q I rx ry h; exact h.elim)
theorem val_bin (op : Operator) (c : VC W N H b) (r1 : RepB K W N H v1 d1) (r2 : RepB K W N H v2 d2) (h : (binD op d1 d2).run (VQ K W N H Q) R b) : rBin K op v1 v2 H Q := by
  cases op <;> first
    | exact val_add c r1 r2 h
    | exact val_mul c r1 r2 h
    | exact val_int c r1 r2 h
    | exact h.elim

/-! ### comparisons -/
mutual
theorem Rep.dp : ∀ (d : D) (v : V), d.canLay0 = true → Rep K W N H v d → Dp K H v d
  | .none, _, _, h => by cases h; exact .non
  | .bool b, _, _, h => by cases h; exact .bl b
  | .int i, _, _, h => by cases h; exact .int i
  | .str x, _, _, h => by cases h; exact .str x
  | .list ds, _, p, h => by
    cases h with
    | lst h1 h2 h3 h4 => exact .lst (SqL.of h1) (RepL.dp ds _ (by simpa [PyData.canLay0] using p) h4)
  | .tuple ds, _, p, h => by
    cases h with
    | tup h1 h2 h3 h4 => exact .tup (.inl h1.rd) (RepL.dp ds _ (by simpa [PyData.canLay0] using p) h4)
    | stp h1 h3 h4 => exact .tup h1.sq (RepL.dp ds _ (by simpa [PyData.canLay0] using p) h4)
  | .dict _, _, p, h => by simp [PyData.canLay0] at p
theorem RepL.dp : ∀ (ds : List D) (vs : List V), PyData.canLayAll0 ds = true → RepL K W N H vs ds → DpAll K H vs ds
  | [], _, _, h => by cases h; exact .nil
  | d :: ds, _, p, h => by
    simp only [PyData.canLayAll0, Bool.and_eq_true] at p
    cases h with
    | cons h1 h2 => exact .cons (Rep.dp d _ p.1 h1) (RepL.dp ds _ p.2 h2)
end
theorem RepB.dp {v : V} {d : D} (p : d.canLay0 = true) (h : RepB K W N H v d) : Dp K H v d := by
  rcases h with h | ⟨a, vs, ds, rfl, rfl, h3, h4, h5, _⟩ | ⟨a, o, rfl, h2, _⟩
  · exact Rep.dp d v p h
  · exact .lst (SqL.of h3) (RepL.dp ds _ (by simpa [PyData.canLay0] using p) h5)
  · obtain ⟨x, kvs, rfl⟩ := h2.dict
    simp [PyData.canLay0] at p
end
mutual
theorem okD_plain : ∀ d : D, d.plain = true → okD d = true
  | .none, _ => rfl
  | .bool _, _ => rfl
  | .int _, _ => rfl
  | .str _, _ => rfl
  | .list xs, h => by
    simp only [okD]
    exact okAll_plain xs (by simpa [PyData.plain] using h)
  | .tuple xs, h => by
    simp only [okD]
    exact okAll_plain xs (by simpa [PyData.plain] using h)
  | .dict _, h => by simp [PyData.plain] at h
theorem okAll_plain : ∀ xs : List D, PyData.plainAll xs = true → okAll xs = true
  | [], _ => rfl
  | x :: xs, h => by
    simp only [PyData.plainAll, Bool.and_eq_true] at h
    simp only [okAll, okD_plain x h.1, okAll_plain xs h.2, Bool.and_self]
end
theorem RepB.reads {X : Cx} {pins : List (Addr × Obj)} {σ : L2.St} {H : Hp} {s : Shared} {W : Wd} {N : Addr → Prop} {d : D} {v : V} {u : Value} (I : Inv X pins σ H s) (p : okD d = true) (h : RepB X.K W N H v d) (r : RelV v u) :
    ∃ as, Reads s.heap u d as ∧ ((∃ o, X.base.get? sysModules = some o) → sysModules ∉ as) := by
  rcases h with h | ⟨a, vs, ds, rfl, rfl, h3, h4, h5, h6⟩ | ⟨a, o, rfl, h2, _⟩
  rotate_left 2
  · obtain ⟨x, kvs, rfl⟩ := h2.dict
    simp [okD] at p
  · exact Rep.reads I d v u p h r
  · -- a lent list is read as one of its own
    have h' : Rep X.K W N H (.ref a) (.list ds) ∨ N a := by
      by_cases n : N a
      · exact .inr n
      · exact .inl (.lst h3 n h4 h5)
    cases r
    obtain ⟨its, rv, ⟨o, n, ho, hc, _, hd⟩, _⟩ := I.list (SqL.of h3)
    obtain ⟨as, hr, hm⟩ := RepL.reads I ds _ its (by simpa [okD] using p) h5 rv
    refine ⟨_, Reads.list ho hc hd hr, fun hs hm' => ?_⟩
    rcases List.mem_cons.mp hm' with e | e
    · obtain ⟨ob, hb⟩ := hs
      have q := (I.bs _ ob hb).2
      rw [e, h3] at q
      cases q
    · exact hm hs e

/-! ### comparisons, by data -/
def rDat (K : PySem.W.Frag) (C : D → D → Prop) (g : D → D → Bool) : R2 := fun x y H Q => ∃ W N d e, RepB K W N H x d ∧ RepB K W N H y e ∧ C d e ∧ Q (.bl (g d e)) H
theorem or_dat {X : Cx} {f : Value → Value → Sem Value} {C : D → D → Prop} {g : D → D → Bool} (hC : ∀ d e, C d e → okD d = true ∧ okD e = true)
    (rule : ∀ (d e : D) (a b : Value) (as bs : List Addr) (s : Shared) (Q : Value → Shared → Prop), C d e → Reads s.heap a d as → Reads s.heap b e bs → Q (.bool (g d e)) s → wpAny (model X.prog X.w) X.A (f a b) Q X.xe s) : OpR X f (rDat X.K C g) := by
  intro pins s σ H x y v u Q I rx ry h
  obtain ⟨W, N, d, e, r1, r2, hc, q⟩ := h
  obtain ⟨k1, k2⟩ := hC d e hc
  obtain ⟨as, ra, _⟩ := r1.reads I k1 rx
  obtain ⟨bs, rb, _⟩ := r2.reads I k2 ry
  exact rule d e v u as bs s _ hc ra rb ⟨.bl _, H, I, rfl, q⟩
abbrev cEq : D → D → Prop := fun d e => eqG d e
theorem lenNe_of {d e : D} (h : lenNe d e = true) : (∃ xs ys, d = .list xs ∧ e = .list ys ∧ xs.length ≠ ys.length) ∨ ∃ x xs, d = .tuple (x :: xs) ∧ e = .tuple [] := by
  cases d with
  | list xs =>
    cases e with
    | list ys => exact .inl ⟨_, _, rfl, rfl, of_decide_eq_true h⟩
    | _ => cases h
  | tuple xs =>
    cases e with
    | tuple ys =>
      cases xs with
      | nil => cases h
      | cons x xs =>
        cases ys with
        | nil => exact .inr ⟨_, _, rfl, rfl⟩
        | cons => cases h
    | _ => cases xs <;> cases h
  | _ => cases h
theorem eqG_ok {d e : D} (h : eqG d e) : okD d = true ∧ okD e = true := by
  rcases h with h | h
  · exact ⟨okD_plain d h.1.1, okD_plain e h.2.1⟩
  · exact ⟨h.1, h.2.1⟩
theorem room_min {A : Around} (hu : A.units + 66 < cLine) {d e : D} (h : d.depth ≤ 64) : A.units + min d.depth e.depth < cLine := by
  have := Nat.min_le_left d.depth e.depth
  omega
theorem or_eq {X : Cx} (hu : X.A.units + 66 < cLine) : OpR X (compareOp .Eq) (rDat X.K cEq PyData.eqv) :=
  or_dat (fun d e h => eqG_ok h) fun d e a b as bs s Q hc ra rb h => by
    rcases hc with hc | ⟨_, _, hc⟩
    · exact SeqAt.eq_plain ra rb hc.1.1 hc.2.1 (room_min hu hc.1.2) h
    · rcases lenNe_of hc with ⟨xs, ys, rfl, rfl, hl⟩ | ⟨z, zs, rfl, rfl⟩
      · cases ra with
        | list h1 h2 h3 h4 =>
          cases rb with
          | list k1 k2 k3 k4 =>
            have n1 := SeqAt.ReadsAll.length _ _ _ h4
            have n2 := SeqAt.ReadsAll.length _ _ _ k4
            have e : PyData.eqv (.list xs) (.list ys) = false := SeqAt.eqvAll_other_length hl
            rw [e] at h
            exact SeqAt.RcAt.lists_lengths ⟨_, h1, h2, _, h3⟩ ⟨_, k1, k2, _, k3⟩ (by
              rw [bne_iff_ne]
              simp only [Array.length_toList] at n1 n2
              omega) (by omega) _ _ _ Q h
      · cases ra with
        | tuple h1 h2 h3 h4 =>
          cases rb with
          | tuple k1 k2 k3 k4 =>
            have n1 := SeqAt.ReadsAll.length _ _ _ h4
            have n2 := SeqAt.ReadsAll.length _ _ _ k4
            simp only [Array.length_toList, List.length_cons, List.length_nil] at n1 n2
            have e : PyData.eqv (.tuple (z :: zs)) (.tuple []) = false := SeqAt.eqvAll_other_length (by simp)
            rw [e] at h
            have r := SeqAt.RcAt.tuples (A := X.A) (e := fun _ => true) ⟨_, h1, h2, _, h3⟩ ⟨_, k1, k2, _, k3⟩ (by omega) (fun j _ h2 => by omega)
            refine r _ _ _ Q ?_
            rw [n1, n2]
            simpa using h
theorem or_ne {X : Cx} (hu : X.A.units + 66 < cLine) : OpR X (compareOp .NotEq) (rDat X.K cEq fun d e => !PyData.eqv d e) :=
  or_dat (fun d e h => eqG_ok h) fun d e a b as bs s Q hc ra rb h => by
    rcases hc with hc | ⟨_, _, hc⟩
    · exact SeqAt.ne_plain ra rb hc.1.1 hc.2.1 (room_min hu hc.1.2) h
    · rcases lenNe_of hc with ⟨xs, ys, rfl, rfl, hl⟩ | ⟨z, zs, rfl, rfl⟩
      · cases ra with
        | list h1 h2 h3 h4 =>
          cases rb with
          | list k1 k2 k3 k4 =>
            have n1 := SeqAt.ReadsAll.length _ _ _ h4
            have n2 := SeqAt.ReadsAll.length _ _ _ k4
            have e : PyData.eqv (.list xs) (.list ys) = false := SeqAt.eqvAll_other_length hl
            rw [e] at h
            exact SeqAt.RcNeAt.lists_lengths ⟨_, h1, h2, _, h3⟩ ⟨_, k1, k2, _, k3⟩ (by
              rw [bne_iff_ne]
              simp only [Array.length_toList] at n1 n2
              omega) (by omega) _ _ _ Q h
      · cases ra with
        | tuple h1 h2 h3 h4 =>
          cases rb with
          | tuple k1 k2 k3 k4 =>
            have n1 := SeqAt.ReadsAll.length _ _ _ h4
            have n2 := SeqAt.ReadsAll.length _ _ _ k4
            simp only [Array.length_toList, List.length_cons, List.length_nil] at n1 n2
            have e : PyData.eqv (.tuple (z :: zs)) (.tuple []) = false := SeqAt.eqvAll_other_length (by simp)
            rw [e] at h
            have r := SeqAt.RcNeAt.tuples (A := X.A) (e := fun _ => true) ⟨_, h1, h2, _, h3⟩ ⟨_, k1, k2, _, k3⟩ (by omega) (fun j _ h2 => by omega)
            refine r _ _ _ Q ?_
            rw [n1, n2]
            simpa using h
abbrev cLt : D → D → Prop := fun d e => W.alike d e = true ∧ d ≠ .none ∧ d.depth ≤ 40 ∧ d.plain = true ∧ e.plain = true
theorem or_lt {X : Cx} (hu : X.A.units + 66 < cLine) : OpR X (compareOp .Lt) (rDat X.K cLt W.dataLt) :=
  or_dat (fun d e h => ⟨okD_plain d h.2.2.2.1, okD_plain e h.2.2.2.2⟩) fun d e a b as bs s Q hc ra rb h => W.lt_data ra rb hc.1 hc.2.1 (room_min hu (Nat.le_trans hc.2.2.1 (by decide))) h
def isIn (d : D) : D → Bool
  | .list xs => xs.any fun z => PyData.eqv z d
  | .tuple xs => xs.any fun z => PyData.eqv z d
  | _ => false
abbrev cIn : D → D → Prop := fun d e => (eqOk d ∧ eqOk e ∧ ((∃ xs, e = .list xs) ∨ ∃ xs, e = .tuple xs)) ∨ ∃ xs, e = .list xs ∧ okD d = true ∧ okAll xs = true ∧ ∀ z, z ∈ xs → eqI z d
theorem room_in {A : Around} (hu : A.units + 66 < cLine) {d : D} {xs : List D} (h : d.depth ≤ 64) : A.units + 1 + min (PyData.depthAll xs) d.depth < cLine := by
  have := Nat.min_le_right (PyData.depthAll xs) d.depth
  omega
theorem eqv_dict_plain {d : D} (h : d.plain = true) : PyData.eqv (.dict []) d = false := by
  cases d <;> first | rfl | cases h
theorem eqv_plain_dict {d : D} (h : d.plain = true) : PyData.eqv d (.dict []) = false := by
  cases d <;> first | rfl | cases h
theorem eqAt_I {z a : D} {A : Around} {s : Shared} {y x : Value} {as bs : List Addr} (h : eqI z a) (ry : Reads s.heap y z as) (rx : Reads s.heap x a bs) (hu : A.units + 65 < cLine) : SeqAt.EqAt A s y x (PyData.eqv z a) := by
  rcases h with ⟨h1, h2⟩ | ⟨rfl, h2⟩ | ⟨h1, rfl⟩
  · refine SeqAt.eqAt_plain z a A s y x _ _ ry rx h1.1 h2.1 ?_
    have := Nat.min_le_left z.depth a.depth
    have := h1.2
    omega
  · rw [eqv_dict_plain h2.1]
    exact SeqAt.eqAt_dict ry rx h2.1 (by omega)
  · rw [eqv_plain_dict h1.1]
    exact SeqAt.eqAt_of_dict rx ry h1.1 (by omega)
theorem reads_each {h : Heap} : ∀ {vs : List Value} {xs : List D} {as : List Addr}, ReadsAll h vs xs as → (∀ y, y ∈ vs → ∃ z bs, z ∈ xs ∧ Reads h y z bs) ∧ ∀ z, z ∈ xs → ∃ y bs, y ∈ vs ∧ Reads h y z bs
  | [], _, _, r => by
    cases r
    exact ⟨fun _ hy => (nomatch hy), fun _ hz => (nomatch hz)⟩
  | v :: vs, _, _, r => by
    cases r with
    | cons r1 r2 =>
      obtain ⟨a, b⟩ := reads_each r2
      refine ⟨fun y hy => ?_, fun z hz => ?_⟩
      · rcases List.mem_cons.mp hy with rfl | hy
        · exact ⟨_, _, List.mem_cons_self, r1⟩
        · obtain ⟨z, bs, h1, h2⟩ := a y hy
          exact ⟨z, bs, List.mem_cons_of_mem _ h1, h2⟩
      · rcases List.mem_cons.mp hz with rfl | hz
        · exact ⟨_, _, List.mem_cons_self, r1⟩
        · obtain ⟨y, bs, h1, h2⟩ := b z hz
          exact ⟨y, bs, List.mem_cons_of_mem _ h1, h2⟩
open Classical in
noncomputable def eqOf (h : Heap) (xs : List D) (d : D) (y : Value) : Bool := if ∃ z bs, z ∈ xs ∧ Reads h y z bs ∧ PyData.eqv z d = true then true else false
theorem eqOf_at {A : Around} {s : Shared} {x : Value} {vs : Array Value} {xs : List D} {d : D} {as bs : List Addr} (rs : ReadsAll s.heap vs.toList xs as) (rx : Reads s.heap x d bs) (h : ∀ z, z ∈ xs → eqI z d) (hu : A.units + 66 < cLine) :
    ∀ y, y ∈ vs → SeqAt.EqAt A.in1 s y x (eqOf s.heap xs d y) := fun y hy => by
  have hu' : A.in1.units + 65 < cLine := by
    show A.units + 1 + 65 < cLine
    omega
  unfold eqOf
  split
  · rename_i e
    obtain ⟨z, cs, hz, rz, e⟩ := e
    rw [← e]
    exact eqAt_I (h z hz) rz rx hu'
  · rename_i e
    obtain ⟨z, cs, hz, rz⟩ := (reads_each rs).1 y (by simpa using hy)
    have e' : PyData.eqv z d = false := by
      cases q : PyData.eqv z d with
      | false => rfl
      | true => exact absurd ⟨z, cs, hz, rz, q⟩ e
    rw [← e']
    exact eqAt_I (h z hz) rz rx hu'
theorem eqOf_any {h : Heap} {vs : Array Value} {xs : List D} {d : D} {as : List Addr} (rs : ReadsAll h vs.toList xs as) : vs.any (eqOf h xs d) = xs.any fun z => PyData.eqv z d := by
  rw [← Array.any_toList, Bool.eq_iff_iff, List.any_eq_true, List.any_eq_true]
  constructor
  · rintro ⟨y, _, hy⟩
    unfold eqOf at hy
    split at hy
    · rename_i e
      obtain ⟨z, _, hz, _, e⟩ := e
      exact ⟨z, hz, e⟩
    · cases hy
  · rintro ⟨z, hz, e⟩
    obtain ⟨y, bs, hy, r⟩ := (reads_each rs).2 z hz
    refine ⟨y, hy, ?_⟩
    unfold eqOf
    rw [if_pos ⟨z, bs, hz, r, e⟩]
theorem cIn_ok {d e : D} (h : cIn d e) : okD d = true ∧ okD e = true := by
  rcases h with h | ⟨xs, rfl, h1, h2, _⟩
  · exact ⟨okD_plain d h.1.1, okD_plain e h.2.1.1⟩
  · exact ⟨h1, by simpa [okD] using h2⟩
theorem or_inD {X : Cx} (hu : X.A.units + 66 < cLine) : OpR X (compareOp .In) (rDat X.K cIn isIn) :=
  or_dat (fun d e h => cIn_ok h) fun d e a b as bs s Q hc ra rb h => by
    rcases hc with ⟨h1, h2, h3⟩ | ⟨xs, rfl, _, _, h3⟩
    · rcases h3 with ⟨xs, rfl⟩ | ⟨xs, rfl⟩
      · exact SeqAt.in_list_data rb ra (by simpa [PyData.plain] using h2.1) h1.1 (room_in hu h1.2) h
      · exact SeqAt.in_tuple_data rb ra (by simpa [PyData.plain] using h2.1) h1.1 (room_in hu h1.2) h
    · cases rb with
      | list k1 k2 k3 k4 => exact SeqAt.in_listAt _ ⟨_, k1, k2, _, k3⟩ (eqOf_at k4 ra h3 hu) (by rw [eqOf_any k4]; exact h)
theorem or_ninD {X : Cx} (hu : X.A.units + 66 < cLine) : OpR X (compareOp .NotIn) (rDat X.K cIn fun d e => !isIn d e) :=
  or_dat (fun d e h => cIn_ok h) fun d e a b as bs s Q hc ra rb h => by
    rcases hc with ⟨h1, h2, h3⟩ | ⟨xs, rfl, _, _, h3⟩
    · rcases h3 with ⟨xs, rfl⟩ | ⟨xs, rfl⟩
      · exact SeqAt.notIn_list_data rb ra (by simpa [PyData.plain] using h2.1) h1.1 (room_in hu h1.2) h
      · exact SeqAt.notIn_tuple_data rb ra (by simpa [PyData.plain] using h2.1) h1.1 (room_in hu h1.2) h
    · cases rb with
      | list k1 k2 k3 k4 => exact SeqAt.notIn_listAt _ ⟨_, k1, k2, _, k3⟩ (eqOf_at k4 ra h3 hu) (by rw [eqOf_any k4]; exact h)
abbrev rInS : R2 := fun x y H Q => ∃ i j, x = .str i ∧ y = .str j ∧ Q (.bl (!(Builtin.Str.occurrences j i 0 j.length 1).isEmpty)) H
abbrev rNinS : R2 := fun x y H Q => ∃ i j, x = .str i ∧ y = .str j ∧ Q (.bl (!(!(Builtin.Str.occurrences j i 0 j.length 1).isEmpty))) H
/-- the reading of a comparison -/
def rCmpK (K : PySem.W.Frag) : CmpOp → R2
  | .Eq => rDat K cEq PyData.eqv
  | .NotEq => rDat K cEq fun d e => !PyData.eqv d e
  | .Lt => fun x y H Q => rI0 (fun i j => .bl (decide (i < j))) x y H Q ∨ rDat K cLt W.dataLt x y H Q
  | .LtE => rI0 fun i j => .bl (decide (i ≤ j))
  | .Gt => rI0 fun i j => .bl (decide (j < i))
  | .GtE => rI0 fun i j => .bl (decide (j ≤ i))
  | .In => fun x y H Q => rDat K cIn isIn x y H Q ∨ rInS x y H Q
  | .NotIn => fun x y H Q => rDat K cIn (fun d e => !isIn d e) x y H Q ∨ rNinS x y H Q
  | .Is => fun x y H Q => (y = .non ∧ Q (.bl (decide (x = .non))) H) ∨ ∃ a b, x = .bl a ∧ y = .bl b ∧ Q (.bl (decide (a = b))) H
  | .IsNot => fun x y H Q => (y = .non ∧ Q (.bl (!decide (x = .non))) H) ∨ ∃ a b, x = .bl a ∧ y = .bl b ∧ Q (.bl (!decide (a = b))) H
theorem or_cmp {X : Cx} (hu : X.A.units + 66 < cLine) (op : CmpOp) : OpR X (compareOp op) (rCmpK X.K op) := by
  cases op
  · exact or_eq hu
  · exact or_ne hu
  · exact op_lt.or (or_lt hu)
  · exact op_le
  · exact op_gt
  · exact op_ge
  · exact op_isN.or op_isBl
  · exact op_notN.or op_notBl
  · exact (or_inD hu).or op_in_str
  · exact (or_ninD hu).or op_notin_str
section
variable {K : PySem.W.Frag} {W : Wd} {N : Addr → Prop} {H : Hp} {Q : VK} {R : XV → Nat → Prop} {v1 v2 : V} {d1 d2 : D} {b : Nat}
theorem val_eq (r1 : RepB K W N H v1 d1) (r2 : RepB K W N H v2 d2) {P : Bool → Nat → Prop} (h : (eqD d1 d2).run P R b) : cEq d1 d2 ∧ P (PyData.eqv d1 d2) b := h
theorem val_inK {g : Bool → Bool} (r1 : RepB K W N H v1 d1) (r2 : RepB K W N H v2 d2) {P : Bool → Nat → Prop} (h : (inD d1 d2).run P R b) :
    (cIn d1 d2 ∧ P (isIn d1 d2) b) ∨ ∃ i j, v1 = .str i ∧ v2 = .str j ∧ P (!(Builtin.Str.occurrences j i 0 j.length 1).isEmpty) b := by
  unfold inD at h
  split at h
  · refine .inl ⟨?_, h.2⟩
    rcases h.1 with g | ⟨g1, g2, g3⟩
    · exact .inl ⟨g.1, g.2, .inl ⟨_, rfl⟩⟩
    · exact .inr ⟨_, rfl, g1, g2, g3⟩
  · exact .inl ⟨.inl ⟨h.1.1, h.1.2, .inr ⟨_, rfl⟩⟩, h.2⟩
  · split at h
    · exact .inr ⟨_, _, r1.str, r2.str, h⟩
    · exact h.elim
  · exact h.elim
theorem rep_non (r : RepB K W N H v1 d1) : (decide (v1 = .non)) = (match d1 with | .none => true | _ => false) := by
  rcases r with h | ⟨a, vs, ds, rfl, rfl, _⟩ | ⟨a, o, rfl, h2, _⟩
  · cases h <;> rfl
  · rfl
  · obtain ⟨x, kvs, rfl⟩ := h2.dict
    rfl
theorem rep_nnon (r : RepB K W N H v1 d1) : (!decide (v1 = .non)) = (match d1 with | .none => false | _ => true) := by
  rcases r with h | ⟨a, vs, ds, rfl, rfl, _⟩ | ⟨a, o, rfl, h2, _⟩
  · cases h <;> rfl
  · rfl
  · obtain ⟨x, kvs, rfl⟩ := h2.dict
    rfl
theorem val_cmp (op : CmpOp) (c : VC W N H b) (r1 : RepB K W N H v1 d1) (r2 : RepB K W N H v2 d2) {P : Bool → Nat → Prop} (hP : ∀ k, P k b → Q (.bl k) H) (h : (cmpD op d1 d2).run P R b) : rCmpK K op v1 v2 H Q := by
  cases op
  · exact ⟨W, N, d1, d2, r1, r2, h.1, hP _ h.2⟩
  · exact ⟨W, N, d1, d2, r1, r2, h.1, hP _ h.2⟩
  · have h : (ltD d1 d2).run P R b := h
    unfold ltD at h
    split at h
    · exact .inl ⟨_, _, r1.int, r2.int, hP _ h⟩
    · exact .inr ⟨W, N, _, _, r1, r2, h.1, hP _ h.2⟩
  · cases d1 <;> cases d2 <;> first | exact h.elim | exact ⟨_, _, r1.int, r2.int, hP _ h⟩
  · cases d1 <;> cases d2 <;> first | exact h.elim | exact ⟨_, _, r1.int, r2.int, hP _ h⟩
  · cases d1 <;> cases d2 <;> first | exact h.elim | exact ⟨_, _, r1.int, r2.int, hP _ h⟩
  · cases d1 <;> cases d2 <;> first
      | exact h.elim
      | exact .inl ⟨r2.non, hP _ (by rw [rep_non r1]; exact h)⟩
      | exact .inr ⟨_, _, r1.bl, r2.bl, hP _ h⟩
  · cases d1 <;> cases d2 <;> first
      | exact h.elim
      | exact .inl ⟨r2.non, hP _ (by rw [rep_nnon r1]; exact h)⟩
      | exact .inr ⟨_, _, r1.bl, r2.bl, hP _ h⟩
  · rcases val_inK (g := id) r1 r2 h with ⟨a, b⟩ | ⟨i, j, e1, e2, b⟩
    · exact .inl ⟨W, N, d1, d2, r1, r2, a, hP _ b⟩
    · exact .inr ⟨i, j, e1, e2, hP _ b⟩
  · rcases val_inK (g := id) (P := fun b => P (!b)) r1 r2 h with ⟨a, b⟩ | ⟨i, j, e1, e2, b⟩
    · exact .inl ⟨W, N, d1, d2, r1, r2, a, hP _ b⟩
    · exact .inr ⟨i, j, e1, e2, hP _ b⟩
end
end Ad
namespace Ad
open PySem PySem.Spec PyProof.Rows L2

/-! ### subscripts -/
section
variable {K : PySem.W.Frag} {W : Wd} {N : Addr → Prop} {H : Hp} {Q : VK} {R : XV → Nat → Prop} {v1 v2 : V} {d1 d2 : D} {b : Nat}
theorem RepL.atI {vs : List V} {ds : List D} (h : RepL K W N H vs ds) {i : Int} {d : D} (e : L2.atI ds i = some d) : ∃ v, L2.atI vs i = some v ∧ Rep K W N H v d := by
  unfold L2.atI at e ⊢
  rw [h.length]
  cases q : ixN ds.length i with
  | none => rw [q] at e; cases e
  | some j =>
    rw [q] at e
    exact h.get (show ds[j]? = some d from e)
theorem val_ix (c : VC W N H b) (r1 : RepB K W N H v1 d1) (r2 : RepB K W N H v2 d2) (h : (ixD d1 d2).run (VQ K W N H Q) R b) : rIx K v1 v2 H Q := by
  unfold ixD at h
  split at h
  · obtain ⟨d, e, h⟩ := oget_run h
    obtain ⟨a, vs, rfl, h1, z1, l1⟩ := r1.list
    obtain ⟨v, e', r⟩ := l1.atI e
    exact .inl ⟨a, vs, _, v, rfl, r2.int, SqL.of h1, e', c.vrep r h⟩
  · obtain ⟨d, e, h⟩ := oget_run h
    obtain ⟨a, vs, rfl, h1, n1, z1, l1⟩ := r1.tup
    obtain ⟨v, e', r⟩ := l1.atI e
    exact .inr (.inl ⟨a, vs, _, v, rfl, r2.int, h1, e', c.vrep r h⟩)
  · obtain ⟨hz, h⟩ := h
    obtain ⟨x, e, h⟩ := oget_run h
    exact .inr (.inr ⟨_, _, x, r1.str, r2.int, hz, e, c.vstr h⟩)
  · exact h.elim

/-- a slice -/
def rSlK (K : PySem.W.Frag) : V → Option Int → Option Int → Hp → VK → Prop := fun x lo hi H Q => rSlL K x lo hi H Q ∨ rSlS2 K x lo hi H Q ∨ rSlS x lo hi H Q
theorem or_sl {X : Cx} : SlR X (rSlK X.K) := sl_list.or (sl_tupS.or sl_str)
theorem cutD_length (xs : List D) (lo hi : Option Int) : (cutD xs lo hi).length ≤ xs.length := by
  unfold cutD
  rw [List.length_take, List.length_drop]
  omega
theorem val_sl (c : VC W N H b) {lo hi : Option Int} (r1 : RepB K W N H v1 d1) (h : (slP d1 lo hi).run (VQ K W N H Q) R b) : rSlK K v1 lo hi H Q := by
  unfold slP at h
  split at h
  · obtain ⟨a, vs, rfl, h1, z1, l1⟩ := r1.list
    refine .inl ⟨a, vs, rfl, SqL.of h1, ?_⟩
    rename_i xs
    have e : RepL K W N H (cutV vs lo hi) (cutD xs lo hi) := by
      unfold cutV cutD
      rw [l1.length]
      exact (l1.drop _).take _
    exact c.vlst e (Nat.le_trans (cutD_length _ _ _) z1) h
  · obtain ⟨a, vs, rfl, h1, n1, z1, l1⟩ := r1.tup
    refine .inr (.inl ⟨a, vs, rfl, h1, fun hw => ?_, fun _ => ?_⟩)
    · rename_i xs
      have e : cutD xs lo hi = xs := by
        unfold cutD
        rw [← l1.length, hw.1, hw.2, Nat.sub_zero, List.drop_zero, l1.length, List.take_length]
      rw [e] at h
      exact c.vrep (.tupS n1 z1 l1) h
    · rename_i xs hn
      have e : RepL K W N H (cutV vs lo hi) (cutD xs lo hi) := by
        unfold cutV cutD
        rw [l1.length]
        exact (l1.drop _).take _
      exact c.vtup e (Nat.le_trans (cutD_length _ _ _) z1) h
  · exact .inr (.inr ⟨_, r1.str, h.1, c.vstr h.2⟩)
  · exact h.elim
end

/-! ### the tuple, the list, from behind -/
theorem rev_places (n : Nat) : Builtin.Slice.sliceAdjust none none (-1) (n : Int) = ((n : Int) - 1, -1) ∧ Builtin.Slice.slicePlaces ((n : Int) - 1) (-1) (-1) = n := by
  constructor
  · unfold Builtin.Slice.sliceAdjust
    simp
  · unfold Builtin.Slice.slicePlaces
    have h1 : ¬ ((-1 : Int) > 0) := by decide
    simp only [h1, if_false]
    by_cases h : (n : Int) - 1 > -1
    · rw [if_pos h]
      have : ((n : Int) - 1 - -1 - -1 - 1) / (- -1) = (n : Int) := by
        rw [show (- -1 : Int) = 1 by decide, Int.ediv_one]
        omega
      first
        | omega
        | (rw [this]; exact Int.toNat_natCast n)
        | simp
    · rw [if_neg h]
      omega
theorem rev_pick (xs : Array Value) : ((List.range xs.size).filterMap fun (m : Nat) => xs[(((xs.size : Int) - 1) + (m : Int) * (-1)).toNat]?).toArray = xs.toList.reverse.toArray := by
  congr 1
  apply List.ext_getElem?
  intro i
  have key : ∀ (n : Nat), n ≤ xs.size → (List.range n).filterMap (fun (m : Nat) => xs[(((xs.size : Int) - 1) + (m : Int) * (-1)).toNat]?) = xs.toList.reverse.take n := by
    intro n
    induction n with
    | zero => intro _; simp
    | succ n ih =>
      intro hn
      rw [List.range_succ, List.filterMap_append, ih (by omega)]
      have e : (((xs.size : Int) - 1) + (n : Int) * (-1)).toNat = xs.size - 1 - n := by omega
      have e2 : xs[xs.size - 1 - n]? = some xs[xs.size - 1 - n] := by simp
      rw [List.filterMap_cons, e, e2, List.filterMap_nil]
      rw [List.take_add_one]
      congr 1
      rw [List.getElem?_reverse (by rw [Array.length_toList]; omega)]
      simp only [Array.length_toList, Array.getElem?_toList]
      rw [e2]
      rfl
  rw [key xs.size (Nat.le_refl _)]
  rw [List.take_of_length_le (by simp)]
theorem rev_applied {prog : Program} {w : World} {A : Around} {E : Value → Shared → Prop} {s : Shared} {sl : Addr} {n : Nat} {tk : Tok} {Q : Int × Int × Nat → Shared → Prop} (hs : s.heap.IsSliceOf sl .none .none (.int (-1) tk))
    (h : Q ((n : Int) - 1, -1, n) s) : wpAny (model prog w) A (Builtin.Slice.sliceApplied (.ref sl) (pure (n : Int))) Q E s := by
  obtain ⟨ob, hob, _, hdt⟩ := id hs
  unfold Builtin.Slice.sliceApplied Builtin.Slice.sliceFields
  refine wpAny_bind (wpAny_bind (wpAny_field hob hdt (x := .none) rfl (wpAny_bind (wpAny_field hob hdt (x := .none) rfl (wpAny_bind (wpAny_field hob hdt (x := .int (-1) tk) rfl (wpAny_pure ?_)))))))
  refine wpAny_bind (slicePart_int ?_)
  show wpAny _ _ (if ((-1 : Int) == 0) = true then _ else _) _ _ s
  rw [if_neg (by decide)]
  refine wpAny_bind (slicePart_none (wpAny_bind (slicePart_none (wpAny_bind (wpAny_pure ?_)))))
  show wpAny _ _ (match Builtin.Slice.sliceAdjust none none (-1) (n : Int) with | (lo, hi) => pure (lo, (-1 : Int), Builtin.Slice.slicePlaces lo hi (-1))) _ _ s
  rw [(rev_places n).1]
  show wpAny _ _ (pure (((n : Int) - 1), (-1 : Int), Builtin.Slice.slicePlaces ((n : Int) - 1) (-1) (-1))) _ _ s
  rw [(rev_places n).2]
  exact wpAny_pure h
theorem rev_tuple {prog : Program} {w : World} {A : Around} {E : Value → Shared → Prop} {s : Shared} {t sl : Addr} {items : Array Value} {tk : Tok} {Q : Value → Shared → Prop} (ht : IsTup s.heap t items) (hs : s.heap.IsSliceOf sl .none .none (.int (-1) tk))
    (h : Q (.ref s.heap.objs.size) { s with heap := s.heap.push { cls := .type "tuple", data := .seq items.toList.reverse.toArray } })
    (hsz : items.size ≤ sizeLine) : wpAny (model prog w) A (getItem (.ref t) (.ref sl)) Q E s := by
  have room : sizeOk (.seq items.toList.reverse.toArray) := by
    show items.toList.reverse.toArray.size ≤ sizeLine
    rw [List.size_toArray, List.length_reverse, Array.length_toList]
    exact hsz
  obtain ⟨ob, hob, hcl, hdt⟩ := id hs
  have ty : s.TypeIs (.ref sl) "slice" := ⟨ob, hob, hcl⟩
  unfold getItem
  try with_reducible refine wpAny_holding ?_
  first | refine wpAny_bind (wpAny_pure ?_) | skip
  refine wpAny_bind (wpAny_sequenceKey ht.typeIs (by decide) ?_)
  refine wpAny_bind (wpAny_callSpecial?_slot (name := Str.ofString "__getitem__") ht.typeIs PyProof.Rows.slot_tuple_getitem
    (wpAny_call_entry PyProof.Rows.slot_tuple_getitem ht.typeIs entry_tuple_getitem ?_ (args_tuple_getitem _ _)))
  show wpAny _ _ (Builtin.Tuple.tupleItemsOf (.ref t) >>= _) _ _ s
  refine wpAny_bind (tupleItemsOf_ ht ?_)
  refine wpAny_bind (wpAny_typeOf ty ?_)
  rw [if_pos (by decide)]
  refine wpAny_bind (rev_applied hs ?_)
  show wpAny _ _ (if (((items.size : Int) - 1) == 0 && ((-1 : Int) == 1) && (items.size == items.size)) = true then _ else _) _ _ s
  rw [if_neg (by rw [show ((-1 : Int) == 1) = false by decide, Bool.and_false, Bool.false_and]; decide), rev_pick]
  first
    | exact wpAny_bind (m := Builtin.Tuple.tupleExact _) (wpAny_newObj_type (wpAny_pure ⟨_, rfl, wpAny_pure h⟩) room)
    | exact wpAny_bind (m := Builtin.Tuple.tupleExact _) (wpAny_newObj_type (wpAny_bind (wpAny_pure (wpAny_pure ⟨_, rfl, wpAny_pure h⟩))) room)
    | exact wpAny_bind (wpAny_bind (m := Builtin.Tuple.tupleExact _) (wpAny_newObj_type (wpAny_pure (wpAny_pure ⟨_, rfl, wpAny_pure h⟩)) room))
    | exact wpAny_bind (wpAny_bind (m := Builtin.Tuple.tupleExact _) (wpAny_newObj_type (wpAny_pure ⟨_, rfl, wpAny_pure h⟩) room))
/-- x[::-1] of a list, of a tuple -/
def rRevK (K : PySem.W.Frag) : V → Hp → VK → Prop := fun x H Q =>
  (∃ a xs, x = .ref a ∧ SqL K H a xs ∧ ∀ p, H p = none → Q (.ref p) (upd H p (.lst xs.reverse))) ∨ ∃ a xs, x = .ref a ∧ SqT K H a xs ∧ NewT H Q xs.reverse
theorem pe_rev {X : Cx} {e : Expr} {te : TE} {k : Nat} {p1 p2 p3 pos : Pos} (he : PE X e te) : PE X (.Subscript e (.Slice none none (some (.UnaryOp .USub (.Constant (.int 1) k p1) p2)) p3) pos) (tUn (rRevK X.K) te) := by
  refine ⟨fun pins s σ H Q I h => ?_⟩
  refine Subscript_ (thn (he.run pins s σ H _ I h) fun v s1 ⟨x, H1, I1, r1, q1⟩ => ?_)
  have hst : PO X (some (.UnaryOp .USub (.Constant (.int 1) k p1) p2)) (tPart (tUn (rU fun i => .int (-i)) (tC (.int 1)))) := po_some (pe_un un_neg pe_int)
  refine wpAny_Slice (thn (po_none.run pins s1 σ H1 (fun o H2 => o = none ∧ H2 = H1) I1 ⟨rfl, rfl⟩) fun vl s2 ⟨l, H2, I2, pl, el, e2⟩ => ?_)
  subst el
  subst e2
  refine thn (po_none.run pins s2 σ H2 (fun o H3 => o = none ∧ H3 = H2) I2 ⟨rfl, rfl⟩) fun vu s3 ⟨u, H3, I3, pu, eu, e3⟩ => ?_
  subst eu
  subst e3
  refine thn (hst.run pins s3 σ H3 (fun o H4 => o = some (-1) ∧ H4 = H3) I3 ⟨1, rfl, -1, rfl, rfl, rfl⟩) fun vs s4 ⟨o, H4, I4, ps, eo, e4⟩ => ?_
  subst eo
  subst e4
  have I5 : Inv X pins σ H4 { s4 with heap := s4.heap.push { cls := .type "slice", data := .fields #[vl, vu, vs] } } := I4.kept (t' := s4.toks) fun b ob q => Heap.get?_push_of_some _ q
  rcases q1 with ⟨a, xs, ex, hx, q⟩ | ⟨a, xs, ex, hx, q⟩
  · cases ex
    cases r1
    obtain ⟨its, r, ht, hz⟩ := I5.list hx
    have hlen := r.length
    refine tail_any (ops := [.ref a, .ref s4.heap.objs.size]) ht.isList.typeIs (PySem.slot_list_getitem.lookup) ?_ (by with_unfolding_all rfl)
    refine wpAny_getItem_list_slice ht.isList (Heap.IsSliceOf.new _ vl vu vs) pl pu ps (by decide) ?_ (by rw [List.size_toArray]; omega)
    rw [PySem.W.krv_pick]
    refine ⟨.ref _, _, I5.laid (t' := s4.toks) (o := .lst xs.reverse) (fun b ob q => Heap.get?_push_of_some _ q) (Nat.le_refl _) ?_, rfl, q _ (I5.hok.fresh (Nat.le_refl _))⟩
    exact ⟨by rw [List.length_reverse]; exact hz, _, 0, r.reverse, Heap.get?_push_size _ rfl⟩
  · cases ex
    cases r1
    obtain ⟨its, r, ht, hz⟩ := I5.tuple hx
    have hlen := r.length
    cases pl
    cases pu
    cases ps
    refine tail_any (ops := [.ref a, .ref s4.heap.objs.size]) ht.typeIs PyProof.Rows.slot_tuple_getitem.lookup ?_ (by with_unfolding_all rfl)
    refine rev_tuple ht (Heap.IsSliceOf.new _ _ _ _) ?_ (by rw [List.size_toArray]; omega)
    exact newT_end I5 (tk := s4.toks) (fun _ _ e => e) (by rw [List.length_reverse]; exact hz) r.reverse q
section
variable {K : PySem.W.Frag} {W : Wd} {N : Addr → Prop} {H : Hp} {Q : VK} {R : XV → Nat → Prop} {v1 v2 : V} {d1 d2 : D} {b : Nat}
theorem val_rev (c : VC W N H b) (r1 : RepB K W N H v1 d1) (h : (revD d1).run (VQ K W N H Q) R b) : rRevK K v1 H Q := by
  unfold revD at h
  split at h
  · obtain ⟨a, vs, rfl, h1, z1, l1⟩ := r1.list
    exact .inl ⟨a, vs, rfl, SqL.of h1, c.vlst l1.reverse (by rw [List.length_reverse]; exact z1) h⟩
  · obtain ⟨a, vs, rfl, h1, n1, z1, l1⟩ := r1.tup
    exact .inr ⟨a, vs, rfl, h1, c.vtup l1.reverse (by rw [List.length_reverse]; exact z1) h⟩
  · exact h.elim
end
end Ad
namespace Ad
open PySem PySem.Spec PyProof.Rows L2

/-! ### built-ins on data -/
section
variable {X : Cx}
def rIsaK (K : PySem.W.Frag) (T : String) (g : D → Bool) : List V → Hp → VK → Prop := fun xs H Q => ∃ W N d x, xs = [x, .ty T] ∧ RepB K W N H x d ∧ okD d = true ∧ Q (.bl (g d)) H
theorem cr_isa {T : String} {g : D → Bool}
    (rule : ∀ (A : Around) (v : Value) (d : D) (as : List Addr) (s : Shared) (Q : Value → Shared → Prop) (E : Value → Shared → Prop), Reads s.heap v d as → (∀ tk, s.toks ≤ tk → Q (.bool (g d)) { s with toks := tk }) → wpAny (model X.prog X.w) A (call (.builtin "isinstance") [v, .type T]) Q E s) :
    CallR X (.builtin "isinstance") (rIsaK X.K T g) := by
  intro pins s σ H xs us Q I r h
  obtain ⟨W, N, d, x, rfl, rd, k, q⟩ := h
  obtain ⟨u, t, rfl, ru, rt⟩ := Vals.two r
  cases rt
  obtain ⟨as, ra, _⟩ := rd.reads I k ru
  exact rule _ u d as s _ _ ra fun tk _ => ⟨.bl _, H, I.tok tk, rfl, q⟩
theorem cr_isInt : CallR X (.builtin "isinstance") (rIsaK X.K "int" PyData.isInt) := cr_isa fun _ _ _ _ _ _ _ r h => W.isinstance_int_data r h
theorem cr_isBool : CallR X (.builtin "isinstance") (rIsaK X.K "bool" PyData.isBool) := cr_isa fun _ _ _ _ _ _ _ r h => W.isinstance_bool_data r h
theorem cr_isStr : CallR X (.builtin "isinstance") (rIsaK X.K "str" PyData.isStr) := cr_isa fun _ _ _ _ _ _ _ r h => W.isinstance_str_data r h
theorem cr_isTuple : CallR X (.builtin "isinstance") (rIsaK X.K "tuple" PyData.isTuple) := cr_isa fun _ _ _ _ _ _ _ r h => W.isinstance_tuple_data r h
theorem cr_isList : CallR X (.builtin "isinstance") (rIsaK X.K "list" PyData.isList) := cr_isa fun _ _ _ _ _ _ _ r h => W.isinstance_list_data r h

def cRepr (d : D) : Prop := okD d = true ∧ d.showable = true ∧ d.depth ≤ 40 ∧ d.shown.length ≤ sizeLine
def rReprK (K : PySem.W.Frag) : List V → Hp → VK → Prop := fun xs H Q => ∃ W N d x, xs = [x] ∧ RepB K W N H x d ∧ cRepr d ∧ Q (.str d.shown) H
theorem cr_repr (hu : X.A.units + 66 < cLine) (hg : X.A.guards = some []) (hs : ∃ o, X.base.get? sysModules = some o) : CallR X (.builtin "repr") (rReprK X.K) := by
  intro pins s σ H xs us Q I r h
  obtain ⟨W, N, d, x, rfl, rd, ⟨k1, k2, k3, k4⟩, q⟩ := h
  obtain ⟨u, rfl, ru⟩ := Vals.one r
  obtain ⟨as, ra, hm⟩ := rd.reads I k1 ru
  cases ra with
  | none => exact PySem.P.repr_of_none ⟨.str _, H, I.tok _, ⟨_, rfl⟩, q⟩
  | bool b => exact PySem.P.repr_of_bool ⟨.str _, H, I.tok _, ⟨s.toks, by simp only [PyData.shown]⟩, q⟩
  | int i t => exact PySem.P.repr_of_int (by simpa [PyData.showable] using k2) ⟨.str _, H, I.tok _, ⟨s.toks, by simp only [PyData.shown]⟩, q⟩
  | str y t => exact PySem.P.repr_of_str ⟨.str _, H, I.tok _, ⟨s.toks, by simp only [PyData.shown]⟩, q⟩ (by simpa [PyData.shown] using k4)
  | list h1 h2 h3 h4 =>
    exact repr_of_reads' (.list h1 h2 h3 h4) k2 (fun _ => hm hs) hg (by omega) (fun _ _ e => e) (fun h' v tk hk => ⟨.str _, H, I.kept (t' := tk) hk, ⟨_, rfl⟩, q⟩) k4
  | tuple h1 h2 h3 h4 =>
    exact repr_of_reads' (.tuple h1 h2 h3 h4) k2 (fun _ => hm hs) hg (by omega) (fun _ _ e => e) (fun h' v tk hk => ⟨.str _, H, I.kept (t' := tk) hk, ⟨_, rfl⟩, q⟩) k4
  | dict h1 h2 h3 h4 h5 =>
    exact repr_of_reads' (.dict h1 h2 h3 h4 h5) k2 (fun _ => hm hs) hg (by omega) (fun _ _ e => e) (fun h' v tk hk => ⟨.str _, H, I.kept (t' := tk) hk, ⟨_, rfl⟩, q⟩) k4
end
end Ad
/-! tuples of any lengths (an empty one among them) are sorted -/
namespace Ad
open PySem PySem.Calls PyProof.Rows PySem.W PySem.SeqAt

theorem general_lt (x y : Value) : keyLt' general' x y = oneLt' false x y := rfl
section
variable {prog : Program} {w : World} {A : Around} {E : Value → Shared → Prop} {s : Shared}
theorem call_tup_lt {Q : Value → Shared → Prop} {l b : Addr} {items items2 : Array Value} {e r : Nat → Bool} (hl : s.heap.IsTuple l items) (hb : s.heap.IsTuple b items2)
    (he : ∀ j (h1 : j < items.size) (h2 : j < items2.size), EqAt A.in1 s items[j] items2[j] (e j)) (hr : ∀ j (h1 : j < items.size) (h2 : j < items2.size), e j = false → RcLt A.in1 s items[j] items2[j] (r j))
    (h : Q (.bool (firstLt e r (decide (items.size < items2.size)) (List.range (min items.size items2.size)))) s) : wpAny (model prog w) A (call (.builtin "tuple.__lt__") [.ref l, .ref b]) Q E s := by
  obtain ⟨⟨cl, od, da, ls⟩, ho, hcl, n, hda⟩ := id hl
  obtain ⟨⟨cl2, od2, da2, ls2⟩, ho2, hcl2, n2, hda2⟩ := id hb
  cases hcl
  cases hda
  cases hcl2
  cases hda2
  exact call_meets F.slot_tuple_lt ⟨_, ho, rfl⟩ F.entry_tuple_lt (F.args_tuple_lt_2 _ _) (tuple_ltAt l b items items2 n n2 od od2 ls ls2 e r) ⟨ho, ho2, he, hr, h⟩
theorem oneLt_tup {xs ys : List PyData} {a b : Value} {as bs : List Addr} {Q : Bool → Shared → Prop} (ra : Reads s.heap a (.tuple xs) as) (rb : Reads s.heap b (.tuple ys) bs) (hal : alikeAll xs ys = true)
    (hu : A.units + min (PyData.tuple xs).depth (PyData.tuple ys).depth < cLine) (hq : Q (dataLt (.tuple xs) (.tuple ys)) s) : wpAny (model prog w) A (oneLt' true a b) Q E s := by
  cases ra with
  | @tuple l o vs n _ as₁ h1 h2 h3 h4 =>
    cases rb with
    | @tuple l' o' vs' n' _ bs₁ k1 k2 k3 k4 =>
      have n1 : vs.size = xs.length := by simpa using ReadsAll.length _ _ _ h4
      have n2 : vs'.size = ys.length := by simpa using ReadsAll.length _ _ _ k4
      rw [dataLt_tuple, ← firstLt_toks xs ys hal, ← n1, ← n2] at hq
      rw [oneLt'_eq]
      simp only [if_true]
      refine wpAny_bind (wpAny_cRoomFor (room_here hu) ?_)
      refine wpAny_bind (wpAny_callSpecialIfBound?_slot (T := "tuple") ⟨_, h1, h2⟩ F.slot_tuple_lt (call_tup_lt (e := pairEq xs ys) (r := fun j => dataLt (xs.getD j .none) (ys.getD j .none)) ⟨_, h1, h2, _, h3⟩ ⟨_, k1, k2, _, k3⟩ (fun j j1 j2 => ?_) (fun j j1 j2 hj => ?_) ?_))
      · have q := eqAt_alikeAll xs ys A.in1 s vs.toList vs'.toList _ _ h4 k4 hal (SeqAt.room_in hu) j (by simpa using j1) (by simpa using j2)
        simpa using q
      · have q := rcLt_alikeAll xs ys A.in1 s vs.toList vs'.toList _ _ h4 k4 hal (SeqAt.room_in hu) j (by simpa using j1) (by simpa using j2) hj
        simpa using q
      · exact wpAny_truthy_bool hq

/-- the first items, of tuples of any lengths -/
def heads (h : Heap) : List Value → List (Option Value) → Prop
  | [], [] => True
  | v :: vs, f :: fs => (∃ a o xs n, v = .ref a ∧ h.get? a = some o ∧ o.cls = .type "tuple" ∧ o.data = .seq xs n ∧ xs[0]? = f) ∧ heads h vs fs
  | _, _ => False
theorem heads_run {M : Model} : ∀ (vs : List Value) (fs : List (Option Value)) {Q : List (Option Value) → Shared → Prop}, heads s.heap vs fs → Q fs s → wpAny M A (vs.mapM firstOfTuple') Q E s
  | [], [], _, _, h => by rw [List.mapM_nil]; exact wpAny_pure h
  | [], _ :: _, _, t, _ => t.elim
  | _ :: _, [], _, t, _ => t.elim
  | v :: vs, f :: fs, Q, t, h => by
    obtain ⟨⟨a, o, xs, n, rfl, ho, hc, hd, hf⟩, t⟩ := t
    rw [List.mapM_cons]
    refine wpAny_bind ?_
    rw [kas_first_eq]
    refine wpAny_bind (Looks.here (show Looks M s.heap (typeOf (.ref a)) o.cls from (Looks.ld ho).andThen .now) ?_)
    rw [hc, if_neg (by first | decide | simp)]
    refine wpAny_bind (listItems_at ho hd (wpAny_pure ?_))
    rw [hf]
    exact wpAny_bind (heads_run vs fs (Q := fun bs s' => wpAny M A (pure (f :: bs)) Q E s') t (wpAny_pure h))
theorem heads_of {h : Heap} : ∀ {vs : List Value} {ds : List PyData}, EachIs (fun v d => ∃ as, Reads h v d as) vs ds → (∀ d, d ∈ ds → ∃ ys, d = .tuple ys) →
    ∃ fs, heads h vs fs ∧ fs.length = vs.length ∧ ∀ (i : Nat) (d : PyData), ds[i]? = some d → (fs[i]? = some none ↔ d = .tuple [])
  | _, _, .nil, _ => ⟨[], trivial, rfl, fun i d e => by simp at e⟩
  | _, _, .cons (b := d) ⟨as, r⟩ t, ht => by
    obtain ⟨fs, h1, h2, h3⟩ := heads_of t fun d hd => ht d (List.mem_cons_of_mem _ hd)
    obtain ⟨ys, rfl⟩ := ht d List.mem_cons_self
    cases r with
    | @tuple a o xs n _ _ ho hc hd hr =>
      refine ⟨xs[0]? :: fs, ⟨⟨a, o, xs, n, rfl, ho, hc, hd, rfl⟩, h1⟩, by simp [h2], fun i d e => ?_⟩
      cases i with
      | succ i => simpa using h3 i d (by simpa using e)
      | zero =>
        simp only [List.getElem?_cons_zero, Option.some.injEq] at e ⊢
        subst e
        rw [← Array.getElem?_toList]
        cases q : xs.toList with
        | nil => rw [q] at hr; cases hr; simp
        | cons f fr => rw [q] at hr; cases hr; simp
theorem tups_kind {M : Model} {vs : List Value} {fs : List (Option Value)} {Q : SortKind → Shared → Prop} (h2 : 2 ≤ vs.length) (t : heads s.heap vs fs) (hT : ∀ v ∈ vs, Looks M s.heap (typeOf v) (.type "tuple")) (hn : ∃ i : Nat, fs[i]? = some none)
    (h : Q (if ((fs[0]?).bind id).isSome = true then general' else oneType') s) : wpAny M A (keyKind' vs.toArray) Q E s := by
  rw [keyKind'_eq, List.mapM_toArray, map_eq_pure_bind]
  refine wpAny_bind (wpAny_bind (heads_run vs fs t (wpAny_pure ?_)))
  have hall : ¬ (fs.toArray.all fun x => x.isSome) = true := by
    intro q
    obtain ⟨i, hi⟩ := hn
    have := (List.all_eq_true.mp (by simpa using q)) none (List.mem_of_getElem? hi)
    simp at this
  rw [if_neg hall]
  have e0 : fs.toArray[0]? = fs[0]? := by simp
  rw [e0]
  by_cases hc : ((fs[0]?).bind id).isSome = true
  · rw [if_pos hc] at h ⊢
    exact wpAny_pure h
  · rw [if_neg hc] at h ⊢
    rw [oneTypeOnly'_eq, List.mapM_toArray, map_eq_pure_bind]
    refine wpAny_bind (wpAny_bind (wpAny_bind (kas_mapM (r := Value.type "tuple") _ (fun v hv Q' hq => (hT v hv).here hq) (wpAny_pure ?_))))
    obtain ⟨v₁, rest, rfl⟩ : ∃ v₁ rest, vs = v₁ :: rest := by
      cases vs with
      | nil => simp at h2
      | cons v₁ rest => exact ⟨v₁, rest, rfl⟩
    have hall : ((List.map (fun _ => Value.type "tuple") (v₁ :: rest)).toArray.all fun x => x == Value.type "tuple") = true := by simp
    have h0 : (List.map (fun _ => Value.type "tuple") (v₁ :: rest)).toArray[0]? = some (Value.type "tuple") := by simp
    rw [h0]
    simp only [hall, if_true]
    exact wpAny_pure (wpAny_pure h)
theorem sorts_tups {vs : List Value} {ds : List PyData} (e : EachIs (fun v d => ∃ as, Reads s.heap v d as) vs ds) (hal : AllAlike ds) (ht : ∀ d, d ∈ ds → ∃ ys, d = .tuple ys) (hu : ∀ d, d ∈ ds → A.units + d.depth < cLine) : SortsAt prog w A s (dataKind s.heap ds) vs := by
  by_cases hne : ∀ d, d ∈ ds → ∃ x r, d = .tuple (x :: r)
  · exact SortsAt.data e hal (.inl hne) hu
  · have hex : ∃ i : Nat, ds[i]? = some (.tuple []) := by
      by_cases q : PyData.tuple [] ∈ ds
      · exact List.getElem?_of_mem q
      · exfalso
        apply hne
        intro d hd
        obtain ⟨ys, rfl⟩ := ht d hd
        cases ys with
        | nil => exact absurd hd q
        | cons x r => exact ⟨x, r, rfl⟩
    have room : ∀ {d d' : PyData}, d ∈ ds → A.units + min d.depth d'.depth < cLine := fun {d d'} hd => Nat.lt_of_le_of_lt (Nat.add_le_add_left (Nat.min_le_left _ _) _) (hu d hd)
    refine ⟨fun v hv => ?_, ?_⟩
    · obtain ⟨d, hd, as, r⟩ := e.left v hv
      exact ⟨_, dataKind_some hal hd r⟩
    · obtain ⟨fs, t1, t2, t3⟩ := heads_of e ht
      refine ⟨if ((fs[0]?).bind id).isSome = true then general' else oneType', ?_, fun h2 E Q hq => ?_⟩
      · intro E x y a b Q ha hb hq
        obtain ⟨d, as, hd, ra, rfl⟩ := dataKind_inv ha
        obtain ⟨d', as', hd', rb, rfl⟩ := dataKind_inv hb
        have hdd := hal d hd d' hd'
        obtain ⟨x1, rfl⟩ := ht d hd
        obtain ⟨x2, rfl⟩ := ht d' hd'
        have hq' : Q (dataLt (.tuple x1) (.tuple x2)) s := hq
        split
        · rw [general_lt]
          exact oneLt_alike (fun q => absurd q Bool.false_ne_true) ra rb hdd (by simp) (room hd) hq'
        · rw [keyLt'_oneType]
          exact oneLt_tup ra rb (by simpa [alike] using hdd) (room hd) hq'
      · obtain ⟨i, hi⟩ := hex
        refine tups_kind h2 t1 (fun v hv => ?_) ⟨i, (t3 i _ hi).mpr rfl⟩ hq
        obtain ⟨d, hd, as, r⟩ := e.left v hv
        obtain ⟨ys, rfl⟩ := ht d hd
        exact looks_reads r
/-- what sorted takes -/
theorem sorts_data {vs : List Value} {ds : List PyData} (e : EachIs (fun v d => ∃ as, Reads s.heap v d as) vs ds) (hk : sortable ds) (hu : A.units + 41 < cLine) : SortsAt prog w A s (dataKind s.heap ds) vs := by
  obtain ⟨h1, h2, h3⟩ := hk
  have hu' : ∀ d, d ∈ ds → A.units + d.depth < cLine := fun d hd => by have := (h2 d hd).2.1; omega
  rcases h3 with h3 | h3
  · exact sorts_tups e h1 h3 hu'
  · exact SortsAt.data e h1 (.inr fun d hd => ⟨(h2 d hd).1, h3 d hd⟩) hu'
end
end Ad
namespace Ad
open PySem PySem.Calls PySem.W PySem.SeqAt PySem.Spec PyProof.Rows L2

/-! ### a call's reading, by what it does to data -/
def rCall (K : PySem.W.Frag) (f : List D → M D) : List V → Hp → VK → Prop := fun xs H Q => ∃ (W : Wd) (N : Addr → Prop) (ds : List D) (R : XV → Nat → Prop) (b : Nat), VC W N H b ∧ RepBL K W N H xs ds ∧ (f ds).run (VQ K W N H Q) R b
section
variable {K : PySem.W.Frag} {W : Wd} {N : Addr → Prop} {H : Hp} {xs : List V} {ds : List D}
theorem RepBL.one {d : D} (h : RepBL K W N H xs [d]) : ∃ x, xs = [x] ∧ RepB K W N H x d := by
  cases h with
  | cons h1 h2 => cases h2; exact ⟨_, rfl, h1⟩
theorem RepBL.two {d e : D} (h : RepBL K W N H xs [d, e]) : ∃ x y, xs = [x, y] ∧ RepB K W N H x d ∧ RepB K W N H y e := by
  cases h with
  | cons h1 h2 =>
    cases h2 with
    | cons h3 h4 => cases h4; exact ⟨_, _, rfl, h1, h3⟩
/-- a list or a tuple -/
theorem RepB.items {v : V} {d : D} {Q : List D → Nat → Prop} {R : XV → Nat → Prop} {b : Nat} (r : RepB K W N H v d) (h : (itemsOf d).run Q R b) : ∃ ds a vs, Q ds b ∧ v = .ref a ∧ ds.length ≤ sizeLine ∧ RepL K W N H vs ds ∧ ((d = .list ds ∧ H a = some (.lst vs)) ∨ (d = .tuple ds ∧ SqT K H a vs ∧ TupN K N H a vs)) := by
  obtain ⟨ds, e | e, q⟩ := items_run h
  · subst e
    obtain ⟨a, vs, h1, h2, h3, h4⟩ := r.list
    exact ⟨ds, a, vs, q, h1, h3, h4, .inl ⟨rfl, h2⟩⟩
  · subst e
    obtain ⟨a, vs, h1, h2, h3, h4, h5⟩ := r.tup
    exact ⟨ds, a, vs, q, h1, h4, h5, .inr ⟨rfl, h2, h3⟩⟩
end

section
variable {X : Cx}
theorem cr_on1 {callee : Value} {f : D → M D} (h : ∀ (pins : List (Addr × Obj)) (s : Shared) (σ : L2.St) (H : Hp) (x : V) (u : Value) (Q : VK) (W : Wd) (N : Addr → Prop) (d : D) (R : XV → Nat → Prop) (b : Nat), Inv X pins σ H s → RelV x u → VC W N H b → RepB X.K W N H x d → (f d).run (VQ X.K W N H Q) R b → wpAny (model X.prog X.w) X.A (call callee [u]) (EP X pins σ Q) X.xe s) : CallR X callee (rCall X.K (on1 f)) := by
  intro pins s σ H xs us Q I r hh
  obtain ⟨W, N, ds, R, b, c, rb, hh⟩ := hh
  match ds, rb, hh with
  | [], _, hh => exact hh.elim
  | [d], rb, hh =>
    obtain ⟨x, rfl, rx⟩ := rb.one
    obtain ⟨u, rfl, ru⟩ := vals1 r
    exact h pins s σ H x u Q W N d R b I ru c rx hh
  | _ :: _ :: _, _, hh => exact hh.elim
theorem cr_on1' {callee : Value} {f : D → M D} {r : List V → Hp → VK → Prop} (hr : CallR X callee r) (h : ∀ (H : Hp) (x : V) (Q : VK) (W : Wd) (N : Addr → Prop) (d : D) (R : XV → Nat → Prop) (b : Nat), VC W N H b → RepB X.K W N H x d → (f d).run (VQ X.K W N H Q) R b → r [x] H Q) : CallR X callee (rCall X.K (on1 f)) :=
  cr_on1 fun pins s σ H x u Q W N d R b I ru c rx hh => hr pins s σ H [x] [u] Q I (.cons ru .nil) (h H x Q W N d R b c rx hh)
theorem cr_on2' {callee : Value} {f : D → D → M D} {r : List V → Hp → VK → Prop} (hr : CallR X callee r) (h : ∀ (H : Hp) (x y : V) (Q : VK) (W : Wd) (N : Addr → Prop) (d e : D) (R : XV → Nat → Prop) (b : Nat), VC W N H b → RepB X.K W N H x d → RepB X.K W N H y e → (f d e).run (VQ X.K W N H Q) R b → r [x, y] H Q) : CallR X callee (rCall X.K (on2 f)) := by
  intro pins s σ H xs us Q I r' hh
  obtain ⟨W, N, ds, R, b, c, rb, hh⟩ := hh
  match ds, rb, hh with
  | [], _, hh => exact hh.elim
  | [d], rb, hh => exact hh.elim
  | [d, e], rb, hh =>
    obtain ⟨x, y, rfl, rx, ry⟩ := rb.two
    exact hr pins s σ H _ us Q I r' (h H x y Q W N d e R b c rx ry hh)
  | _ :: _ :: _ :: _, _, hh => exact hh.elim

theorem cr_len : CallR X (.builtin "len") (rCall X.K (biD .len)) := cr_on1' call_len fun H x Q W N d R b c rx h => by
  have h : (lenD d).run (fun n => VQ X.K W N H Q (.int n)) R b := h
  unfold lenD at h
  split at h
  · obtain ⟨a, vs, rfl, h1, z, l⟩ := rx.list
    exact ⟨.ref a, _, rfl, .inl ⟨vs, SqL.of h1, rfl⟩, c.vint (by rw [l.length]; exact h)⟩
  · obtain ⟨a, vs, rfl, h1, n, z, l⟩ := rx.tup
    exact ⟨.ref a, _, rfl, .inr ⟨vs, h1, rfl⟩, c.vint (by rw [l.length]; exact h)⟩
  · have e := rx.str
    subst e
    exact ⟨.str _, _, rfl, ⟨h.1, rfl⟩, c.vint h.2⟩
  · exact h.elim
theorem cr_tuple : CallR X (.type "tuple") (rCall X.K (biD .tuple)) := cr_on1' call_tupS fun H x Q W N d R b c rx h => by
  obtain ⟨ds, a, vs, q, rfl, z, l, hx | hx⟩ := rx.items h
  · exact ⟨a, vs, rfl, .inl ⟨SqL.of hx.2, c.vtup l z q⟩⟩
  · exact ⟨a, vs, rfl, .inr ⟨hx.2.1, c.vrep (.tupS hx.2.2 z l) q⟩⟩
theorem cr_list : CallR X (.type "list") (rCall X.K (biD .list)) := cr_on1' call_list_of fun H x Q W N d R b c rx h => by
  obtain ⟨ds, a, vs, q, rfl, z, l, hx | hx⟩ := rx.items h
  · exact ⟨a, vs, rfl, .inl (SqL.of hx.2), c.vlst l z q⟩
  · exact ⟨a, vs, rfl, .inr hx.2.1, c.vlst l z q⟩
theorem CallR.or {callee : Value} {r r' : List V → Hp → VK → Prop} (a : CallR X callee r) (b : CallR X callee r') : CallR X callee (fun xs H Q => r xs H Q ∨ r' xs H Q) := by
  intro pins s σ H xs us Q I rv h
  rcases h with h | h
  · exact a pins s σ H xs us Q I rv h
  · exact b pins s σ H xs us Q I rv h
theorem cr_int1 : CallR X (.type "int") (rCall X.K (biD .int1)) := cr_on1' (CallR.or call_int1 call_int_str) fun H x Q W N d R b c rx h => by
  unfold int1D at h
  split at h
  · exact .inl (.inl ⟨_, by rw [rx.int], c.vint h⟩)
  · exact .inl (.inr ⟨_, by rw [rx.bl], c.vint h⟩)
  · obtain ⟨n, hn, h1, h2⟩ := oget_run h
    exact .inr ⟨_, n, by rw [rx.str], hn, h1, c.vint h2⟩
  · exact h.elim
theorem cr_min2 (hc : X.calm = true) : CallR X (.builtin "min") (rCall X.K (biD .min2)) := cr_on2' (call_min2 hc) fun H x y Q W N d e R b c rx ry h => by
  unfold ints2 at h
  split at h
  · exact ⟨_, _, by rw [rx.int, ry.int], c.vint h⟩
  · exact h.elim
theorem cr_max2 (hc : X.calm = true) : CallR X (.builtin "max") (rCall X.K (biD .max2)) := cr_on2' (call_max2 hc) fun H x y Q W N d e R b c rx ry h => by
  unfold ints2 at h
  split at h
  · exact ⟨_, _, by rw [rx.int, ry.int], c.vint h⟩
  · exact h.elim
/-! ### lists and tuples read as data -/
theorem each_vals {h : Heap} : ∀ {us : List Value} {ds : List D} {as : List Addr}, ReadsAll h us ds as → EachIs (fun v d => ∃ as, Reads h v d as) us ds
  | _, _, _, .nil => .nil
  | _, _, _, .cons h1 h2 => .cons ⟨_, h1⟩ (each_vals h2)
theorem each_pair {K : PySem.W.Frag} {W : Wd} {N : Addr → Prop} {H : Hp} : ∀ {us : List Value} {vs : List V} {ds : List D}, Vals vs us → RepL K W N H vs ds → EachIs (fun u (p : V × D) => RelV p.1 u ∧ Rep K W N H p.1 p.2) us (vs.zip ds)
  | _, _, [], .nil, .nil => .nil
  | _, _, _ :: _, .cons r1 r2, .cons h1 h2 => .cons ⟨r1, h1⟩ (each_pair r2 h2)
theorem each_back {K : PySem.W.Frag} {W : Wd} {N : Addr → Prop} {H : Hp} : ∀ {us : List Value} {ps : List (V × D)}, EachIs (fun u (p : V × D) => RelV p.1 u ∧ Rep K W N H p.1 p.2) us ps → Vals (ps.map (·.1)) us ∧ RepL K W N H (ps.map (·.1)) (ps.map (·.2))
  | _, _, .nil => ⟨.nil, .nil⟩
  | _, _, .cons h1 h2 => ⟨.cons h1.1 (each_back h2).1, .cons h1.2 (each_back h2).2⟩
theorem RepL.zip_snd {K : PySem.W.Frag} {W : Wd} {N : Addr → Prop} {H : Hp} : ∀ {ds : List D} {vs : List V}, RepL K W N H vs ds → (vs.zip ds).map (·.2) = ds
  | [], _, .nil => rfl
  | _ :: _, _, .cons _ h2 => by rw [List.zip_cons_cons, List.map_cons, h2.zip_snd]
theorem sort_pairs (ps : List (V × D)) : (ps.mergeSort (dataLe false (fun p => p.2))).map (·.2) = (ps.map (·.2)).mergeSort (dataLe false id) :=
  List.map_mergeSort fun a _ b _ => rfl
theorem each_reads_pairs {h : Heap} : ∀ {us : List Value} {ps : List (V × D)} {as : List Addr}, us.length = ps.length → ReadsAll h us (ps.map (·.2)) as → EachIs (fun v (p : V × D) => ∃ as, Reads h v p.2 as) us ps
  | [], [], _, _, _ => .nil
  | u :: us, p :: ps, _, e, r => by
    have r' : ReadsAll h (u :: us) (p.2 :: ps.map (·.2)) _ := r
    cases r' with
    | cons h1 h2 => exact .cons ⟨_, h1⟩ (each_reads_pairs (by simpa using e) h2)
  | [], _ :: _, _, e, _ => by simp at e
  | _ :: _, [], _, e, _ => by simp at e
theorem plainAll_of : ∀ {ds : List D}, (∀ d, d ∈ ds → d.plain = true) → PyData.plainAll ds = true
  | [], _ => rfl
  | d :: ds, h => by
    simp only [PyData.plainAll, Bool.and_eq_true]
    exact ⟨h d List.mem_cons_self, plainAll_of fun x hx => h x (List.mem_cons_of_mem _ hx)⟩
theorem depthAll_of {n : Nat} : ∀ {ds : List D}, (∀ d, d ∈ ds → d.depth ≤ n) → PyData.depthAll ds ≤ n
  | [], _ => by simp [PyData.depthAll]
  | d :: ds, h => by
    simp only [PyData.depthAll]
    have h1 := h d List.mem_cons_self
    have h2 := depthAll_of fun x hx => h x (List.mem_cons_of_mem _ hx)
    omega
theorem sort_out {K : PySem.W.Frag} {W : Wd} {N : Addr → Prop} {H : Hp} {vs : List V} {ds : List D} {us : List Value} {h' : Heap} {as : List Addr} (hk : sortable ds) (rv : Vals vs us) (l : RepL K W N H vs ds) (ra : ReadsAll h' us ds as) :
    ∃ ws, Vals ws (sortVals (dataKind h' ds) false us us) ∧ RepL K W N H ws (sortD ds) := by
  have e1 := l.zip_snd
  have hl : us.length = (vs.zip ds).length := by rw [List.length_zip, ← rv.length, l.length, Nat.min_self]
  have hal : AllAlike ((vs.zip ds).map (·.2)) := by rw [e1]; exact hk.1
  have q := sortVals_data (R := fun u (p : V × D) => RelV p.1 u ∧ Rep K W N H p.1 p.2) (enc := fun p => p.2) (h' := h') false (each_pair rv l) (each_reads_pairs hl (by rw [e1]; exact ra)) hal
  rw [e1] at q
  obtain ⟨h1, h2⟩ := each_back q
  rw [sort_pairs, e1] at h2
  exact ⟨_, h1, h2⟩

/-! ### the items of a tuple -/
section
variable {prog : Program} {w : World} {A : Around} {E : Value → Shared → Prop} {s : Shared}
theorem collect_tuple {l : Addr} {vs : List Value} {Q : List Value → Shared → Prop} (hl : s.heap.IsTuple l vs.toArray)
    (h : Q vs { s with heap := (s.heap.push (seqObj "list" #[] 0)).update s.heap.objs.size (Obj.mapSeq (· ++ vs.toArray)) }) (hsz : vs.length ≤ sizeLine) :
    wpAny (model prog w) A (collect (.ref l)) Q E s := by
  obtain ⟨o, ho, hc, n, hd⟩ := id hl
  unfold collect
  refine wpAny_bind (wpAny_runValue (codeAny_builtin entry_proto_collect' ?_))
  show wpAny _ _ (do again (.builtin "list.__iadd__" ⟨[← newList [], .ref l], []⟩)) _ _ s
  refine wpAny_bind (wpAny_newList (wpAny_pure ⟨Code.quiet_builtin _ (by decide +kernel), codeAny_builtin entry_list_iadd' ?_⟩))
  show wpAny _ _ (Builtin.List.listExtendWith (.ref s.heap.objs.size) (.ref l) (.ref s.heap.objs.size)) _ _ { s with heap := s.heap.push (seqObj "list" #[] 0) }
  unfold Builtin.List.listExtendWith
  have ho' : (s.heap.push (seqObj "list" #[] 0)).get? l = some o := Heap.get?_push_of_some _ ho
  refine wpAny_bind (wpAny_typeOf (T := "tuple") ⟨o, ho', hc⟩ ?_)
  have ht : (Value.type "tuple" == Value.type "tuple") = true := by rfl
  rw [if_pos (by rw [ht]; simp)]
  refine wpAny_bind (listItems_at ho' hd ?_)
  refine wpAny_bind (listItems_at (xs := #[]) (n := 0) (Heap.get?_push_size _ rfl) rfl ?_)
  rw [if_neg (by simp)]
  refine wpAny_bind (listUpdate_at (xs := #[]) (n := 0) (Heap.get?_push_size _ rfl) rfl ?_ (Nat.zero_le _) (by show (#[] ++ vs.toArray).size ≤ sizeLine + 1; simp only [Array.size_append, List.size_toArray, List.length_nil]; omega))
  refine wpAny_pure ?_
  show wpAny (model prog w) A (do
      let o ← load s.heap.objs.size
      match o.data with
      | .seq xs _ => pure xs.toList
      | _ => unsupported "internal:collect") Q E { s with heap := (s.heap.push (seqObj "list" #[] 0)).update s.heap.objs.size (Obj.mapSeq (· ++ vs.toArray)) }
  refine wpAny_bind (wpAny_load (get?_update_seq (Heap.get?_push_size _ rfl) _) ?_)
  show wpAny _ _ (pure ((#[] : Array Value) ++ vs.toArray).toList) Q E _
  rw [show ((#[] : Array Value) ++ vs.toArray).toList = vs by simp]
  exact wpAny_pure h
theorem sorted_vals_tuple {κ : PyProof.Rows.KeyKind} {l : Addr} {vs : List Value} {Q : Value → Shared → Prop} (hl : s.heap.IsTuple l vs.toArray) (S : SortsAt prog w A.in1.in1 { s with heap := sortingHeap (copyHeap s.heap vs) (s.heap.objs.size + 1) vs } κ vs) (hL : vs.length ≤ sizeLine)
    (h : Q (.ref (s.heap.objs.size + 1)) { s with heap := sortedAll s.heap vs (sortVals κ false vs vs).toArray }) : wpAny (model prog w) A (call (.builtin "sorted") [.ref l]) Q E s := by
  refine call_function_entry_kw kind_sorted plain_sorted entry_sorted (args_sorted1 _) ?_
  unfold Builtin.«sorted»
  refine wpAny_bind (m := checkCount "sorted" 1 1 _) (wpAny_pure ?_)
  refine wpAny_bind (collect_tuple hl ?_ hL)
  refine wpAny_bind (wpAny_newList ?_ hL)
  have hsz : ((s.heap.push (seqObj "list" #[] 0)).update s.heap.objs.size (Obj.mapSeq (· ++ vs.toArray))).objs.size = s.heap.objs.size + 1 := by
    rw [Heap.size_update, size_push']
  show wpAny _ _ _ _ _ { s with heap := copyHeap s.heap vs }
  rw [hsz]
  refine wpAny_bind (wpAny_holding (wpAny_call_entry_kw slot_list_sort ⟨_, copyHeap_at s.heap vs, rfl⟩ entry_list_sort ?body (args_list_sort _)))
  case body =>
    show wpAny (model prog w) A.in1.in1 (Builtin.«list.sort» ⟨[.ref (s.heap.objs.size + 1)], []⟩) _ _ _
    refine wpAny_mono (list_sort_vals (s := { s with heap := copyHeap s.heap vs }) (P := fun f s' => f = .done (.ret .none) ∧ Q (.ref (s.heap.objs.size + 1)) s') (copyHeap_at s.heap vs) S hL ⟨rfl, h⟩) (fun f s' hf => ?_) fun _ _ e => e
    obtain ⟨rfl, hq⟩ := hf
    exact ⟨_, rfl, wpAny_pure ⟨_, rfl, hq⟩⟩
end
end
end Ad
namespace Ad
open PySem PySem.Calls PySem.W PySem.SeqAt PySem.Spec PyProof.Rows L2
section
variable {X : Cx}
/-- the items on the heap, and what they read as -/
theorem RepL.reads' {pins : List (Addr × Obj)} {σ : L2.St} {H : Hp} {s : Shared} {W : Wd} {N : Addr → Prop} (I : Inv X pins σ H s) {ds : List D} {vs : List V} {us : List Value} (p : ∀ d, d ∈ ds → d.plain = true) (h : RepL X.K W N H vs ds) (r : Vals vs us) : ∃ as, ReadsAll s.heap us ds as := by
  obtain ⟨as, q, _⟩ := RepL.reads I ds vs us (okAll_plain _ (plainAll_of p)) h r
  exact ⟨as, q⟩
theorem cr_sorted (hu : X.A.units + 66 < cLine) : CallR X (.builtin "sorted") (rCall X.K (biD .sorted)) := cr_on1 fun pins s σ H x u Q W N d R b I ru c rx h => by
  have h : (itemsOf d >>= fun xs => M.grd (sortable xs) >>= fun _ => pure (.list (sortD xs)) : M D).run (VQ X.K W N H Q) R b := h
  obtain ⟨ds, a, vs, ⟨hk, q⟩, rfl, z, l, hx⟩ := rx.items h
  obtain rfl : u = Value.ref a := ru
  have hx : (d = .list ds ∧ SqL X.K H a vs) ∨ (d = .tuple ds ∧ SqT X.K H a vs ∧ TupN X.K N H a vs) := by
    rcases hx with ⟨e, hx⟩ | hx
    · exact .inl ⟨e, SqL.of hx⟩
    · exact .inr hx
  have hpl : ∀ d, d ∈ ds → d.plain = true := fun d hd => (hk.2.1 d hd).2.2
  have fin : ∀ (its : List Value), Vals vs its → ∀ as, ReadsAll (sortingHeap (copyHeap s.heap its) (s.heap.objs.size + 1) its) its ds as →
      EP X pins σ Q (.ref (s.heap.objs.size + 1)) { s with heap := sortedAll s.heap its (sortVals (dataKind (sortingHeap (copyHeap s.heap its) (s.heap.objs.size + 1) its) ds) false its its).toArray } := by
    intro its rv as ra
    obtain ⟨ws, w1, w2⟩ := sort_out hk rv l ra
    obtain ⟨ep, he'⟩ := PyProof.Rows.sortedAll_at s.heap its (sortVals (dataKind (sortingHeap (copyHeap s.heap its) (s.heap.objs.size + 1) its) ds) false its its).toArray
    have hlen : (sortD ds).length ≤ sizeLine := by unfold sortD; rw [List.length_mergeSort]; exact z
    refine ⟨.ref _, upd H (s.heap.objs.size + 1) (.lst ws), I.laid (t' := s.toks) (fun _ _ => PyProof.Rows.sortedAll_old) (Nat.le_succ _) ⟨by rw [w2.length]; exact hlen, _, ep, w1, he'⟩, rfl, ?_⟩
    exact c.vlst w2 hlen q _ (I.hok.fresh (Nat.le_succ _))
  rcases hx with ⟨_, hs⟩ | ⟨_, hs, _⟩
  · obtain ⟨its, rv, hl, hz⟩ := I.list hs
    obtain ⟨as, ra⟩ := RepL.reads' I hpl l rv
    have ra' : ReadsAll (sortingHeap (copyHeap s.heap its) (s.heap.objs.size + 1) its) its ds as := PyProof.Rows.ReadsAll.keeps (fun _ _ => sorting_copy_old) ra
    exact sorted_vals hl.isList (sorts_data (s := { s with heap := sortingHeap (copyHeap s.heap its) (s.heap.objs.size + 1) its }) (each_vals ra') hk (by show X.A.units + 1 + 1 + 41 < cLine; omega)) (by rw [← rv.length]; exact hz) (fin its rv as ra')
  · obtain ⟨its, rv, hl, hz⟩ := I.tuple hs
    obtain ⟨as, ra⟩ := RepL.reads' I hpl l rv
    have ra' : ReadsAll (sortingHeap (copyHeap s.heap its) (s.heap.objs.size + 1) its) its ds as := PyProof.Rows.ReadsAll.keeps (fun _ _ => sorting_copy_old) ra
    exact sorted_vals_tuple hl (sorts_data (s := { s with heap := sortingHeap (copyHeap s.heap its) (s.heap.objs.size + 1) its }) (each_vals ra') hk (by show X.A.units + 1 + 1 + 41 < cLine; omega)) (by rw [← rv.length]; exact hz) (fin its rv as ra')
end
end Ad
namespace Ad
open PySem PySem.Spec PyProof.Rows L2

/-! ### tables of sets: every slot is met -/
/-- the slots that x -> 5 x + 1 meets, from x on -/
def orbN (m : Nat) : Nat → Nat → List Nat
  | 0, _ => []
  | n + 1, x => x :: orbN m n ((x * 5 + 1) % (m + 1))
def endN (m : Nat) : Nat → Nat → Nat
  | 0, x => x
  | n + 1, x => endN m n ((x * 5 + 1) % (m + 1))
theorem orb_mem (m : Nat) : ∀ (n x j : Nat), j ∈ orbN m n x → ∃ b, b < n ∧ endN m b x = j
  | n + 1, x, j, h => by
    rcases List.mem_cons.mp h with rfl | h
    · exact ⟨0, Nat.succ_pos _, rfl⟩
    · obtain ⟨b, hb, e⟩ := orb_mem m n _ j h
      exact ⟨b + 1, Nat.succ_lt_succ hb, e⟩
theorem end_add (m : Nat) : ∀ (a b x : Nat), endN m (a + b) x = endN m b (endN m a x)
  | 0, b, x => by rw [Nat.zero_add]; rfl
  | a + 1, b, x => by
    rw [show a + 1 + b = (a + b) + 1 by omega]
    exact end_add m a b _
theorem end_lcg (m x : Nat) : ∀ k, endN m k x = lcgI m x k
  | 0 => rfl
  | k + 1 => by
    rw [end_add m k 1 x, end_lcg m x k]
    rfl
/-- one round meets all, and ends where it began -/
def roundOk (m : Nat) : Bool := (List.range (m + 1)).all (fun j => (orbN m (m + 1) 0).elem j) && (endN m (m + 1) 0 == 0)
theorem round_from {m : Nat} (h : roundOk m = true) {i j : Nat} (hi : i ≤ m) (hj : j ≤ m) : ∃ k, k ≤ m ∧ lcgI m i k = j := by
  obtain ⟨h1, h2⟩ := Bool.and_eq_true_iff.mp h
  have at0 : ∀ j, j ≤ m → ∃ b, b ≤ m ∧ endN m b 0 = j := fun j hj => by
    have q := List.all_eq_true.mp h1 j (List.mem_range.mpr (Nat.lt_succ_of_le hj))
    obtain ⟨b, hb, e⟩ := orb_mem m (m + 1) 0 j (List.elem_iff.mp q)
    exact ⟨b, Nat.le_of_lt_succ hb, e⟩
  have back : endN m (m + 1) 0 = 0 := beq_iff_eq.mp h2
  obtain ⟨a, ha, ea⟩ := at0 i hi
  obtain ⟨b, hb, eb⟩ := at0 j hj
  by_cases c : a ≤ b
  · refine ⟨b - a, by omega, ?_⟩
    rw [← end_lcg, ← ea, ← end_add, show a + (b - a) = b by omega, eb]
  · refine ⟨m + 1 + b - a, by omega, ?_⟩
    rw [← end_lcg, ← ea, ← end_add, show a + (m + 1 + b - a) = m + 1 + b by omega, end_add, back, eb]
/-- a mask that serves -/
structure Msk (m : Nat) : Prop where
  odd : m % 2 = 1
  small : m ≤ 511
  rnd : roundOk m = true
  four : m = 7 ∨ m = 31 ∨ m = 127 ∨ m = 511
theorem msk7 : Msk 7 := ⟨rfl, by decide, by decide +kernel, .inl rfl⟩
theorem msk31 : Msk 31 := ⟨rfl, by decide, by decide +kernel, .inr (.inl rfl)⟩
theorem msk127 : Msk 127 := ⟨rfl, by decide, by decide +kernel, .inr (.inr (.inl rfl))⟩
theorem msk511 : Msk 511 := ⟨rfl, by decide, by decide +kernel, .inr (.inr (.inr rfl))⟩
theorem Msk.run {m : Nat} (M : Msk m) (h : Int) {j : Nat} (hj : j ≤ m) : ∃ n, n ≤ m + 12 ∧ runI m (SetTable.bits h) n = j := by
  obtain ⟨k, hk, e⟩ := round_from M.rnd (runI_le m (SetTable.bits h) 12) hj
  refine ⟨12 + k, by omega, ?_⟩
  rw [runI_tail (bits_lt h), e]
theorem Msk.way {m : Nat} (M : Msk m) (h : Int) {j : Nat} (hj : j ≤ m) : ∃ k, k < 10 * SetTable.turns m ∧ way m h k = j := by
  obtain ⟨n, hn, e⟩ := M.run h hj
  obtain ⟨k, hk, f⟩ := run_nth m (SetTable.bits h) n
  refine ⟨k, ?_, ?_⟩
  · unfold SetTable.turns
    omega
  · show (nth m (runAt m (SetTable.bits h % (m + 1)) (SetTable.bits h)) k).j = j
    rw [f]
    exact e
theorem way_in (m : Nat) (h : Int) (k : Nat) : way m h k ≤ m := by
  have s : SetTable.bits h % (m + 1) ≤ m := Nat.le_of_lt_succ (Nat.mod_lt _ (Nat.succ_pos m))
  have e := (runEnd_bd s).1
  have g := (runEnd_bd s).2.1
  have q : (runAt m (SetTable.bits h % (m + 1)) (SetTable.bits h)).j + (runAt m (SetTable.bits h % (m + 1)) (SetTable.bits h)).more ≤ m := by
    show SetTable.bits h % (m + 1) + (SetTable.runEnd m (SetTable.bits h % (m + 1)) - SetTable.bits h % (m + 1)) ≤ m
    omega
  exact Nat.le_trans (Nat.le_add_right _ _) (nth_in k _ q)

/-! ### a table whose slots are all found again -/
structure Tab (t : SetTable) (hs : List Int) : Prop where
  up : Ris t.place.toList
  clean : t.dummies = #[]
  len : t.place.size = hs.length
  msk : Msk t.mask
  low : ∀ x, x ∈ t.place.toList → x ≤ t.mask
  met : ∀ (i : Nat) (h : Int) (j : Nat), hs[i]? = some h → t.place.toList[i]? = some j → ∃ k, way t.mask h k = j ∧ ∀ q, q < k → way t.mask h q ∈ t.place.toList
theorem Tab.hole {t : SetTable} {hs : List Int} (T : Tab t hs) (hl : hs.length ≤ t.mask) (h : Int) : ∃ K, K < 10 * SetTable.turns t.mask ∧ way t.mask h K ∉ t.place.toList ∧ ∀ k, k < K → way t.mask h k ∈ t.place.toList := by
  obtain ⟨j, hj, out⟩ := st_missing t.place.toList (t.mask + 1) (by
    have := T.len
    rw [Array.length_toList]
    omega)
  obtain ⟨k, hk, e⟩ := T.msk.way h (Nat.le_of_lt_succ hj)
  obtain ⟨K, a, b, c⟩ := st_least (p := fun q => way t.mask h q ∉ t.place.toList) k (by
    show way t.mask h k ∉ t.place.toList
    rw [e]
    exact out)
  exact ⟨K, Nat.lt_of_le_of_lt a hk, b, fun q hq => Classical.byContradiction fun z => c q hq z⟩
theorem Tab.ahead {t : SetTable} {hs : List Int} (T : Tab t hs) {h : Int} {K i j : Nat} (hK : way t.mask h K ∉ t.place.toList) (hi : hs[i]? = some h) (hj : t.place.toList[i]? = some j) : ∃ k, k < K ∧ way t.mask h k = j := by
  obtain ⟨k, e, before⟩ := T.met i h j hi hj
  refine ⟨k, Nat.lt_of_not_le fun c => ?_, e⟩
  rcases Nat.lt_or_eq_of_le c with c | c
  · exact hK (before K c)
  · subst c
    exact hK (e ▸ List.mem_of_getElem? hj)
/-- where the new one stands -/
abbrev spot (t : SetTable) (j : Nat) : Nat := SetTable.below t.place j
theorem Tab.put {t : SetTable} {hs : List Int} (T : Tab t hs) {h : Int} {j : Nat} (hj : j ∉ t.place.toList) {K : Nat} (eK : way t.mask h K = j) (hb : ∀ k, k < K → way t.mask h k ∈ t.place.toList) :
    spot t j ≤ hs.length ∧ Tab (t.put j).1 (hs.take (spot t j) ++ h :: hs.drop (spot t j)) := by
  obtain ⟨cut, _, _⟩ := below_cut T.up j
  have le1 : spot t j ≤ t.place.toList.length := by
    rw [Array.length_toList]
    exact cut
  have le2 : spot t j ≤ hs.length := by
    rw [← T.len]
    exact cut
  have fresh : t.place[spot t j]? ≠ some j := fun e => hj (by
    rw [← Array.getElem?_toList] at e
    exact List.mem_of_getElem? e)
  have pl := put_place t j
  have more : ∀ x, x ∈ t.place.toList → x ∈ (t.put j).1.place.toList := fun x hx => by
    rw [pl]
    exact mem_ins.mpr (Or.inr hx)
  refine ⟨le2, ris_insert T.up fresh, put_dm T.clean j, ?_, T.msk, fun x hx => ?_, fun i h' j' e1 e2 => ?_⟩
  · rw [← Array.length_toList, pl, len_ins _ le1, len_ins _ le2, Array.length_toList, T.len]
  · rw [pl] at hx
    rcases mem_ins.mp hx with rfl | z
    · rw [← eK]
      exact way_in _ _ _
    · exact T.low x z
  · rw [tins_get hs le2] at e1
    rw [pl, tins_get _ le1] at e2
    have old : ∀ i0, hs[i0]? = some h' → t.place.toList[i0]? = some j' → ∃ k, way t.mask h' k = j' ∧ ∀ q, q < k → way t.mask h' q ∈ (t.put j).1.place.toList := fun i0 f1 f2 => by
      obtain ⟨k, a, b⟩ := T.met i0 h' j' f1 f2
      exact ⟨k, a, fun q hq => more _ (b q hq)⟩
    show ∃ k, way t.mask h' k = j' ∧ ∀ q, q < k → way t.mask h' q ∈ (t.put j).1.place.toList
    by_cases c : i < spot t j
    · rw [if_pos c] at e1 e2
      exact old i e1 e2
    · rw [if_neg c] at e1 e2
      by_cases d : i = spot t j
      · rw [if_pos d] at e1 e2
        cases e1
        cases e2
        exact ⟨K, eK, fun q hq => more _ (hb q hq)⟩
      · rw [if_neg d] at e1 e2
        exact old (i - 1) e1 e2
/-! ### laid anew -/
theorem free_at {m : Nat} (M : Msk m) (owner : Array (Option Nat)) (h : Int) {j : Nat} (hj : j ≤ m) (hf : oAt owner j = none) :
    ∃ K, SetTable.layClean.free m owner (SetTable.turns m) (SetTable.bits h % (m + 1)) (SetTable.bits h) = some (way m h K) ∧ oAt owner (way m h K) = none ∧ ∀ k, k < K → oAt owner (way m h k) ≠ none := by
  obtain ⟨n, hn, e⟩ := M.run h hj
  generalize hs : off m (SetTable.bits h % (m + 1)) (SetTable.bits h) n = N
  have wN : way m h N = j := by
    rw [← hs]
    show (nth m (runAt m (SetTable.bits h % (m + 1)) (SetTable.bits h)) (off m (SetTable.bits h % (m + 1)) (SetTable.bits h) n)).j = j
    rw [nth_off, itL_run]
    exact e
  obtain ⟨K, a, b, c⟩ := st_least (p := fun k => oAt owner (way m h k) = none) N (by
    show oAt owner (way m h N) = none
    rw [wN, hf])
  refine ⟨K, free_spec m owner (SetTable.turns m) n _ _ K (by unfold SetTable.turns; omega) (by rw [hs]; exact a) (fun k hk => ?_) ?_, b, c⟩
  · exact Option.isNone_eq_false_iff.mpr (Option.isSome_iff_ne_none.mpr (c k hk))
  · exact Option.isNone_iff_eq_none.mpr b
theorem own_more {m : Nat} (M : Msk m) {done : List Int} {owner : Array (Option Nat)} (W : Own m done owner) (hl : done.length ≤ m) (h : Int) :
    ∃ j, SetTable.layClean.free m owner (SetTable.turns m) (SetTable.bits h % (m + 1)) (SetTable.bits h) = some j ∧ Own m (done ++ [h]) (owner.setIfInBounds j (some done.length)) := by
  obtain ⟨ps, lp, ip⟩ := W.ps
  obtain ⟨v, hv, nv⟩ := st_missing ps (m + 1) (by omega)
  have ev : oAt owner v = none := Classical.byContradiction fun z => nv (ip v (Nat.le_of_lt_succ hv) z)
  obtain ⟨K, a, b, c⟩ := free_at M owner h (Nat.le_of_lt_succ hv) ev
  generalize ew : way m h K = u at a b
  have hu : u ≤ m := ew ▸ way_in m h K
  have hus : u < owner.size := by
    have := W.sz
    omega
  have eu := oAt_set_self (some done.length) hus
  have keep : ∀ i, oAt owner i ≠ none → oAt (owner.setIfInBounds u (some done.length)) i ≠ none := fun i hi => by
    by_cases z : i = u
    · subst z
      rw [eu]
      exact Option.some_ne_none _
    · rwa [oAt_set_ne _ z]
  refine ⟨u, a, ?_, fun j k hj e => ?_, fun k hk => ?_, u :: ps, ?_, fun j hj e => ?_⟩
  · rw [Array.size_setIfInBounds]
    exact W.sz
  · by_cases z : j = u
    · subst z
      rw [eu] at e
      cases e
      exact ⟨h, K, List.getElem?_concat_length, ew, fun q hq => keep _ (c q hq)⟩
    · rw [oAt_set_ne _ z] at e
      obtain ⟨h', K', f1, f2, f3⟩ := W.at_ j k hj e
      exact ⟨h', K', (List.getElem?_append_left (List.getElem?_eq_some_iff.mp f1).1).trans f1, f2, fun q hq => keep _ (f3 q hq)⟩
  · rw [List.length_append] at hk
    have hk : k < done.length + 1 := hk
    by_cases z : k = done.length
    · subst z
      exact ⟨u, hu, eu⟩
    · obtain ⟨j, hj, e⟩ := W.all k (by omega)
      refine ⟨j, hj, ?_⟩
      rw [oAt_set_ne _ fun y => by rw [y, b] at e; cases e]
      exact e
  · rw [List.length_cons, List.length_append, lp]
    rfl
  · by_cases z : j = u
    · exact z ▸ List.mem_cons_self
    · rw [oAt_set_ne _ z] at e
      exact List.mem_cons_of_mem _ (ip j hj e)
theorem own_all {m : Nat} (M : Msk m) : ∀ (rest done : List Int) (owner : Array (Option Nat)), Own m done owner → done.length + rest.length ≤ m →
    ∃ o, rest.foldl (stepF m) (some (owner, done.length)) = some (o, done.length + rest.length) ∧ Own m (done ++ rest) o
  | [], done, owner, W, _ => ⟨owner, rfl, (List.append_nil done).symm ▸ W⟩
  | h :: rest, done, owner, W, hl => by
    have hl : done.length + (rest.length + 1) ≤ m := hl
    obtain ⟨j, e, W1⟩ := own_more M W (by omega) h
    obtain ⟨o, f, W2⟩ := own_all M rest (done ++ [h]) _ W1 (by
      rw [List.length_append]
      show done.length + 1 + rest.length ≤ m
      omega)
    refine ⟨o, ?_, ?_⟩
    · rw [List.foldl_cons, stepF_some e]
      rw [List.length_append] at f
      have f : rest.foldl (stepF m) (some (owner.setIfInBounds j (some done.length), done.length + 1)) = some (o, done.length + 1 + rest.length) := f
      rw [f, List.length_cons, show done.length + 1 + rest.length = done.length + (rest.length + 1) by omega]
    · rwa [List.append_assoc] at W2
end Ad
namespace Ad
open PySem PySem.Spec PyProof.Rows L2

theorem lay_all {m : Nat} (M : Msk m) {hs : Array Int} (hn : hs.size ≤ m) : ∃ o, SetTable.layClean m hs = some o ∧ Own m hs.toList o := by
  obtain ⟨o, f, W⟩ := own_all M hs.toList [] _ (Own.init m) (by
    rw [Array.length_toList]
    exact (Nat.zero_add _).symm ▸ hn)
  refine ⟨o, ?_, W⟩
  rw [layClean_eq]
  exact congrArg (Option.map Prod.fst) f
theorem relaid_tab (t : SetTable) {hs : Array Int} {wanted m : Nat} (hw : SetTable.sizeAbove wanted - 1 = m) (M : Msk m) (hn : hs.size ≤ m) :
    ∃ t' order, t.relaid hs wanted = some (t', order) ∧ order.toList.Perm (List.range hs.size) ∧ Tab t' (order.toList.map fun i => hs.getD i 0) ∧ t'.mask = m ∧ t'.led = t.led ∧ t'.plain = t.plain := by
  obtain ⟨o, e, W⟩ := lay_all M hn
  have he : t.relaid hs wanted = some (tabOf t m o, ((liveOf m o).map (·.2)).toArray) := by
    rw [relaid_eq, hw, e]
    rfl
  obtain ⟨up, inr⟩ : Ris ((liveOf m o).map (·.1)) ∧ ∀ x, x ∈ (liveOf m o).map (·.1) → x ∈ List.range (m + 1) := ris_live (fun j => o.getD j none) (List.range (m + 1)) List.pairwise_lt_range
  have live : ∀ {j k}, (j, k) ∈ liveOf m o ↔ j ≤ m ∧ oAt o j = some k := fun {j k} => mem_live W.sz
  have allk : ∀ k, k < hs.size → k ∈ (liveOf m o).map (·.2) := fun k hk => by
    obtain ⟨j, b1, b2⟩ := W.all k (by rw [Array.length_toList]; exact hk)
    exact List.mem_map.mpr ⟨(j, k), live.mpr ⟨b1, b2⟩, rfl⟩
  have count : (liveOf m o).length = hs.size := by
    obtain ⟨ps, lp, ip⟩ := W.ps
    have le : ((liveOf m o).map (·.1)).length ≤ ps.length := nat_nodup_len _ ps (up.imp fun z => Nat.ne_of_lt z) fun x hx => by
      obtain ⟨⟨y, k⟩, hq, rfl⟩ := List.mem_map.mp hx
      obtain ⟨b1, b2⟩ := live.mp hq
      exact ip y b1 (by rw [b2]; exact Option.some_ne_none k)
    have ge : (List.range hs.size).length ≤ ((liveOf m o).map (·.2)).length := nat_nodup_len _ _ List.nodup_range fun k hk => allk k (List.mem_range.mp hk)
    rw [List.length_map] at le ge
    rw [List.length_range] at ge
    have lp : ps.length = hs.size := lp.trans Array.length_toList
    omega
  refine ⟨_, _, he, perm_range hs.size _ (by show ((liveOf m o).map (·.2)).length = _; rw [List.length_map, count]) allk, ⟨up, rfl, ?_, M, fun x hx => Nat.le_of_lt_succ (List.mem_range.mp (inr x hx)), fun i h j e1 e2 => ?_⟩, rfl, rfl, rfl⟩
  · show ((liveOf m o).map (·.1)).toArray.size = _
    simp only [List.size_toArray, List.length_map]
  · have e1 : (((liveOf m o).map (·.2)).map fun i => hs.getD i 0)[i]? = some h := e1
    have e2 : ((liveOf m o).map (·.1))[i]? = some j := e2
    rw [List.map_map, List.getElem?_map] at e1
    rw [List.getElem?_map] at e2
    obtain ⟨⟨y, k⟩, eq, rfl⟩ := Option.map_eq_some_iff.mp e2
    rw [eq] at e1
    have eh : hs.getD k 0 = h := Option.some.inj e1
    obtain ⟨b1, b2⟩ := live.mp (List.mem_of_getElem? eq)
    obtain ⟨h0, K, a1, a2, a3⟩ := W.at_ y k b1 b2
    have : hs.getD k 0 = h0 := by
      rw [Array.getElem?_toList] at a1
      rw [Array.getD_eq_getD_getElem?, a1]
      rfl
    have same : h0 = h := this.symm.trans eh
    subst same
    refine ⟨K, a2, fun q hq => ?_⟩
    show way m h0 q ∈ (liveOf m o).map (·.1)
    obtain ⟨k2, e3⟩ := Option.ne_none_iff_exists'.mp (a3 q hq)
    exact List.mem_map.mpr ⟨(way m h0 q, k2), live.mpr ⟨way_in m h0 q, e3⟩, rfl⟩
theorem grown_5 : SetTable.sizeAbove (SetTable.grown 5) = 32 := size_20
theorem grown_19 : SetTable.sizeAbove (SetTable.grown 19) = 128 := size_76
theorem grown_77 : SetTable.sizeAbove (SetTable.grown 77) = 512 := by decide +kernel

/-! ### sets of tuples of ints, of up to 306 -/
abbrev AK := Addr × List Int
structure SetG (P : Program) (w : World) (h : Heap) (a : Addr) (L : List AK) (es : Array (Int × Value)) (ep : Nat) (t : SetTable) : Prop where
  obj : ∃ o, h.get? a = some o ∧ o.ExactSet ∧ o.data = .set es ep t
  row : es.toList = rowsOf P w L
  tb : Tab t (L.map fun p => thash P w p.2)
  one : (L.map (·.2)).Nodup
  keys : ∀ p, p ∈ L → IsT P w h p.2 p.1
  pl : t.plain = true
  ld : w.params.followText "set-order" = true ∨ t.led = true
  space : L.length * 5 < t.mask * 3
section
variable {P : Program} {w : World} {A : Around} {E : Value → Shared → Prop} {s : Shared}
variable {a : Addr} {L : List AK} {es : Array (Int × Value)} {ep : Nat} {t : SetTable}
theorem rows_len (L : List AK) : (rowsOf P w L).length = L.length := List.length_map _
theorem es_len {es : Array (Int × Value)} {L : List AK} (h : es.toList = rowsOf P w L) : es.size = L.length := by
  rw [← Array.length_toList, h, rows_len]
theorem es_at {es : Array (Int × Value)} {L : List AK} (h : es.toList = rowsOf P w L) {i : Nat} {p : AK} (e : L[i]? = some p) : es[i]? = some (thash P w p.2, Value.ref p.1) := by
  rw [← Array.getElem?_toList, h, rowsOf, List.getElem?_map, e]
  rfl
theorem tab_fits {hs : List Int} (T : Tab t hs) {n : Nat} (hn : n = hs.length) (hr : hs.length ≤ t.mask) : t.fits n = true := by
  have := T.len
  unfold SetTable.fits SetTable.fill
  rw [T.clean]
  simp only [Bool.and_eq_true, beq_iff_eq, decide_eq_true_eq]
  exact ⟨by omega, by show t.place.size + 0 ≤ t.mask; omega⟩
theorem SetG.fit (R : SetG P w s.heap a L es ep t) : t.fits es.size = true := by
  have := R.space
  exact tab_fits R.tb (by rw [List.length_map]; exact es_len R.row) (by rw [List.length_map]; omega)
theorem nth_dummy (m : Nat) : ∀ (n : Nat) (p : SetTable.Probe), p.dummy = none → (nth m p n).dummy = none
  | 0, _, h => h
  | n + 1, p, h => nth_dummy m n (adv m p) (by
    unfold adv
    split
    · exact h
    · exact h)
/-- where a search starts -/
abbrev begin_ (m : Nat) (h : Int) : SetTable.Probe := runAt m (SetTable.bits h % (m + 1)) (SetTable.bits h)
/-- the search, from its c-th step on -/
theorem seek (R : SetG P w s.heap a L es ep t) {x : Addr} {k : List Int} (hx : IsT P w s.heap k x) (hu : A.units < cLine) {h : Int} (eh : thash P w k = h) {K : Nat} (hK : K < 10 * SetTable.turns t.mask)
    (out : way t.mask h K ∉ t.place.toList) (ins : ∀ c, c < K → way t.mask h c ∈ t.place.toList) {Q : SetFound → Shared → Prop}
    (yes : k ∈ L.map (·.2) → Q (.there none) s) (no : k ∉ L.map (·.2) → Q (.free (way t.mask h K) false) s) :
    ∀ (f c : Nat) (st : Option SetTable.Probe), st.getD (t.probeStart h) = nth t.mask (begin_ t.mask h) c → c ≤ K → K - c < f →
      (∀ (i : Nat) p, L[i]? = some p → p.2 = k → ∃ c', c ≤ c' ∧ c' < K ∧ t.place.toList[i]? = some (way t.mask h c')) →
      wpAny (model P w) A (setSearchFrom a (.ref x) h true f st) Q E s
  | 0, c, st, _, _, hf, _ => absurd hf (Nat.not_lt_zero _)
  | f + 1, c, st, hst, hc, hf, ahead => by
    obtain ⟨o, ho, ex, hd⟩ := R.obj
    rw [setSearchFrom_succ]
    refine wpAny_bind (wpAny_setState_of ho hd R.fit ?_)
    dsimp only
    refine wp_if_neg (by unfold SetTable.gaveWay; rw [R.tb.msk.odd]; decide) ?_
    try refine wpAny_bind (wpAny_pure ?_)
    have go : ∀ q, nth t.mask (nth t.mask (begin_ t.mask h) c) q = nth t.mask (begin_ t.mask h) (c + q) := fun q => (nth_add t.mask c _ q).symm
    have gj : ∀ q, (nth t.mask (nth t.mask (begin_ t.mask h) c) q).j = way t.mask h (c + q) := fun q => by rw [go]
    have hsh : ∀ (i : Nat) p, L[i]? = some p → (es[i]?.map (·.1)).getD 0 = thash P w p.2 := fun i p e => by
      rw [es_at R.row e]
      rfl
    have never : ∀ q : Nat, (∀ (k' i' : Nat), k' < q → t.place.toList[i']? = some (nth t.mask (nth t.mask (begin_ t.mask h) c) k').j → (es[i']?.map (·.1)).getD 0 ≠ h) → ∀ (i : Nat) (p : AK) (c' : Nat), L[i]? = some p → p.2 = k → c ≤ c' → c' < c + q → t.place.toList[i]? = some (way t.mask h c') → False := fun q hno i p c' e1 e2 e3 e4 e5 => by
      refine hno (c' - c) i (by omega) (by rw [gj, show c + (c' - c) = c' by omega]; exact e5) ?_
      rw [hsh i p e1, e2, eh]
    rcases go_spec t R.tb.up R.tb.clean (fun i => (es[i]?.map (·.1)).getD 0) h (10 * SetTable.turns t.mask) (K - c) _ (nth_dummy t.mask c _ rfl) (by omega) (fun q hq => by rw [gj]; exact ins _ (by omega)) (by rw [gj, show c + (K - c) = K by omega]; exact out) with ⟨q, i, hq, hi, _, hno, hp⟩ | ⟨hno, hp⟩
    · have hp : t.probe (fun i => (es[i]?.map (·.1)).getD 0) h (st.getD (t.probeStart h)) = some (.candidate (way t.mask h (c + q)) i (nth t.mask (begin_ t.mask h) (c + (q + 1)))) := by
        rw [hst, ← gj, ← go]
        exact hp
      rw [hp]
      dsimp only
      rw [gj] at hi
      have il : i < L.length := by
        have b := (List.getElem?_eq_some_iff.mp hi).1
        have := R.tb.len
        rw [Array.length_toList] at b
        rw [List.length_map] at this
        omega
      obtain ⟨p, ep'⟩ : ∃ p, L[i]? = some p := ⟨_, List.getElem?_eq_getElem il⟩
      have pin : p ∈ L := List.mem_of_getElem? ep'
      have rest : wpAny (model P w) A (searchRest a (.ref x) h true f es t (way t.mask h (c + q)) i (nth t.mask (begin_ t.mask h) (c + (q + 1)))) Q E s := by
        unfold searchRest
        rw [es_at R.row ep']
        dsimp only
        refine wpAny_bind (wpAny_holding (wpAny_eqBool_tuple hu (R.keys p pin) hx ?_))
        refine wpAny_bind (wpAny_setState_of ho hd R.fit ?_)
        dsimp only
        by_cases same : p.2 = k
        · exact wp_if_pos (by simp [same]) (wpAny_pure (yes (List.mem_map.mpr ⟨p, pin, same⟩)))
        · refine wp_if_neg (by simp [same]) ?_
          try refine wpAny_bind (wpAny_pure ?_)
          rw [sameMem]
          dsimp only
          have sl : t.slot (way t.mask h (c + q)) = .live i := slot_live R.tb.up hi
          simp only [if_true, sl, es_at R.row ep']
          refine wpAny_bind (wpAny_isSame_ref_self (wpAny_bind (wpAny_pure ?_)))
          simp only [if_true]
          refine wp_if_neg (by simp [same]) ?_
          refine seek R hx hu eh hK out ins yes no f (c + (q + 1)) _ rfl (by omega) (by omega) fun i0 p0 e1 e2 => ?_
          obtain ⟨c', a1, a2, a3⟩ := ahead i0 p0 e1 e2
          refine ⟨c', ?_, a2, a3⟩
          refine Nat.lt_of_not_le fun z => ?_
          rcases Nat.lt_or_eq_of_le z with z | z
          · exact never q hno i0 p0 c' e1 e2 a1 z a3
          · subst z
            have s0 := slot_live R.tb.up a3
            have s0 : SetTable.Slot.live i = .live i0 := sl.symm.trans s0
            injection s0 with s0
            subst s0
            rw [ep'] at e1
            cases e1
            exact same e2
      by_cases led : t.led = true
      · refine wp_if_neg (by simp [led]) ?_
        try refine wpAny_bind (wpAny_pure ?_)
        exact rest
      · refine wp_if_pos (by simp [led]) ?_
        refine wpAny_bind (seen_tup hx (fun y hy => ?_) ?_)
        · obtain ⟨e, he, rfl⟩ := List.mem_map.mp hy
          have he : e ∈ es.toList := by
            have := (show e ∈ es ∧ e.1 = h by simpa using he).1
            simpa using this
          rw [R.row] at he
          obtain ⟨p2, h2, rfl⟩ := List.mem_map.mp he
          exact ⟨p2.2, p2.1, rfl, R.keys p2 h2⟩
        · refine wp_if_neg (by decide) ?_
          try refine wpAny_bind (wpAny_pure ?_)
          exact rest
    · have hp : t.probe (fun i => (es[i]?.map (·.1)).getD 0) h (st.getD (t.probeStart h)) = some (.empty (way t.mask h K) none) := by
        have e2 := gj (K - c)
        rw [show c + (K - c) = K by omega] at e2
        rw [hst, ← e2]
        exact hp
      rw [hp]
      dsimp only
      refine wpAny_pure (no fun hm => ?_)
      obtain ⟨p0, h0, e2⟩ := List.mem_map.mp hm
      obtain ⟨i0, hi0⟩ := List.getElem?_of_mem h0
      obtain ⟨c', a1, a2, a3⟩ := ahead i0 p0 hi0 e2
      exact never (K - c) hno i0 p0 c' hi0 e2 a1 (by omega) a3
theorem seek_all (R : SetG P w s.heap a L es ep t) {x : Addr} {k : List Int} (hx : IsT P w s.heap k x) (hu : A.units < cLine) {Q : SetFound → Shared → Prop}
    (yes : k ∈ L.map (·.2) → Q (.there none) s)
    (no : ∀ j K, k ∉ L.map (·.2) → way t.mask (thash P w k) K = j → j ∉ t.place.toList → (∀ c, c < K → way t.mask (thash P w k) c ∈ t.place.toList) → Q (.free j false) s) :
    wpAny (model P w) A (setSearch a (.ref x) (thash P w k) true) Q E s := by
  have space := R.space
  have small := R.tb.msk.small
  obtain ⟨K, hK, out, ins⟩ := R.tb.hole (by rw [List.length_map]; omega) (thash P w k)
  unfold setSearch
  refine seek R hx hu rfl hK out ins yes (fun hn => no _ K hn rfl out ins) 100000 0 none rfl (Nat.zero_le K) (by
    have : 10 * SetTable.turns t.mask ≤ 100000 := by
      unfold SetTable.turns
      omega
    omega) fun i p hp e => ?_
  have e1 : (L.map fun p => thash P w p.2)[i]? = some (thash P w k) := by
    rw [List.getElem?_map, hp, ← e]
    rfl
  have il : i < t.place.toList.length := by
    have b := (List.getElem?_eq_some_iff.mp hp).1
    have := R.tb.len
    rw [List.length_map] at this
    rw [Array.length_toList]
    omega
  have e2 := List.getElem?_eq_getElem il
  obtain ⟨c, c1, c2⟩ := R.tb.ahead out e1 e2
  exact ⟨c, Nat.zero_le c, c1, by rw [e2, c2]⟩
end
end Ad
namespace Ad
open PySem PySem.Spec PyProof.Rows L2

section
variable {P : Program} {w : World} {A : Around} {E : Value → Shared → Prop} {s : Shared}
variable {a : Addr} {L : List AK} {es : Array (Int × Value)} {ep : Nat} {t : SetTable}
/-- all laid in a larger table -/
theorem relay {o : Obj} (ho : s.heap.get? a = some o) (ex : o.ExactSet) (hd : o.data = .set es ep t) (row : es.toList = rowsOf P w L) (tb : Tab t (L.map fun p => thash P w p.2)) (small : L.length ≤ t.mask) (one : (L.map (·.2)).Nodup) (keys : ∀ p, p ∈ L → IsT P w s.heap p.2 p.1) (pl : t.plain = true) (ld : w.params.followText "set-order" = true ∨ t.led = true)
    {wanted m : Nat} (hw : SetTable.sizeAbove wanted = m + 1) (M : Msk m) (hn : L.length * 5 < m * 3) {Q : Unit → Shared → Prop}
    (hQ : ∀ h' L' es' ep' t', Heap.SameBut a s.heap h' → SetG P w h' a L' es' ep' t' → L'.Perm L → Q () { s with heap := h' }) : wpAny (model P w) A (setRelay a wanted) Q E s := by
  have el := es_len row
  have ms := M.small
  obtain ⟨t', order, e, perm, T, em, eled, epl⟩ := relaid_tab t (hs := es.map (·.1)) (wanted := wanted) (m := m) (by omega) M (by rw [Array.size_map]; omega)
  rw [Array.size_map, el] at perm
  obtain ⟨L2, r1, r2, r3⟩ := order_rows L es order row perm
  rw [← r3] at T
  have size2 : (order.filterMap (es[·]?)).size = es.size := by rw [es_len r1, r2.length_eq, el]
  have fit : t.fits es.size = true := tab_fits tb (by rw [List.length_map]; exact el) (by rw [List.length_map]; exact small)
  rw [setRelay_eq]
  refine wpAny_bind (wpAny_setState_of ho hd fit ?_)
  dsimp only
  refine wp_if_neg (by rw [hw, sizeLine_eq]; omega) ?_
  try refine wpAny_bind (wpAny_pure ?_)
  rw [e]
  dsimp only
  refine wpAny_bind ?_
  refine wp_if_neg (by rw [size2]; simp) ?_
  try refine wpAny_bind (wpAny_pure ?_)
  refine wpAny_pure ?_
  dsimp only
  refine wpAny_storeSet_of ho hd ?_ (by rw [size2, el, sizeLine_eq]; omega)
  have but : Heap.SameBut a s.heap (s.heap.update a (Obj.putSet (order.filterMap (es[·]?)) t')) := Heap.SameBut.update ..
  refine hQ _ L2 _ (ep + 1) t' but ⟨⟨_, store_at ho hd, ⟨ex.1, ex.2.1, ex.2.2⟩, rfl⟩, r1, T, (r2.map (·.2)).nodup_iff.mpr one, fun p hp => isT_same (keys p (r2.mem_iff.mp hp)) ho hd but, epl.trans pl, by rw [eled]; exact ld, by rw [r2.length_eq, em]; exact hn⟩ r2
/-- into which mask it grows -/
theorem grows {m n : Nat} (M : Msk m) (h1 : n * 5 < m * 3) (h2 : m * 3 ≤ (n + 1) * 5) (h3 : n + 1 ≤ 306) : ∃ m', Msk m' ∧ SetTable.sizeAbove (SetTable.grown (n + 1)) = m' + 1 ∧ (n + 1) * 5 < m' * 3 ∧ n + 1 ≤ m := by
  rcases M.four with rfl | rfl | rfl | rfl
  · have : n = 4 := by omega
    subst this
    exact ⟨31, msk31, grown_5, by decide, by decide⟩
  · have : n = 18 := by omega
    subst this
    exact ⟨127, msk127, grown_19, by decide, by decide⟩
  · have : n = 76 := by omega
    subst this
    exact ⟨511, msk511, grown_77, by decide, by decide⟩
  · omega
/-- one more, or none -/
theorem add_one (R : SetG P w s.heap a L es ep t) {x : Addr} {k : List Int} (hx : IsT P w s.heap k x) (hu : A.units < cLine) (few : L.length + 1 ≤ 306) {Q : Bool → Shared → Prop}
    (hQ : ∀ r h' L' es' ep' t', Heap.SameBut a s.heap h' → SetG P w h' a L' es' ep' t' → (k ∈ L.map (·.2) → L' = L) → (k ∉ L.map (·.2) → L'.Perm ((x, k) :: L)) → Q r { s with heap := h' }) :
    wpAny (model P w) A (setAddHashed a (.ref x) (thash P w k)) Q E s := by
  obtain ⟨o, ho, ex, hd⟩ := R.obj
  have el := es_len R.row
  unfold setAddHashed
  refine wpAny_holding ?_
  rw [show (100000 : Nat) = 99999 + 1 by decide, setAddHashedIn_succ]
  refine wpAny_bind (wpAny_setState_of ho hd R.fit ?_)
  dsimp only
  refine wp_if_neg (by simp [byScan, Value.scannable]) ?_
  try refine wpAny_bind (wpAny_pure ?_)
  refine wpAny_bind (seek_all R hx hu (fun hm => ?_) fun j K hm eK hj ins => ?_)
  · dsimp only
    exact wpAny_pure (hQ false s.heap L es ep t (Heap.SameBut.refl a s.heap) R (fun _ => rfl) fun z => (z hm).elim)
  dsimp only
  refine wpAny_bind (wpAny_setState_of ho hd R.fit ?_)
  dsimp only
  obtain ⟨le, T1⟩ := R.tb.put hj eK ins
  have hplain : (t.put j).1.plain = true := R.pl
  have hled : w.params.followText "set-order" = true ∨ (t.put j).1.led = true := R.ld
  have hmask : (t.put j).1.mask = t.mask := rfl
  have hpos : (t.put j).2 = spot t j := rfl
  generalize t.put j = pt at T1 hplain hled hmask hpos ⊢
  obtain ⟨t1, p⟩ := pt
  dsimp only at T1 hplain hled hmask hpos ⊢
  first
    | (refine wpAny_bind ?_; refine wp_if_pos hplain ?_; refine hashBy_tup hx ?_)
    | refine wp_if_pos hplain (wpAny_bind (hashBy_tup hx ?_))
  simp only [if_true]
  subst hpos
  have row1 : (SetTable.insertAt es (spot t j) (thash P w k, Value.ref x)).toList = rowsOf P w (L.take (spot t j) ++ (x, k) :: L.drop (spot t j)) := by
    rw [SetTable.toList_insertAt, rows_put, R.row]
  have T1 : Tab t1 ((L.take (spot t j) ++ (x, k) :: L.drop (spot t j)).map fun p => thash P w p.2) := by
    rw [List.map_append, List.map_cons, List.map_take, List.map_drop]
    exact T1
  have perm := put_perm L (spot t j) (x, k)
  generalize L.take (spot t j) ++ (x, k) :: L.drop (spot t j) = L1 at row1 T1 perm
  generalize SetTable.insertAt es (spot t j) (thash P w k, Value.ref x) = es1 at row1 ⊢
  have len1 : L1.length = L.length + 1 := perm.length_eq
  have el1 := es_len row1
  refine wpAny_bind (wpAny_storeSet_of ho hd ?_ (by rw [el1, len1, sizeLine_eq]; omega))
  have but : Heap.SameBut a s.heap (s.heap.update a (Obj.putSet es1 t1)) := Heap.SameBut.update ..
  have ho1 := store_at (es' := es1) (t' := t1) ho hd
  generalize s.heap.update a (Obj.putSet es1 t1) = h1 at but ho1 ⊢
  have one1 : (L1.map (·.2)).Nodup := (perm.map (·.2)).nodup_iff.mpr (List.nodup_cons.mpr ⟨hm, R.one⟩)
  have keys1 : ∀ q, q ∈ L1 → IsT P w h1 q.2 q.1 := fun q hq => by
    rcases List.mem_cons.mp (perm.mem_iff.mp hq) with rfl | hq
    · exact isT_same hx ho hd but
    · exact isT_same (R.keys q hq) ho hd but
  have space := R.space
  have fill1 : t1.fill = L.length + 1 := by
    have q := T1.len
    rw [List.length_map, len1] at q
    unfold SetTable.fill
    rw [T1.clean, q]
    rfl
  by_cases full : t1.tooFull = true
  · first
      | (refine wpAny_bind ?_; refine wp_if_pos (by simp [full]) ?_)
      | (refine wp_if_pos (by simp [full]) ?_; refine wpAny_bind ?_)
    have f2 : t1.mask * 3 ≤ (L.length + 1) * 5 := by
      unfold SetTable.tooFull at full
      rw [fill1] at full
      exact of_decide_eq_true full
    rw [el]
    obtain ⟨m', M', sz, room, fits⟩ := grows T1.msk (by rw [hmask]; exact space) f2 few
    refine relay (s := { s with heap := h1 }) ho1 ⟨ex.1, ex.2.1, ex.2.2⟩ rfl row1 T1 (by rw [len1]; exact fits) one1 keys1 hplain hled sz M' (by rw [len1]; exact room) ?_
    intro h2 L2 es2 ep2 t2 but2 R2 perm2
    exact wpAny_pure (hQ true h2 L2 es2 ep2 t2 (but.trans but2) R2 (fun z => (hm z).elim) fun _ => perm2.trans perm)
  · first
      | refine wp_if_neg (by simp [full]) ?_
      | (refine wpAny_bind ?_; refine wp_if_neg (by simp [full]) ?_; refine wpAny_pure ?_)
    refine wpAny_pure (hQ true h1 L1 es1 (ep + 1) t1 but ⟨⟨_, ho1, ⟨ex.1, ex.2.1, ex.2.2⟩, rfl⟩, row1, T1, one1, keys1, hplain, hled, ?_⟩ (fun z => (hm z).elim) fun _ => perm)
    unfold SetTable.tooFull at full
    rw [fill1] at full
    have := of_decide_eq_false (Bool.eq_false_iff.mpr full)
    rw [len1]
    omega
end
end Ad
namespace Ad
open PySem PySem.Spec PyProof.Rows L2

/-- a set as it is made -/
abbrev newSet (w : World) : Obj := { cls := .type "set", dict := none, data := .set #[] 0 (.fresh 0 0 (!w.params.followText "set-order")) }
/-- what a set takes in, item by item: In i h says how it stands at S behind i items -/
structure Takes1 (P : Program) (w : World) (S : Addr) (h0 : Heap) (items : Array Value) (In : Nat → Heap → Prop) : Prop where
  fresh : ∀ h, h.get? S = some (newSet w) → (∀ b o, h0.get? b = some o → h.get? b = some o) → In 0 h
  keep : ∀ i h h', In i h → (∀ o, h.get? S = some o → h'.get? S = some o) → (∀ b o, h0.get? b = some o → h'.get? b = some o) → In i h'
  step : ∀ (A : Around) (E : Value → Shared → Prop) (i : Nat) (v : Value) (s : Shared) (Q : Bool → Shared → Prop), A.units + 8 < cLine → items[i]? = some v → In i s.heap → (∀ b o, h0.get? b = some o → s.heap.get? b = some o) →
    (∀ r h' d, Heap.SameBut S s.heap h' → In (i + 1) h' → Q r { s with heap := h', toks := s.toks + d }) → wpAny (model P w) A (setAdd S v) Q E s
section
variable {P : Program} {w : World} {A : Around} {E : Value → Shared → Prop} {s : Shared}
theorem upd_loop {I S : Addr} {fp wr : List Addr} {G : Array GenState → Array GenState → Prop} {n : Nat} {Pv : Nat → Value → Prop} {St : Nat → Shared → Prop} {R : Result → Shared → Prop} {h0 : Heap} {items : Array Value} {In : Nat → Heap → Prop}
    (W : WalksS P w A.in1 I fp wr G n Pv St) (nS : S ∉ fp) (T : Takes1 P w S h0 items In) (val : ∀ i v, Pv i v → items[i]? = some v) (S0 : h0.get? S = none) (w0 : ∀ b, b ∈ wr → h0.get? b = none) (hu : A.in1.units + 8 < cLine) :
    ∀ (k i : Nat) (s : Shared), i + k = n → St i s → (∀ b o, h0.get? b = some o → s.heap.get? b = some o) → In i s.heap →
      (∀ s', Moved (S :: wr) G s s' → In n s'.heap → (∀ b o, h0.get? b = some o → s'.heap.get? b = some o) → R (.ok (.ret .none)) s') →
      codeAny (model P w) A (.builtin "set.update.loop" ⟨[.ref S, .ref I], []⟩) R s := by
  have nw : S ∉ wr := fun z => nS (W.sub _ z)
  have more : ∀ b, b ∈ wr → b ∈ S :: wr := fun b => List.mem_cons_of_mem S
  have base : ∀ {u u' : Shared}, Moved wr G u u' → (∀ b o, h0.get? b = some o → u.heap.get? b = some o) → ∀ b o, h0.get? b = some o → u'.heap.get? b = some o := fun mv hb b o e =>
    mv.heap b o (fun z => by have := w0 b z; rw [this] at e; cases e) (hb b o e)
  intro k
  induction k with
  | zero =>
    intro i s hi st hb hIn hR
    obtain rfl : i = n := hi
    apply codeAny_builtin F.entry_set_update_loop
    rw [Around.under_plainId F.plain_set_update_loop _]
    show wpAny (model P w) A.in1 (pyNext (.ref I) >>= _) _ _ s
    refine wpAny_bind (W.done s _ _ st fun s' mv => ?_)
    show wpAny (model P w) A.in1 (ret Value.none) _ _ s'
    have hb' := base mv hb
    exact wpAny_pure (hR s' (mv.mono more) (T.keep i _ _ hIn (fun o e => mv.heap S o nw e) hb') hb')
  | succ k ih =>
    intro i s hi st hb hIn hR
    apply codeAny_builtin F.entry_set_update_loop
    rw [Around.under_plainId F.plain_set_update_loop _]
    show wpAny (model P w) A.in1 (pyNext (.ref I) >>= _) _ _ s
    refine wpAny_bind (W.item i s _ _ (by omega) st fun v s' hv st' mv => ?_)
    have hb' := base mv hb
    show wpAny (model P w) A.in1 (holding [v] (setAdd S v) >>= _) _ _ s'
    refine wpAny_bind (wpAny_holding (T.step A.in1 _ i v s' _ hu (val i v hv) (T.keep i _ _ hIn (fun o e => mv.heap S o nw e) hb') hb' fun r h' d but hIn' => ?_))
    have old : ∀ b o, b ≠ S → s'.heap.get? b = some o → h'.get? b = some o := fun b o z e => (but.2 b z).trans e
    refine wpAny_pure ⟨plainId_quiet F.plain_set_update_loop _, ih (i + 1) _ (by omega) (W.frame _ s' _ _ st' (Nat.le_add_right _ d) fun b z o e => old b o (fun y => nS (y ▸ z)) e) (fun b o e => old b o (fun y => by rw [y, S0] at e; cases e) (hb' b o e)) hIn' fun s2 mv2 hIn2 hb2 => ?_⟩
    exact hR s2 (Moved.trans W.gtrans ((mv.mono more).then_heap (Nat.le_add_right _ d) fun b o z e => old b o (fun y => z (y ▸ List.mem_cons_self)) e) mv2) hIn2 hb2

set_option maxHeartbeats 3200000 in
/-- set(xs), xs a list -/
theorem make_setL {l : Addr} {items : Array Value} {In : Nat → Heap → Prop} {Q : Value → Shared → Prop} (hh : A.handled = none) (hl : s.heap.IsList l items) (T : Takes1 P w s.heap.objs.size s.heap items In) (hu : A.units + 11 < cLine)
    (fin : ∀ (h' : Heap) (tk : Nat), In items.size h' → (∀ b o, s.heap.get? b = some o → h'.get? b = some o) → Q (.ref s.heap.objs.size) { s with heap := h', toks := tk }) :
    wpAny (model P w) A (call (.type "set") [.ref l]) Q E s := by
  have S0 : ∀ b, s.heap.objs.size ≤ b → s.heap.get? b = none := fun b hb => by
    cases q : s.heap.get? b with
    | none => rfl
    | some o => exact absurd (Heap.lt_size q) (Nat.not_lt.mpr hb)
  obtain ⟨c, tl, hmro⟩ := F.called_set.mro
  have hmade := F.called_set.made
  have hsub := F.called_set.sub
  have q0 : (Code.builtin "type.__call__" ⟨[.type "set", .ref l], []⟩).quiet = true := Code.quiet_builtin _ (by decide +kernel)
  apply wpAny_call
  apply codeAny_of_tree
  show wpAny _ _ (callAny (.type "set") _) _ _ _
  apply wpAny_pure
  refine ⟨q0, ?_⟩
  apply codeAny_builtin F.entry_type_call
  rw [Around.under_plain (weight_type_call_type "set" [.ref l] []) rfl]
  have h1 := F.called_set.notType
  have h2 := F.called_set.canCreate
  have hct := F.typeCall_set_1 (.ref l)
  repeat (any_goals (first | assumption | wp_step))
  refine codeAny_mono (code_set_led1 (.ref l) (E := E) (Q₁ := fun v u => v = .ref s.heap.objs.size ∧ u = { s with heap := s.heap.push (newSet w) }) ⟨rfl, rfl⟩) fun r u hr => ?_
  cases r with
  | error e => exact hr
  | ok fl =>
    cases fl with
    | ret v =>
      obtain ⟨rfl, rfl⟩ := hr
      have hS : (s.heap.push (newSet w)).get? s.heap.objs.size = some (newSet w) := Heap.get?_push_size _ rfl
      have hT : Shared.TypeIs { s with heap := s.heap.push (newSet w) } (.ref s.heap.objs.size) "set" := ⟨_, hS, rfl⟩
      have hli := F.called_set.init.lookup
      have hbi := F.called_set.init.bind (.ref s.heap.objs.size)
      repeat (any_goals (first | assumption | wp_step))
      refine codeAny_mono (codeAny_call_builtin (R := wants (fun v u => v = .none ∧ ∃ h' tk, u = { s with heap := h', toks := tk } ∧ In items.size h' ∧ (∀ b o, s.heap.get? b = some o → h'.get? b = some o)) E) F.called_set.init.plain F.entry_set_init (check_set_init_1 hT ?_)) fun r2 u2 hr2 => ?_
      · obtain ⟨ol, hol, hcl, nl, hdl⟩ := hl
        obtain ⟨ocls, odict, odata, oslots⟩ := ol
        simp only at hcl hdl
        subst hcl; subst hdl
        have hol' : (s.heap.push (newSet w)).get? l = some { cls := .type "list", dict := odict, data := .seq items nl, slots := oslots } := Heap.get?_push_of_some _ hol
        have k1 := F.sub_list_set
        have k2 := F.sub_list_frozenset
        have k3 : (Value.type "list" == Value.type "dict") = false := by decide
        have hl1 : (s.heap.push (newSet w)).IsList l items := ⟨_, hol', rfl, nl, rfl⟩
        unfold Builtin.«set.__init__» noKeywords Builtin.Frozenset.updateFrom
        generalize hPI : pyIter = PI
        wp_walk
        subst hPI
        refine wpAny_pyIter_list hl1 (wpAny_bind (wpAny_runValue ?_))
        have lS : l < s.heap.objs.size := Heap.lt_size hol
        have hn3 : A.in1.in1.in1.handled = none := by simp [hh]
        have szp : (s.heap.push (newSet w)).objs.size = s.heap.objs.size + 1 := Heap.size_push ..
        have lI : l ≠ (s.heap.push (newSet w)).objs.size := by
          rw [szp]
          exact Nat.ne_of_lt (Nat.lt_succ_of_lt lS)
        have nS : s.heap.objs.size ∉ [(s.heap.push (newSet w)).objs.size, l] := fun z => by
          rw [szp] at z
          rcases List.mem_cons.mp z with z | z
          · exact absurd z (Nat.ne_of_lt (Nat.lt_succ_self _))
          · exact absurd (List.mem_singleton.mp z) (Nat.ne_of_gt lS)
        have gS : ((s.heap.push (newSet w)).push { cls := .type "list_iterator", data := .fields #[.ref l, .int 0 0] }).get? s.heap.objs.size = some (newSet w) := Heap.get?_push_of_some _ hS
        have kb : ∀ b o, s.heap.get? b = some o → ((s.heap.push (newSet w)).push { cls := .type "list_iterator", data := .fields #[.ref l, .int 0 0] }).get? b = some o := fun b o e => Heap.get?_push_of_some _ (Heap.get?_push_of_some _ e)
        refine upd_loop ((Walks.list hn3 _ l lI items).toS) nS T (fun i v hv => hv) (S0 _ (Nat.le_refl _)) (fun b hb => S0 b (by rw [List.mem_singleton.mp hb, szp]; omega)) hu items.size 0 _ (by omega)
          ⟨⟨_, Heap.get?_push_size _ rfl, rfl, rfl⟩, hl1.push _⟩ kb (T.fresh _ gS kb) fun u mv hIn hb => ?_
        obtain ⟨h', g2, d', tk', os'⟩ := u
        have eg : g2 = s.gens := mv.gens
        have ed : d' = s.drawn := mv.drawn
        have eo : os' = s.os := mv.os
        subst eg ed eo
        show wpAny _ _ _ _ _ _
        apply wpAny_pure
        show wpAny _ _ (ret Value.none) _ _ _
        exact wpAny_pure ⟨rfl, h', tk', rfl, hIn, hb⟩
      · cases r2 with
        | error e => exact hr2
        | ok fl2 =>
          cases fl2 with
          | ret v2 =>
            obtain ⟨rfl, h', tk, rfl, hIn, hb⟩ := hr2
            repeat (any_goals (first | assumption | wp_step))
            exact fin h' _ hIn hb
          | _ => exact hr2.elim
    | _ => exact hr.elim
end
end Ad
namespace Ad
open PySem PySem.Spec PyProof.Rows L2
section
variable {P : Program} {w : World} {A : Around} {E : Value → Shared → Prop} {s : Shared}
set_option maxHeartbeats 3200000 in
/-- set(xs), xs a tuple -/
theorem make_setT {l : Addr} {items : Array Value} {In : Nat → Heap → Prop} {Q : Value → Shared → Prop} (hh : A.handled = none) (hl : s.heap.IsTuple l items) (T : Takes1 P w s.heap.objs.size s.heap items In) (hu : A.units + 11 < cLine)
    (fin : ∀ (h' : Heap) (tk : Nat), In items.size h' → (∀ b o, s.heap.get? b = some o → h'.get? b = some o) → Q (.ref s.heap.objs.size) { s with heap := h', toks := tk }) :
    wpAny (model P w) A (call (.type "set") [.ref l]) Q E s := by
  have S0 : ∀ b, s.heap.objs.size ≤ b → s.heap.get? b = none := fun b hb => by
    cases q : s.heap.get? b with
    | none => rfl
    | some o => exact absurd (Heap.lt_size q) (Nat.not_lt.mpr hb)
  obtain ⟨c, tl, hmro⟩ := F.called_set.mro
  have hmade := F.called_set.made
  have hsub := F.called_set.sub
  have q0 : (Code.builtin "type.__call__" ⟨[.type "set", .ref l], []⟩).quiet = true := Code.quiet_builtin _ (by decide +kernel)
  apply wpAny_call
  apply codeAny_of_tree
  show wpAny _ _ (callAny (.type "set") _) _ _ _
  apply wpAny_pure
  refine ⟨q0, ?_⟩
  apply codeAny_builtin F.entry_type_call
  rw [Around.under_plain (weight_type_call_type "set" [.ref l] []) rfl]
  have h1 := F.called_set.notType
  have h2 := F.called_set.canCreate
  have hct := F.typeCall_set_1 (.ref l)
  repeat (any_goals (first | assumption | wp_step))
  refine codeAny_mono (code_set_led1 (.ref l) (E := E) (Q₁ := fun v u => v = .ref s.heap.objs.size ∧ u = { s with heap := s.heap.push (newSet w) }) ⟨rfl, rfl⟩) fun r u hr => ?_
  cases r with
  | error e => exact hr
  | ok fl =>
    cases fl with
    | ret v =>
      obtain ⟨rfl, rfl⟩ := hr
      have hS : (s.heap.push (newSet w)).get? s.heap.objs.size = some (newSet w) := Heap.get?_push_size _ rfl
      have hT : Shared.TypeIs { s with heap := s.heap.push (newSet w) } (.ref s.heap.objs.size) "set" := ⟨_, hS, rfl⟩
      have hli := F.called_set.init.lookup
      have hbi := F.called_set.init.bind (.ref s.heap.objs.size)
      repeat (any_goals (first | assumption | wp_step))
      refine codeAny_mono (codeAny_call_builtin (R := wants (fun v u => v = .none ∧ ∃ h' tk, u = { s with heap := h', toks := tk } ∧ In items.size h' ∧ (∀ b o, s.heap.get? b = some o → h'.get? b = some o)) E) F.called_set.init.plain F.entry_set_init (check_set_init_1 hT ?_)) fun r2 u2 hr2 => ?_
      · obtain ⟨ol, hol, hcl, nl, hdl⟩ := hl
        obtain ⟨ocls, odict, odata, oslots⟩ := ol
        simp only at hcl hdl
        subst hcl; subst hdl
        have hol' : (s.heap.push (newSet w)).get? l = some { cls := .type "tuple", dict := odict, data := .seq items nl, slots := oslots } := Heap.get?_push_of_some _ hol
        have k1 := F.sub_tuple_set
        have k2 := F.sub_tuple_frozenset
        have k3 : (Value.type "tuple" == Value.type "dict") = false := by decide
        have hl1 : (s.heap.push (newSet w)).IsTuple l items := ⟨_, hol', rfl, nl, rfl⟩
        unfold Builtin.«set.__init__» noKeywords Builtin.Frozenset.updateFrom
        generalize hPI : pyIter = PI
        wp_walk
        subst hPI
        refine wpAny_pyIter_tuple hl1 (wpAny_bind (wpAny_runValue ?_))
        have lS : l < s.heap.objs.size := Heap.lt_size hol
        have hn3 : A.in1.in1.in1.handled = none := by simp [hh]
        have szp : (s.heap.push (newSet w)).objs.size = s.heap.objs.size + 1 := Heap.size_push ..
        have lI : l ≠ (s.heap.push (newSet w)).objs.size := by
          rw [szp]
          exact Nat.ne_of_lt (Nat.lt_succ_of_lt lS)
        have nS : s.heap.objs.size ∉ [(s.heap.push (newSet w)).objs.size, l] := fun z => by
          rw [szp] at z
          rcases List.mem_cons.mp z with z | z
          · exact absurd z (Nat.ne_of_lt (Nat.lt_succ_self _))
          · exact absurd (List.mem_singleton.mp z) (Nat.ne_of_gt lS)
        have gS : ((s.heap.push (newSet w)).push { cls := .type "tuple_iterator", data := .fields #[.ref l, .int 0 0] }).get? s.heap.objs.size = some (newSet w) := Heap.get?_push_of_some _ hS
        have kb : ∀ b o, s.heap.get? b = some o → ((s.heap.push (newSet w)).push { cls := .type "tuple_iterator", data := .fields #[.ref l, .int 0 0] }).get? b = some o := fun b o e => Heap.get?_push_of_some _ (Heap.get?_push_of_some _ e)
        refine upd_loop ((Walks.tuple hn3 _ l lI items).toS) nS T (fun i v hv => hv) (S0 _ (Nat.le_refl _)) (fun b hb => S0 b (by rw [List.mem_singleton.mp hb, szp]; omega)) hu items.size 0 _ (by omega)
          ⟨⟨_, Heap.get?_push_size _ rfl, rfl, rfl⟩, hl1.push _⟩ kb (T.fresh _ gS kb) fun u mv hIn hb => ?_
        obtain ⟨h', g2, d', tk', os'⟩ := u
        have eg : g2 = s.gens := mv.gens
        have ed : d' = s.drawn := mv.drawn
        have eo : os' = s.os := mv.os
        subst eg ed eo
        show wpAny _ _ _ _ _ _
        apply wpAny_pure
        show wpAny _ _ (ret Value.none) _ _ _
        exact wpAny_pure ⟨rfl, h', tk', rfl, hIn, hb⟩
      · cases r2 with
        | error e => exact hr2
        | ok fl2 =>
          cases fl2 with
          | ret v2 =>
            obtain ⟨rfl, h', tk, rfl, hIn, hb⟩ := hr2
            repeat (any_goals (first | assumption | wp_step))
            exact fin h' _ hIn hb
          | _ => exact hr2.elim
    | _ => exact hr.elim
end
end Ad
namespace Ad
open PySem PySem.Calls PySem.W PySem.SeqAt PySem.Spec PyProof.Rows L2

/-! ### sets of what is represented -/
/-- a set at a, its values in the table's order -/
def SetV (w : World) (h : Heap) (a : Addr) (us : List Value) : Prop := ∃ o es ep t, h.get? a = some o ∧ o.ExactSet ∧ o.data = .set es ep t ∧ es.toList.map (·.2) = us ∧ t.fits es.size = true ∧ es.size < scanBound ∧ Ris t.place.toList ∧ (w.params.followText "set-order" = true ∨ t.led = true)
theorem nodup_le {α : Type} [DecidableEq α] : ∀ (l m : List α), l.Nodup → (∀ x, x ∈ l → x ∈ m) → l.length ≤ m.length
  | [], _, _, _ => Nat.zero_le _
  | x :: l, m, hn, h => by
    obtain ⟨h1, h2⟩ := List.nodup_cons.mp hn
    have hm := h x List.mem_cons_self
    have := nodup_le l (m.erase x) h2 fun y hy => (List.mem_erase_of_ne (show y ≠ x from fun e => h1 (by rw [← e]; exact hy))).mpr (h y (List.mem_cons_of_mem _ hy))
    rw [List.length_erase_of_mem hm] at this
    have : 0 < m.length := List.length_pos_of_mem hm
    rw [List.length_cons]
    omega
/-- each once -/
def once {α : Type} [DecidableEq α] : List α → List α
  | [] => []
  | x :: l => x :: (once l).filter fun y => !decide (y = x)
theorem mem_once {α : Type} [DecidableEq α] : ∀ (l : List α) (y : α), y ∈ once l ↔ y ∈ l
  | [], _ => Iff.rfl
  | x :: l, y => by
    unfold once
    rw [List.mem_cons, List.mem_cons, List.mem_filter, mem_once l y]
    by_cases h : y = x
    · simp [h]
    · simp [h]
theorem nodup_once {α : Type} [DecidableEq α] : ∀ l : List α, (once l).Nodup
  | [] => List.nodup_nil
  | x :: l => by
    unfold once
    refine List.nodup_cons.mpr ⟨fun h => ?_, (nodup_once l).filter _⟩
    have := (List.mem_filter.mp h).2
    simp at this
theorem once_enc {α : Type} [DecidableEq α] {enc : α → D} (h : ∀ x y, PyData.eqv (enc x) (enc y) = decide (x = y)) : ∀ l : List α, onceD (l.map enc) = (once l).map enc
  | [] => rfl
  | x :: l => by
    have ih := once_enc h l
    show enc x :: (onceD (l.map enc)).filter (fun y => !PyData.eqv y (enc x)) = enc x :: ((once l).filter fun y => !decide (y = x)).map enc
    rw [ih, List.filter_map]
    congr 2
    refine List.filter_congr fun y _ => ?_
    show (!PyData.eqv (enc y) (enc x)) = _
    rw [h]
theorem eqv_int (i j : Int) : PyData.eqv (.int i) (.int j) = decide (i = j) := rfl
theorem eqvAll_ints : ∀ a b : List Int, PyData.eqvAll (a.map .int) (b.map .int) = decide (a = b)
  | [], [] => rfl
  | [], _ :: _ => rfl
  | _ :: _, [] => rfl
  | x :: a, y :: b => by
    show (PyData.eqv (.int x) (.int y) && PyData.eqvAll (a.map .int) (b.map .int)) = _
    rw [eqvAll_ints a b, eqv_int]
    by_cases h : x = y
    · subst h
      simp
    · simp [h]
theorem eqv_tup (a b : List Int) : PyData.eqv (tupD a) (tupD b) = decide (a = b) := eqvAll_ints a b
section
variable {K : PySem.W.Frag} {W : Wd} {N : Addr → Prop} {H : Hp}
theorem ints_rep : ∀ {ns : List Int} {vs : List V}, RepL K W N H vs (ns.map .int) → vs = ns.map V.int
  | [], _, .nil => rfl
  | n :: ns, _, .cons h t => by
    cases h
    rw [ints_rep t]
    rfl
theorem rep_ints : ∀ ns : List Int, RepL K W N H (ns.map V.int) (ns.map .int)
  | [] => .nil
  | n :: ns => .cons (.int n) (rep_ints ns)
/-- the keys of tuples of ints -/
theorem keys_of : ∀ {ds : List D} {vs : List V}, RepL K W N H vs ds → (∀ x, x ∈ ds → ∃ ns : List Int, x = tupD ns) → ∃ ks : List AK, vs = ks.map (fun p => V.ref p.1) ∧ ds = ks.map (fun p => tupD p.2) ∧ ∀ p, p ∈ ks → SqT K H p.1 (p.2.map V.int) ∧ Rep K W N H (.ref p.1) (tupD p.2)
  | [], _, .nil, _ => ⟨[], rfl, rfl, (fun p hp => absurd hp List.not_mem_nil)⟩
  | d :: ds, _, .cons (v := v) h t, hd => by
    obtain ⟨ks, e1, e2, e3⟩ := keys_of t fun x hx => hd x (List.mem_cons_of_mem _ hx)
    obtain ⟨ns, e⟩ := hd d List.mem_cons_self
    subst e
    obtain ⟨a, ws, rfl, f1, _, _, f2⟩ := RepB.tup (.inl h)
    rw [ints_rep f2] at f1
    refine ⟨(a, ns) :: ks, by rw [e1]; rfl, by rw [e2]; rfl, fun p hp => ?_⟩
    rcases List.mem_cons.mp hp with rfl | hp
    · exact ⟨f1, h⟩
    · exact e3 p hp
theorem rep_keys : ∀ {ks : List AK}, (∀ p, p ∈ ks → Rep K W N H (.ref p.1) (tupD p.2)) → RepL K W N H (ks.map fun p => V.ref p.1) (ks.map fun p => tupD p.2)
  | [], _ => .nil
  | p :: ks, h => .cons (h p List.mem_cons_self) (rep_keys fun q hq => h q (List.mem_cons_of_mem _ hq))
end
section
variable {P : Program} {w : World} {A : Around} {E : Value → Shared → Prop} {s : Shared}
theorem SetG.keep {h h' : Heap} {a : Addr} {L : List AK} {es : Array (Int × Value)} {ep : Nat} {t : SetTable} (R : SetG P w h a L es ep t) (ha : ∀ o, h.get? a = some o → h'.get? a = some o) (hk : ∀ p, p ∈ L → IsT P w h' p.2 p.1) : SetG P w h' a L es ep t := by
  obtain ⟨o, ho, r⟩ := R.obj
  exact ⟨⟨o, ha o ho, r⟩, R.row, R.tb, R.one, hk, R.pl, R.ld, R.space⟩
theorem SetG.new {h : Heap} {a : Addr} (e : h.get? a = some (newSet w)) : SetG P w h a [] #[] 0 (.fresh 0 0 (!w.params.followText "set-order")) := by
  refine ⟨⟨_, e, ⟨rfl, rfl, rfl⟩, rfl⟩, rfl, ⟨List.Pairwise.nil, rfl, rfl, msk7, (fun x hx => absurd hx List.not_mem_nil), fun i h j hi => ?_⟩, List.nodup_nil, (fun p hp => absurd hp List.not_mem_nil), rfl, ?_, show 0 * 5 < 7 * 3 by decide⟩
  · simp at hi
  · show _ ∨ (!w.params.followText "set-order") = true
    cases w.params.followText "set-order"
    · exact .inr rfl
    · exact .inl rfl
/-- keys taken in, one by one -/
theorem takes_keys {S : Addr} {h0 : Heap} {items : Array Value} {ks : List AK} (hit : items.toList = ks.map fun p => Value.ref p.1) (hk : ∀ p, p ∈ ks → IsT P w h0 p.2 p.1) (few : (once (ks.map (·.2))).length ≤ 305) : Takes1 P w S h0 items (fun i h => ∃ L es ep t, SetG P w h S L es ep t ∧ Got ks i L) where
  fresh := fun h e _ => ⟨[], #[], 0, _, SetG.new e, Got.zero ks⟩
  keep := fun i h h' ⟨L, es, ep, t, R, g⟩ ha hb => ⟨L, es, ep, t, R.keep ha fun p hp => isT_keep (hk p (List.mem_of_mem_take (g.sub p hp))) hb, g⟩
  step := fun A E i v s Q hu hv ⟨L, es, ep, t, R, g⟩ hb hQ => by
    have e : items.toList[i]? = some v := by rw [Array.getElem?_toList]; exact hv
    rw [hit, List.getElem?_map] at e
    obtain ⟨p, hp, rfl⟩ := Option.map_eq_some_iff.mp e
    have hx : IsT P w s.heap p.2 p.1 := isT_keep (hk p (List.mem_of_getElem? hp)) hb
    have len : L.length ≤ 305 := by
      have := nodup_le (L.map (·.2)) (once (ks.map (·.2))) R.one fun x hx => by
        obtain ⟨q, hq, rfl⟩ := List.mem_map.mp hx
        exact (mem_once _ _).mpr (List.mem_map.mpr ⟨q, List.mem_of_mem_take (g.sub q hq), rfl⟩)
      rw [List.length_map] at this
      omega
    unfold setAdd
    refine wpAny_holding (wpAny_bind (wpAny_pyHash_tuple (by omega) hx ?_))
    refine add_one (s := { s with toks := s.toks + (p.2.length + 1) }) R hx (by omega) (by omega) fun r h' L' es' ep' t' but R' c1 c2 => ?_
    refine hQ r h' _ but ⟨L', es', ep', t', R', ?_⟩
    by_cases c : p.2 ∈ L.map (·.2)
    · rw [c1 c]
      exact g.same hp c
    · exact g.more hp (c2 c)
theorem takes_ints {S : Addr} {h0 : Heap} {items : Array Value} {ns : List Int} (hit : IntsAre items.toList ns) (hb : ns.length + 1 < scanBound) : Takes1 P w S h0 items (fun i h => i ≤ ns.length → ∃ c, c ≤ i ∧ SetR w h S (fun j => decide (j ∈ ns.take i)) c) where
  fresh := fun h e _ _ => ⟨0, Nat.le_refl 0, setR_new_at e⟩
  keep := fun i h h' g ha _ hi => by
    obtain ⟨c, hc, R⟩ := g hi
    exact ⟨c, hc, R.at ha⟩
  step := fun A E i v s Q hu hv g _ hQ => by
    have hi : i < ns.length := by
      have := (Array.getElem?_eq_some_iff.mp hv).1
      rw [← Array.length_toList, hit.length] at this
      exact this
    obtain ⟨t, e⟩ := PyProof.Rows.IntsAre.int_at hit i v (by rw [Array.getElem?_toList]; exact hv)
    subst e
    obtain ⟨c, hc, R⟩ := g (Nat.le_of_lt hi)
    unfold setAdd
    refine wpAny_holding (wpAny_bind ((intKind P w).pyHash (k := ns.getD i 0) (intKind_is _ _ _ _) ?_))
    refine setR_add_hashed (s := { s with toks := s.toks + 1 }) R (by omega) fun h' but R' => ?_
    refine hQ _ h' 1 but fun _ => ⟨_, ?_, R'.congr fun j => ?_⟩
    · split <;> omega
    · have e : ns[i]? = some (ns.getD i 0) := by
        rw [List.getD_eq_getElem?_getD, List.getElem?_eq_getElem hi]
        rfl
      rw [List.take_add_one, e]
      simp [List.mem_append]
end
end Ad
namespace Ad
open PySem PySem.Calls PySem.W PySem.SeqAt PySem.Spec PyProof.Rows L2

section
variable {P : Program} {w : World} {A : Around} {E : Value → Shared → Prop} {s : Shared}
theorem SetG.vals {h : Heap} {a : Addr} {L : List AK} {es : Array (Int × Value)} {ep : Nat} {t : SetTable} (R : SetG P w h a L es ep t) : SetV w h a (L.map fun p => Value.ref p.1) := by
  obtain ⟨o, ho, ex, hd⟩ := R.obj
  have space := R.space
  have small := R.tb.msk.small
  have el := es_len R.row
  refine ⟨o, es, ep, t, ho, ex, hd, ?_, tab_fits R.tb (by rw [List.length_map]; exact el) (by rw [List.length_map]; omega), ?_, R.tb.up, R.ld⟩
  · rw [R.row]
    unfold L2.rowsOf
    rw [List.map_map]
    rfl
  · unfold scanBound
    omega
theorem good_vals : ∀ {l : List (Int × Value)}, (∀ e, e ∈ l → GoodE e) → Vals ((l.map keyOf).map V.int) (l.map (·.2))
  | [], _ => .nil
  | e :: l, h => by
    obtain ⟨k, tk, e1, _⟩ := h e List.mem_cons_self
    refine .cons ?_ (good_vals fun x hx => h x (List.mem_cons_of_mem _ hx))
    have : keyOf e = k := by
      unfold keyOf
      rw [e1]
    show RelV (V.int (keyOf e)) e.2
    rw [this, e1]
    exact ⟨tk, rfl⟩
theorem setR_vals {h : Heap} {a : Addr} {S : Int → Bool} {n : Nat} (R : SetR w h a S n) : ∃ (ms : List Int) (us : List Value), SetV w h a us ∧ Vals (ms.map V.int) us ∧ ms.Nodup ∧ ∀ k, S k = true ↔ k ∈ ms := by
  obtain ⟨o, es, ep, t, ho, ex, hd, g, nd, hm, hb, hf, hn, hr, hl⟩ := R
  exact ⟨es.toList.map keyOf, es.toList.map (·.2), ⟨o, es, ep, t, ho, ex, hd, rfl, hf, hb, hr, hl⟩, good_vals g, nd, hm⟩
/-- sorted(a set) -/
theorem sorted_setV {a : Addr} {us : List Value} {Q : Value → Shared → Prop} (hv : SetV w s.heap a us) (hh : A.handled = none)
    (go : ∀ (s1 : Shared) (vs : List Value), (∀ b o, s.heap.get? b = some o → s1.heap.get? b = some o) → s.heap.objs.size ≤ s1.heap.objs.size → s1.gens = s.gens → s1.os = s.os → vs.Perm us → ∃ κ, SortsAt P w A.in1.in1 { s1 with heap := sortingHeap (s1.heap.push (seqObj "list" vs.toArray 0)) s1.heap.objs.size vs } κ vs ∧
      Q (.ref s1.heap.objs.size) { s1 with heap := sortedHeap (s1.heap.push (seqObj "list" vs.toArray 0)) s1.heap.objs.size vs (sortVals κ false vs vs).toArray }) :
    wpAny (model P w) A (call (.builtin "sorted") [.ref a]) Q E s := by
  obtain ⟨o, es, ep, t, ho, ex, hd, eu, hf, hb, hr, hl⟩ := hv
  refine call_function_entry_kw kind_sorted plain_sorted entry_sorted (args_sorted1 _) ?_
  unfold Builtin.«sorted»
  refine wpAny_bind (m := checkCount "sorted" 1 1 _) (wpAny_pure ?_)
  refine wpAny_bind (collect_set (A := A.in1) hh ⟨o, ho, ex.1, hd⟩ hf hb hr hl fun s1 vs k1 hz g1 o1 pm => ?_)
  rw [eu] at pm
  obtain ⟨κ, S, q⟩ := go s1 vs k1 hz g1 o1 pm
  have ul : vs.length ≤ sizeLine := by
    have e := pm.length_eq
    rw [← eu, List.length_map] at e
    have e2 : es.toList.length = es.size := Array.length_toList
    rw [e, sizeLine_eq]
    unfold scanBound at hb
    omega
  refine wpAny_bind (wpAny_newList ?_ ul)
  have at_ : (s1.heap.push (seqObj "list" vs.toArray 0)).get? s1.heap.objs.size = some (seqObj "list" vs.toArray 0) := Heap.get?_push_size _ rfl
  refine wpAny_bind (wpAny_holding (wpAny_call_entry_kw slot_list_sort ⟨_, at_, rfl⟩ entry_list_sort ?body (args_list_sort _)))
  case body =>
    show wpAny (model P w) A.in1.in1 (Builtin.«list.sort» ⟨[.ref s1.heap.objs.size], []⟩) _ _ _
    refine wpAny_mono (list_sort_vals (s := { s1 with heap := s1.heap.push (seqObj "list" vs.toArray 0) }) (P := fun f s' => f = .done (.ret .none) ∧ Q (.ref s1.heap.objs.size) s') at_ S ul ⟨rfl, q⟩) (fun f s' hf => ?_) fun _ _ e => e
    obtain ⟨rfl, hq⟩ := hf
    exact ⟨_, rfl, wpAny_pure ⟨_, rfl, hq⟩⟩
end
/-- values and what they stand for, in another order -/
theorem perm_align {K : PySem.W.Frag} {W : Wd} {N : Addr → Prop} {H : Hp} {us out : List Value} (p : us.Perm out) : ∀ {ws : List V} {cs : List D}, Vals ws us → RepL K W N H ws cs → ∃ ws' cs', Vals ws' out ∧ RepL K W N H ws' cs' ∧ cs'.Perm cs := by
  induction p with
  | nil => exact fun v l => ⟨_, _, v, l, List.Perm.refl _⟩
  | cons x _ ih =>
    intro ws cs v l
    cases v with
    | cons v1 v2 =>
      cases l with
      | cons l1 l2 =>
        obtain ⟨ws', cs', a, b, c⟩ := ih v2 l2
        exact ⟨_, _, .cons v1 a, .cons l1 b, c.cons _⟩
  | swap x y _ =>
    intro ws cs v l
    cases v with
    | cons v1 v2 =>
      cases v2 with
      | cons v2 v3 =>
        cases l with
        | cons l1 l2 =>
          cases l2 with
          | cons l2 l3 => exact ⟨_, _, .cons v2 (.cons v1 v3), .cons l2 (.cons l1 l3), List.Perm.swap _ _ _⟩
  | trans _ _ ih1 ih2 =>
    intro ws cs v l
    obtain ⟨ws1, cs1, a, b, c⟩ := ih1 v l
    obtain ⟨ws2, cs2, a', b', c'⟩ := ih2 a b
    exact ⟨ws2, cs2, a', b', c'.trans c⟩
theorem sortable_sub {xs ys : List D} (h : sortable xs) (s : ∀ x, x ∈ ys → x ∈ xs) : sortable ys :=
  ⟨fun d hd e he => h.1 d (s d hd) e (s e he), fun d hd => h.2.1 d (s d hd), h.2.2.imp (fun g d hd => g d (s d hd)) fun g d hd => g d (s d hd)⟩
theorem once_sub : ∀ {xs : List D} {x : D}, x ∈ onceD xs → x ∈ xs
  | y :: ys, x, h => by
    rcases List.mem_cons.mp h with rfl | h
    · exact List.mem_cons_self
    · exact List.mem_cons_of_mem _ (once_sub (List.mem_filter.mp h).1)
theorem perm_once {α : Type} [DecidableEq α] {l m : List α} (hn : l.Nodup) (h : ∀ x, x ∈ l ↔ x ∈ m) : l.Perm (once m) := (List.perm_ext_iff_of_nodup hn (nodup_once m)).mpr fun x => (h x).trans (mem_once m x).symm
section
variable {X : Cx}
/-- set(d), d a list or a tuple -/
theorem set_made {pins : List (Addr × Obj)} {σ : L2.St} {H : Hp} {s : Shared} (hc : X.calm = true) (hu : X.A.units + 66 < cLine) (I : Inv X pins σ H s) {W : Wd} {N : Addr → Prop} {a : Addr} {vs : List V} {ds : List D} {d : D} (l : RepL X.K W N H vs ds) (hx : (d = .list ds ∧ SqL X.K H a vs) ∨ (d = .tuple ds ∧ SqT X.K H a vs)) (ok : setOk ds) {Q : Value → Shared → Prop} {E : Value → Shared → Prop}
    (fin : ∀ p h' tk us ws cs, p = s.heap.objs.size → (∀ b o, s.heap.get? b = some o → h'.get? b = some o) → SetV X.w h' p us → Vals ws us → RepL X.K W N H ws cs → cs.Perm (onceD ds) → Q (.ref p) { s with heap := h', toks := tk }) :
    wpAny (model X.prog X.w) X.A (call (.type "set") [.ref a]) Q E s := by
  have hh := I.ok.hd hc
  have go : ∀ its : List Value, Vals vs its → ∃ In, Takes1 X.prog X.w s.heap.objs.size s.heap its.toArray In ∧ ∀ h' tk, In its.toArray.size h' → (∀ b o, s.heap.get? b = some o → h'.get? b = some o) → Q (.ref s.heap.objs.size) { s with heap := h', toks := tk } := fun its rv => by
    rcases ok with ⟨ok, len⟩ | ⟨ok, few⟩
    · obtain ⟨ns, e⟩ : ∃ ns : List Int, ds = ns.map .int := by
        clear fin l hx len rv
        induction ds with
        | nil => exact ⟨[], rfl⟩
        | cons d ds ih =>
          obtain ⟨i, rfl⟩ := ok d List.mem_cons_self
          obtain ⟨ns, e⟩ := ih fun x hx => ok x (List.mem_cons_of_mem _ hx)
          exact ⟨i :: ns, by rw [e]; rfl⟩
      subst e
      rw [ints_rep l] at rv
      have ia : IntsAre its.toArray.toList ns := by simpa using rv.ints
      have nl : its.length = ns.length := by
        have := ia.length
        simpa using this
      rw [List.length_map] at len
      refine ⟨_, takes_ints ia (by unfold scanBound; omega), fun h' tk g k => ?_⟩
      obtain ⟨c, _, R⟩ := g (by rw [List.size_toArray, nl]; exact Nat.le_refl _)
      obtain ⟨ms, us, sv, v, nd, hm⟩ := setR_vals R
      refine fin _ h' tk us _ (ms.map .int) rfl k sv v (rep_ints ms) ?_
      rw [once_enc (enc := PyData.int) eqv_int]
      refine (perm_once nd fun x => ?_).map _
      rw [← hm, List.size_toArray, nl, List.take_length]
      exact decide_eq_true_iff
    · obtain ⟨ks, e1, e2, hk⟩ := keys_of l ok
      subst e1 e2
      have ei : its.toArray.toList = ks.map fun p => Value.ref p.1 := by simpa using refs_of_vals rv
      have nl : its.length = ks.length := by
        have := congrArg List.length ei
        rw [List.length_map] at this
        simpa using this
      have oe : onceD (ks.map fun p => tupD p.2) = (once (ks.map (·.2))).map tupD := by
        rw [← once_enc eqv_tup, List.map_map]
        rfl
      rw [oe, List.length_map] at few
      refine ⟨_, takes_keys (ks := ks) ei (fun p hp => I.isT (hk p hp).1) few, fun h' tk ⟨L, es, ep, t, R, g⟩ k => ?_⟩
      have sub : ∀ p, p ∈ L → p ∈ ks := fun p hp => List.mem_of_mem_take (g.sub p hp)
      refine fin _ h' tk _ (L.map fun p => V.ref p.1) (L.map fun p => tupD p.2) rfl k R.vals (vals_of_refs L) (rep_keys fun p hp => (hk p (sub p hp)).2) ?_
      rw [oe, show (L.map fun p => tupD p.2) = (L.map (·.2)).map tupD by rw [List.map_map]; rfl]
      refine (perm_once R.one fun x => ⟨fun h => ?_, fun h => ?_⟩).map _
      · obtain ⟨p, hp, rfl⟩ := List.mem_map.mp h
        exact List.mem_map.mpr ⟨p, sub p hp, rfl⟩
      · obtain ⟨p, hp, rfl⟩ := List.mem_map.mp h
        exact g.all p (by rw [List.size_toArray, nl, List.take_length]; exact hp)
  rcases hx with ⟨_, hx⟩ | ⟨_, hx⟩
  · obtain ⟨its, rv, hl, _⟩ := I.list hx
    obtain ⟨In, T, f⟩ := go its rv
    exact make_setL hh hl.isList T (by omega) f
  · obtain ⟨its, rv, hl, _⟩ := I.tuple hx
    obtain ⟨In, T, f⟩ := go its rv
    exact make_setT hh hl T (by omega) f
end
end Ad
namespace Ad
namespace Sn
open PySem PySem.Calls PySem.W PySem.SeqAt PySem.Spec PyProof.Rows L2
open PySem PySem.Spec PyProof.Rows L2

/-! ### keys: tuples of tuples of ints -/
abbrev AN := Addr × NestedKey
def IsN (P : Program) (w : World) (h : Heap) (k : NestedKey) (a : Addr) : Prop := (nestedKind P w).is h k a ∧ nums k = true
abbrev nhash (P : Program) (w : World) (k : NestedKey) : Int := (nestedKind P w).hash k
def rowsN (P : Program) (w : World) (L : List AN) : List (Int × Value) := L.map fun p => (nhash P w p.2, Value.ref p.1)
theorem rowsN_put {P : Program} {w : World} (L : List AN) (p : Nat) (x : Addr) (k : NestedKey) : rowsN P w (L.take p ++ (x, k) :: L.drop p) = (rowsN P w L).take p ++ (nhash P w k, Value.ref x) :: (rowsN P w L).drop p := by
  unfold rowsN
  rw [List.map_append, List.map_cons, List.map_take, List.map_drop]
theorem isN_keep {P : Program} {w : World} {h h' : Heap} {k : NestedKey} {b : Addr} (x : IsN P w h k b) (hk : ∀ c o, h.get? c = some o → h'.get? c = some o) : IsN P w h' k b := ⟨nestedKind_stays.stays (fun c o _ _ e _ => hk c o e) x.1, x.2⟩
theorem isN_same {P : Program} {w : World} {h h' : Heap} {k : NestedKey} {a b : Addr} {o : Obj} {es : Array (Int × Value)} {ep : Nat} {t : SetTable} (hb : IsN P w h k b) (ho : h.get? a = some o) (hd : o.data = .set es ep t) (hs : Heap.SameBut a h h') : IsN P w h' k b := ⟨nestedKind_stays.stays (fun c oc vs n e ec => by
  refine (hs.2 c fun z => ?_).trans e
  subst z
  rw [ho] at e
  cases e
  rw [hd] at ec
  cases ec) hb.1, hb.2⟩
section
variable {P : Program} {w : World} {A : Around} {E : Value → Shared → Prop} {s : Shared}
mutual
theorem hashBy_nest : ∀ (k : NestedKey) (n : Nat) (v : Value), nums k = true → k.depth ≤ n → NestedIs s.heap k v → ∀ (T : Bool → Shared → Prop), T true s → wpAny (model P w) A (hashByValue n v) T E s
  | .none, _, _, h, _, _ => nomatch h
  | .text _, _, _, h, _, _ => nomatch h
  | .num i, n, v, _, _, hk => fun T h => by
    cases hk <;> cases n <;> exact wpAny_pure h
  | .tup ks, 0, v, _, hd, _ => absurd hd (by simp [NestedKey.depth])
  | .tup ks, n + 1, v, hn, hd, hk => fun T h => by
    cases hk with
    | @tup b o vs m _ ho hc hv ha =>
      have ty : s.TypeIs (.ref b) "tuple" := ⟨_, ho, hc⟩
      have each := hashBy_each ks n vs.toList (by simpa [nums] using hn) (by simpa [NestedKey.depth] using hd) ha
      unfold hashByValue
      refine wpAny_bind (wpAny_specialOf ty F.slot_tuple_hash.lookup ?_)
      show wpAny _ _ (seqItems? (.ref b) >>= _) _ _ s
      refine wpAny_bind (wpAny_seqItems ho hv (wpAny_bind ?_))
      show wpAny _ _ (forIn vs _ _) _ _ s
      rw [← Array.forIn_toList]
      refine wpAny_forIn_list _ (fun left got now => now = s ∧ got.1 = none ∧ ∀ u, u ∈ left → ∀ (T : Bool → Shared → Prop), T true s → wpAny (model P w) A (hashByValue n u) T E s) _ ?_ ?_ _ _ ⟨rfl, rfl, each⟩
      · rintro u left got now ⟨rfl, g, more⟩
        refine wpAny_bind (more u List.mem_cons_self _ ?_)
        simp only [Bool.not_true, Bool.false_eq_true, if_false]
        exact wpAny_pure ⟨rfl, rfl, fun z hz => more z (List.mem_cons_of_mem _ hz)⟩
      · rintro ⟨g1, g2⟩ now ⟨rfl, g, _⟩
        simp only at g
        subst g
        exact wpAny_pure h
theorem hashBy_each : ∀ (ks : List NestedKey) (n : Nat) (vs : List Value), numsAll ks = true → NestedKey.depthAll ks ≤ n → NestedAll s.heap ks vs → ∀ v, v ∈ vs → ∀ (T : Bool → Shared → Prop), T true s → wpAny (model P w) A (hashByValue n v) T E s
  | [], _, _, _, _, hk => fun v hv => by
    cases hk
    cases hv
  | k :: ks, n, vs, hn, hd, hk => fun v hv => by
    cases hk with
    | cons h1 h2 =>
      simp only [numsAll, Bool.and_eq_true] at hn
      have hd : max k.depth (NestedKey.depthAll ks) ≤ n := hd
      rcases List.mem_cons.mp hv with rfl | hv
      · exact hashBy_nest k n _ hn.1 (by omega) h1
      · exact hashBy_each ks n _ hn.2 (by omega) h2 v hv
end
mutual
theorem ofA_nest : ∀ (k : NestedKey) (n : Nat) (v : Value), nums k = true → k.depth ≤ n → NestedIs s.heap k v → ∀ (T : Bool → Shared → Prop), T false s → wpAny (model P w) A (ofAClassStatement n v) T E s
  | .none, _, _, h, _, _ => nomatch h
  | .text _, _, _, h, _, _ => nomatch h
  | .num i, n, v, _, _, hk => fun T h => by
    cases hk <;> cases n <;> exact wpAny_pure h
  | .tup ks, 0, v, _, hd, _ => absurd hd (by simp [NestedKey.depth])
  | .tup ks, n + 1, v, hn, hd, hk => fun T h => by
    cases hk with
    | @tup b o vs m _ ho hc hv ha =>
      have ty : s.TypeIs (.ref b) "tuple" := ⟨_, ho, hc⟩
      have each := ofA_each ks n vs.toList (by simpa [nums] using hn) (by simpa [NestedKey.depth] using hd) ha
      unfold ofAClassStatement
      refine wpAny_bind (wpAny_typeOf ty ?_)
      dsimp only
      simp only [show (("tuple" : String) == "tuple") = true by decide, if_true, Bool.not_true, Bool.false_eq_true, if_false]
      try refine wpAny_bind (wpAny_pure ?_)
      try simp only [Bool.not_true, Bool.false_eq_true, if_false]
      show wpAny _ _ (seqItems? (.ref b) >>= _) _ _ s
      refine wpAny_bind (wpAny_seqItems ho hv ?_)
      dsimp only
      refine wpAny_bind ?_
      show wpAny _ _ (forIn vs _ _) _ _ s
      rw [← Array.forIn_toList]
      refine wpAny_forIn_list _ (fun left got now => now = s ∧ got.1 = none ∧ ∀ u, u ∈ left → ∀ (T : Bool → Shared → Prop), T false s → wpAny (model P w) A (ofAClassStatement n u) T E s) _ ?_ ?_ _ _ ⟨rfl, rfl, each⟩
      · rintro u left got now ⟨rfl, g, more⟩
        refine wpAny_bind (more u List.mem_cons_self _ ?_)
        simp only [Bool.not_true, Bool.false_eq_true, if_false]
        exact wpAny_pure ⟨rfl, rfl, fun z hz => more z (List.mem_cons_of_mem _ hz)⟩
      · rintro ⟨g1, g2⟩ now ⟨rfl, g, _⟩
        simp only at g
        subst g
        exact wpAny_pure h
theorem ofA_each : ∀ (ks : List NestedKey) (n : Nat) (vs : List Value), numsAll ks = true → NestedKey.depthAll ks ≤ n → NestedAll s.heap ks vs → ∀ v, v ∈ vs → ∀ (T : Bool → Shared → Prop), T false s → wpAny (model P w) A (ofAClassStatement n v) T E s
  | [], _, _, _, _, hk => fun v hv => by
    cases hk
    cases hv
  | k :: ks, n, vs, hn, hd, hk => fun v hv => by
    cases hk with
    | cons h1 h2 =>
      simp only [numsAll, Bool.and_eq_true] at hn
      have hd : max k.depth (NestedKey.depthAll ks) ≤ n := hd
      rcases List.mem_cons.mp hv with rfl | hv
      · exact ofA_nest k n _ hn.1 (by omega) h1
      · exact ofA_each ks n _ hn.2 (by omega) h2 v hv
end
theorem hashBy_nestT {k : NestedKey} {b : Addr} {Q : Bool → Shared → Prop} (hk : IsN P w s.heap k b) (h : Q true s) : wpAny (model P w) A (hashByValue 8 (.ref b)) Q E s := hashBy_nest k 8 _ hk.2 hk.1.2 hk.1.1 Q h
theorem ofA_nestT {k : NestedKey} {b : Addr} {Q : Bool → Shared → Prop} (hk : IsN P w s.heap k b) (h : Q false s) : wpAny (model P w) A (ofAClassStatement 8 (.ref b)) Q E s := ofA_nest k 8 _ hk.2 hk.1.2 hk.1.1 Q h
theorem seen_nest {k : NestedKey} {b : Addr} {Q : Bool → Shared → Prop} (hk : IsN P w s.heap k b) {ys : List Value} (hy : ∀ y ∈ ys, ∃ k' c, y = Value.ref c ∧ IsN P w s.heap k' c) (h : Q false s) :
    wpAny (model P w) A (searchCouldBeSeen (.ref b) ys) Q E s := by
  unfold searchCouldBeSeen
  refine wpAny_bind (wpAny_forIn_list _ (fun left got now => now = s ∧ got.1 = none ∧ ∀ y, y ∈ left → ∃ k' c, y = Value.ref c ∧ IsN P w s.heap k' c) _ ?_ ?_ _ _ ⟨rfl, rfl, hy⟩)
  · rintro u left got now ⟨rfl, g, more⟩
    obtain ⟨k', c, rfl, hc⟩ := more u List.mem_cons_self
    have more' := fun z hz => more z (List.mem_cons_of_mem _ hz)
    dsimp only
    by_cases q : (b == c || (carriedByValue (.ref b) && carriedByValue (.ref c))) = true
    · exact wp_if_pos q (wpAny_pure ⟨rfl, rfl, more'⟩)
    · refine wp_if_neg q (wpAny_bind ((nestedKind P w).quiet hk.1 ?_))
      simp only [Bool.not_true, Bool.false_eq_true, if_false]
      refine wpAny_bind ((nestedKind P w).quiet hc.1 ?_)
      simp only [Bool.not_true, Bool.false_eq_true, if_false]
      refine wpAny_bind (ofA_nestT hk ?_)
      simp only [Bool.false_eq_true, if_false]
      refine wpAny_bind (ofA_nestT hc ?_)
      simp only [Bool.false_eq_true, if_false]
      exact wpAny_pure ⟨rfl, rfl, more'⟩
  · rintro ⟨g1, g2⟩ now ⟨rfl, g, _⟩
    simp only at g
    subst g
    exact wpAny_pure h
end

/-! ### in another order; what was taken in so far -/
theorem fm_map {α β : Type} {f : α → Option β} {g : α → β} : ∀ {l : List α}, (∀ i, i ∈ l → f i = some (g i)) → l.filterMap f = l.map g
  | [], _ => rfl
  | x :: l, h => by
    rw [List.filterMap_cons, h x List.mem_cons_self, List.map_cons, fm_map fun i hi => h i (List.mem_cons_of_mem _ hi)]
theorem range_getD {α : Type} (L : List α) (d : α) : (List.range L.length).map (fun i => L.getD i d) = L := by
  refine List.ext_getElem (by rw [List.length_map, List.length_range]) fun i h1 h2 => ?_
  rw [List.getElem_map, List.getElem_range, List.getD_eq_getElem?_getD, List.getElem?_eq_getElem h2]
  rfl
theorem rows_in_order {P : Program} {w : World} (L : List AN) (es : Array (Int × Value)) (order : Array Nat) (hr : es.toList = rowsN P w L) (hp : order.toList.Perm (List.range L.length)) :
    ∃ M, (order.filterMap (es[·]?)).toList = rowsN P w M ∧ M.Perm L ∧ (M.map fun p => nhash P w p.2) = order.toList.map fun i => (es.map (·.1)).getD i 0 := by
  have lt : ∀ i, i ∈ order.toList → i < L.length := fun i hi => List.mem_range.mp (hp.mem_iff.mp hi)
  have at_ : ∀ i, i ∈ order.toList → es[i]? = some (nhash P w (L.getD i (0, .none)).2, Value.ref (L.getD i (0, .none)).1) := fun i hi => by
    rw [← Array.getElem?_toList, hr, rowsN, List.getElem?_map, List.getD_eq_getElem?_getD, List.getElem?_eq_getElem (lt i hi)]
    rfl
  refine ⟨order.toList.map fun i => L.getD i (0, .none), ?_, ?_, ?_⟩
  · rw [Array.toList_filterMap, fm_map at_, rowsN, List.map_map]
    rfl
  · have := hp.map fun i => L.getD i (0, .none)
    rw [range_getD] at this
    exact this
  · rw [List.map_map]
    refine List.map_congr_left fun i hi => ?_
    have e := at_ i hi
    show nhash P w (L.getD i (0, .none)).2 = _
    rw [Array.getD_eq_getD_getElem?, Array.getElem?_map, e]
    rfl
structure GotN (ks : List AN) (i : Nat) (L : List AN) : Prop where
  sub : ∀ p, p ∈ L → p ∈ ks.take i
  all : ∀ p, p ∈ ks.take i → p.2 ∈ L.map (·.2)
theorem GotN.zero (ks : List AN) : GotN ks 0 [] := ⟨fun p h => (nomatch h), fun p h => by simp at h⟩
theorem take_one {α : Type} {l : List α} {i : Nat} {x y : α} (h : l[i]? = some x) : y ∈ l.take (i + 1) ↔ y ∈ l.take i ∨ y = x := by
  rw [List.take_add_one, h, List.mem_append]
  simp
theorem GotN.same {ks L : List AN} {i : Nat} {x : AN} (g : GotN ks i L) (h : ks[i]? = some x) (hm : x.2 ∈ L.map (·.2)) : GotN ks (i + 1) L :=
  ⟨fun p hp => (take_one h).mpr (.inl (g.sub p hp)), fun p hp => ((take_one h).mp hp).elim (g.all p) fun e => by rw [e]; exact hm⟩
theorem GotN.more {ks L L' : List AN} {i : Nat} {x : AN} (g : GotN ks i L) (h : ks[i]? = some x) (pm : L'.Perm (x :: L)) : GotN ks (i + 1) L' := by
  refine ⟨fun p hp => (take_one h).mpr ?_, fun p hp => ?_⟩
  · rcases List.mem_cons.mp (pm.mem_iff.mp hp) with e | z
    · exact .inr e
    · exact .inl (g.sub p z)
  · have e : (L'.map (·.2)).Perm (x.2 :: L.map (·.2)) := pm.map (·.2)
    rcases (take_one h).mp hp with z | z
    · exact e.mem_iff.mpr (List.mem_cons_of_mem _ (g.all p z))
    · rw [z]
      exact e.mem_iff.mpr List.mem_cons_self
/-! ### the same of nested tuples of ints -/

structure SetG (P : Program) (w : World) (h : Heap) (a : Addr) (L : List AN) (es : Array (Int × Value)) (ep : Nat) (t : SetTable) : Prop where
  obj : ∃ o, h.get? a = some o ∧ o.ExactSet ∧ o.data = .set es ep t
  row : es.toList = rowsN P w L
  tb : Tab t (L.map fun p => nhash P w p.2)
  one : (L.map (·.2)).Nodup
  keys : ∀ p, p ∈ L → IsN P w h p.2 p.1
  pl : t.plain = true
  ld : w.params.followText "set-order" = true ∨ t.led = true
  space : L.length * 5 < t.mask * 3
section
variable {P : Program} {w : World} {A : Around} {E : Value → Shared → Prop} {s : Shared}
variable {a : Addr} {L : List AN} {es : Array (Int × Value)} {ep : Nat} {t : SetTable}
theorem rows_len (L : List AN) : (rowsN P w L).length = L.length := List.length_map _
theorem es_len {es : Array (Int × Value)} {L : List AN} (h : es.toList = rowsN P w L) : es.size = L.length := by
  rw [← Array.length_toList, h, rows_len]
theorem es_at {es : Array (Int × Value)} {L : List AN} (h : es.toList = rowsN P w L) {i : Nat} {p : AN} (e : L[i]? = some p) : es[i]? = some (nhash P w p.2, Value.ref p.1) := by
  rw [← Array.getElem?_toList, h, rowsN, List.getElem?_map, e]
  rfl
theorem tab_fits {hs : List Int} (T : Tab t hs) {n : Nat} (hn : n = hs.length) (hr : hs.length ≤ t.mask) : t.fits n = true := by
  have := T.len
  unfold SetTable.fits SetTable.fill
  rw [T.clean]
  simp only [Bool.and_eq_true, beq_iff_eq, decide_eq_true_eq]
  exact ⟨by omega, by show t.place.size + 0 ≤ t.mask; omega⟩
theorem SetG.fit (R : SetG P w s.heap a L es ep t) : t.fits es.size = true := by
  have := R.space
  exact tab_fits R.tb (by rw [List.length_map]; exact es_len R.row) (by rw [List.length_map]; omega)
theorem nth_dummy (m : Nat) : ∀ (n : Nat) (p : SetTable.Probe), p.dummy = none → (nth m p n).dummy = none
  | 0, _, h => h
  | n + 1, p, h => nth_dummy m n (adv m p) (by
    unfold adv
    split
    · exact h
    · exact h)
/-- where a search starts -/
abbrev begin_ (m : Nat) (h : Int) : SetTable.Probe := runAt m (SetTable.bits h % (m + 1)) (SetTable.bits h)
/-- the search, from its c-th step on -/
theorem seek (R : SetG P w s.heap a L es ep t) {x : Addr} {k : NestedKey} (hx : IsN P w s.heap k x) (hu : A.units + 8 < cLine) {h : Int} (eh : nhash P w k = h) {K : Nat} (hK : K < 10 * SetTable.turns t.mask)
    (out : way t.mask h K ∉ t.place.toList) (ins : ∀ c, c < K → way t.mask h c ∈ t.place.toList) {Q : SetFound → Shared → Prop}
    (yes : k ∈ L.map (·.2) → Q (.there none) s) (no : k ∉ L.map (·.2) → Q (.free (way t.mask h K) false) s) :
    ∀ (f c : Nat) (st : Option SetTable.Probe), st.getD (t.probeStart h) = nth t.mask (begin_ t.mask h) c → c ≤ K → K - c < f →
      (∀ (i : Nat) p, L[i]? = some p → p.2 = k → ∃ c', c ≤ c' ∧ c' < K ∧ t.place.toList[i]? = some (way t.mask h c')) →
      wpAny (model P w) A (setSearchFrom a (.ref x) h true f st) Q E s
  | 0, c, st, _, _, hf, _ => absurd hf (Nat.not_lt_zero _)
  | f + 1, c, st, hst, hc, hf, ahead => by
    obtain ⟨o, ho, ex, hd⟩ := R.obj
    rw [setSearchFrom_succ]
    refine wpAny_bind (wpAny_setState_of ho hd R.fit ?_)
    dsimp only
    refine wp_if_neg (by unfold SetTable.gaveWay; rw [R.tb.msk.odd]; decide) ?_
    try refine wpAny_bind (wpAny_pure ?_)
    have go : ∀ q, nth t.mask (nth t.mask (begin_ t.mask h) c) q = nth t.mask (begin_ t.mask h) (c + q) := fun q => (nth_add t.mask c _ q).symm
    have gj : ∀ q, (nth t.mask (nth t.mask (begin_ t.mask h) c) q).j = way t.mask h (c + q) := fun q => by rw [go]
    have hsh : ∀ (i : Nat) p, L[i]? = some p → (es[i]?.map (·.1)).getD 0 = nhash P w p.2 := fun i p e => by
      rw [es_at R.row e]
      rfl
    have never : ∀ q : Nat, (∀ (k' i' : Nat), k' < q → t.place.toList[i']? = some (nth t.mask (nth t.mask (begin_ t.mask h) c) k').j → (es[i']?.map (·.1)).getD 0 ≠ h) → ∀ (i : Nat) (p : AN) (c' : Nat), L[i]? = some p → p.2 = k → c ≤ c' → c' < c + q → t.place.toList[i]? = some (way t.mask h c') → False := fun q hno i p c' e1 e2 e3 e4 e5 => by
      refine hno (c' - c) i (by omega) (by rw [gj, show c + (c' - c) = c' by omega]; exact e5) ?_
      rw [hsh i p e1, e2, eh]
    rcases go_spec t R.tb.up R.tb.clean (fun i => (es[i]?.map (·.1)).getD 0) h (10 * SetTable.turns t.mask) (K - c) _ (nth_dummy t.mask c _ rfl) (by omega) (fun q hq => by rw [gj]; exact ins _ (by omega)) (by rw [gj, show c + (K - c) = K by omega]; exact out) with ⟨q, i, hq, hi, _, hno, hp⟩ | ⟨hno, hp⟩
    · have hp : t.probe (fun i => (es[i]?.map (·.1)).getD 0) h (st.getD (t.probeStart h)) = some (.candidate (way t.mask h (c + q)) i (nth t.mask (begin_ t.mask h) (c + (q + 1)))) := by
        rw [hst, ← gj, ← go]
        exact hp
      rw [hp]
      dsimp only
      rw [gj] at hi
      have il : i < L.length := by
        have b := (List.getElem?_eq_some_iff.mp hi).1
        have := R.tb.len
        rw [Array.length_toList] at b
        rw [List.length_map] at this
        omega
      obtain ⟨p, ep'⟩ : ∃ p, L[i]? = some p := ⟨_, List.getElem?_eq_getElem il⟩
      have pin : p ∈ L := List.mem_of_getElem? ep'
      have rest : wpAny (model P w) A (searchRest a (.ref x) h true f es t (way t.mask h (c + q)) i (nth t.mask (begin_ t.mask h) (c + (q + 1)))) Q E s := by
        unfold searchRest
        rw [es_at R.row ep']
        dsimp only
        refine wpAny_bind (wpAny_holding ((nestedKind P w).eqBool hu (R.keys p pin).1 hx.1 ?_))
        refine wpAny_bind (wpAny_setState_of ho hd R.fit ?_)
        dsimp only
        by_cases same : p.2 = k
        · exact wp_if_pos (by simp [same]) (wpAny_pure (yes (List.mem_map.mpr ⟨p, pin, same⟩)))
        · refine wp_if_neg (by simp [same]) ?_
          try refine wpAny_bind (wpAny_pure ?_)
          rw [sameMem]
          dsimp only
          have sl : t.slot (way t.mask h (c + q)) = .live i := slot_live R.tb.up hi
          simp only [if_true, sl, es_at R.row ep']
          refine wpAny_bind (wpAny_isSame_ref_self (wpAny_bind (wpAny_pure ?_)))
          simp only [if_true]
          refine wp_if_neg (by simp [same]) ?_
          refine seek R hx hu eh hK out ins yes no f (c + (q + 1)) _ rfl (by omega) (by omega) fun i0 p0 e1 e2 => ?_
          obtain ⟨c', a1, a2, a3⟩ := ahead i0 p0 e1 e2
          refine ⟨c', ?_, a2, a3⟩
          refine Nat.lt_of_not_le fun z => ?_
          rcases Nat.lt_or_eq_of_le z with z | z
          · exact never q hno i0 p0 c' e1 e2 a1 z a3
          · subst z
            have s0 := slot_live R.tb.up a3
            have s0 : SetTable.Slot.live i = .live i0 := sl.symm.trans s0
            injection s0 with s0
            subst s0
            rw [ep'] at e1
            cases e1
            exact same e2
      by_cases led : t.led = true
      · refine wp_if_neg (by simp [led]) ?_
        try refine wpAny_bind (wpAny_pure ?_)
        exact rest
      · refine wp_if_pos (by simp [led]) ?_
        refine wpAny_bind (seen_nest hx (fun y hy => ?_) ?_)
        · obtain ⟨e, he, rfl⟩ := List.mem_map.mp hy
          have he : e ∈ es.toList := by
            have := (show e ∈ es ∧ e.1 = h by simpa using he).1
            simpa using this
          rw [R.row] at he
          obtain ⟨p2, h2, rfl⟩ := List.mem_map.mp he
          exact ⟨p2.2, p2.1, rfl, R.keys p2 h2⟩
        · refine wp_if_neg (by decide) ?_
          try refine wpAny_bind (wpAny_pure ?_)
          exact rest
    · have hp : t.probe (fun i => (es[i]?.map (·.1)).getD 0) h (st.getD (t.probeStart h)) = some (.empty (way t.mask h K) none) := by
        have e2 := gj (K - c)
        rw [show c + (K - c) = K by omega] at e2
        rw [hst, ← e2]
        exact hp
      rw [hp]
      dsimp only
      refine wpAny_pure (no fun hm => ?_)
      obtain ⟨p0, h0, e2⟩ := List.mem_map.mp hm
      obtain ⟨i0, hi0⟩ := List.getElem?_of_mem h0
      obtain ⟨c', a1, a2, a3⟩ := ahead i0 p0 hi0 e2
      exact never (K - c) hno i0 p0 c' hi0 e2 a1 (by omega) a3
theorem seek_all (R : SetG P w s.heap a L es ep t) {x : Addr} {k : NestedKey} (hx : IsN P w s.heap k x) (hu : A.units + 8 < cLine) {Q : SetFound → Shared → Prop}
    (yes : k ∈ L.map (·.2) → Q (.there none) s)
    (no : ∀ j K, k ∉ L.map (·.2) → way t.mask (nhash P w k) K = j → j ∉ t.place.toList → (∀ c, c < K → way t.mask (nhash P w k) c ∈ t.place.toList) → Q (.free j false) s) :
    wpAny (model P w) A (setSearch a (.ref x) (nhash P w k) true) Q E s := by
  have space := R.space
  have small := R.tb.msk.small
  obtain ⟨K, hK, out, ins⟩ := R.tb.hole (by rw [List.length_map]; omega) (nhash P w k)
  unfold setSearch
  refine seek R hx hu rfl hK out ins yes (fun hn => no _ K hn rfl out ins) 100000 0 none rfl (Nat.zero_le K) (by
    have : 10 * SetTable.turns t.mask ≤ 100000 := by
      unfold SetTable.turns
      omega
    omega) fun i p hp e => ?_
  have e1 : (L.map fun p => nhash P w p.2)[i]? = some (nhash P w k) := by
    rw [List.getElem?_map, hp, ← e]
    rfl
  have il : i < t.place.toList.length := by
    have b := (List.getElem?_eq_some_iff.mp hp).1
    have := R.tb.len
    rw [List.length_map] at this
    rw [Array.length_toList]
    omega
  have e2 := List.getElem?_eq_getElem il
  obtain ⟨c, c1, c2⟩ := R.tb.ahead out e1 e2
  exact ⟨c, Nat.zero_le c, c1, by rw [e2, c2]⟩
end
section
variable {P : Program} {w : World} {A : Around} {E : Value → Shared → Prop} {s : Shared}
variable {a : Addr} {L : List AN} {es : Array (Int × Value)} {ep : Nat} {t : SetTable}
/-- all laid in a larger table -/
theorem relay {o : Obj} (ho : s.heap.get? a = some o) (ex : o.ExactSet) (hd : o.data = .set es ep t) (row : es.toList = rowsN P w L) (tb : Tab t (L.map fun p => nhash P w p.2)) (small : L.length ≤ t.mask) (one : (L.map (·.2)).Nodup) (keys : ∀ p, p ∈ L → IsN P w s.heap p.2 p.1) (pl : t.plain = true) (ld : w.params.followText "set-order" = true ∨ t.led = true)
    {wanted m : Nat} (hw : SetTable.sizeAbove wanted = m + 1) (M : Msk m) (hn : L.length * 5 < m * 3) {Q : Unit → Shared → Prop}
    (hQ : ∀ h' L' es' ep' t', Heap.SameBut a s.heap h' → SetG P w h' a L' es' ep' t' → L'.Perm L → Q () { s with heap := h' }) : wpAny (model P w) A (setRelay a wanted) Q E s := by
  have el := es_len row
  have ms := M.small
  obtain ⟨t', order, e, perm, T, em, eled, epl⟩ := relaid_tab t (hs := es.map (·.1)) (wanted := wanted) (m := m) (by omega) M (by rw [Array.size_map]; omega)
  rw [Array.size_map, el] at perm
  obtain ⟨L2, r1, r2, r3⟩ := rows_in_order (P := P) (w := w) L es order row perm
  rw [← r3] at T
  have size2 : (order.filterMap (es[·]?)).size = es.size := by rw [es_len r1, r2.length_eq, el]
  have fit : t.fits es.size = true := tab_fits tb (by rw [List.length_map]; exact el) (by rw [List.length_map]; exact small)
  rw [setRelay_eq]
  refine wpAny_bind (wpAny_setState_of ho hd fit ?_)
  dsimp only
  refine wp_if_neg (by rw [hw, sizeLine_eq]; omega) ?_
  try refine wpAny_bind (wpAny_pure ?_)
  rw [e]
  dsimp only
  refine wpAny_bind ?_
  refine wp_if_neg (by rw [size2]; simp) ?_
  try refine wpAny_bind (wpAny_pure ?_)
  refine wpAny_pure ?_
  dsimp only
  refine wpAny_storeSet_of ho hd ?_ (by rw [size2, el, sizeLine_eq]; omega)
  have but : Heap.SameBut a s.heap (s.heap.update a (Obj.putSet (order.filterMap (es[·]?)) t')) := Heap.SameBut.update ..
  refine hQ _ L2 _ (ep + 1) t' but ⟨⟨_, store_at ho hd, ⟨ex.1, ex.2.1, ex.2.2⟩, rfl⟩, r1, T, (r2.map (·.2)).nodup_iff.mpr one, fun p hp => isN_same (keys p (r2.mem_iff.mp hp)) ho hd but, epl.trans pl, by rw [eled]; exact ld, by rw [r2.length_eq, em]; exact hn⟩ r2
/-- into which mask it grows -/
theorem grows {m n : Nat} (M : Msk m) (h1 : n * 5 < m * 3) (h2 : m * 3 ≤ (n + 1) * 5) (h3 : n + 1 ≤ 306) : ∃ m', Msk m' ∧ SetTable.sizeAbove (SetTable.grown (n + 1)) = m' + 1 ∧ (n + 1) * 5 < m' * 3 ∧ n + 1 ≤ m := by
  rcases M.four with rfl | rfl | rfl | rfl
  · have : n = 4 := by omega
    subst this
    exact ⟨31, msk31, grown_5, by decide, by decide⟩
  · have : n = 18 := by omega
    subst this
    exact ⟨127, msk127, grown_19, by decide, by decide⟩
  · have : n = 76 := by omega
    subst this
    exact ⟨511, msk511, grown_77, by decide, by decide⟩
  · omega
/-- one more, or none -/
theorem add_one (R : SetG P w s.heap a L es ep t) {x : Addr} {k : NestedKey} (hx : IsN P w s.heap k x) (hu : A.units + 8 < cLine) (few : L.length + 1 ≤ 306) {Q : Bool → Shared → Prop}
    (hQ : ∀ r h' L' es' ep' t', Heap.SameBut a s.heap h' → SetG P w h' a L' es' ep' t' → (k ∈ L.map (·.2) → L' = L) → (k ∉ L.map (·.2) → L'.Perm ((x, k) :: L)) → Q r { s with heap := h' }) :
    wpAny (model P w) A (setAddHashed a (.ref x) (nhash P w k)) Q E s := by
  obtain ⟨o, ho, ex, hd⟩ := R.obj
  have el := es_len R.row
  unfold setAddHashed
  refine wpAny_holding ?_
  rw [show (100000 : Nat) = 99999 + 1 by decide, setAddHashedIn_succ]
  refine wpAny_bind (wpAny_setState_of ho hd R.fit ?_)
  dsimp only
  refine wp_if_neg (by simp [byScan, Value.scannable]) ?_
  try refine wpAny_bind (wpAny_pure ?_)
  refine wpAny_bind (seek_all R hx hu (fun hm => ?_) fun j K hm eK hj ins => ?_)
  · dsimp only
    exact wpAny_pure (hQ false s.heap L es ep t (Heap.SameBut.refl a s.heap) R (fun _ => rfl) fun z => (z hm).elim)
  dsimp only
  refine wpAny_bind (wpAny_setState_of ho hd R.fit ?_)
  dsimp only
  obtain ⟨le, T1⟩ := R.tb.put hj eK ins
  have hplain : (t.put j).1.plain = true := R.pl
  have hled : w.params.followText "set-order" = true ∨ (t.put j).1.led = true := R.ld
  have hmask : (t.put j).1.mask = t.mask := rfl
  have hpos : (t.put j).2 = spot t j := rfl
  generalize t.put j = pt at T1 hplain hled hmask hpos ⊢
  obtain ⟨t1, p⟩ := pt
  dsimp only at T1 hplain hled hmask hpos ⊢
  first
    | (refine wpAny_bind ?_; refine wp_if_pos hplain ?_; refine hashBy_nestT hx ?_)
    | refine wp_if_pos hplain (wpAny_bind (hashBy_nestT hx ?_))
  simp only [if_true]
  subst hpos
  have row1 : (SetTable.insertAt es (spot t j) (nhash P w k, Value.ref x)).toList = rowsN P w (L.take (spot t j) ++ (x, k) :: L.drop (spot t j)) := by
    rw [SetTable.toList_insertAt, rowsN_put, R.row]
  have T1 : Tab t1 ((L.take (spot t j) ++ (x, k) :: L.drop (spot t j)).map fun p => nhash P w p.2) := by
    rw [List.map_append, List.map_cons, List.map_take, List.map_drop]
    exact T1
  have perm := put_perm L (spot t j) (x, k)
  generalize L.take (spot t j) ++ (x, k) :: L.drop (spot t j) = L1 at row1 T1 perm
  generalize SetTable.insertAt es (spot t j) (nhash P w k, Value.ref x) = es1 at row1 ⊢
  have len1 : L1.length = L.length + 1 := perm.length_eq
  have el1 := es_len row1
  refine wpAny_bind (wpAny_storeSet_of ho hd ?_ (by rw [el1, len1, sizeLine_eq]; omega))
  have but : Heap.SameBut a s.heap (s.heap.update a (Obj.putSet es1 t1)) := Heap.SameBut.update ..
  have ho1 := store_at (es' := es1) (t' := t1) ho hd
  generalize s.heap.update a (Obj.putSet es1 t1) = h1 at but ho1 ⊢
  have one1 : (L1.map (·.2)).Nodup := (perm.map (·.2)).nodup_iff.mpr (List.nodup_cons.mpr ⟨hm, R.one⟩)
  have keys1 : ∀ q, q ∈ L1 → IsN P w h1 q.2 q.1 := fun q hq => by
    rcases List.mem_cons.mp (perm.mem_iff.mp hq) with rfl | hq
    · exact isN_same hx ho hd but
    · exact isN_same (R.keys q hq) ho hd but
  have space := R.space
  have fill1 : t1.fill = L.length + 1 := by
    have q := T1.len
    rw [List.length_map, len1] at q
    unfold SetTable.fill
    rw [T1.clean, q]
    rfl
  by_cases full : t1.tooFull = true
  · first
      | (refine wpAny_bind ?_; refine wp_if_pos (by simp [full]) ?_)
      | (refine wp_if_pos (by simp [full]) ?_; refine wpAny_bind ?_)
    have f2 : t1.mask * 3 ≤ (L.length + 1) * 5 := by
      unfold SetTable.tooFull at full
      rw [fill1] at full
      exact of_decide_eq_true full
    rw [el]
    obtain ⟨m', M', sz, room, fits⟩ := grows T1.msk (by rw [hmask]; exact space) f2 few
    refine relay (s := { s with heap := h1 }) ho1 ⟨ex.1, ex.2.1, ex.2.2⟩ rfl row1 T1 (by rw [len1]; exact fits) one1 keys1 hplain hled sz M' (by rw [len1]; exact room) ?_
    intro h2 L2 es2 ep2 t2 but2 R2 perm2
    exact wpAny_pure (hQ true h2 L2 es2 ep2 t2 (but.trans but2) R2 (fun z => (hm z).elim) fun _ => perm2.trans perm)
  · first
      | refine wp_if_neg (by simp [full]) ?_
      | (refine wpAny_bind ?_; refine wp_if_neg (by simp [full]) ?_; refine wpAny_pure ?_)
    refine wpAny_pure (hQ true h1 L1 es1 (ep + 1) t1 but ⟨⟨_, ho1, ⟨ex.1, ex.2.1, ex.2.2⟩, rfl⟩, row1, T1, one1, keys1, hplain, hled, ?_⟩ (fun z => (hm z).elim) fun _ => perm)
    unfold SetTable.tooFull at full
    rw [fill1] at full
    have := of_decide_eq_false (Bool.eq_false_iff.mpr full)
    rw [len1]
    omega
end
section
variable {P : Program} {w : World} {A : Around} {E : Value → Shared → Prop} {s : Shared}
theorem SetG.keep {h h' : Heap} {a : Addr} {L : List AN} {es : Array (Int × Value)} {ep : Nat} {t : SetTable} (R : SetG P w h a L es ep t) (ha : ∀ o, h.get? a = some o → h'.get? a = some o) (hk : ∀ p, p ∈ L → IsN P w h' p.2 p.1) : SetG P w h' a L es ep t := by
  obtain ⟨o, ho, r⟩ := R.obj
  exact ⟨⟨o, ha o ho, r⟩, R.row, R.tb, R.one, hk, R.pl, R.ld, R.space⟩
theorem SetG.new {h : Heap} {a : Addr} (e : h.get? a = some (newSet w)) : SetG P w h a [] #[] 0 (.fresh 0 0 (!w.params.followText "set-order")) := by
  refine ⟨⟨_, e, ⟨rfl, rfl, rfl⟩, rfl⟩, rfl, ⟨List.Pairwise.nil, rfl, rfl, msk7, (fun x hx => absurd hx List.not_mem_nil), fun i h j hi => ?_⟩, List.nodup_nil, (fun p hp => absurd hp List.not_mem_nil), rfl, ?_, show 0 * 5 < 7 * 3 by decide⟩
  · simp at hi
  · show _ ∨ (!w.params.followText "set-order") = true
    cases w.params.followText "set-order"
    · exact .inr rfl
    · exact .inl rfl
/-- keys taken in, one by one -/
theorem takes_keys {S : Addr} {h0 : Heap} {items : Array Value} {ks : List AN} (hit : items.toList = ks.map fun p => Value.ref p.1) (hk : ∀ p, p ∈ ks → IsN P w h0 p.2 p.1) (few : (once (ks.map (·.2))).length ≤ 305) : Takes1 P w S h0 items (fun i h => ∃ L es ep t, SetG P w h S L es ep t ∧ GotN ks i L) where
  fresh := fun h e _ => ⟨[], #[], 0, _, SetG.new e, GotN.zero ks⟩
  keep := fun i h h' ⟨L, es, ep, t, R, g⟩ ha hb => ⟨L, es, ep, t, R.keep ha fun p hp => isN_keep (hk p (List.mem_of_mem_take (g.sub p hp))) hb, g⟩
  step := fun A E i v s Q hu hv ⟨L, es, ep, t, R, g⟩ hb hQ => by
    have e : items.toList[i]? = some v := by rw [Array.getElem?_toList]; exact hv
    rw [hit, List.getElem?_map] at e
    obtain ⟨p, hp, rfl⟩ := Option.map_eq_some_iff.mp e
    have hx : IsN P w s.heap p.2 p.1 := isN_keep (hk p (List.mem_of_getElem? hp)) hb
    have len : L.length ≤ 305 := by
      have := nodup_le (L.map (·.2)) (once (ks.map (·.2))) R.one fun x hx => by
        obtain ⟨q, hq, rfl⟩ := List.mem_map.mp hx
        exact (mem_once _ _).mpr (List.mem_map.mpr ⟨q, List.mem_of_mem_take (g.sub q hq), rfl⟩)
      rw [List.length_map] at this
      omega
    unfold setAdd
    refine wpAny_holding (wpAny_bind ((nestedKind P w).pyHash hu hx.1 ?_))
    refine add_one (s := { s with toks := s.toks + p.2.draws }) R hx (by omega) (by omega) fun r h' L' es' ep' t' but R' c1 c2 => ?_
    refine hQ r h' _ but ⟨L', es', ep', t', R', ?_⟩
    by_cases c : p.2 ∈ L.map (·.2)
    · rw [c1 c]
      exact g.same hp c
    · exact g.more hp (c2 c)
end
end Sn
end Ad
namespace Ad
namespace Sn
open PySem PySem.Calls PySem.W PySem.SeqAt PySem.Spec PyProof.Rows L2

/-! ### sets of nested tuples, made -/
mutual
theorem eqv_nk : ∀ a b : NestedKey, PyData.eqv (nkD a) (nkD b) = decide (a = b)
  | .none, .none => rfl
  | .none, .num _ => rfl
  | .none, .text _ => rfl
  | .none, .tup _ => rfl
  | .num _, .none => rfl
  | .num i, .num j => by
    show decide (i = j) = _
    rw [decide_eq_decide]
    exact ⟨fun h => by rw [h], fun h => by injection h⟩
  | .num _, .text _ => rfl
  | .num _, .tup _ => rfl
  | .text _, .none => rfl
  | .text _, .num _ => rfl
  | .text x, .text y => by
    show (x == y) = _
    rw [Bool.eq_iff_iff, beq_iff_eq, decide_eq_true_eq]
    exact ⟨fun h => by rw [h], fun h => by injection h⟩
  | .text _, .tup _ => rfl
  | .tup _, .none => rfl
  | .tup _, .num _ => rfl
  | .tup _, .text _ => rfl
  | .tup a, .tup b => by
    show PyData.eqvAll (nkDs a) (nkDs b) = _
    rw [eqv_nks a b, decide_eq_decide]
    exact ⟨fun h => by rw [h], fun h => by injection h⟩
theorem eqv_nks : ∀ a b : List NestedKey, PyData.eqvAll (nkDs a) (nkDs b) = decide (a = b)
  | [], [] => rfl
  | [], _ :: _ => rfl
  | _ :: _, [] => rfl
  | x :: a, y :: b => by
    show (PyData.eqv (nkD x) (nkD y) && PyData.eqvAll (nkDs a) (nkDs b)) = _
    rw [eqv_nk x y, eqv_nks a b, Bool.eq_iff_iff, Bool.and_eq_true, decide_eq_true_eq, decide_eq_true_eq, decide_eq_true_eq]
    exact ⟨fun h => by rw [h.1, h.2], fun h => by injection h with h1 h2; exact ⟨h1, h2⟩⟩
end
section
variable {X : Cx} {pins : List (Addr × Obj)} {σ : L2.St} {H : Hp} {s : Shared} {W : Wd} {N : Addr → Prop}
mutual
theorem nest_of (I : Inv X pins σ H s) : ∀ (k : NestedKey) (v : V) (u : Value), Rep X.K W N H v (nkD k) → RelV v u → NestedIs s.heap k u
  | .none, _, _, h, r => by
    cases h
    cases r
    exact .none
  | .num i, _, _, h, r => by
    cases h
    obtain ⟨t, rfl⟩ := r
    exact .int i t
  | .text x, _, _, h, r => by
    cases h
    obtain ⟨t, rfl⟩ := r
    exact .text x t
  | .tup ks, v, u, h, r => by
    obtain ⟨a, vs, rfl, sq, _, _, l⟩ := RepB.tup (.inl (show Rep X.K W N H v (.tuple (nkDs ks)) from h))
    cases r
    obtain ⟨its, rv, ⟨o, ho, hc, n, hd⟩, _⟩ := I.tuple sq
    exact .tup ho hc hd (nests_of I ks _ _ l rv)
theorem nests_of (I : Inv X pins σ H s) : ∀ (ks : List NestedKey) (vs : List V) (us : List Value), RepL X.K W N H vs (nkDs ks) → Vals vs us → NestedAll s.heap ks us
  | [], _, _, h, r => by
    cases h
    cases r
    exact .nil
  | k :: ks, _, _, h, r => by
    cases h with
    | cons h1 h2 =>
      cases r with
      | cons r1 r2 => exact .cons (nest_of I k _ _ h1 r1) (nests_of I ks _ _ h2 r2)
end
theorem nkeys_of {K : PySem.W.Frag} : ∀ {ds : List D} {vs : List V}, RepL K W N H vs ds → (∀ x, x ∈ ds → nestOk x) → ∃ ks : List AN, vs = ks.map (fun p => V.ref p.1) ∧ ds = ks.map (fun p => nkD p.2) ∧ ∀ p, p ∈ ks → (nums p.2 = true ∧ p.2.depth ≤ 8) ∧ Rep K W N H (.ref p.1) (nkD p.2)
  | [], _, .nil, _ => ⟨[], rfl, rfl, (fun p hp => absurd hp List.not_mem_nil)⟩
  | d :: ds, _, .cons (v := v) h t, hd => by
    obtain ⟨ks, e1, e2, e3⟩ := nkeys_of t fun x hx => hd x (List.mem_cons_of_mem _ hx)
    obtain ⟨ns, n1, n2, e⟩ := hd d List.mem_cons_self
    subst e
    obtain ⟨a, ws, rfl, _⟩ := RepB.tup (.inl (show Rep K W N H v (.tuple (nkDs ns)) from h))
    refine ⟨(a, .tup ns) :: ks, by rw [e1]; rfl, by rw [e2]; rfl, fun p hp => ?_⟩
    rcases List.mem_cons.mp hp with rfl | hp
    · exact ⟨⟨n1, n2⟩, h⟩
    · exact e3 p hp
theorem rep_nkeys {K : PySem.W.Frag} : ∀ {ks : List AN}, (∀ p, p ∈ ks → Rep K W N H (.ref p.1) (nkD p.2)) → RepL K W N H (ks.map fun p => V.ref p.1) (ks.map fun p => nkD p.2)
  | [], _ => .nil
  | p :: ks, h => .cons (h p List.mem_cons_self) (rep_nkeys fun q hq => h q (List.mem_cons_of_mem _ hq))
theorem SetG.valsN {P : Program} {w : World} {h : Heap} {a : Addr} {L : List AN} {es : Array (Int × Value)} {ep : Nat} {t : SetTable} (R : SetG P w h a L es ep t) : SetV w h a (L.map fun p => Value.ref p.1) := by
  obtain ⟨o, ho, ex, hd⟩ := R.obj
  have space := R.space
  have small := R.tb.msk.small
  have el := es_len R.row
  refine ⟨o, es, ep, t, ho, ex, hd, ?_, tab_fits R.tb (by rw [List.length_map]; exact el) (by rw [List.length_map]; omega), ?_, R.tb.up, R.ld⟩
  · rw [R.row]
    unfold rowsN
    rw [List.map_map]
    rfl
  · unfold scanBound
    omega
end
theorem refs_of_valsN : ∀ {ks : List AN} {its : List Value}, Vals (ks.map fun p => V.ref p.1) its → its = ks.map fun p => Value.ref p.1
  | [], _, .nil => rfl
  | p :: ks, _, .cons h t => by
    cases h
    rw [refs_of_valsN t]
    rfl
theorem vals_of_refsN : ∀ L : List AN, Vals (L.map fun p => V.ref p.1) (L.map fun p => Value.ref p.1)
  | [] => .nil
  | p :: L => .cons rfl (vals_of_refsN L)
section
variable {X : Cx}
/-- set(d), whatever it is made of -/
theorem set_madeL {pins : List (Addr × Obj)} {σ : L2.St} {H : Hp} {s : Shared} (hc : X.calm = true) (hu : X.A.units + 66 < cLine) (I : Inv X pins σ H s) {W : Wd} {N : Addr → Prop} {a : Addr} {vs : List V} {ds : List D} {d : D} (l : RepL X.K W N H vs ds) (hx : (d = .list ds ∧ SqL X.K H a vs) ∨ (d = .tuple ds ∧ SqT X.K H a vs)) (ok : setOkL ds) {Q : Value → Shared → Prop} {E : Value → Shared → Prop}
    (fin : ∀ p h' tk us ws cs, p = s.heap.objs.size → (∀ b o, s.heap.get? b = some o → h'.get? b = some o) → SetV X.w h' p us → Vals ws us → RepL X.K W N H ws cs → cs.Perm (onceD ds) → Q (.ref p) { s with heap := h', toks := tk }) :
    wpAny (model X.prog X.w) X.A (call (.type "set") [.ref a]) Q E s := by
  rcases ok with ok | ⟨ok, few⟩
  · exact set_made hc hu I l hx ok fin
  have hh := I.ok.hd hc
  have go : ∀ its : List Value, Vals vs its → ∃ In, Takes1 X.prog X.w s.heap.objs.size s.heap its.toArray In ∧ ∀ h' tk, In its.toArray.size h' → (∀ b o, s.heap.get? b = some o → h'.get? b = some o) → Q (.ref s.heap.objs.size) { s with heap := h', toks := tk } := fun its rv => by
    obtain ⟨ks, e1, e2, hk⟩ := nkeys_of l ok
    subst e1 e2
    have ei : its.toArray.toList = ks.map fun p => Value.ref p.1 := by simpa using refs_of_valsN rv
    have nl : its.length = ks.length := by
      have := congrArg List.length ei
      rw [List.length_map] at this
      simpa using this
    have oe : onceD (ks.map fun p => nkD p.2) = (once (ks.map (·.2))).map nkD := by
      rw [← once_enc eqv_nk, List.map_map]
      rfl
    rw [oe, List.length_map] at few
    have isn : ∀ p, p ∈ ks → IsN X.prog X.w s.heap p.2 p.1 := fun p hp => ⟨⟨nest_of I p.2 _ _ (hk p hp).2 (by exact rfl), (hk p hp).1.2⟩, (hk p hp).1.1⟩
    refine ⟨_, takes_keys (ks := ks) ei isn few, fun h' tk ⟨L, es, ep, t, R, g⟩ k => ?_⟩
    have sub : ∀ p, p ∈ L → p ∈ ks := fun p hp => List.mem_of_mem_take (g.sub p hp)
    refine fin _ h' tk _ (L.map fun p => V.ref p.1) (L.map fun p => nkD p.2) rfl k R.valsN (vals_of_refsN L) (rep_nkeys fun p hp => (hk p (sub p hp)).2) ?_
    rw [oe, show (L.map fun p => nkD p.2) = (L.map (·.2)).map nkD by rw [List.map_map]; rfl]
    refine (perm_once R.one fun x => ⟨fun h => ?_, fun h => ?_⟩).map _
    · obtain ⟨p, hp, rfl⟩ := List.mem_map.mp h
      exact List.mem_map.mpr ⟨p, sub p hp, rfl⟩
    · obtain ⟨p, hp, rfl⟩ := List.mem_map.mp h
      exact g.all p (by rw [List.size_toArray, nl, List.take_length]; exact hp)
  rcases hx with ⟨_, hx⟩ | ⟨_, hx⟩
  · obtain ⟨its, rv, hl, _⟩ := I.list hx
    obtain ⟨In, T, f⟩ := go its rv
    exact make_setL hh hl.isList T (by omega) f
  · obtain ⟨its, rv, hl, _⟩ := I.tuple hx
    obtain ⟨In, T, f⟩ := go its rv
    exact make_setT hh hl T (by omega) f
end
end Sn
end Ad
namespace Ad
open PySem PySem.Calls PySem.W PySem.SeqAt PySem.Spec PyProof.Rows L2
section
variable {X : Cx}
theorem sortable_alike {ds : List D} (h : sortable ds) : AlikeAll ds := ⟨fun x hx y hy => h.1 x hx y hy, fun x hx => (h.2.1 x hx).1⟩
theorem minOf_mem {ds : List D} {d : D} (h : minOf ds = some d) : d ∈ ds := by
  cases ds with
  | nil => cases h
  | cons x xs =>
    cases h
    have : ∀ (xs : List D) (x : D), minD x xs ∈ x :: xs := by
      intro xs
      induction xs with
      | nil => intro x; exact List.mem_cons_self
      | cons y ys ih =>
        intro x
        show minD (if dataLt y x then y else x) ys ∈ _
        have := ih (if dataLt y x then y else x)
        rcases List.mem_cons.mp this with e | e
        · rw [e]
          split
          · simp
          · simp
        · simp [e]
    exact this xs x
theorem maxOf_mem {ds : List D} {d : D} (h : maxOf ds = some d) : d ∈ ds := by
  cases ds with
  | nil => cases h
  | cons x xs =>
    cases h
    have : ∀ (xs : List D) (x : D), maxD x xs ∈ x :: xs := by
      intro xs
      induction xs with
      | nil => intro x; exact List.mem_cons_self
      | cons y ys ih =>
        intro x
        show maxD (if dataLt x y then y else x) ys ∈ _
        have := ih (if dataLt x y then y else x)
        rcases List.mem_cons.mp this with e | e
        · rw [e]
          split
          · simp
          · simp
        · simp [e]
    exact this xs x
theorem vals_getV : ∀ {vs : List V} {us : List Value}, Vals vs us → ∀ {i : Nat} {u : Value}, us[i]? = some u → ∃ x, vs[i]? = some x ∧ RelV x u
  | _, _, .nil, _, _, h => by simp at h
  | _, _, .cons r1 r2, 0, _, h => by
    simp at h
    subst h
    exact ⟨_, rfl, r1⟩
  | _, _, .cons r1 r2, i + 1, _, h => by
    simp at h
    obtain ⟨x, h1, h2⟩ := vals_getV r2 h
    exact ⟨x, by simpa using h1, h2⟩
theorem pick_fin {pins : List (Addr × Obj)} {σ : L2.St} {H : Hp} {s : Shared} {Q : VK} {W : Wd} {N : Addr → Prop} {m : D} {ds : List D} {vs : List V} {its : List Value} {R : XV → Nat → Prop} {b : Nat} (I : Inv X pins σ H s) (c : VC W N H b) (l : RepL X.K W N H vs ds) (rv : Vals vs its) (hpl : ∀ d, d ∈ ds → d.plain = true) (hm : m ∈ ds) (q : (pure m : M D).run (VQ X.K W N H Q) R b)
    {i : Nat} {v : Value} {h' : Heap} {tk : Nat} {bs : List Addr} (hi : its.toArray[i]? = some v) (r : Reads h' v m bs) (k : ∀ b o, s.heap.get? b = some o → h'.get? b = some o) : EP X pins σ Q v { s with heap := h', toks := tk } := by
  have hi : its[i]? = some v := by simpa using hi
  obtain ⟨x, hx, rx⟩ := vals_getV rv hi
  obtain ⟨d, hd, rd⟩ := l.getV hx
  have hmem : d ∈ ds := List.mem_of_getElem? hd
  obtain ⟨as, ra, _⟩ := Rep.reads I d x v (okD_plain _ (hpl d hmem)) rd rx
  have e : m = d := plain_unique m d v _ _ (hpl m hm) r (PyProof.Rows.Reads.keeps k ra)
  subst e
  exact ⟨x, H, I.kept (t' := tk) k, rx, c.vrep rd q⟩
theorem room_sort {A : Around} (hu : A.units + 66 < cLine) {ds : List D} (hk : sortable ds) : A.units + 1 + PyData.depthAll ds < cLine := by
  have := depthAll_of fun d hd => (hk.2.1 d hd).2.1
  omega
theorem cr_min1 (hu : X.A.units + 66 < cLine) (hc : X.calm = true) : CallR X (.builtin "min") (rCall X.K (biD .min1)) := cr_on1 fun pins s σ H x u Q W N d R b I ru c rx h => by
  have h : (itemsOf d >>= fun xs => M.grd (sortable xs) >>= fun _ => oget (minOf xs) : M D).run (VQ X.K W N H Q) R b := h
  obtain ⟨ds, a, vs, ⟨hk, q⟩, rfl, z, l, hx⟩ := rx.items h
  obtain rfl : u = Value.ref a := ru
  obtain ⟨m, hm, q⟩ := oget_run q
  have hpl : ∀ d, d ∈ ds → d.plain = true := fun d hd => (hk.2.1 d hd).2.2
  cases ds with
  | nil => cases hm
  | cons y ys =>
    have hmm := minOf_mem hm
    cases hm
    rcases hx with ⟨_, hs⟩ | ⟨_, hs, _⟩
    · obtain ⟨its, rv, hl, hz⟩ := I.list (SqL.of (K := X.K) hs)
      obtain ⟨as, ra⟩ := RepL.reads' I hpl l rv
      exact min_list_data (I.ok.hd hc) hl.isList ra (sortable_alike hk) (room_sort hu hk) fun i v h' tk bs hi r k => pick_fin (R := R) I c l rv hpl hmm q hi r k
    · obtain ⟨its, rv, hl, hz⟩ := I.tuple hs
      obtain ⟨as, ra⟩ := RepL.reads' I hpl l rv
      exact min_tuple_data (I.ok.hd hc) hl ra (sortable_alike hk) (room_sort hu hk) fun i v h' tk bs hi r k => pick_fin (R := R) I c l rv hpl hmm q hi r k
theorem cr_max1 (hu : X.A.units + 66 < cLine) (hc : X.calm = true) : CallR X (.builtin "max") (rCall X.K (biD .max1)) := cr_on1 fun pins s σ H x u Q W N d R b I ru c rx h => by
  have h : (itemsOf d >>= fun xs => M.grd (sortable xs) >>= fun _ => oget (maxOf xs) : M D).run (VQ X.K W N H Q) R b := h
  obtain ⟨ds, a, vs, ⟨hk, q⟩, rfl, z, l, hx⟩ := rx.items h
  obtain rfl : u = Value.ref a := ru
  obtain ⟨m, hm, q⟩ := oget_run q
  have hpl : ∀ d, d ∈ ds → d.plain = true := fun d hd => (hk.2.1 d hd).2.2
  cases ds with
  | nil => cases hm
  | cons y ys =>
    have hmm := maxOf_mem hm
    cases hm
    rcases hx with ⟨_, hs⟩ | ⟨_, hs, _⟩
    · obtain ⟨its, rv, hl, hz⟩ := I.list (SqL.of (K := X.K) hs)
      obtain ⟨as, ra⟩ := RepL.reads' I hpl l rv
      exact max_list_data (I.ok.hd hc) hl.isList ra (sortable_alike hk) (room_sort hu hk) fun i v h' tk bs hi r k => pick_fin (R := R) I c l rv hpl hmm q hi r k
    · obtain ⟨its, rv, hl, hz⟩ := I.tuple hs
      obtain ⟨as, ra⟩ := RepL.reads' I hpl l rv
      exact max_tuple_data (I.ok.hd hc) hl ra (sortable_alike hk) (room_sort hu hk) fun i v h' tk bs hi r k => pick_fin (R := R) I c l rv hpl hmm q hi r k
theorem cr_str1 : CallR X (.type "str") (rCall X.K (biD .str1)) := cr_on1' call_str_int fun H x Q W N d R b c rx h => by
  unfold str1D at h
  split at h
  · exact ⟨_, by rw [rx.int], h.1, c.vstr h.2⟩
  · exact h.elim
theorem cr_reprD (hu : X.A.units + 66 < cLine) (hg : X.A.guards = some []) (hs : ∃ o, X.base.get? sysModules = some o) : CallR X (.builtin "repr") (rCall X.K (biD .repr)) := cr_on1' (cr_repr hu hg hs) fun H x Q W N d R b c rx h => ⟨W, N, d, x, rfl, rx, h.1, c.vstr h.2⟩
/-- isinstance(x, T), its second argument a type's name -/
def rIsaC (K : PySem.W.Frag) (T : String) (f : List D → M D) : List V → Hp → VK → Prop := fun xs H Q => ∃ (W : Wd) (N : Addr → Prop) (d : D) (x : V) (R : XV → Nat → Prop) (b : Nat), xs = [x, .ty T] ∧ VC W N H b ∧ RepB K W N H x d ∧ (f [d]).run (VQ K W N H Q) R b
theorem cr_isaC {T : String} {g : D → Bool} (h : CallR X (.builtin "isinstance") (rIsaK X.K T g)) : CallR X (.builtin "isinstance") (rIsaC X.K T (on1 (isaD g))) := by
  intro pins s σ H xs us Q I r hh
  obtain ⟨W, N, d, x, R, b, rfl, c, rx, hh⟩ := hh
  exact h pins s σ H _ us Q I r ⟨W, N, d, x, rfl, rx, hh.1, c.vbl hh.2⟩

/-! ### methods -/
def rMtC (K : PySem.W.Frag) (m : Mt) : V → List V → Hp → VK → Prop := fun x xs H Q => ∃ (W : Wd) (N : Addr → Prop) (d : D) (ds : List D) (R : XV → Nat → Prop) (b : Nat), VC W N H b ∧ RepB K W N H x d ∧ RepBL K W N H xs ds ∧ (mtD m d ds).run (VQ K W N H Q) R b
theorem repL_strs {K : PySem.W.Frag} {W : Wd} {N : Addr → Prop} {H : Hp} (xs : List Str) : RepL K W N H (xs.map V.str) (xs.map PyData.str) := by
  induction xs with
  | nil => exact .nil
  | cons n ns ih => exact .cons (.str n) ih
theorem strsOf_run {Q : List Str → Nat → Prop} {R : XV → Nat → Prop} : ∀ {ds : List D} {b : Nat}, (strsOf ds).run Q R b → ∃ ys, ds = ys.map PyData.str ∧ Q ys b
  | [], _, h => ⟨[], rfl, h⟩
  | .str x :: ds, _, h => by
    obtain ⟨ys, rfl, q⟩ := strsOf_run (Q := fun ys => Q (x :: ys)) (ds := ds) h
    exact ⟨x :: ys, rfl, q⟩
  | .none :: _, _, h => h.elim
  | .bool _ :: _, _, h => h.elim
  | .int _ :: _, _, h => h.elim
  | .list _ :: _, _, h => h.elim
  | .tuple _ :: _, _, h => h.elim
  | .dict _ :: _, _, h => h.elim
theorem RepL.strs {K : PySem.W.Frag} {W : Wd} {N : Addr → Prop} {H : Hp} : ∀ {ys : List Str} {vs : List V}, RepL K W N H vs (ys.map PyData.str) → vs = ys.map V.str
  | [], _, .nil => rfl
  | y :: ys, _, .cons h1 h2 => by
    cases h1
    rw [RepL.strs h2]
    rfl
theorem mr_join : MtR X "str.join" (rMtC X.K .join) := by
  intro pins s σ H x xs v us Q I rx rxs h
  obtain ⟨W, N, d, ds, R, b, c, rd, rds, h⟩ := h
  refine mt_join pins s σ H x xs v us Q I rx rxs ?_
  match d, ds, rd, rds, h with
  | .str a, [d], rd, rds, h =>
    obtain ⟨y, rfl, ry⟩ := rds.one
    have h : (itemsOf d >>= fun xs => strsOf xs >>= fun ys => M.grd ((ys.map (·.length)).sum + ys.length * a.length ≤ 16777216) >>= fun _ => pure (.str (Txt.join a ys)) : M D).run (VQ X.K W N H Q) R b := h
    obtain ⟨ds, p, vs, q, rfl, z, l, hx⟩ := ry.items h
    obtain ⟨ys, rfl, q'⟩ := strsOf_run q
    have e := l.strs
    subst e
    have e := rd.str
    subst e
    refine ⟨a, p, ys, rfl, rfl, ?_, q'.1, c.vstr q'.2⟩
    rcases hx with ⟨_, hs⟩ | ⟨_, hs, _⟩
    · exact .inl (SqL.of hs)
    · exact .inr hs
  | .str a, [], rd, rds, h => exact h.elim
  | .str a, _ :: _ :: _, rd, rds, h => exact h.elim
  | .none, _, _, _, h => exact h.elim
  | .bool _, _, _, _, h => exact h.elim
  | .int _, _, _, _, h => exact h.elim
  | .list _, _, _, _, h => exact h.elim
  | .tuple _, _, _, _, h => exact h.elim
  | .dict _, _, _, _, h => exact h.elim
theorem mr_split : MtR X "str.split" (rMtC X.K .split) := by
  intro pins s σ H x xs v us Q I rx rxs h
  obtain ⟨W, N, d, ds, R, b, c, rd, rds, h⟩ := h
  refine mt_split pins s σ H x xs v us Q I rx rxs ?_
  match d, ds, rd, rds, h with
  | .str a, [.str y], rd, rds, h =>
    obtain ⟨yv, rfl, ry⟩ := rds.one
    have e := rd.str
    subst e
    have e := ry.str
    subst e
    obtain ⟨⟨h1, h2, h3⟩, q⟩ := h
    exact ⟨a, y, rfl, rfl, h1, h2, c.vlst (repL_strs _) (by rw [List.length_map]; exact h3) q⟩
  | .str a, [], rd, rds, h => exact h.elim
  | .str a, [.none], rd, rds, h => exact h.elim
  | .str a, [.bool _], rd, rds, h => exact h.elim
  | .str a, [.int _], rd, rds, h => exact h.elim
  | .str a, [.list _], rd, rds, h => exact h.elim
  | .str a, [.tuple _], rd, rds, h => exact h.elim
  | .str a, [.dict _], rd, rds, h => exact h.elim
  | .str a, y :: _ :: _, rd, rds, h => cases y <;> exact False.elim h
  | .none, _, _, _, h => exact h.elim
  | .bool _, _, _, _, h => exact h.elim
  | .int _, _, _, _, h => exact h.elim
  | .list _, _, _, _, h => exact h.elim
  | .tuple _, _, _, _, h => exact h.elim
  | .dict _, _, _, _, h => exact h.elim
theorem plainAll_mem : ∀ {ds : List D}, PyData.plainAll ds = true → ∀ d, d ∈ ds → d.plain = true
  | x :: xs, h, d, hd => by
    have h' : (x.plain && PyData.plainAll xs) = true := h
    rw [Bool.and_eq_true] at h'
    rcases List.mem_cons.mp hd with e | e
    · subst e
      exact h'.1
    · exact plainAll_mem h'.2 d e
theorem depthAll_mem : ∀ {ds : List D} {d : D}, d ∈ ds → d.depth ≤ PyData.depthAll ds
  | x :: xs, d, hd => by
    show d.depth ≤ max x.depth (PyData.depthAll xs)
    rcases List.mem_cons.mp hd with e | e
    · subst e
      exact Nat.le_max_left _ _
    · exact Nat.le_trans (depthAll_mem e) (Nat.le_max_right _ _)
theorem reads_at : ∀ {us : List Value} {ds : List D} {as : List Addr} {h : Heap}, ReadsAll h us ds as → ∀ j (h1 : j < us.length) (h2 : j < ds.length), ∃ bs, Reads h us[j] ds[j] bs
  | _, _, _, _, .nil, _, h1, _ => absurd h1 (Nat.not_lt_zero _)
  | _, _, _, _, .cons r _, 0, _, _ => ⟨_, r⟩
  | _, _, _, _, .cons _ q, j + 1, h1, h2 => reads_at q j (Nat.lt_of_succ_lt_succ h1) (Nat.lt_of_succ_lt_succ h2)
theorem mr_index (hu : X.A.units + 66 < cLine) : MtR X "list.index" (rMtC X.K .index) := by
  intro pins s σ H x xs v us Q I rx rxs h
  obtain ⟨W, N, d, ds, R, b, c, rd, rds, h⟩ := h
  match d, ds, rd, rds, h with
  | .list zs, [y], rd, rds, h =>
    obtain ⟨yv, rfl, ry⟩ := rds.one
    obtain ⟨⟨oy, oz, hit⟩, q⟩ := (show (eqOk y ∧ eqOk (.list zs) ∧ true ∈ zs.map fun z => PyData.eqv z y) ∧ (pure (.int ((zs.map fun z => PyData.eqv z y).idxOf true : Nat)) : M D).run (VQ X.K W N H Q) R b from h)
    obtain ⟨a, vs, e1, e2, e3, l⟩ := rd.list
    subst e1
    cases rx
    have hpl : ∀ z, z ∈ zs → z.plain = true := plainAll_mem oz.1
    obtain ⟨its, rv, hl, hz⟩ := I.list (SqL.of (K := X.K) e2)
    obtain ⟨as, ra⟩ := RepL.reads' I hpl l rv
    cases rxs with
    | cons ru rr =>
      cases rr
      obtain ⟨bs, rb, _⟩ := ry.reads I (okD_plain _ oy.1) ru
      have hn := SeqAt.ReadsAll.length _ _ _ ra
      refine call_list_index (α := Bool) (ks := zs.map fun z => PyData.eqv z y) (k := true) hl.isList ⟨by rw [List.length_map]; exact hn, fun j h1 h2 => ?_⟩ (by rw [List.length_map]; exact e3) hit ⟨.int _, H, I.tok _, ⟨_, rfl⟩, c.vint q⟩
      have h3 : j < zs.length := by rw [List.length_map] at h2; exact h2
      obtain ⟨cs, rc⟩ := reads_at ra j h1 h3
      have dd : zs[j].depth + 1 ≤ 64 := Nat.le_trans (Nat.succ_le_succ (depthAll_mem (List.getElem_mem h3))) oz.2
      have e : decide ((zs.map fun z => PyData.eqv z y)[j] = true) = PyData.eqv zs[j] y := by
        rw [List.getElem_map]
        cases PyData.eqv zs[j] y <;> rfl
      rw [e]
      refine SeqAt.eqAt_plain zs[j] y X.A.in1 s its[j] _ cs bs rc rb (hpl _ (List.getElem_mem h3)) oy.1 ?_
      have := Nat.min_le_left zs[j].depth y.depth
      show X.A.units + 1 + min zs[j].depth y.depth < cLine
      omega
  | .list _, [], _, _, h => exact h.elim
  | .list _, _ :: _ :: _, _, _, h => exact h.elim
  | .str _, _, _, _, h => exact h.elim
  | .none, _, _, _, h => exact h.elim
  | .bool _, _, _, _, h => exact h.elim
  | .int _, _, _, _, h => exact h.elim
  | .tuple _, _, _, _, h => exact h.elim
  | .dict _, _, _, _, h => exact h.elim
theorem mr_tindex (hu : X.A.units + 66 < cLine) : MtR X "tuple.index" (rMtC X.K .tindex) := by
  intro pins s σ H x xs v us Q I rx rxs h
  obtain ⟨W, N, d, ds, R, b, c, rd, rds, h⟩ := h
  cases d with
  | tuple zs =>
    cases ds with
    | nil => exact h.elim
    | cons y ys =>
      cases ys with
      | cons _ _ => exact h.elim
      | nil =>
        obtain ⟨yv, rfl, ry⟩ := rds.one
        obtain ⟨⟨oy, oz, hit⟩, q⟩ := (show (eqOk y ∧ eqOk (.tuple zs) ∧ true ∈ zs.map fun z => PyData.eqv z y) ∧ (pure (.int ((zs.map fun z => PyData.eqv z y).idxOf true : Nat)) : M D).run (VQ X.K W N H Q) R b from h)
        obtain ⟨a, vs, e1, e2, e4, e3, l⟩ := rd.tup
        subst e1
        cases rx
        have hpl : ∀ z, z ∈ zs → z.plain = true := plainAll_mem oz.1
        obtain ⟨its, rv, hl, hz⟩ := I.tuple e2
        obtain ⟨as, ra⟩ := RepL.reads' I hpl l rv
        cases rxs with
        | cons ru rr =>
          cases rr
          obtain ⟨bs, rb, _⟩ := ry.reads I (okD_plain _ oy.1) ru
          have hn := SeqAt.ReadsAll.length _ _ _ ra
          refine call_tuple_index (α := Bool) (ks := zs.map fun z => PyData.eqv z y) (k := true) hl ⟨by rw [List.length_map]; exact hn, fun j h1 h2 => ?_⟩ hit ⟨.int _, H, I.tok _, ⟨_, rfl⟩, c.vint q⟩
          have h3 : j < zs.length := by rw [List.length_map] at h2; exact h2
          obtain ⟨cs, rc⟩ := reads_at ra j h1 h3
          have dd : zs[j].depth + 1 ≤ 64 := Nat.le_trans (Nat.succ_le_succ (depthAll_mem (List.getElem_mem h3))) oz.2
          have e : decide ((zs.map fun z => PyData.eqv z y)[j] = true) = PyData.eqv zs[j] y := by
            rw [List.getElem_map]
            cases PyData.eqv zs[j] y <;> rfl
          rw [e]
          refine SeqAt.eqAt_plain zs[j] y X.A.in1 s its[j] _ cs bs rc rb (hpl _ (List.getElem_mem h3)) oy.1 ?_
          have := Nat.min_le_left zs[j].depth y.depth
          show X.A.units + 1 + min zs[j].depth y.depth < cLine
          omega
  | _ => exact h.elim
end
end Ad
namespace Ad
open PySem PySem.Calls PySem.W PySem.SeqAt PySem.Spec PyProof.Rows L2

/-! ### the rules, read by data -/
abbrev TM (α : Type) := Ev → M α
section
variable {X : Cx} {Wx : WX} {pos : Pos}
abbrev PEr (X : Cx) (Wx : WX) (x : Expr) (m : TM D) : Prop := PE X x (tE X.K X.mg Wx m)
abbrev PEb (X : Cx) (Wx : WX) (x : Expr) (m : TM D) : Prop := PE X x (tEB X.K X.mg Wx m)
abbrev PTr (X : Cx) (Wx : WX) (x : Expr) (m : TM D) : Prop := PT X x (tT X.K X.mg Wx m)
abbrev PAr (X : Cx) (Wx : WX) (x : List Expr) (m : TM (List D)) : Prop := PA X x (tA X.K X.mg Wx m)
abbrev PAb (X : Cx) (Wx : WX) (x : List Expr) (m : TM (List D)) : Prop := PA X x (tAB X.K X.mg Wx m)
theorem pe_imp {x : Expr} {t t' : TE} (h : PE X x t) (i : ∀ (σ : L2.St) (H : Hp) (Q : VK), t' σ H Q → t σ H Q) : PE X x t' := ⟨fun pins s σ H Q I q => h.run pins s σ H Q I (i σ H Q q)⟩
theorem pt_imp {x : Expr} {t t' : TT} (h : PT X x t) (i : ∀ (σ : L2.St) (H : Hp) (Q : Bool → Hp → Prop), t' σ H Q → t σ H Q) : PT X x t' := ⟨fun pins s σ H Q I q => h.run pins s σ H Q I (i σ H Q q)⟩
theorem pa_imp {x : List Expr} {t t' : TA} (h : PA X x t) (i : ∀ (σ : L2.St) (H : Hp) (Q : List V → Hp → Prop), t' σ H Q → t σ H Q) : PA X x t' := ⟨fun pos pins s σ H Q I q => h.run pos pins s σ H Q I (i σ H Q q)⟩
theorem b_of {x : Expr} {m : TM D} (h : PEr X Wx x m) : PEb X Wx x m := pe_imp h fun _ _ _ q => tE_of_B q
theorem t_of {x : Expr} {m : TM D} (h : PEr X Wx x m) (he : ∀ whole, isTrue x X.env whole = (do let v ← whole; standAt x.pos; holding [v] (truthy v))) : PTr X Wx x m :=
  pt_imp (pt_val h he) fun σ H Q q => by
    obtain ⟨c, ρ, e, q⟩ := q
    refine ⟨c, ρ, e, (m ρ).mono (fun d _ z v H' x i r => ?_) (fun _ _ z => z) q⟩
    obtain ⟨b, rfl, z⟩ := z
    cases r
    exact ⟨b, rfl, z H' x i⟩
/-- two parts, then a step by values -/
theorem read2 {K : PySem.W.Frag} {mg : Str → Option Value} {σ : L2.St} {H : Hp} {Q : VK} {a b : TM D} {f : D → D → M D} {r : R2}
    (hv : ∀ (W : Wd) (N : Addr → Prop) (H : Hp) (b : Nat) (d e : D) (v u : V) (Q : VK) (R : XV → Nat → Prop), VC W N H b → RepB K W N H v d → RepB K W N H u e → (f d e).run (VQ K W N H Q) R b → r v u H Q)
    (h : tE K mg Wx (fun ρ => a ρ >>= fun x => b ρ >>= fun y => f x y) σ H Q) : tEB K mg Wx a σ H fun v H1 => tEB K mg Wx b σ H1 fun u H2 => r v u H2 Q := by
  obtain ⟨c, ρ, e, h⟩ := h
  refine ⟨c, ρ, e, (a ρ).mono (fun d _ q v H1 x i rv => ?_) (fun _ _ z => z) h⟩
  refine ⟨_, ρ, e.ext' x i, (b ρ).mono (fun d' _ q' v' H2 x2 i2 r2 => ?_) (fun _ _ z => XQ.later x z) q⟩
  refine hv c.W (Nn c ρ σ) H2 _ d d' v v' Q _ ((e.ext' x i).ext' x2 i2).vc (rv.ext x2 e.vc.bv) r2 ((f d d').mono (fun d3 _ q3 v3 H3 x3 i3 r3 => q3 v3 H3 ((x.trans x2).trans x3) i3 r3) (fun _ _ z => z) q')

/-! names, constants -/
theorem s_var {i : Nat} {x : Str} (hN : X.N[i]? = some x) (hv : Vis X.env.scope x) (hd : (x == ("__debug__" : Str)) = false) (hcd : (x == ("__classdict__" : Str)) = false) : PEr X Wx (.Name x pos) fun ρ => look ρ i :=
  pe_imp (pe_var hN hv hd hcd) fun σ H Q h => by
    obtain ⟨c, ρ, e, h⟩ := h
    have h : (look ρ i).run (fun d b => ∀ (v : V) (H' : Hp), Ext c.W.vol H H' → c.W.inv b H' → Rep X.K c.W (Nn c ρ σ) H' v d → Q v H') (XQ X.K X.mg Wx c ρ σ H) c.b := h
    unfold look at h
    split at h
    · obtain ⟨v, h1, h2⟩ := e.val _ _ ‹_›
      exact ⟨v, h1, h v H (Ext.refl H) e.inv h2⟩
    · exact h.elim
theorem s_varB {i : Nat} {x : Str} (hN : X.N[i]? = some x) (hv : Vis X.env.scope x) (hd : (x == ("__debug__" : Str)) = false) (hcd : (x == ("__classdict__" : Str)) = false) : PEb X Wx (.Name x pos) fun ρ => lookB ρ i :=
  pe_imp (pe_var hN hv hd hcd) fun σ H Q h => by
    obtain ⟨c, ρ, e, h⟩ := h
    have h : (lookB ρ i).run (fun d b => ∀ (v : V) (H' : Hp), Ext c.W.vol H H' → c.W.inv b H' → RepB X.K c.W (Nn c ρ σ) H' v d → Q v H') (XQ X.K X.mg Wx c ρ σ H) c.b := h
    unfold lookB at h
    split at h
    · rename_i d o hq
      cases o with
      | false =>
        obtain ⟨v, h1, h2⟩ := e.val _ _ hq
        exact ⟨v, h1, h v H (Ext.refl H) e.inv (.inl h2)⟩
      | true =>
        obtain ⟨a, o, h1, h2, h3, h5, h6⟩ := e.own _ _ hq
        refine ⟨_, h1, h _ H (Ext.refl H) e.inv ?_⟩
        cases h3 with
        | lst z l => exact .inr (.inl ⟨a, _, _, rfl, rfl, h2, z, l, fun z => h6 (e.bv a z)⟩)
        | dic g => exact .inr (.inr ⟨a, o, rfl, g, h2, fun z => h6 (e.bv a z)⟩)
    · exact h.elim
/-- a value that stands for its datum everywhere -/
def Stat (K : PySem.W.Frag) (v : V) (d : D) : Prop := ∀ (W : Wd) (N : Addr → Prop) (H : Hp), Rep K W N H v d
theorem s_con {x : Expr} {v : V} {d : D} (h : PE X x (tC v)) (r : Stat X.K v d) : PEr X Wx x fun _ => pure d :=
  pe_imp h fun σ H Q q => by
    obtain ⟨c, ρ, e, q⟩ := q
    exact q v H (Ext.refl H) e.inv (r _ _ _)
def conE : Const → D → Bool
  | .int i, .int j => decide (i = j)
  | .bool i, .bool j => decide (i = j)
  | .str i, .str j => decide (i = j)
  | .none, .none => true
  | _, _ => false
theorem s_const {k : Nat} {c : Const} {d : D} (h : conE c d = true) : PEr X Wx (.Constant c k pos) fun _ => pure d := by
  cases c <;> cases d <;> first
    | (have e := of_decide_eq_true h; subst e; first | exact s_con pe_int fun _ _ _ => .int _ | exact s_con pe_bl fun _ _ _ => .bl _ | exact s_con pe_str fun _ _ _ => .str _)
    | exact s_con pe_non fun _ _ _ => .non
    | exact absurd h (by simp [conE])
theorem s_dic : PEr X Wx (.Dict [] [] pos) fun _ => pure (.dict []) :=
  pe_imp pe_dnewK fun σ H Q h => by
    obtain ⟨c, ρ, e, h⟩ := h
    intro p hp
    obtain ⟨a, b, n⟩ := e.vc.new (o := .dK []) hp
    exact h _ _ a b (.dic upd_same n)

/-! displays -/
theorem s_nil : PAr X Wx [] fun _ => pure [] := pa_imp pa_nil fun σ H Q h => by
  obtain ⟨c, ρ, e, h⟩ := h
  exact h [] H (Ext.refl H) e.inv .nil
theorem s_nilB : PAb X Wx [] fun _ => pure [] := pa_imp pa_nil fun σ H Q h => by
  obtain ⟨c, ρ, e, h⟩ := h
  exact h [] H (Ext.refl H) e.inv .nil
theorem s_cons {x : Expr} {xs : List Expr} {a : TM D} {b : TM (List D)} (ha : PEr X Wx x a) (hb : PAr X Wx xs b) (hs : starEach (x :: xs) X.env = (false, eval x X.env) :: starEach xs X.env) : PAr X Wx (x :: xs) fun ρ => a ρ >>= fun d => b ρ >>= fun ds => pure (d :: ds) :=
  pa_imp (pa_cons ha hb hs) fun σ H Q h => by
    obtain ⟨c, ρ, e, h⟩ := h
    refine ⟨c, ρ, e, (a ρ).mono (fun d _ q v H1 x i rv => ?_) (fun _ _ z => z) h⟩
    refine ⟨_, ρ, e.ext' x i, (b ρ).mono (fun d' _ q' v' H2 x2 i2 r2 => ?_) (fun _ _ z => XQ.later x z) q⟩
    exact q' _ H2 (x.trans x2) i2 (.cons (rv.ext (x2.wide e.vc.bv)) r2)
theorem s_consB {x : Expr} {xs : List Expr} {a : TM D} {b : TM (List D)} (ha : PEb X Wx x a) (hb : PAb X Wx xs b) (hs : starEach (x :: xs) X.env = (false, eval x X.env) :: starEach xs X.env) : PAb X Wx (x :: xs) fun ρ => a ρ >>= fun d => b ρ >>= fun ds => pure (d :: ds) :=
  pa_imp (pa_cons ha hb hs) fun σ H Q h => by
    obtain ⟨c, ρ, e, h⟩ := h
    refine ⟨c, ρ, e, (a ρ).mono (fun d _ q v H1 x i rv => ?_) (fun _ _ z => z) h⟩
    refine ⟨_, ρ, e.ext' x i, (b ρ).mono (fun d' _ q' v' H2 x2 i2 r2 => ?_) (fun _ _ z => XQ.later x z) q⟩
    exact q' _ H2 (x.trans x2) i2 (.cons (rv.ext x2 e.vc.bv) r2)
/-- so many items -/
def Few (m : TM (List D)) : Prop := ∀ (ρ : Ev) (Q : List D → Nat → Prop) (R : XV → Nat → Prop) (b : Nat), (m ρ).run Q R b → (m ρ).run (fun ds b => ds.length ≤ sizeLine ∧ Q ds b) R b
theorem s_tup {xs : List Expr} {k : Nat} {m : TM (List D)} (h : PAr X Wx xs m) (f : Few m) : PEr X Wx (.Tuple xs k pos) fun ρ => m ρ >>= fun ds => pure (.tuple ds) :=
  pe_imp (pe_tupS h) fun σ H Q h => by
    obtain ⟨c, ρ, e, h⟩ := h
    refine ⟨c, ρ, e, (m ρ).mono (fun d _ q v H1 x i rv => ?_) (fun _ _ z => z) (f ρ _ _ _ h)⟩
    exact ⟨by rw [rv.length]; exact q.1, (e.ext' x i).vc.vtup rv q.1 fun v H' x' i' r => q.2 v H' (x.trans x') i' r⟩
theorem s_lst {xs : List Expr} {m : TM (List D)} (h : PAr X Wx xs m) (f : Few m) : PEr X Wx (.List xs pos) fun ρ => m ρ >>= fun ds => pure (.list ds) :=
  pe_imp (pe_lst h) fun σ H Q h => by
    obtain ⟨c, ρ, e, h⟩ := h
    refine ⟨c, ρ, e, (m ρ).mono (fun d _ q v H1 x i rv => ?_) (fun _ _ z => z) (f ρ _ _ _ h)⟩
    exact ⟨by rw [rv.length]; exact q.1, (e.ext' x i).vc.vlst rv q.1 fun v H' x' i' r => q.2 v H' (x.trans x') i' r⟩

/-! operators -/
theorem s_bin {x y : Expr} {op : Operator} {a b : TM D} (ha : PEb X Wx x a) (hb : PEb X Wx y b) : PEr X Wx (.BinOp x op y pos) fun ρ => a ρ >>= fun d => b ρ >>= fun e => binD op d e :=
  pe_imp (pe_op (or_bin op) ha hb) fun σ H Q h => read2 (fun W N H _ d e v u Q R c r1 r2 h => val_bin op c r1 r2 h) h
theorem s_neg {x : Expr} {a : TM D} (ha : PEb X Wx x a) : PEr X Wx (.UnaryOp .USub x pos) fun ρ => a ρ >>= fun d => asInt d >>= fun i => pure (.int (-i)) :=
  pe_imp (pe_un un_neg ha) fun σ H Q h => read1 (f := fun d => asInt d >>= fun i => pure (.int (-i))) (r := rU fun i => .int (-i)) (fun W N H _ d v Q R c r h => by
    obtain ⟨i, rfl, q⟩ := asInt_run h
    exact ⟨i, r.int, c.vint q⟩) h
theorem s_ix {x y : Expr} {a b : TM D} (ha : PEb X Wx x a) (hb : PEb X Wx y b) (hs : PlainIx y) : PEr X Wx (.Subscript x y pos) fun ρ => a ρ >>= fun d => b ρ >>= fun e => ixD d e :=
  pe_imp (pe_ix ix_seq ha hb hs) fun σ H Q h => read2 (fun W N H _ d e v u Q R c r1 r2 h => val_ix c r1 r2 h) h
theorem s_rev {x : Expr} {k : Nat} {p1 p2 p3 : Pos} {a : TM D} (ha : PEb X Wx x a) : PEr X Wx (.Subscript x (.Slice none none (some (.UnaryOp .USub (.Constant (.int 1) k p1) p2)) p3) pos) fun ρ => a ρ >>= fun d => revD d :=
  pe_imp (pe_rev ha) fun σ H Q h => read1 (f := revD) (r := rRevK X.K) (fun W N H _ d v Q R c r h => val_rev c r h) h

theorem s_slL {x y : Expr} {p2 : Pos} {a b : TM D} (ha : PEb X Wx x a) (hb : PEb X Wx y b) : PEr X Wx (.Subscript x (.Slice (some y) none none p2) pos) fun ρ => a ρ >>= fun d => b ρ >>= fun e => asInt e >>= fun i => slP d (some i) none :=
  pe_imp (pe_slice or_sl ha (po_some hb) po_none) fun σ H Q h => read2 (f := fun d e => asInt e >>= fun i => slP d (some i) none) (r := fun x y H Q => ∃ i, y = .int i ∧ rSlK X.K x (some i) none H Q) (fun W N H _ d e v u Q R c r1 r2 h => by
    obtain ⟨i, rfl, q⟩ := asInt_run h
    exact ⟨i, r2.int, val_sl c r1 q⟩) h
theorem s_slU {x y : Expr} {p2 : Pos} {a b : TM D} (ha : PEb X Wx x a) (hb : PEb X Wx y b) : PEr X Wx (.Subscript x (.Slice none (some y) none p2) pos) fun ρ => a ρ >>= fun d => b ρ >>= fun e => asInt e >>= fun i => slP d none (some i) :=
  pe_imp (pe_slice or_sl ha po_none (po_some hb)) fun σ H Q h => read2 (f := fun d e => asInt e >>= fun i => slP d none (some i)) (r := fun x y H Q => ∃ i, y = .int i ∧ rSlK X.K x none (some i) H Q) (fun W N H _ d e v u Q R c r1 r2 h => by
    obtain ⟨i, rfl, q⟩ := asInt_run h
    exact ⟨i, r2.int, val_sl c r1 q⟩) h

/-! comparisons, as values and as tests -/
theorem tE_of_T {K : PySem.W.Frag} {mg : Str → Option Value} {m : TM D} {σ : L2.St} {H : Hp} {Q : Bool → Hp → Prop} (h : tT K mg Wx m σ H Q) : tE K mg Wx m σ H fun x H' => ∃ k, x = .bl k ∧ Q k H' := by
  obtain ⟨c, ρ, e, h⟩ := h
  refine ⟨c, ρ, e, (m ρ).mono (fun d _ q v H' x i r => ?_) (fun _ _ z => z) h⟩
  obtain ⟨b, rfl, q⟩ := q
  cases r
  exact ⟨b, rfl, q H' x i⟩
abbrev mCmp (op : CmpOp) (a b : TM D) : TM D := fun ρ => a ρ >>= fun d => b ρ >>= fun e => cmpD op d e >>= fun r => pure (.bool r)
theorem read_cmp {op : CmpOp} {a b : TM D} {σ : L2.St} {H : Hp} {Q : VK} (h : tE X.K X.mg Wx (mCmp op a b) σ H Q) : tOp (rCmpK X.K op) (tEB X.K X.mg Wx a) (tEB X.K X.mg Wx b) σ H Q :=
  read2 (f := fun d e => cmpD op d e >>= fun r => pure (.bool r)) (fun W N H _ d e v u Q R c r1 r2 h => val_cmp op c r1 r2 (P := fun r => VQ X.K W N H Q (.bool r)) (fun b q => c.vbl q) h) h
theorem s_cmp (hu : X.A.units + 66 < cLine) {x y : Expr} {op : CmpOp} {a b : TM D} (ha : PEb X Wx x a) (hb : PEb X Wx y b) (hm : behindInMarks op y = false) : PEr X Wx (.Compare x [op] [y] pos) (mCmp op a b) :=
  pe_imp (pe_cmpR (or_cmp hu op) ha hb hm) fun σ H Q h => read_cmp h
theorem s_cmpT (hu : X.A.units + 66 < cLine) {x y : Expr} {op : CmpOp} {a b : TM D} (ha : PEb X Wx x a) (hb : PEb X Wx y b) (hm : behindInMarks op y = false) : PTr X Wx (.Compare x [op] [y] pos) (mCmp op a b) :=
  pt_imp (pt_cmpR (or_cmp hu op) ha hb hm) fun σ H Q h => read_cmp (tE_of_T h)
abbrev mCmp2 (o1 o2 : CmpOp) (a b c : TM D) : TM D := fun ρ => a ρ >>= fun x => b ρ >>= fun y => cmpD o1 x y >>= fun r => if r then (do let z ← c ρ; let q ← cmpD o2 y z; pure (.bool q)) else pure (.bool false)
theorem read_cmp2 {o1 o2 : CmpOp} {a b c : TM D} {σ : L2.St} {H : Hp} {Q : VK} (h : tE X.K X.mg Wx (mCmp2 o1 o2 a b c) σ H Q) : tChain (rCmpK X.K o1) (rCmpK X.K o2) (tEB X.K X.mg Wx a) (tEB X.K X.mg Wx b) (tEB X.K X.mg Wx c) σ H Q := by
  obtain ⟨cf, ρ, e, h⟩ := h
  refine ⟨cf, ρ, e, (a ρ).mono (fun d _ q v H1 x i rv => ?_) (fun _ _ z => z) h⟩
  refine ⟨_, ρ, e.ext' x i, (b ρ).mono (fun d' _ q' v' H2 x2 i2 r2 => ?_) (fun _ _ z => XQ.later x z) q⟩
  have e2 := (e.ext' x i).ext' x2 i2
  refine val_cmp o1 e2.vc (rv.ext x2 e.vc.bv) r2 (P := fun r => (if r then (do let z ← c ρ; let q ← cmpD o2 d' z; pure (.bool q)) else pure (.bool false) : M D).run (VQ X.K cf.W (Nn cf ρ σ) H Q) (XQ X.K X.mg Wx cf ρ σ H)) (fun r qr => ⟨r, rfl, ?_⟩) q'
  cases r with
  | false => exact e2.vc.vbl fun v H' x' i' r' => qr v H' ((x.trans x2).trans x') i' r'
  | true =>
    refine ⟨_, ρ, e2, (c ρ).mono (fun d3 _ q3 v3 H3 x3 i3 r3 => ?_) (fun _ _ z => XQ.later (x.trans x2) z) qr⟩
    exact val_cmp o2 (e2.ext' x3 i3).vc (r2.ext x3 e.vc.bv) r3 (P := fun r => VQ X.K cf.W (Nn cf ρ σ) H3 Q (.bool r)) (fun b q => (e2.ext' x3 i3).vc.vbl q) ((cmpD o2 d' d3).mono (fun r _ qr v H' x' i' r' => qr v H' (((x.trans x2).trans x3).trans x') i' r') (fun _ _ z => z) q3)
theorem s_cmp2 (hu : X.A.units + 66 < cLine) {x y z : Expr} {o1 o2 : CmpOp} {a b c : TM D} (ha : PEb X Wx x a) (hb : PEb X Wx y b) (hc : PEb X Wx z c) (hm : lastMarks [o1, o2] [y, z] = false) : PEr X Wx (.Compare x [o1, o2] [y, z] pos) (mCmp2 o1 o2 a b c) :=
  pe_imp (pe_chain (or_cmp hu o1) (or_cmp hu o2) ha hb hc hm) fun σ H Q h => read_cmp2 h
theorem s_cmp2T (hu : X.A.units + 66 < cLine) {x y z : Expr} {o1 o2 : CmpOp} {a b c : TM D} (ha : PEb X Wx x a) (hb : PEb X Wx y b) (hc : PEb X Wx z c) (hm : lastMarks [o1, o2] [y, z] = false) : PTr X Wx (.Compare x [o1, o2] [y, z] pos) (mCmp2 o1 o2 a b c) :=
  pt_imp (pt_chain (or_cmp hu o1) (or_cmp hu o2) ha hb hc hm) fun σ H Q h => read_cmp2 (tE_of_T h)

/-! not, and, or, if -/
abbrev mNot (a : TM D) : TM D := fun ρ => a ρ >>= fun d => asBool d >>= fun b => pure (.bool (!b))
abbrev mAnd (a b : TM D) : TM D := fun ρ => a ρ >>= fun d => asBool d >>= fun c => if c then (do let y ← b ρ; let d ← asBool y; pure (.bool d)) else pure (.bool false)
abbrev mOr (a b : TM D) : TM D := fun ρ => a ρ >>= fun d => asBool d >>= fun c => if c then pure (.bool true) else (do let y ← b ρ; let d ← asBool y; pure (.bool d))
abbrev mIf (c a b : TM D) : TM D := fun ρ => c ρ >>= fun d => asBool d >>= fun r => if r then a ρ else b ρ
theorem s_not {x : Expr} {a : TM D} (ha : PEr X Wx x a) : PEr X Wx (.UnaryOp .Not x pos) (mNot a) :=
  pe_imp (pe_not ha) fun σ H Q h => by
    obtain ⟨c, ρ, e, h⟩ := h
    refine ⟨c, ρ, e, (a ρ).mono (fun d _ q v H1 x i rv => ?_) (fun _ _ z => z) h⟩
    obtain ⟨b, rfl, q⟩ := asBool_run q
    cases rv
    exact ⟨b, rfl, (e.ext' x i).vc.vbl fun v H' x' i' r => q v H' (x.trans x') i' r⟩
theorem s_notT {x : Expr} {a : TM D} (ha : PTr X Wx x a) : PTr X Wx (.UnaryOp .Not x pos) (mNot a) :=
  pt_imp (pt_not ha) fun σ H Q h => by
    obtain ⟨c, ρ, e, h⟩ := h
    refine ⟨c, ρ, e, (a ρ).mono (fun d _ q => ?_) (fun _ _ z => z) h⟩
    obtain ⟨b, rfl, b', e', q⟩ := asBool_run q
    cases e'
    exact ⟨b, rfl, q⟩
theorem read_b {b : TM D} {c : Cf} {ρ : Ev} {σ : L2.St} {H H1 : Hp} {Q : VK} (e : EnvOk X.K c ρ σ H) (x : Ext c.W.vol H H1) {n : Nat} (i : c.W.inv n H1)
    (h : (b ρ >>= fun y => asBool y >>= fun d => pure (.bool d) : M D).run (VQ X.K c.W (Nn c ρ σ) H Q) (XQ X.K X.mg Wx c ρ σ H) n) : tE X.K X.mg Wx b σ H1 Q := by
  refine ⟨_, ρ, e.ext' x i, (b ρ).mono (fun d _ q v H2 x2 i2 r => ?_) (fun _ _ z => XQ.later x z) h⟩
  obtain ⟨k, rfl, q⟩ := asBool_run q
  exact q v H2 (x.trans x2) i2 r
theorem s_and {x y : Expr} {rest : List Expr} {a b : TM D} (ha : PEr X Wx x a) (hb : PEr X Wx (.BoolOp .And (y :: rest) pos) b) : PEr X Wx (.BoolOp .And (x :: y :: rest) pos) (mAnd a b) :=
  pe_imp (pe_and ha hb) fun σ H Q h => by
    obtain ⟨c, ρ, e, h⟩ := h
    refine ⟨c, ρ, e, (a ρ).mono (fun d _ q v H1 x i rv => ?_) (fun _ _ z => z) h⟩
    obtain ⟨k, rfl, q⟩ := asBool_run q
    cases rv
    refine ⟨k, rfl, ?_⟩
    cases k with
    | true => exact read_b e x i q
    | false => exact (e.ext' x i).vc.vbl fun v H' x' i' r => q v H' (x.trans x') i' r
theorem s_or {x y : Expr} {rest : List Expr} {a b : TM D} (ha : PEr X Wx x a) (hb : PEr X Wx (.BoolOp .Or (y :: rest) pos) b) : PEr X Wx (.BoolOp .Or (x :: y :: rest) pos) (mOr a b) :=
  pe_imp (pe_or ha hb) fun σ H Q h => by
    obtain ⟨c, ρ, e, h⟩ := h
    refine ⟨c, ρ, e, (a ρ).mono (fun d _ q v H1 x i rv => ?_) (fun _ _ z => z) h⟩
    obtain ⟨k, rfl, q⟩ := asBool_run q
    cases rv
    refine ⟨k, rfl, ?_⟩
    cases k with
    | false => exact read_b e x i q
    | true => exact (e.ext' x i).vc.vbl fun v H' x' i' r => q v H' (x.trans x') i' r
theorem pw_imp {x : Expr} {t t' : TT} (h : PW X x t) (i : ∀ (σ : L2.St) (H : Hp) (Q : Bool → Hp → Prop), t' σ H Q → t σ H Q) : PW X x t' := ⟨fun wh pins s σ H Q I q => h.run wh pins s σ H Q I (i σ H Q q)⟩
abbrev PWr (X : Cx) (Wx : WX) (x : Expr) (m : TM D) : Prop := PW X x (tT X.K X.mg Wx m)
theorem read_bT {b : TM D} {c : Cf} {ρ : Ev} {σ : L2.St} {H H1 : Hp} {Q : Bool → Hp → Prop} (e : EnvOk X.K c ρ σ H) (x : Ext c.W.vol H H1) {n : Nat} (i : c.W.inv n H1)
    (h : (b ρ >>= fun y => asBool y >>= fun d => pure (.bool d) : M D).run (fun d n => ∃ k, d = .bool k ∧ ∀ H', Ext c.W.vol H H' → c.W.inv n H' → Q k H') (XQ X.K X.mg Wx c ρ σ H) n) : tT X.K X.mg Wx b σ H1 Q := by
  refine ⟨_, ρ, e.ext' x i, (b ρ).mono (fun d _ q => ?_) (fun _ _ z => XQ.later x z) h⟩
  obtain ⟨k, rfl, k', e', q⟩ := asBool_run q
  cases e'
  exact ⟨k, rfl, fun H2 x2 i2 => q H2 (x.trans x2) i2⟩
theorem s_andW {x y : Expr} {rest : List Expr} {a b : TM D} (ha : PTr X Wx x a) (hb : PWr X Wx (.BoolOp .And (y :: rest) pos) b) : PWr X Wx (.BoolOp .And (x :: y :: rest) pos) (mAnd a b) :=
  pw_imp (pw_and ha hb) fun σ H Q h => by
    obtain ⟨c, ρ, e, h⟩ := h
    refine ⟨c, ρ, e, (a ρ).mono (fun d _ q => ?_) (fun _ _ z => z) h⟩
    obtain ⟨k, rfl, q⟩ := asBool_run q
    refine ⟨k, rfl, fun H1 x i => ?_⟩
    cases k with
    | true => exact read_bT e x i q
    | false =>
      obtain ⟨k', e', q⟩ := q
      cases e'
      exact q H1 x i
theorem s_orW {x y : Expr} {rest : List Expr} {a b : TM D} (ha : PTr X Wx x a) (hb : PWr X Wx (.BoolOp .Or (y :: rest) pos) b) : PWr X Wx (.BoolOp .Or (x :: y :: rest) pos) (mOr a b) :=
  pw_imp (pw_or ha hb) fun σ H Q h => by
    obtain ⟨c, ρ, e, h⟩ := h
    refine ⟨c, ρ, e, (a ρ).mono (fun d _ q => ?_) (fun _ _ z => z) h⟩
    obtain ⟨k, rfl, q⟩ := asBool_run q
    refine ⟨k, rfl, fun H1 x i => ?_⟩
    cases k with
    | false => exact read_bT e x i q
    | true =>
      obtain ⟨k', e', q⟩ := q
      cases e'
      exact q H1 x i
theorem s_if {z x y : Expr} {c a b : TM D} (hc : PTr X Wx z c) (ha : PEr X Wx x a) (hb : PEr X Wx y b) : PEr X Wx (.IfExp z x y pos) (mIf c a b) :=
  pe_imp (pe_ifExp hc ha hb) fun σ H Q h => by
    obtain ⟨cf, ρ, e, h⟩ := h
    refine ⟨cf, ρ, e, (c ρ).mono (fun d _ q => ?_) (fun _ _ z => z) h⟩
    obtain ⟨k, rfl, q⟩ := asBool_run q
    refine ⟨k, rfl, fun H1 x i => ?_⟩
    cases k with
    | true => exact ⟨_, ρ, e.ext' x i, (a ρ).mono (fun d _ q v H2 x2 i2 r => q v H2 (x.trans x2) i2 r) (fun _ _ z => XQ.later x z) q⟩
    | false => exact ⟨_, ρ, e.ext' x i, (b ρ).mono (fun d _ q v H2 x2 i2 r => q v H2 (x.trans x2) i2 r) (fun _ _ z => XQ.later x z) q⟩
end
end Ad
namespace Ad
open PySem PySem.Calls PySem.W PySem.SeqAt PySem.Spec PyProof.Rows L2

/-! ### what a def promises, by data -/
def spOf (K : PySem.W.Frag) (mg : Str → Option Value) (f : List D → M D) : Sp := fun vs H Q E => ∃ (W : Wd) (B : Addr → Prop) (ds : List D) (b : Nat), VC W B H b ∧ RepL K W B H vs ds ∧
  (f ds).run (VQ K W B H Q) (fun x b => ∀ cls d H', Ext W.vol H H' → W.inv b H' → RepX K mg W B H' x cls d → E cls d H') b
/-- FnOk, the guards known -/
structure FnG (P : Program) (w : World) (K : PySem.W.Frag) (mg : Str → Option Value) (base : Heap) (k : Nat) (f : Addr) (fd : FuncData) (ps : List Str) (sp : Sp) : Prop where
  len : ∀ vs H Q E, sp vs H Q E → vs.length = ps.length
  run : ∀ (A : Around) (outer : List Env) (s : Shared) (H : Hp) (args : Args) (us : List Value) (vs : List V) (Q : VK) (E : XK), Room k A → A.guards = some [] → Env0 P w K mg base A outer s H → BindsTo s fd args (ps.zip us) → Vals vs us → sp vs H Q E →
    codeAny (model P w) A (.call (.ref f) args) (CR (CX P w) outer P w H s Q E) s
theorem FnG.mono {P : Program} {w : World} {K : PySem.W.Frag} {mg : Str → Option Value} {base : Heap} {j k : Nat} {f : Addr} {fd : FuncData} {ps : List Str} {sp : Sp} (F : FnG P w K mg base j f fd ps sp) (h : j ≤ k) : FnG P w K mg base k f fd ps sp :=
  ⟨F.len, fun A outer s H args us vs Q E hr => F.run A outer s H args us vs Q E (hr.mono h)⟩
/-- the global name nm calls what does f -/
def CallP (P : Program) (w : World) (K : PySem.W.Frag) (mg : Str → Option Value) (base : Heap) (k : Nat) (nm : Str) (f : List D → M D) : Prop :=
  ∃ (a : Addr) (fd : FuncData) (ps : List Str), mg nm = some (.ref a) ∧ PySem.W.keepIn K (.ref a) = true ∧ FnG P w K mg base k a fd ps (spOf K mg f) ∧ Binds K fd ps []
theorem CallP.mono {P : Program} {w : World} {K : PySem.W.Frag} {mg : Str → Option Value} {base : Heap} {j k : Nat} {nm : Str} {f : List D → M D} (c : CallP P w K mg base j nm f) (h : j ≤ k) : CallP P w K mg base k nm f := by
  obtain ⟨a, fd, ps, h1, h2, F, b⟩ := c
  exact ⟨a, fd, ps, h1, h2, F.mono h, b⟩
section
variable {X : Cx} {Wx : WX} {pos : Pos}
theorem run_fnG {k : Nat} {f : Addr} {fd : FuncData} {ps : List Str} {sp : Sp} {E : XK} {pins : List (Addr × Obj)} {σ : L2.St} {H : Hp} {s : Shared} {Q : VK} {us : List Value} {vs : List V} (F : FnG X.prog X.w X.K X.mg X.base k f fd ps sp) (hr : Room k X.A) (hg : X.A.guards = some []) (hb : Binds X.K fd ps []) (hx : PassesAt (CX X.prog X.w) X σ E)
    (I : Inv X pins σ H s) (r : Vals vs us) (h : sp vs H Q E) : wpAny (model X.prog X.w) X.A (call (.ref f) us) (EP X pins σ Q) X.xe s := by
  have hl : us.length = ps.length := by rw [← r.length]; exact F.len _ _ _ _ h
  have hb' := hb s us I.kIn (by rw [List.append_nil]; exact hl)
  rw [List.append_nil] at hb'
  refine wpAny_call (codeAny_mono (F.run X.A X.stack s H ⟨us, []⟩ us vs Q E hr hg I.env0 hb' r h) fun r s' hq => ?_)
  cases r with
  | error e => exact hx pins H s e s' I hq
  | ok fl =>
    cases fl with
    | ret u => exact I.after hq
    | next => exact False.elim hq
    | brk => exact False.elim hq
    | cont => exact False.elim hq
theorem pe_callG {k : Nat} {x : Str} {f : List D → M D} {e : Expr} {es : List Expr} {t : TA} {p : Pos} (C : CallP X.prog X.w X.K X.mg X.base k x f) (hr : Room k X.A) (hg : X.A.guards = some []) (hgl : Gl X x) (tk : Takes X Wx)
    (ha : PA X (e :: es) t) (hdb : (x == ("__debug__" : Str)) = false) (he : starEach (e :: es) X.env = (false, eval e X.env) :: starEach es X.env) (hpl : (backTo pos (starEach es X.env)).any (·.1) = false) :
    PE X (.Call (.Name x p) (e :: es) [] pos) (tCallSD (spOf X.K X.mg f) [] (fun σ => WE Wx σ) t) := by
  obtain ⟨a, fd, ps, hm, hk, F, hb⟩ := C
  refine ⟨fun pins s σ H Q I h => ?_⟩
  refine wpAny_Call_Name_kw (ld_glob I hgl hm ?_ hdb)
  refine PySem.W.callWith_K (h₀ := X.base) I.ok.mod.kin hk (thn (ha.run pos pins s σ H _ I h) fun us s1 ⟨vs, H1, I1, r, q⟩ => ⟨I1.kIn, ?_⟩) he hpl
  have q : spOf X.K X.mg f (vs ++ []) H1 Q (WE Wx σ) := q
  rw [List.append_nil] at q
  exact run_fnG F hr hg hb (passAt tk σ) I1 r q
theorem pe_callG0 {k : Nat} {x : Str} {f : List D → M D} {p : Pos} (C : CallP X.prog X.w X.K X.mg X.base k x f) (hr : Room k X.A) (hg : X.A.guards = some []) (hgl : Gl X x) (tk : Takes X Wx)
    (hdb : (x == ("__debug__" : Str)) = false) : PE X (.Call (.Name x p) [] [] pos) (tCallSD (spOf X.K X.mg f) [] (fun σ => WE Wx σ) tNil) := by
  obtain ⟨a, fd, ps, hm, hk, F, hb⟩ := C
  refine ⟨fun pins s σ H Q I h => ?_⟩
  refine wpAny_Call_Name_kw (ld_glob I hgl hm ?_ hdb)
  exact PySem.W.callWith_K0 I.kIn hk (run_fnG (us := []) F hr hg hb (passAt tk σ) I .nil h)

/-! ### calls, read by data -/
theorem read_call {f : List D → M D} {m : TM (List D)} {σ : L2.St} {H : Hp} {Q : VK} {t : TA} (ht : ∀ (σ : L2.St) (H : Hp) (Q : List V → Hp → Prop), tA X.K X.mg Wx m σ H Q → t σ H Q) (h : tE X.K X.mg Wx (fun ρ => m ρ >>= f) σ H Q) : tCallSD (spOf X.K X.mg f) [] (fun σ => WE Wx σ) t σ H Q := by
  obtain ⟨c, ρ, e, h⟩ := h
  refine ht σ H _ ⟨c, ρ, e, (m ρ).mono (fun ds _ q vs H1 x i rv => ?_) (fun _ _ z => z) h⟩
  refine ⟨c.W, Nn c ρ σ, ds, _, (e.ext' x i).vc, by rw [List.append_nil]; exact rv, (f ds).mono (fun d _ q v H2 x2 i2 r2 => q v H2 (x.trans x2) i2 r2) (fun z _ q cls dd H2 x2 i2 r2 => ?_) q⟩
  exact q cls dd H2 (x.trans x2) i2 r2
theorem RepBL.low {K : PySem.W.Frag} {W : Wd} {N : Addr → Prop} {H : Hp} (b : ∀ a, W.vol a → N a) : ∀ {vs : List V} {ds : List D}, RepBL K W N H vs ds → RepL K W W.vol H vs ds
  | _, _, .nil => .nil
  | _, _, .cons h t => by
    refine .cons ?_ (t.low b)
    rcases h with h | ⟨a, vs, ds, rfl, rfl, h3, h4, h5, h6⟩ | ⟨a, o, rfl, g, h3, h4⟩
    · exact h.anti b
    · exact .lst h3 h6 h4 (h5.anti b)
    · cases g with
      | dki z => exact .dci h3 h4 z
      | dkt z => exact .dct h3 h4 z
theorem VC.low {W : Wd} {N : Addr → Prop} {H : Hp} {b : Nat} (v : VC W N H b) : VC W W.vol H b := ⟨fun a h => v.kl a (v.bv a h), fun _ h => h, v.inv⟩
theorem VC.fix {K : PySem.W.Frag} {W : Wd} {N : Addr → Prop} {H : Hp} {b : Nat} (v : VC W N H b) {x : V} {d : D} (f : fixedD d = true) (r : Rep K W W.vol H x d) : Rep K W N H x d :=
  Rep.fixed d x f (fun a vs h n => by
    obtain ⟨ws, q, m⟩ := v.kl a n
    rcases h with h | ⟨o, h⟩ <;> rw [q] at h <;> cases h <;> exact m) r
theorem read_callB {f : List D → M D} {m : TM (List D)} {σ : L2.St} {H : Hp} {Q : VK} {t : TA} (ht : ∀ (σ : L2.St) (H : Hp) (Q : List V → Hp → Prop), tAB X.K X.mg Wx m σ H Q → t σ H Q) (h : tE X.K X.mg Wx (fun ρ => m ρ >>= fun ds => fixM (f ds)) σ H Q) : tCallSD (spOf X.K X.mg f) [] (fun σ => WE Wx σ) t σ H Q := by
  obtain ⟨c, ρ, e, h⟩ := h
  refine ht σ H _ ⟨c, ρ, e, (m ρ).mono (fun ds _ q vs H1 x i rv => ?_) (fun _ _ z => z) h⟩
  have v1 := (e.ext' x i).vc
  have q : (f ds).run (fun r b => fixedD r = true ∧ VQ X.K c.W (Nn c ρ σ) H Q r b) (fun _ _ => False) _ := q
  refine ⟨c.W, c.W.vol, ds, _, v1.low, by rw [List.append_nil]; exact rv.low e.vc.bv, (f ds).mono (fun d _ q v H2 x2 i2 r2 => ?_) (fun z _ q => q.elim) q⟩
  exact q.2 v H2 (x.trans x2) i2 ((v1.ext x2 i2).fix q.1 r2)
theorem s_call {k : Nat} {x : Str} {f : List D → M D} {e : Expr} {es : List Expr} {m : TM (List D)} {p : Pos} (C : CallP X.prog X.w X.K X.mg X.base k x f) (hr : Room k X.A) (hg : X.A.guards = some []) (hgl : Gl X x) (tk : Takes X Wx)
    (ha : PAr X Wx (e :: es) m) (hdb : (x == ("__debug__" : Str)) = false) (he : starEach (e :: es) X.env = (false, eval e X.env) :: starEach es X.env) (hpl : (backTo pos (starEach es X.env)).any (·.1) = false) :
    PEr X Wx (.Call (.Name x p) (e :: es) [] pos) fun ρ => m ρ >>= f := pe_imp (pe_callG C hr hg hgl tk ha hdb he hpl) fun σ H Q h => read_call (fun _ _ _ z => z) h
theorem s_call0 {k : Nat} {x : Str} {f : List D → M D} {p : Pos} (C : CallP X.prog X.w X.K X.mg X.base k x f) (hr : Room k X.A) (hg : X.A.guards = some []) (hgl : Gl X x) (tk : Takes X Wx)
    (hdb : (x == ("__debug__" : Str)) = false) : PEr X Wx (.Call (.Name x p) [] [] pos) fun ρ => (pure [] : M (List D)) >>= f := pe_imp (pe_callG0 C hr hg hgl tk hdb) fun σ H Q h => read_call (m := fun _ => pure []) (fun σ H Q z => by
      obtain ⟨c, ρ, e, z⟩ := z
      exact z [] H (Ext.refl H) e.inv .nil) h
theorem s_callB {k : Nat} {x : Str} {f : List D → M D} {e : Expr} {es : List Expr} {m : TM (List D)} {p : Pos} (C : CallP X.prog X.w X.K X.mg X.base k x f) (hr : Room k X.A) (hg : X.A.guards = some []) (hgl : Gl X x) (tk : Takes X Wx)
    (ha : PAb X Wx (e :: es) m) (hdb : (x == ("__debug__" : Str)) = false) (he : starEach (e :: es) X.env = (false, eval e X.env) :: starEach es X.env) (hpl : (backTo pos (starEach es X.env)).any (·.1) = false) :
    PEr X Wx (.Call (.Name x p) (e :: es) [] pos) fun ρ => m ρ >>= fun ds => fixM (f ds) := pe_imp (pe_callG C hr hg hgl tk ha hdb he hpl) fun σ H Q h => read_callB (fun _ _ _ z => z) h
/-- a built-in -/
theorem read_bi {f : List D → M D} {m : TM (List D)} {σ : L2.St} {H : Hp} {Q : VK} (h : tE X.K X.mg Wx (fun ρ => m ρ >>= f) σ H Q) : tCB (rCall X.K f) (tAB X.K X.mg Wx m) σ H Q := by
  obtain ⟨c, ρ, e, h⟩ := h
  refine ⟨c, ρ, e, (m ρ).mono (fun ds _ q vs H1 x i rv => ?_) (fun _ _ z => z) h⟩
  exact ⟨c.W, Nn c ρ σ, ds, _, _, (e.ext' x i).vc, rv, (f ds).mono (fun d _ q v H2 x2 i2 r2 => q v H2 (x.trans x2) i2 r2) (fun _ _ z => z) q⟩
theorem s_biF {id : String} {x : Str} {f : List D → M D} {e : Expr} {es : List Expr} {m : TM (List D)} {p : Pos} (hc : CallR X (.builtin id) (rCall X.K f)) (hg : Gl X x) (hm : X.mg x = none) (hv : bootBuiltins x = some (.builtin id)) (ha : PAb X Wx (e :: es) m) (hn : x ≠ "__name__") (hdb : (x == ("__debug__" : Str)) = false)
    (he : starEach (e :: es) X.env = (false, eval e X.env) :: starEach es X.env) (hpl : (backTo pos (starEach es X.env)).any (·.1) = false) : PEr X Wx (.Call (.Name x p) (e :: es) [] pos) fun ρ => m ρ >>= f :=
  pe_imp (pe_callB hc hg hm hv ha hn hdb he hpl) fun σ H Q h => read_bi h
theorem s_biT {T : String} {x : Str} {f : List D → M D} {e : Expr} {es : List Expr} {m : TM (List D)} {p : Pos} (hc : CallR X (.type T) (rCall X.K f)) (hg : Gl X x) (hm : X.mg x = none) (hv : bootBuiltins x = some (.type T)) (ha : PAb X Wx (e :: es) m) (hn : x ≠ "__name__") (hdb : (x == ("__debug__" : Str)) = false)
    (he : starEach (e :: es) X.env = (false, eval e X.env) :: starEach es X.env) (hpl : (backTo pos (starEach es X.env)).any (·.1) = false) : PEr X Wx (.Call (.Name x p) (e :: es) [] pos) fun ρ => m ρ >>= f :=
  pe_imp (pe_callTy hc hg hm hv ha hn hdb he hpl) fun σ H Q h => read_bi h
/-- isinstance(x, T) -/
theorem s_isa {T : String} {g : D → Bool} {y : Str} {x : Expr} {a : TM D} {p p2 : Pos} (hc : CallR X (.builtin "isinstance") (rIsaC X.K T (on1 (isaD g)))) (hg : Gl X "isinstance") (hm : X.mg "isinstance" = none) (hv : bootBuiltins "isinstance" = some (.builtin "isinstance"))
    (hg2 : Gl X y) (hm2 : X.mg y = none) (hv2 : bootBuiltins y = some (.type T)) (hn2 : y ≠ "__name__") (hd2 : (y == ("__debug__" : Str)) = false) (ha : PEb X Wx x a)
    (he : starEach [x, .Name y p2] X.env = (false, eval x X.env) :: starEach [.Name y p2] X.env) : PEr X Wx (.Call (.Name "isinstance" p) [x, .Name y p2] [] pos) fun ρ => (a ρ >>= fun d => (pure [] : M (List D)) >>= fun ds => pure (d :: ds)) >>= on1 (isaD g) :=
  pe_imp (pe_callB hc hg hm hv (pa_cons ha (pa_cons (pe_bltn (v := .ty T) hg2 hm2 hv2 rfl hn2 hd2) pa_nil rfl) he) (by decide) (by decide) he (by first | rfl | simp [backTo, starEach])) fun σ H Q h => by
    obtain ⟨c, ρ, e, h⟩ := h
    refine ⟨c, ρ, e, (a ρ).mono (fun d _ q v H1 x i rv => ?_) (fun _ _ z => z) h⟩
    exact ⟨c.W, Nn c ρ σ, d, v, _, _, rfl, (e.ext' x i).vc, rv, (on1 (isaD g) [d]).mono (fun d _ q v H2 x2 i2 r2 => q v H2 (x.trans x2) i2 r2) (fun _ _ z => z) q⟩
end

/-! ### the shape of what is written -/
def notStar : Expr → Bool
  | .Starred .. => false
  | _ => true
theorem star_ok {e : Expr} (h : notStar e = true) (es : List Expr) (env : Env) : starEach (e :: es) env = (false, eval e env) :: starEach es env := by
  cases e <;> first | rfl | exact absurd h (by simp [notStar])
theorem star_any : ∀ {es : List Expr}, es.all notStar = true → ∀ (pos : Pos) (env : Env), (backTo pos (starEach es env)).any (·.1) = false
  | [], _, _, _ => rfl
  | e :: es, h, pos, env => by
    simp only [List.all_cons, Bool.and_eq_true] at h
    rw [star_ok h.1]
    show (false || (backTo pos (starEach es env)).any (·.1)) = false
    rw [star_any h.2]
    rfl
def plainE : Expr → Bool
  | .UnaryOp .Not _ _ => false
  | .BoolOp .. => false
  | .IfExp .. => false
  | .Compare .. => false
  | _ => true
theorem plain_ok {x : Expr} (h : plainE x = true) (env : Env) : ∀ whole, PySem.isTrue x env whole = (do let v ← whole; standAt x.pos; holding [v] (truthy v)) := by
  intro whole
  cases x <;> first
    | rfl
    | (rename_i op _ _; cases op <;> first | rfl | exact absurd h (by simp [plainE]))
    | exact absurd h (by simp [plainE])
def notSlice : Expr → Bool
  | .Slice .. => false
  | _ => true
theorem slice_ok {x : Expr} (h : notSlice x = true) : PlainIx x := fun o i => by
  cases x <;> first | rfl | exact absurd h (by simp [notSlice])
def notSet : Expr → Bool
  | .Set .. => false
  | _ => true
theorem set_ok {x : Expr} (h : notSet x = true) (op : CmpOp) : behindInMarks op x = false := by
  cases x <;> first | rfl | exact absurd h (by simp [notSet])
theorem set_fold {x : Expr} (h : notSet x = true) (env : Env) : ∀ v, foldedSetIterable x env v = pure v := fun v => by
  cases x <;> first | rfl | exact absurd h (by simp [notSet])
def notSup : Expr → Bool
  | .Call (.Name ..) [] [] _ => false
  | _ => true
theorem sup_ok {x : Expr} (h : notSup x = true) (a : Str) (env : Env) (w : Sem Value) : attributeBase x a env w = w := by
  unfold attributeBase
  split
  · exact absurd h (by simp [notSup])
  · rfl
end Ad
namespace Ad
open PySem PySem.Calls PySem.W PySem.SeqAt PySem.Spec PyProof.Rows L2

/-- the items of what is represented at v, fit for a set -/
def SetArg (K : PySem.W.Frag) (H : Hp) (v : V) (W : Wd) (N : Addr → Prop) (ds : List D) : Prop := ∃ (a : Addr) (vs : List V) (d : D), v = .ref a ∧ RepL K W N H vs ds ∧ ((d = .list ds ∧ SqL K H a vs) ∨ (d = .tuple ds ∧ SqT K H a vs)) ∧ setOk ds
def tSortSet (K : PySem.W.Frag) (te : TE) : TE := fun σ H Q => te σ H fun v H1 => ∃ (W : Wd) (N : Addr → Prop) (ds : List D), SetArg K H1 v W N ds ∧ sortable ds ∧ ∀ p ws cs, H1 p = none → cs.Perm (onceD ds) → RepL K W N H1 ws (sortD cs) → cs.length ≤ sizeLine → Q (.ref p) (upd H1 p (.lst ws))
/-- fit for a set that is counted only -/
def SetArgL (K : PySem.W.Frag) (H : Hp) (v : V) (W : Wd) (N : Addr → Prop) (ds : List D) : Prop := ∃ (a : Addr) (vs : List V) (d : D), v = .ref a ∧ RepL K W N H vs ds ∧ ((d = .list ds ∧ SqL K H a vs) ∨ (d = .tuple ds ∧ SqT K H a vs)) ∧ setOkL ds
def tLenSet (K : PySem.W.Frag) (te : TE) : TE := fun σ H Q => te σ H fun v H1 => ∃ (W : Wd) (N : Addr → Prop) (ds : List D), SetArgL K H1 v W N ds ∧ Q (.int (onceD ds).length) H1
section
variable {X : Cx} {x : Expr} {te : TE} {p p2 q pos : Pos}
theorem once_len : ∀ xs : List D, (onceD xs).length ≤ xs.length
  | [] => Nat.le_refl _
  | x :: xs => Nat.succ_le_succ (Nat.le_trans (List.length_filter_le _ _) (once_len xs))
theorem setOk_len {ds : List D} (h : setOk ds) : (onceD ds).length ≤ 4000 := by
  rcases h with ⟨_, h⟩ | ⟨_, h⟩
  · have := once_len ds
    omega
  · omega
theorem pe_sortSet (hc : X.calm = true) (hu : X.A.units + 66 < cLine) (hg : Gl X "sorted") (hm : X.mg "sorted" = none) (hg2 : Gl X "set") (hm2 : X.mg "set" = none) (ha : PE X x te) (ns : starEach [x] X.env = (false, eval x X.env) :: starEach [] X.env) :
    PE X (.Call (.Name "sorted" p) [.Call (.Name "set" p2) [x] [] q] [] pos) (tSortSet X.K te) := by
  refine ⟨fun pins s σ H Q I h => Call_ (ld_blt I hg hm PyProof.Rows.boot_sorted ?_)⟩
  refine callWith_builtin1 (args_cons ?_ rfl) rfl rfl
  refine Call_ (ld_blt I hg2 hm2 PyProof.Rows.boot_set ?_)
  refine callWith_type1 (args_cons (thn (ha.run pins s σ H _ I h) fun u s1 ⟨v, H1, I1, r1, q1⟩ => args_nil ?_) ns) ns rfl
  obtain ⟨W, N, ds, ⟨a, vs, d, rfl, l, hx, ok⟩, so, fin⟩ := q1
  obtain rfl : u = Value.ref a := r1
  refine set_made hc hu I1 l hx ok fun S h' tk us ws cs eS k sv v lc pm => args_nil ?_
  have I2 : Inv X pins σ H1 { s1 with heap := h', toks := tk } := I1.kept k
  refine sorted_setV (s := { s1 with heap := h', toks := tk }) sv (I2.ok.hd hc) fun s2 out k2 z2 g2 o2 pm2 => ?_
  obtain ⟨ws', cs', v', l', pm'⟩ := perm_align pm2.symm v lc
  have sub : ∀ x, x ∈ cs' → x ∈ ds := fun x hx => once_sub ((pm'.trans pm).mem_iff.mp hx)
  have so' := sortable_sub so sub
  obtain ⟨as, ra⟩ := RepL.reads' I2 (fun d hd => (so'.2.1 d hd).2.2) l' v'
  have ra2 : ReadsAll (sortingHeap (s2.heap.push (seqObj "list" out.toArray 0)) s2.heap.objs.size out) out cs' as := PyProof.Rows.ReadsAll.keeps (fun b o e => by
    have lt := Heap.lt_size (k2 b o e)
    exact sortingHeap_old (Nat.ne_of_lt lt) (Heap.get?_push_of_some _ (k2 b o e))) ra
  refine ⟨_, sorts_data (s := { s2 with heap := sortingHeap (s2.heap.push (seqObj "list" out.toArray 0)) s2.heap.objs.size out }) (each_vals ra2) so' (by show X.A.units + 1 + 1 + 41 < cLine; omega), ?_⟩
  obtain ⟨wz, e1, e2⟩ := sort_out so' v' l' ra2
  have at_ : (s2.heap.push (seqObj "list" out.toArray 0)).get? s2.heap.objs.size = some (seqObj "list" out.toArray 0) := Heap.get?_push_size _ rfl
  generalize hz : sortVals (dataKind (sortingHeap (s2.heap.push (seqObj "list" out.toArray 0)) s2.heap.objs.size out) cs') false out out = zs at e1 ⊢
  obtain ⟨c, hc'⟩ := sortedHeap_at (vs := out) (out := zs.toArray) at_
  have len : cs'.length ≤ sizeLine := by
    have := setOk_len ok
    rw [(pm'.trans pm).length_eq, sizeLine_eq]
    omega
  have k3 : ∀ b o, s1.heap.get? b = some o → (sortedHeap (s2.heap.push (seqObj "list" out.toArray 0)) s2.heap.objs.size out zs.toArray).get? b = some o := fun b o e => by
    have e2 := k2 b o (k b o e)
    have lt := Heap.lt_size e2
    rw [sortedHeap_old (Nat.ne_of_lt lt) (by rw [size_push']; exact Nat.lt_succ_of_lt lt)]
    exact Heap.get?_push_of_some _ e2
  have sz : s1.heap.objs.size ≤ s2.heap.objs.size := Nat.le_of_not_lt fun lt => by
    have z2' : h'.objs.size ≤ s2.heap.objs.size := z2
    obtain ⟨o, _, _, _, ho, _⟩ := sv
    rw [eS] at ho
    exact absurd (Nat.lt_of_lt_of_le (Heap.lt_size ho) z2') (Nat.not_lt.mpr (Nat.le_of_lt lt))
  have hn : H1 s2.heap.objs.size = none := I1.hok.fresh sz
  have J : Inv X pins σ (upd H1 s2.heap.objs.size (.lst wz)) { s1 with heap := sortedHeap (s2.heap.push (seqObj "list" out.toArray 0)) s2.heap.objs.size out zs.toArray, gens := s2.gens, drawn := s2.drawn, toks := s2.toks } :=
    I1.call (ch := []) (Un.laid k3 sz hn) (I1.hok.laid k3 sz ⟨by rw [e2.length]; unfold sortD; rw [List.length_mergeSort]; exact len, zs, c, e1, hc'⟩) (by
      have g2' : s2.gens = s1.gens := g2
      rw [g2']
      exact I1.bare) (fun _ z => nomatch z)
  have e : ({ s2 with heap := sortedHeap (s2.heap.push (seqObj "list" out.toArray 0)) s2.heap.objs.size out zs.toArray } : Shared) = { s1 with heap := sortedHeap (s2.heap.push (seqObj "list" out.toArray 0)) s2.heap.objs.size out zs.toArray, gens := s2.gens, drawn := s2.drawn, toks := s2.toks } := by
    have o2' : s2.os = s1.os := o2
    cases s2
    cases s1
    cases o2'
    rfl
  rw [e]
  exact ⟨.ref s2.heap.objs.size, _, J, rfl, fin _ wz cs' hn (pm'.trans pm) e2 len⟩
theorem pe_lenSet (hc : X.calm = true) (hu : X.A.units + 66 < cLine) (hg : Gl X "len") (hm : X.mg "len" = none) (hg2 : Gl X "set") (hm2 : X.mg "set" = none) (ha : PE X x te) (ns : starEach [x] X.env = (false, eval x X.env) :: starEach [] X.env) :
    PE X (.Call (.Name "len" p) [.Call (.Name "set" p2) [x] [] q] [] pos) (tLenSet X.K te) := by
  refine ⟨fun pins s σ H Q I h => Call_ (ld_blt I hg hm PySem.boot_len ?_)⟩
  refine callWith_builtin1 (args_cons ?_ rfl) rfl rfl
  refine Call_ (ld_blt I hg2 hm2 PyProof.Rows.boot_set ?_)
  refine callWith_type1 (args_cons (thn (ha.run pins s σ H _ I h) fun u s1 ⟨v, H1, I1, r1, q1⟩ => args_nil ?_) ns) ns rfl
  obtain ⟨W, N, ds, ⟨a, vs, d, rfl, l, hx, ok⟩, fin⟩ := q1
  obtain rfl : u = Value.ref a := r1
  refine Sn.set_madeL hc hu I1 l hx ok fun S h' tk us ws cs eS k sv v lc pm => args_nil ?_
  have I2 : Inv X pins σ H1 { s1 with heap := h', toks := tk } := I1.kept k
  obtain ⟨o, es, ep, t, ho, ex, hd, eu, hf, hb, hr, hl⟩ := sv
  have ne : es.size = (onceD ds).length := by
    have e1 : us.length = es.size := by rw [← eu, List.length_map, Array.length_toList]
    rw [← e1, ← v.length, lc.length, pm.length_eq]
  exact call_len_set ho ex hd hf (by unfold scanBound at hb; omega) ⟨.int (onceD ds).length, H1, I2.tok _, ⟨_, by rw [ne]⟩, fin⟩
end
end Ad
namespace Ad
open PySem PySem.Calls PySem.W PySem.SeqAt PySem.Spec PyProof.Rows L2

/-! ### what is walked -/
def WalkD (K : PySem.W.Frag) (W : Wd) (N S : Addr → Prop) (H : Hp) (J : It) (xs : List D) : Prop :=
  ∃ (G : Hp → Prop) (Y : Nat → Hp → V → Hp → Prop), G H ∧ (∀ H1 H2, Ext S H1 H2 → G H1 → G H2) ∧ Walk J xs.length G Y ∧
    ∀ (i : Nat) (Hc : Hp) (v : V) (H2 : Hp) (N' : Addr → Prop), i < xs.length → G Hc → Ext S H Hc → (∀ a, N' a → (N a ∨ H a = none) ∧ Hc a ≠ none) → Y i Hc v H2 →
      Ext W.vol Hc H2 ∧ (∀ b, W.inv b Hc → W.inv b H2) ∧ ∃ d, xs[i]? = some d ∧ Rep K W N' H2 v d
section
variable {K : PySem.W.Frag} {W : Wd} {N S : Addr → Prop} {H : Hp} {xs : List D}
theorem WalkD.list {a : Addr} {vs : List V} (hS : ∀ b, S b → N b) (h : H a = some (.lst vs)) (n : ¬ S a) (l : RepL K W N H vs xs) : WalkD K W N S H (Itl K a) xs := by
  have hl := l.length
  refine ⟨fun H => H a = some (.lst vs), YAt vs, h, fun H1 H2 e g => e a _ n g, ?_, fun i Hc v H2 N' hi g e hN y => ?_⟩
  · have w : Walk (Itl K a) vs.length (fun H => SqL K H a vs) (YAt vs) := walk_list
    rw [hl] at w
    exact w.mono (fun H h => SqL.of h) fun _ _ _ _ _ _ y => y
  · obtain ⟨rfl, hv⟩ := y
    obtain ⟨d, hd, r⟩ := l.getV hv
    exact ⟨Ext.refl _, fun _ z => z, d, hd, Rep.to (fun b nb hb z => (hN b z).1.elim nb hb) (e.wide hS) d v r⟩
theorem WalkD.tup {a : Addr} {vs : List V} (hS : ∀ b, S b → N b) (h : TupN K N H a vs) (l : RepL K W N H vs xs) : WalkD K W N S H (Itt K a) xs := by
  have hl := l.length
  refine ⟨fun H => TupN K S H a vs, YAt vs, ?_, fun H1 H2 e g => ?_, ?_, fun i Hc v H2 N' hi g e hN y => ?_⟩
  · rcases h with h | h
    · exact .inl ⟨h.1, fun z => h.2 (hS _ z)⟩
    · exact .inr h
  · rcases g with g | g
    · exact .inl ⟨g.1.ext e g.2, g.2⟩
    · exact .inr g
  · have w : Walk (Itt K a) vs.length (fun H => SqT K H a vs) (YAt vs) := walk_tup
    rw [hl] at w
    exact w.mono (fun H h => h.sq) fun _ _ _ _ _ _ y => y
  · obtain ⟨rfl, hv⟩ := y
    obtain ⟨d, hd, r⟩ := l.getV hv
    exact ⟨Ext.refl _, fun _ z => z, d, hd, Rep.to (fun b nb hb z => (hN b z).1.elim nb hb) (e.wide hS) d v r⟩
theorem WalkD.str {z : Str} : WalkD K W N S H (Its z) (z.cps.toList.map fun c => .str ⟨#[c]⟩) := by
  refine ⟨fun _ => True, fun i H v H' => H' = H ∧ ∃ c, z.cps[i]? = some c ∧ v = .str ⟨#[c]⟩, trivial, fun _ _ _ _ => trivial, ?_, fun i Hc v H2 N' hi g e hN y => ?_⟩
  · have w := walk_str (z := z)
    rw [List.length_map, Array.length_toList]
    exact w
  · obtain ⟨rfl, c, hc, rfl⟩ := y
    exact ⟨Ext.refl _, fun _ z => z, .str ⟨#[c]⟩, by rw [List.getElem?_map, Array.getElem?_toList, hc]; rfl, .str _⟩
theorem WalkD.range {lo hi : Int} : WalkD K W N S H (Itr lo (hi - lo).toNat) (rangeD lo hi) := by
  have hl : (rangeD lo hi).length = (hi - lo).toNat := by unfold rangeD; rw [List.length_map, List.length_range]
  refine ⟨fun _ => True, YFn fun i => .int (lo + i), trivial, fun _ _ _ _ => trivial, ?_, fun i Hc v H2 N' hi g e hN y => ?_⟩
  · rw [hl]
    exact walk_range
  · obtain ⟨rfl, rfl⟩ := y
    refine ⟨Ext.refl _, fun _ z => z, .int (lo + (i : Nat)), ?_, .int _⟩
    unfold rangeD at hi ⊢
    rw [List.length_map, List.length_range] at hi
    rw [List.getElem?_map, List.getElem?_range hi]
    rfl
/-- a new pair at each turn -/
theorem pair_item {K : PySem.W.Frag} {W : Wd} {N' : Addr → Prop} {Hc H2 : Hp} {T : Addr} {x y : V} {d e : D} (hn : ∀ a, N' a → Hc a ≠ none) (hT : TwoV T Hc H2 x y) (rx : Rep K W N' Hc x d) (ry : Rep K W N' Hc y e) :
    Ext W.vol Hc H2 ∧ (∀ b, W.inv b Hc → W.inv b H2) ∧ Rep K W N' H2 (.ref T) (.tuple [d, e]) := by
  obtain ⟨hT, o, ho, rfl⟩ := hT
  have ex : ∀ M : Addr → Prop, Ext M Hc (upd Hc T (.frz o (.tup [x, y]))) := fun M => Ext.new hT
  refine ⟨ex _, fun b i => W.keep _ _ _ i fun a ha => upd_ne fun z => ?_, ?_⟩
  · obtain ⟨vs, q⟩ := W.known _ _ _ i ha
    rw [z, hT] at q
    cases q
  · exact .tup ⟨o, upd_same, ho⟩ (fun z => hn _ z hT) (by rw [sizeLine_eq]; show 2 ≤ 16777216; decide) (.cons (rx.ext (ex _)) (.cons (ry.ext (ex _)) .nil))
theorem enumD_at {xs : List D} {i : Nat} {d : D} (h : xs[i]? = some d) : (enumD xs)[i]? = some (.tuple [.int (i : Nat), d]) := by
  unfold enumD
  rw [List.getElem?_map, List.getElem?_zipIdx, h]
  simp
theorem enumD_length (xs : List D) : (enumD xs).length = xs.length := by unfold enumD; simp
theorem WalkD.enumL {a : Addr} {vs : List V} (hS : ∀ b, S b → N b) (h : H a = some (.lst vs)) (n : ¬ S a) (l : RepL K W N H vs xs) : WalkD K W N S H (IteS K a) (enumD xs) := by
  have hl := l.length
  refine ⟨fun H => H a = some (.lst vs), YTwo (fun i => some (.int (i : Nat))) (fun i => vs[i]?), h, fun H1 H2 e g => e a _ n g, ?_, fun i Hc v H2 N' hi g e hN y => ?_⟩
  · have w : Walk (IteS K a) vs.length (fun H => SqL K H a vs) _ := walk_enumS
    rw [hl] at w
    rw [enumD_length]
    exact w.mono (fun H h => SqL.of h) fun _ _ _ _ _ _ y => y
  · obtain ⟨T, x, y, rfl, hT, hx, hy⟩ := y
    cases hx
    obtain ⟨d, hd, r⟩ := l.getV hy
    obtain ⟨p1, p2, p3⟩ := pair_item (W := W) (K := K) (d := .int (i : Nat)) (x := .int (i : Nat)) (fun a z => (hN a z).2) hT (.int _) (Rep.to (N' := N') (fun b nb hb z => (hN b z).1.elim nb hb) (e.wide hS) d y r)
    exact ⟨p1, p2, _, enumD_at hd, p3⟩
end

/-! ### iterators, read by data -/
def tI (K : PySem.W.Frag) (mg : Str → Option Value) (Wx : WX) (lent : Bool) (m : TM (List D)) : TI := fun σ H R => ∃ c ρ, EnvOk K c ρ σ H ∧
  (m ρ).run (fun xs b => ∀ J H', Ext c.W.vol H H' → c.W.inv b H' → WalkD K c.W (Nn c ρ σ) (if lent then c.W.vol else Nn c ρ σ) H' J xs → R J H') (XQ K mg Wx c ρ σ H) c.b
abbrev PIr (X : Cx) (Wx : WX) (tg x : Expr) (l : Bool) (m : TM (List D)) : Prop := PI X tg x (tI X.K X.mg Wx l m)
section
variable {X : Cx} {Wx : WX} {pos : Pos} {tg : Expr}
theorem pi_imp {x : Expr} {t t' : TI} (h : PI X tg x t) (i : ∀ (σ : L2.St) (H : Hp) (R : It → Hp → Prop), t' σ H R → t σ H R) : PI X tg x t' := ⟨fun pins s σ H R I q => h.run pins s σ H R I (i σ H R q)⟩
theorem pi_any {e : Expr} {te : TE} (he : PE X e te) : PI X tg e (fun σ H R => te σ H fun x H1 => (∃ a xs, x = .ref a ∧ SqL X.K H1 a xs ∧ R (Itl X.K a) H1) ∨ (∃ a xs, x = .ref a ∧ SqT X.K H1 a xs ∧ R (Itt X.K a) H1) ∨ ∃ z, x = .str z ∧ R (Its z) H1) := by
  refine ⟨fun pins s σ H R I h => ?_⟩
  refine thn (he.run pins s σ H _ I h) fun v s1 ⟨x, H1, I1, r1, q1⟩ => ?_
  rcases q1 with ⟨a, xs, rfl, hq, q⟩ | ⟨a, xs, rfl, hq, q⟩ | ⟨z, rfl, q⟩
  · cases r1
    obtain ⟨its, rv, p, hz⟩ := I1.list hq
    refine wpAny_pyIter_list p.isList ?_
    refine ⟨s1.heap.objs.size, [s1.heap.objs.size], _, _, H1, rfl, I1.kept (t' := s1.toks) fun b o e => Heap.get?_push_of_some _ e, turn_list a _, ⟨_, Heap.get?_push_size _ rfl, rfl, rfl⟩, fun b hb => ?_, q⟩
    have e : b = s1.heap.objs.size := by simpa using hb
    subst e
    exact I1.fpOk (Nat.le_refl _) (I1.hok.fresh (Nat.le_refl _))
  · cases r1
    obtain ⟨its, rv, p, hz⟩ := I1.tuple hq
    refine wpAny_pyIter_tuple (show s1.heap.IsTuple a its.toArray from p) ?_
    refine ⟨s1.heap.objs.size, [s1.heap.objs.size], _, _, H1, rfl, I1.kept (t' := s1.toks) fun b o e => Heap.get?_push_of_some _ e, turn_tuple a _, ⟨_, Heap.get?_push_size _ rfl, rfl, rfl⟩, fun b hb => ?_, q⟩
    have e : b = s1.heap.objs.size := by simpa using hb
    subst e
    exact I1.fpOk (Nat.le_refl _) (I1.hok.fresh (Nat.le_refl _))
  · obtain ⟨t, rfl⟩ := r1
    cases ha : z.cps.all (· < 128)
    · exact wpAny_pyIter_wide ha (pi_one (tk := s1.toks) I1 _ (turn_str _ z t "str_iterator" (.inr rfl)) ⟨_, Heap.get?_push_size _ rfl, rfl, rfl⟩ q)
    · exact wpAny_pyIter_ascii ha (pi_one (tk := s1.toks) I1 _ (turn_str _ z t "str_ascii_iterator" (.inl rfl)) ⟨_, Heap.get?_push_size _ rfl, rfl, rfl⟩ q)
theorem walked_run {d : D} {Q : List D → Nat → Prop} {R : XV → Nat → Prop} {b : Nat} (h : (walked d).run Q R b) : (∃ xs, (d = .list xs ∨ d = .tuple xs) ∧ Q xs b) ∨ ∃ z, d = .str z ∧ Q (z.cps.toList.map fun c => .str ⟨#[c]⟩) b := by
  cases d <;> first
    | exact h.elim
    | exact .inl ⟨_, .inl rfl, h⟩
    | exact .inl ⟨_, .inr rfl, h⟩
    | exact .inr ⟨_, rfl, h⟩
theorem s_iter {x : Expr} {m : TM D} (h : PEr X Wx x m) : PIr X Wx tg x false fun ρ => m ρ >>= walked :=
  pi_imp (pi_any h) fun σ H R q => by
    obtain ⟨c, ρ, e, q⟩ := q
    refine ⟨c, ρ, e, (m ρ).mono (fun d _ q v H1 x i rv => ?_) (fun _ _ z => z) q⟩
    rcases walked_run q with ⟨xs, hd, q⟩ | ⟨z, rfl, q⟩
    · rcases hd with rfl | rfl
      · cases rv with
        | lst h1 h2 h3 h4 => exact .inl ⟨_, _, rfl, SqL.of h1, q _ H1 x i (WalkD.list (fun _ z => z) h1 h2 h4)⟩
      · obtain ⟨a, vs, rfl, h1, h2, h3, h4⟩ := RepB.tup (.inl rv)
        exact .inr (.inl ⟨a, vs, rfl, h1, q _ H1 x i (WalkD.tup (fun _ z => z) h2 h4)⟩)
    · cases rv
      exact .inr (.inr ⟨z, rfl, q _ H1 x i WalkD.str⟩)
theorem s_iterB {x : Expr} {m : TM D} (h : PEb X Wx x m) : PIr X Wx tg x true fun ρ => m ρ >>= walked :=
  pi_imp (pi_any h) fun σ H R q => by
    obtain ⟨c, ρ, e, q⟩ := q
    refine ⟨c, ρ, e, (m ρ).mono (fun d _ q v H1 x i rv => ?_) (fun _ _ z => z) q⟩
    rcases walked_run q with ⟨xs, hd, q⟩ | ⟨z, rfl, q⟩
    · rcases hd with rfl | rfl
      · rcases rv with rv | ⟨a, vs, ds, rfl, e', h3, h4, h5, h6⟩ | ⟨a, o, rfl, g, _⟩
        rotate_left 2
        · obtain ⟨_, _, z⟩ := g.dict
          cases z
        · cases rv with
          | lst h1 h2 h3 h4 => exact .inl ⟨_, _, rfl, SqL.of h1, q _ H1 x i (WalkD.list (fun b z => e.vc.bv b z) h1 (fun z => h2 (e.vc.bv _ z)) h4)⟩
        · cases e'
          exact .inl ⟨a, vs, rfl, SqL.of h3, q _ H1 x i (WalkD.list (fun b z => e.vc.bv b z) h3 h6 h5)⟩
      · obtain ⟨a, vs, rfl, h1, h2, h3, h4⟩ := rv.tup
        exact .inr (.inl ⟨a, vs, rfl, h1, q _ H1 x i (WalkD.tup (fun b z => e.vc.bv b z) h2 h4)⟩)
    · have e' := rv.str
      subst e'
      exact .inr (.inr ⟨z, rfl, q _ H1 x i WalkD.str⟩)
theorem s_range1 {x : Expr} {m : TM (List D)} {p : Pos} (l : Bool) (hg : Gl X "range") (hm : X.mg "range" = none) (ha : PAb X Wx [x] m) (hs : starEach [x] X.env = [(false, eval x X.env)]) : PIr X Wx tg (.Call (.Name "range" p) [x] [] pos) l fun ρ => (m ρ >>= biD .range1) >>= walked :=
  pi_imp (pi_range1 hg hm ha hs) fun σ H R q => by
    obtain ⟨c, ρ, e, q⟩ := q
    refine ⟨c, ρ, e, (m ρ).mono (fun ds _ q vs H1 x i rv => ?_) (fun _ _ z => z) q⟩
    match ds, rv, q with
    | [], _, q => exact q.elim
    | _ :: _ :: _, _, q => exact q.elim
    | [d], rv, q =>
      have q : (asInt d >>= fun j => M.grd (j ≤ 2 ^ 24 ∧ -(2 ^ 62) ≤ j) >>= fun _ => pure (.list (rangeD 0 j)) : M D).run (fun z => (walked z).run _ _) _ _ := q
      obtain ⟨j, rfl, h1, q⟩ := asInt_run q
      obtain ⟨y, rfl, ry⟩ := rv.one
      refine ⟨j, by rw [ry.int], h1.2, by omega, ?_⟩
      have q := q (Itr 0 j.toNat) H1 x i
      refine q ?_
      have w : WalkD X.K c.W (Nn c ρ σ) (if l = true then c.W.vol else Nn c ρ σ) H1 (Itr 0 (j - 0).toNat) (rangeD 0 j) := WalkD.range
      rw [Int.sub_zero] at w
      exact w
theorem s_range2 {x y : Expr} {m : TM (List D)} {p : Pos} (l : Bool) (hg : Gl X "range") (hm : X.mg "range" = none) (ha : PAb X Wx [x, y] m) (hs : starEach [x, y] X.env = [(false, eval x X.env), (false, eval y X.env)]) (hs2 : starEach [y] X.env = [(false, eval y X.env)]) : PIr X Wx tg (.Call (.Name "range" p) [x, y] [] pos) l fun ρ => (m ρ >>= biD .range2) >>= walked :=
  pi_imp (pi_range2 hg hm ha hs hs2) fun σ H R q => by
    obtain ⟨c, ρ, e, q⟩ := q
    refine ⟨c, ρ, e, (m ρ).mono (fun ds _ q vs H1 x i rv => ?_) (fun _ _ z => z) q⟩
    match ds, rv, q with
    | [], _, q => exact q.elim
    | [_], _, q => exact q.elim
    | _ :: _ :: _ :: _, _, q => exact q.elim
    | [d, d'], rv, q =>
      have q : (asInt d >>= fun i => asInt d' >>= fun j => M.grd (L2.RgOk i j) >>= fun _ => pure (.list (rangeD i j)) : M D).run (fun z => (walked z).run _ _) _ _ := q
      obtain ⟨i1, rfl, q⟩ := asInt_run q
      obtain ⟨j, rfl, h1, q⟩ := asInt_run q
      obtain ⟨y1, y2, rfl, ry, ry2⟩ := rv.two
      obtain ⟨b1, b2, b3, b4, b5⟩ := h1
      exact ⟨i1, j, by rw [ry.int, ry2.int], ⟨b1, b2, b3, b4⟩, q _ H1 x i WalkD.range⟩
end
end Ad
/-! enumerate over a tuple -/
namespace PySem
open Sem (wp)
open AutoSeq1 (wpAny_loadPart')
theorem meets_enumerate_newT (l : Addr) (items : Array Value) (n : Nat) (dct : Option Addr) (sl : Array (Option Value)) :
    Meets (Builtin.«enumerate.__new__» ⟨[.type "enumerate", .ref l], []⟩) (fun _ R s => s.heap.get? l = some { cls := .type "tuple", dict := dct, data := .seq items n, slots := sl } ∧
      R (.ok (.ret (.ref (s.heap.push { cls := .type "tuple_iterator", data := .fields #[.ref l, .int 0 0] }).objs.size)))
        { s with heap := (s.heap.push { cls := .type "tuple_iterator", data := .fields #[.ref l, .int 0 0] }).push { cls := .type "enumerate", data := .fields #[.none, .bool false, .ref s.heap.objs.size, rawInt 0, .none, .none] } }) :=
  .of_wp fun prog w A R s h => by
    obtain ⟨hp, g, d, tk, os⟩ := s; obtain ⟨hl, h⟩ := h
    have hsub := sub_enumerate
    have hL : Heap.IsTuple (Shared.heap ⟨hp, g, d, tk, os⟩) l items := ⟨_, hl, rfl, n, rfl⟩
    wp_walk using wpAny_loadPart' hl
    refine wpAny_stack_any fun st => wpAny_pure ?_
    split
    · rename_i c _ _ _ _ _
      cases (c == Value.type "enumerate")
      · wp_walk using wpAny_loadPart' hl, wpAny_pyIter_tuple hL
        exact ⟨_, rfl, h⟩
      · wp_walk using wpAny_loadPart' hl, wpAny_pyIter_tuple hL
        exact ⟨_, rfl, h⟩
    · wp_walk using wpAny_loadPart' hl, wpAny_pyIter_tuple hL
      exact ⟨_, rfl, h⟩
section
variable {prog : Program} {w : World} {A : Around} {E : Value → Shared → Prop} {s : Shared}
theorem call_enumerate_tuple {l : Addr} {items : Array Value} {Q : Value → Shared → Prop} (hL : s.heap.IsTuple l items)
    (h : ∀ h', IsEnum h' (s.heap.objs.size + 1) s.heap.objs.size 0 .none → h'.IsTupleIter s.heap.objs.size l 0 → h'.objs.size = s.heap.objs.size + 2 →
      (∀ b o, s.heap.get? b = some o → h'.get? b = some o) → Q (.ref (s.heap.objs.size + 1)) { s with heap := h' }) :
    wpAny (model prog w) A (call (.type "enumerate") [.ref l]) Q E s := by
  obtain ⟨⟨c, dct, dt, sl⟩, hl, hc, n, hd⟩ := hL
  replace hc : c = .type "tuple" := hc
  replace hd : dt = .seq items n := hd
  subst hc hd
  refine callType_new F.called_enumerate (by decide) (F.typeCall_enumerate_1 _) (F.newCall_enumerate_1 _) (fun obj => F.args_object_init_2 obj _) F.entry_enumerate_new
    (meets_enumerate_newT l items n dct sl) ⟨hl, ?_⟩
  have hz : (s.heap.push { cls := .type "tuple_iterator", data := .fields #[.ref l, .int 0 0] }).objs.size = s.heap.objs.size + 1 := Heap.size_push ..
  show _ ∧ _
  rw [hz]
  have he : IsEnum ((s.heap.push { cls := .type "tuple_iterator", data := .fields #[.ref l, .int 0 0] }).push
      { cls := .type "enumerate", data := .fields #[.none, .bool false, .ref s.heap.objs.size, rawInt 0, .none, .none] }) (s.heap.objs.size + 1) s.heap.objs.size 0 .none := by
    have := Heap.get?_push_size (s.heap.push { cls := .type "tuple_iterator", data := .fields #[.ref l, .int 0 0] })
      (o := { cls := .type "enumerate", data := .fields #[.none, .bool false, .ref s.heap.objs.size, rawInt 0, .none, .none] }) rfl
    rw [hz] at this; exact this
  refine ⟨⟨_, he, rfl⟩, h _ he ⟨_, Heap.get?_push_of_some _ (Heap.get?_push_size _ rfl), rfl, rfl⟩ (by rw [Heap.size_push, hz]) fun b o x => Heap.get?_push_of_some _ (Heap.get?_push_of_some _ x)⟩
end
end PySem
namespace Ad
open PySem PySem.Calls PySem.W PySem.SeqAt PySem.Spec PyProof.Rows L2
def IteT (K : PySem.W.Frag) (a : Addr) : It :=
  ⟨fun i H => ∃ (xs : List V) (x : V), SqT K H a xs ∧ xs[i]? = some x, fun i H v H' => ∃ T x, v = .ref T ∧ TwoV T H H' (.int (i : Nat)) x ∧ ∀ xs, SqT K H a xs → xs[i]? = some x, fun i H => ∃ xs : List V, SqT K H a xs ∧ xs.length = i⟩
theorem turn_enumT {P : Program} {w : World} {K : PySem.W.Frag} {elts : List Expr} {kk : Nat} {tpos : Pos} (a e it : Addr) (ha : a ≠ it) (hea : e ≠ a) :
    Turn P w K (.Tuple elts kk tpos) (IteT K a) [e, it] e (fun i h => (∃ old, IsEnum h e it ((i : Nat) : Int) old) ∧ h.IsTupleIter it a i ∧ e ≠ it) where
  mem := by simp
  obj := fun i h st b hb => by
    obtain ⟨⟨old, he⟩, ⟨o, ho, hc, hd⟩, _⟩ := st
    have e' : b = e ∨ b = it := by simpa using hb
    rcases e' with z | z
    · rw [z]; exact ⟨_, he, fun v q => nomatch q⟩
    · rw [z]; exact ⟨o, ho, fun v q => by rw [hd] at q; cases q⟩
  keep := fun i h h' st k => let ⟨⟨old, he⟩, hi, hne⟩ := st; ⟨⟨old, k e (by simp) _ he⟩, hi.at fun o q => k it (by simp) o q, hne⟩
  item := by
    intro X hP hw hK hc i pins s σ H E I hf st hg
    subst hP hw hK
    obtain ⟨⟨old, he⟩, hit, hne⟩ := st
    obtain ⟨xs, x, hq, hx⟩ := hg
    obtain ⟨its, rv, p, hz⟩ := I.tuple hq
    obtain ⟨u, hu, ru⟩ := rv.get hx
    have hel : e < s.heap.objs.size := Heap.lt_size he
    have hil : it < s.heap.objs.size := by obtain ⟨_, q, _⟩ := hit; exact Heap.lt_size q
    have D := Draws.tuple (prog := X.prog) (w := X.w) (A := X.A.in1) (I.ok.hd hc) it a ha its.toArray
    have hlt : i < its.toArray.size := by
      have h1 := (List.getElem?_eq_some_iff.mp hx).1
      have h2 := rv.length
      simp only [List.size_toArray]
      omega
    refine wpAny_pyNext_enum_itemD D he ⟨hit, p⟩ hlt hne (by simp [hne, hea]) fun u' h' tk hu' ho hit' hT hsz hk => ?_
    have hu2 : u' = u := by
      rw [List.getElem?_toArray, hu] at hu'
      exact (Option.some.inj hu').symm
    subst hu2
    refine ⟨_, rfl, wpAny_letOwnedTupleGo_enum (s := { s with heap := h', toks := tk + 1 }) ho fun h'' he' sb => ?_⟩
    have hT2 : h''.get? s.heap.objs.size = some { cls := .type "tuple", data := .seq #[.int i tk, u'] } := (sb.2 _ (Nat.ne_of_gt hel)).trans hT
    have new := two_new (P := X.prog) (w := X.w) (H' := upd H s.heap.objs.size (.frz { cls := .type "tuple", data := .seq #[.int i tk, u'] } (.tup [.int (i : Nat), x]))) (x := .int (i : Nat)) ⟨_, rfl⟩ ru hT2
    have I1 : Inv X pins σ (upd H s.heap.objs.size (.frz { cls := .type "tuple", data := .seq #[.int i tk, u'] } (.tup [.int (i : Nat), x]))) { s with heap := h'', toks := tk + 1 } :=
      I.turnedNew (ch := [e, it]) (fun b ob hb q => (sb.2 b (fun z => hb (by simp [z]))).trans (hk b ob (fun z => hb (by simp [z])) (fun z => hb (by simp [z])) q)) hf (Nat.le_refl _) new
    refine ⟨.ref s.heap.objs.size, _, I1, rfl, ⟨_, x, rfl, ⟨I.hok.fresh (Nat.le_refl _), _, rfl, rfl⟩, fun ys hy => by rw [I.tuple_inj hy hq]; exact hx⟩, ⟨⟨u', ?_⟩, hit'.1.at fun o q => (sb.2 it (Ne.symm hne)).trans q, hne⟩, fun b hb => ?_⟩
    · have e1 : ((i + 1 : Nat) : Int) = (i : Int) + 1 := by omega
      rw [e1]; exact he'
    · have hb' : b < s.heap.objs.size := by
        have e' : b = e ∨ b = it := by simpa using hb
        rcases e' with z | z
        · rw [z]; exact hel
        · rw [z]; exact hil
      rw [upd_ne (Nat.ne_of_lt hb')]
      exact (hf b hb).1
  done := by
    intro X hP hw hK hc i pins s σ H E I hf st hg
    subst hP hw hK
    obtain ⟨⟨old, he⟩, hit, hne⟩ := st
    obtain ⟨xs, hq, hx⟩ := hg
    obtain ⟨its, rv, p, hz⟩ := I.tuple hq
    obtain ⟨f0, f1, f2, f3, f4, f5⟩ := hf it (by simp)
    have D := Draws.tuple (prog := X.prog) (w := X.w) (A := X.A.in1) (I.ok.hd hc) it a ha its.toArray
    have hl : i = its.toArray.size := by rw [List.size_toArray, ← rv.length, hx]
    exact wpAny_pyNext_enum_endD D he (by rw [← hl]; exact ⟨hit, p⟩) fun h' eb => ⟨rfl, I.turned (t' := s.toks) (fun b o hb q => eb b o hb q) f0 f1 f3 f4 f5⟩
  self := fun A i s Q E st h => let ⟨⟨_, he⟩, _⟩ := st; wpAny_pyIter_enum he h
section
variable {K : PySem.W.Frag} {a : Addr} {xs : List V}
theorem walk_enumT : L2.Walk (IteT K a) xs.length (fun H => SqT K H a xs) (YTwo (fun i => some (.int (i : Nat))) (fun i => xs[i]?)) := by
  refine ⟨fun i _ hi q => ⟨xs, xs[i], q, by simp [hi]⟩, fun _ q => ⟨xs, q, rfl⟩, fun i H v H' _ q y => ?_⟩
  obtain ⟨T, x, h1, h2, h4⟩ := y
  exact ⟨T, .int (i : Nat), x, h1, h2, rfl, h4 xs q⟩
end
section
variable {K : PySem.W.Frag} {W : Wd} {N S : Addr → Prop} {H : Hp} {xs : List D}
theorem WalkD.enumT {a : Addr} {vs : List V} (hS : ∀ b, S b → N b) (h : TupN K N H a vs) (l : RepL K W N H vs xs) : WalkD K W N S H (IteT K a) (enumD xs) := by
  have hl := l.length
  refine ⟨fun H => TupN K S H a vs, YTwo (fun i => some (.int (i : Nat))) (fun i => vs[i]?), ?_, fun H1 H2 e g => ?_, ?_, fun i Hc v H2 N' hi g e hN y => ?_⟩
  · rcases h with h | h
    · exact .inl ⟨h.1, fun z => h.2 (hS _ z)⟩
    · exact .inr h
  · rcases g with g | g
    · exact .inl ⟨g.1.ext e g.2, g.2⟩
    · exact .inr g
  · have w : L2.Walk (IteT K a) vs.length (fun H => SqT K H a vs) _ := walk_enumT
    rw [hl] at w
    rw [enumD_length]
    exact w.mono (fun H h => h.sq) fun _ _ _ _ _ _ y => y
  · obtain ⟨T, x, y, rfl, hT, hx, hy⟩ := y
    cases hx
    obtain ⟨d, hd, r⟩ := l.getV hy
    obtain ⟨p1, p2, p3⟩ := pair_item (W := W) (K := K) (d := .int (i : Nat)) (x := .int (i : Nat)) (fun a z => (hN a z).2) hT (.int _) (Rep.to (N' := N') (fun b nb hb z => (hN b z).1.elim nb hb) (e.wide hS) d y r)
    exact ⟨p1, p2, _, enumD_at hd, p3⟩
end
section
variable {X : Cx} {Wx : WX} {pos : Pos}
theorem pi_enumA {e : Expr} {te : TE} {p tpos : Pos} {elts : List Expr} {kk : Nat} (hg : Gl X "enumerate") (hm : X.mg "enumerate" = none) (he : PE X e te) (hs : starEach [e] X.env = [(false, eval e X.env)]) :
    PI X (.Tuple elts kk tpos) (.Call (.Name "enumerate" p) [e] [] pos) (fun σ H R => te σ H fun x H1 => (∃ a xs, x = .ref a ∧ SqL X.K H1 a xs ∧ R (IteS X.K a) H1) ∨ ∃ a xs, x = .ref a ∧ SqT X.K H1 a xs ∧ R (IteT X.K a) H1) := by
  refine ⟨fun pins s σ H R I h => ?_⟩
  refine Call_ (ld_blt I hg hm boot_enumerate (PyProof.Rows.callWith_type1 (one_arg he I h (fun v s1 x H1 I1 r1 q1 => ?_) hs) hs rfl))
  have fp : ∀ b ∈ [s1.heap.objs.size + 1, s1.heap.objs.size], FpOk X pins H1 b := fun b hb => by
    have e' : b = s1.heap.objs.size + 1 ∨ b = s1.heap.objs.size := by simpa using hb
    have hle : s1.heap.objs.size ≤ b := by
      rcases e' with z | z
      · rw [z]; exact Nat.le_add_right _ _
      · rw [z]; exact Nat.le_refl _
    exact I1.fpOk hle (I1.hok.fresh hle)
  rcases q1 with ⟨a, xs, rfl, hq, q⟩ | ⟨a, xs, rfl, hq, q⟩
  · cases r1
    obtain ⟨its, rv, p', hz⟩ := I1.list hq
    refine call_enumerate_list p'.isList fun h' he' hit hsz hk => wpAny_pyIter_enum he' ?_
    have I2 : Inv X pins σ H1 { s1 with heap := h' } := I1.kept (t' := s1.toks) hk
    exact ⟨s1.heap.objs.size + 1, [s1.heap.objs.size + 1, s1.heap.objs.size], _, _, H1, rfl, I2, turn_enumS a (s1.heap.objs.size + 1) s1.heap.objs.size, ⟨⟨.none, he'⟩, hit, Nat.succ_ne_self _⟩, fp, q⟩
  · cases r1
    obtain ⟨its, rv, p', hz⟩ := I1.tuple hq
    have hlt : a < s1.heap.objs.size := by obtain ⟨o, ho, _⟩ := id p'; exact Heap.lt_size ho
    refine call_enumerate_tuple (show s1.heap.IsTuple a its.toArray from p') fun h' he' hit hsz hk => wpAny_pyIter_enum he' ?_
    have I2 : Inv X pins σ H1 { s1 with heap := h' } := I1.kept (t' := s1.toks) hk
    exact ⟨s1.heap.objs.size + 1, [s1.heap.objs.size + 1, s1.heap.objs.size], _, _, H1, rfl, I2, turn_enumT a (s1.heap.objs.size + 1) s1.heap.objs.size (Nat.ne_of_lt hlt) (Nat.ne_of_gt (Nat.lt_succ_of_lt hlt)), ⟨⟨.none, he'⟩, hit, Nat.succ_ne_self _⟩, fp, q⟩
theorem s_enum {e : Expr} {m : TM D} {p tpos : Pos} {elts : List Expr} {kk : Nat} (hg : Gl X "enumerate") (hm : X.mg "enumerate" = none) (he : PEr X Wx e m) (hs : starEach [e] X.env = (false, eval e X.env) :: starEach [] X.env) :
    PIr X Wx (.Tuple elts kk tpos) (.Call (.Name "enumerate" p) [e] [] pos) false fun ρ => (m ρ >>= fun d => itemsOf d >>= fun xs => pure (.list (enumD xs))) >>= walked :=
  pi_imp (pi_enumA hg hm he hs) fun σ H R q => by
    obtain ⟨c, ρ, e, q⟩ := q
    refine ⟨c, ρ, e, (m ρ).mono (fun d _ q v H1 x i rv => ?_) (fun _ _ z => z) q⟩
    obtain ⟨ds, a, vs, q, rfl, z, l, hx⟩ := RepB.items (.inl rv) q
    rcases hx with ⟨rfl, h1⟩ | ⟨rfl, h1, h2⟩
    · cases rv with
      | lst h1' h2 h3 h4 => exact .inl ⟨a, _, rfl, SqL.of h1', q _ H1 x i (WalkD.enumL (fun _ z => z) h1' h2 h4)⟩
    · exact .inr ⟨a, vs, rfl, h1, q _ H1 x i (WalkD.enumT (fun _ z => z) h2 l)⟩
theorem s_enumB {e : Expr} {m : TM D} {p tpos : Pos} {elts : List Expr} {kk : Nat} (hg : Gl X "enumerate") (hm : X.mg "enumerate" = none) (he : PEb X Wx e m) (hs : starEach [e] X.env = (false, eval e X.env) :: starEach [] X.env) :
    PIr X Wx (.Tuple elts kk tpos) (.Call (.Name "enumerate" p) [e] [] pos) true fun ρ => (m ρ >>= fun d => itemsOf d >>= fun xs => pure (.list (enumD xs))) >>= walked :=
  pi_imp (pi_enumA hg hm he hs) fun σ H R q => by
    obtain ⟨c, ρ, e, q⟩ := q
    refine ⟨c, ρ, e, (m ρ).mono (fun d _ q v H1 x i rv => ?_) (fun _ _ z => z) q⟩
    obtain ⟨ds, a, vs, q, rfl, z, l, hx⟩ := rv.items q
    rcases hx with ⟨rfl, h1⟩ | ⟨rfl, h1, h2⟩
    · refine .inl ⟨a, _, rfl, SqL.of h1, q _ H1 x i (WalkD.enumL (fun b z => e.vc.bv b z) h1 ?_ l)⟩
      rcases rv with rv | ⟨a', vs', ds', e1, e2, h3, h4, h5, h6⟩ | ⟨a', o, _, g, _⟩
      rotate_left 2
      · obtain ⟨_, _, z⟩ := g.dict
        cases z
      · cases rv with
        | lst h1' h2 h3 h4 => exact fun z => h2 (e.vc.bv _ z)
      · cases e1
        exact h6
    · exact .inr ⟨a, vs, rfl, h1, q _ H1 x i (WalkD.enumT (fun b z => e.vc.bv b z) h2 l)⟩
end
end Ad
namespace Ad
open PySem PySem.Calls PySem.W PySem.SeqAt PySem.Spec PyProof.Rows L2

/-! ### slots change -/
section
variable {K : PySem.W.Frag} {c : Cf} {ρ : Ev} {σ : L2.St} {H H' : Hp}
theorem get_set {α : Type} {l : List α} {i j : Nat} {x y : α} (h : (l.set i x)[j]? = some y) : (i = j ∧ i < l.length ∧ x = y) ∨ (i ≠ j ∧ l[j]? = some y) := by
  rw [List.getElem?_set] at h
  split at h
  · split at h
    · exact .inl ⟨‹_›, ‹_›, Option.some.inj h⟩
    · cases h
  · exact .inr ⟨‹_›, h⟩
theorem set_ne {α : Type} {l : List α} {i j : Nat} {x : α} (h : i ≠ j) : (l.set i x)[j]? = l[j]? := by
  rw [List.getElem?_set, if_neg h]
theorem set_eq {α : Type} {l : List α} {i : Nat} {x : α} (h : i < l.length) : (l.set i x)[i]? = some x := by
  rw [List.getElem?_set, if_pos rfl, if_pos h]
/-- not a list of the def's own -/
def Free (ρ : Ev) (i : Nat) : Prop := ∀ d, ρ[i]? ≠ some (some (d, true))
theorem nn_sub {i : Nat} {x : Option (D × Bool)} {v : Option V} (hx : ∀ d, x ≠ some (d, true)) {a : Addr} (h : Nn c (ρ.set i x) (σ.set i v) a) : Nn c ρ σ a := by
  rcases h with h | ⟨j, d, h1, h2⟩
  · exact .inl h
  · rcases get_set h1 with ⟨_, _, q⟩ | ⟨hne, q⟩
    · exact absurd q (hx d)
    · rw [set_ne hne] at h2
      exact .inr ⟨j, d, q, h2⟩
theorem nn_sup {i : Nat} {x : Option (D × Bool)} {v : Option V} (hf : Free ρ i) {a : Addr} (h : Nn c ρ σ a) : Nn c (ρ.set i x) (σ.set i v) a := by
  rcases h with h | ⟨j, d, h1, h2⟩
  · exact .inl h
  · have hne : i ≠ j := fun z => hf d (z ▸ h1)
    exact .inr ⟨j, d, by rw [set_ne hne]; exact h1, by rw [set_ne hne]; exact h2⟩
/-- a slot forgotten, or set to a value -/
theorem EnvOk.seti (e : EnvOk K c ρ σ H) (i : Nat) {x : Option (D × Bool)} {v : Option V} (hx : ∀ d, x ≠ some (d, true)) (r : ∀ d, x = some (d, false) → ∃ u, v = some u ∧ Rep K c.W (Nn c ρ σ) H u d) : EnvOk K c (ρ.set i x) (σ.set i v) H where
  len := by rw [List.length_set, List.length_set, e.len]
  val := fun j d h => by
    rcases get_set h with ⟨rfl, hl, q⟩ | ⟨hne, q⟩
    · obtain ⟨u, rfl, ru⟩ := r d q
      exact ⟨u, set_eq (by rw [← e.len]; exact hl), ru.anti fun a => nn_sub hx⟩
    · obtain ⟨u, h1, h2⟩ := e.val j d q
      exact ⟨u, by rw [set_ne hne]; exact h1, h2.anti fun a => nn_sub hx⟩
  own := fun j d h => by
    rcases get_set h with ⟨rfl, hl, q⟩ | ⟨hne, q⟩
    · exact absurd q (hx d)
    · obtain ⟨a, o, h2, h3, h5, h6, h7⟩ := e.own j d q
      exact ⟨a, o, by rw [set_ne hne]; exact h2, h3, h5.anti fun a => nn_sub hx, h6, h7⟩
  dist := fun j k d d' a h1 h2 h3 h4 => by
    rcases get_set h1 with ⟨rfl, hl, q⟩ | ⟨hne, q⟩
    · exact absurd q (hx d)
    · rcases get_set h2 with ⟨rfl, hl', q'⟩ | ⟨hne', q'⟩
      · exact absurd q' (hx d')
      · rw [set_ne hne] at h3
        rw [set_ne hne'] at h4
        exact e.dist j k d d' a q q' h3 h4
  ext := e.ext
  inv := e.inv
  bkn := e.bkn
  bv := e.bv
theorem EnvOk.setv (e : EnvOk K c ρ σ H) (i : Nat) {d : D} {v : V} (r : Rep K c.W (Nn c ρ σ) H v d) : EnvOk K c (ρ.set i (some (d, false))) (σ.set i (some v)) H :=
  e.seti i (fun _ z => by cases z) fun d' z => by cases z; exact ⟨v, rfl, r⟩
theorem EnvOk.wipes (e : EnvOk K c ρ σ H) : ∀ own : List Nat, EnvOk K c (wipeE ρ own) (wipe σ own) H
  | [] => e
  | v :: vs => (e.wipes vs).seti v (fun _ z => nomatch z) fun _ z => nomatch z
theorem wipeE_get {ρ : Ev} {own : List Nat} {i : Nat} {x : D × Bool} (h : (wipeE ρ own)[i]? = some (some x)) : ρ[i]? = some (some x) ∧ i ∉ own := by
  induction own with
  | nil => exact ⟨h, by simp⟩
  | cons v vs ih =>
    rcases get_set (show ((wipeE ρ vs).set v none)[i]? = some (some x) from h) with ⟨_, _, q⟩ | ⟨hne, q⟩
    · cases q
    · obtain ⟨h1, h2⟩ := ih q
      exact ⟨h1, by simp only [List.mem_cons, not_or]; exact ⟨fun z => hne z.symm, h2⟩⟩
theorem wipe_out {σ : L2.St} {own : List Nat} {i : Nat} (h : i ∉ own) : (wipe σ own)[i]? = σ[i]? := by
  induction own with
  | nil => rfl
  | cons v vs ih =>
    simp only [List.mem_cons, not_or] at h
    show ((wipe σ vs).set v none)[i]? = _
    rw [set_ne (fun z => h.1 z.symm)]
    exact ih h.2
theorem wipeE_out {ρ : Ev} {own : List Nat} {i : Nat} (h : i ∉ own) : (wipeE ρ own)[i]? = ρ[i]? := by
  induction own with
  | nil => rfl
  | cons v vs ih =>
    simp only [List.mem_cons, not_or] at h
    show ((wipeE ρ vs).set v none)[i]? = _
    rw [set_ne (fun z => h.1 z.symm)]
    exact ih h.2
theorem nn_wipe {own : List Nat} (h : noOwn ρ own = true) {a : Addr} : Nn c (wipeE ρ own) (wipe σ own) a ↔ Nn c ρ σ a := by
  constructor
  · rintro (q | ⟨i, d, h1, h2⟩)
    · exact .inl q
    · obtain ⟨h3, h4⟩ := wipeE_get h1
      rw [wipe_out h4] at h2
      exact .inr ⟨i, d, h3, h2⟩
  · rintro (q | ⟨i, d, h1, h2⟩)
    · exact .inl q
    · have hi : i ∉ own := fun z => by
        have := List.all_eq_true.mp h i z
        rw [h1] at this
        cases this
      exact .inr ⟨i, d, by rw [wipeE_out hi]; exact h1, by rw [wipe_out hi]; exact h2⟩
theorem wipe_set {σ : L2.St} {own : List Nat} {i : Nat} {x : Option V} (h : i ∈ own) : wipe (σ.set i x) own = wipe σ own := by
  induction own with
  | nil => cases h
  | cons v vs ih =>
    show (wipe (σ.set i x) vs).set v none = (wipe σ vs).set v none
    by_cases hv : i ∈ vs
    · rw [ih hv]
    · have e : i = v := by simpa [hv] using h
      subst e
      have : ∀ vs : List Nat, i ∉ vs → wipe (σ.set i x) vs = (wipe σ vs).set i x := by
        intro vs
        induction vs with
        | nil => intro _; rfl
        | cons w ws ih2 =>
          intro hw
          simp only [List.mem_cons, not_or] at hw
          show (wipe (σ.set i x) ws).set w none = ((wipe σ ws).set w none).set i x
          rw [ih2 hw.2, List.set_comm _ _ hw.1]
      rw [this vs hv, List.set_set]
theorem wipe_len (σ : L2.St) : ∀ own : List Nat, (wipe σ own).length = σ.length
  | [] => rfl
  | v :: vs => by
    show ((wipe σ vs).set v none).length = _
    rw [List.length_set, wipe_len σ vs]
theorem wipe_wipe {σ : L2.St} (own : List Nat) : wipe (wipe σ own) own = wipe σ own := by
  apply List.ext_getElem?
  intro i
  by_cases hi : i ∈ own
  · have key : ∀ (σ : L2.St) (own : List Nat), i ∈ own → (wipe σ own)[i]? = if i < σ.length then some none else none := by
      intro σ own
      induction own with
      | nil => intro h; cases h
      | cons v vs ih =>
        intro h
        show ((wipe σ vs).set v none)[i]? = _
        by_cases e : v = i
        · subst e
          rw [List.getElem?_set, if_pos rfl, wipe_len]
        · rw [set_ne e]
          exact ih ((List.mem_cons.mp h).resolve_left fun z => e z.symm)
    rw [key _ _ hi, key _ _ hi, wipe_len]
  · rw [wipe_out hi]

/-! ### targets -/
def Tg.slots : Tg → List Nat
  | .n i => [i]
  | .t is => is
def gNames : List Nat → TGs
  | [] => gNil
  | i :: is => gCons (gName i) (gNames is)
def gOf (K : PySem.W.Frag) : Tg → TG
  | .n i => gName i
  | .t is => fun v σ H Q => gTup K is.length (gNames is) v σ H Q ∨ gLst K is.length (gNames is) v σ H Q
theorem PG.or {X : Cx} {x : Expr} {t t' : TG} (h : PG X x t) (g : PG X x t') : PG X x fun v σ H Q => t v σ H Q ∨ t' v σ H Q :=
  ⟨fun pins s σ H v u Q I r q => q.elim (h.run pins s σ H v u Q I r) (g.run pins s σ H v u Q I r)⟩
/-- what binding gives -/
structure Bound (K : PySem.W.Frag) (c : Cf) (ρ : Ev) (σ : L2.St) (sl : List Nat) (H : Hp) (ρ1 : Ev) (σ1 : L2.St) : Prop where
  ok : EnvOk K c ρ1 σ1 H
  sub : ∀ a, Nn c ρ1 σ1 a → Nn c ρ σ a
  sup : (∀ i, i ∈ sl → Free ρ i) → ∀ a, Nn c ρ σ a → Nn c ρ1 σ1 a
  wp : ∀ own : List Nat, (∀ i, i ∈ sl → i ∈ own) → wipe σ1 own = wipe σ own
  fr : ∀ i, Free ρ i → Free ρ1 i
theorem free_set {i j : Nat} {d : D} (h : Free ρ j) : Free (ρ.set i (some (d, false))) j := fun d' q => by
  rcases get_set q with ⟨_, _, z⟩ | ⟨_, z⟩
  · cases z
  · exact h d' z
theorem Bound.one (e : EnvOk K c ρ σ H) (i : Nat) {d : D} {v : V} (r : Rep K c.W (Nn c ρ σ) H v d) : Bound K c ρ σ [i] H (ρ.set i (some (d, false))) (σ.set i (some v)) :=
  ⟨e.setv i r, fun a => nn_sub (fun _ z => by cases z), fun h a => nn_sup (h i (by simp)), fun own h => wipe_set (h i (by simp)), fun j h => free_set h⟩
theorem Bound.nil (e : EnvOk K c ρ σ H) : Bound K c ρ σ [] H ρ σ := ⟨e, fun _ h => h, fun _ _ h => h, fun _ _ => rfl, fun _ h => h⟩
theorem Bound.cons {sl : List Nat} {i : Nat} {ρ1 ρ2 : Ev} {σ1 σ2 : L2.St} (a : Bound K c ρ σ [i] H ρ1 σ1) (b : Bound K c ρ1 σ1 sl H ρ2 σ2) : Bound K c ρ σ (i :: sl) H ρ2 σ2 :=
  ⟨b.ok, fun x h => a.sub x (b.sub x h), fun h x q => b.sup (fun j hj => a.fr j (h j (List.mem_cons_of_mem _ hj))) x (a.sup (fun j hj => by
      have e : j = i := by simpa using hj
      subst e
      exact h j (by simp)) x q),
    fun own h => (b.wp own fun j hj => h j (List.mem_cons_of_mem _ hj)).trans (a.wp own fun j hj => by
      have e : j = i := by simpa using hj
      subst e
      exact h j (by simp)), fun j h => b.fr j (a.fr j h)⟩
theorem bind_names {K : PySem.W.Frag} {c : Cf} {H : Hp} {Q : L2.St → Hp → Prop} : ∀ {is : List Nat} {ds : List D} {vs : List V} {ρ : Ev} {σ : L2.St}, is.length = ds.length → EnvOk K c ρ σ H → RepL K c.W (Nn c ρ σ) H vs ds →
    (∀ σ1, Bound K c ρ σ is H ((is.zip ds).foldl (fun ρ p => ρ.set p.1 (some (p.2, false))) ρ) σ1 → Q σ1 H) → gNames is vs σ H Q
  | [], [], [], ρ, σ, _, e, _, h => ⟨rfl, h σ (Bound.nil e)⟩
  | i :: is, d :: ds, v :: vs, ρ, σ, hl, e, .cons r l, h => by
    refine ⟨v, vs, rfl, ?_⟩
    have b := Bound.one e i r
    exact bind_names (is := is) (ds := ds) (by simpa using hl) b.ok (l.anti fun a => b.sub a) fun σ1 b1 => h σ1 (b.cons b1)
  | [], _ :: _, _, _, _, hl, _, _, _ => by simp at hl
  | _ :: _, [], _, _, _, hl, _, _, _ => by simp at hl
theorem bind_of {tg : Tg} {d : D} {v : V} {Q : L2.St → Hp → Prop} {R : XV → Nat → Prop} {b : Nat} (e : EnvOk K c ρ σ H) (r : Rep K c.W (Nn c ρ σ) H v d) (h : (bindT ρ tg d).run (fun ρ1 b' => b' = b → ∀ σ1, Bound K c ρ σ tg.slots H ρ1 σ1 → Q σ1 H) R b) : gOf K tg v σ H Q := by
  cases tg with
  | n i => exact h rfl _ (Bound.one e i r)
  | t is =>
    cases d <;> try exact h.elim
    · rename_i xs
      obtain ⟨hl, h⟩ := h
      obtain ⟨a, vs, rfl, h1, h3, h4⟩ := RepB.list (.inl r)
      exact .inr ⟨a, vs, rfl, SqL.of h1, by rw [h4.length]; exact hl, bind_names hl.symm e h4 (h rfl)⟩
    · rename_i xs
      obtain ⟨hl, h⟩ := h
      obtain ⟨a, vs, rfl, h1, h2, h3, h4⟩ := RepB.tup (.inl r)
      exact .inl ⟨a, vs, rfl, h1, by rw [h4.length]; exact hl, bind_names hl.symm e h4 (h rfl)⟩
theorem repl_two {K : PySem.W.Frag} {W : Wd} {N : Addr → Prop} {H : Hp} {vs : List V} {x y : D} (h : RepL K W N H vs [x, y]) : ∃ u w, vs = [u, w] ∧ Rep K W N H u x ∧ Rep K W N H w y := by
  cases h with
  | cons a b =>
    cases b with
    | cons c d =>
      cases d
      exact ⟨_, _, rfl, a, c⟩
theorem bind_ofN {i : Nat} {js : List Nat} {d : D} {v : V} {Q : L2.St → Hp → Prop} {R : XV → Nat → Prop} {b : Nat} (e : EnvOk K c ρ σ H) (r : Rep K c.W (Nn c ρ σ) H v d) (h : (bindN ρ i js d).run (fun ρ1 b' => b' = b → ∀ σ1, Bound K c ρ σ (i :: js) H ρ1 σ1 → Q σ1 H) R b) : gTup K 2 (gCons (gName i) (gCons (gOf K (.t js)) gNil)) v σ H Q := by
  cases d <;> try exact h.elim
  rename_i xs
  match xs, r, h with
  | [x, y], r, h =>
    obtain ⟨a, vs, rfl, h1, h2, h3, h4⟩ := RepB.tup (.inl r)
    obtain ⟨u, w, rfl, ru, rw'⟩ := repl_two h4
    have b1 := Bound.one e i ru
    refine ⟨a, [u, w], rfl, h1, rfl, u, [w], rfl, w, [], rfl, bind_of (tg := .t js) (R := R) (b := b) b1.ok (rw'.anti fun a => b1.sub a) ?_⟩
    exact (bindT _ (.t js) y).mono (fun ρ1 _ q hb σ2 b2 => ⟨rfl, q hb σ2 (b1.cons b2)⟩) (fun _ _ z => z) h
  | [], _, h => exact h.elim
  | [_], _, h => exact h.elim
  | _ :: _ :: _ :: _, _, h => exact h.elim
end
section
variable {X : Cx} {Wx : WX} {pos : Pos}
/-! ### a comprehension -/
/-- one turn of a comprehension -/
def lcTurn (own : List Nat) (tg : Tg) (mt me : TM D) (ρ : Ev) (d : D) : M (Option D) := do
  let ρ1 ← bindT (wipeE ρ own) tg d
  let t ← mt ρ1
  let b ← asBool t
  if b then (do let y ← me ρ1; pure (some y)) else pure none
def mLc (own : List Nat) (tg : Tg) (mi : TM (List D)) (mt me : TM D) : TM D := fun ρ => mi ρ >>= fun xs => M.grd (noOwn ρ own = true ∧ fitsD xs) >>= fun _ => M.quiet (lcE (lcTurn own tg mt me ρ) xs) >>= fun ys => pure (.list ys)
def noX : WX := fun _ _ _ _ => False
/-- within the block: the new list is not to be touched -/
def Cf.blk (c : Cf) (D : Addr) : Cf := { c with B := fun a => c.B a ∨ a = D }
theorem nn_blk {c : Cf} {ρ : Ev} {σ : L2.St} {D : Addr} {a : Addr} : Nn (c.blk D) ρ σ a ↔ (Nn c ρ σ a ∨ a = D) := by
  constructor
  · rintro ((h | h) | h)
    · exact .inl (.inl h)
    · exact .inr h
    · exact .inl (.inr h)
  · rintro ((h | h) | h)
    · exact .inl (.inl h)
    · exact .inr h
    · exact .inl (.inr h)
theorem EnvOk.blk {K : PySem.W.Frag} {c : Cf} {ρ : Ev} {σ : L2.St} {H1 H : Hp} {D : Addr} {acc : List V} {b : Nat} (e : EnvOk K c ρ σ H1) (hD : H1 D = none) (x : Ext c.W.vol H1 H) (i : c.W.inv b H) (h : H D = some (.lst acc)) : EnvOk K ((c.at b).blk D) ρ σ H := by
  have e2 := e.ext' x i
  have key : ∀ {v : V} {d : Ad.D}, Rep K c.W (Nn c ρ σ) H1 v d → Rep K c.W (Nn ((c.at b).blk D) ρ σ) H v d := fun {v d} r =>
    Rep.to (fun a n q z => (nn_blk.mp z).elim n fun z => q (z ▸ hD)) (x.wide e.vc.bv) d v r
  have keyL : ∀ {v : List V} {d : List Ad.D}, RepL K c.W (Nn c ρ σ) H1 v d → RepL K c.W (Nn ((c.at b).blk D) ρ σ) H v d := fun {v d} r =>
    RepL.to (fun a n q z => (nn_blk.mp z).elim n fun z => q (z ▸ hD)) (x.wide e.vc.bv) d v r
  exact {
    len := e.len
    val := fun j d h => by
      obtain ⟨v, h1, h2⟩ := e.val j d h
      exact ⟨v, h1, key h2⟩
    own := fun j d h => by
      obtain ⟨a, o, h2, h3, h5, h6, h7⟩ := e.own j d h
      refine ⟨a, o, h2, x a _ (fun z => h7 (e.bv a z)) h3, h5.to (fun a n q z => (nn_blk.mp z).elim n fun z => q (z ▸ hD)) (x.wide e.vc.bv), h6, fun z => z.elim h7 fun z => ?_⟩
      rw [z, hD] at h3
      cases h3
    dist := e.dist
    ext := e2.ext
    inv := i
    bkn := fun a z => by
      rcases z with z | z
      · exact e2.bkn a z
      · exact ⟨.lst acc, by rw [z]; exact h, trivial⟩
    bv := fun a z => .inl (e.bv a z) }
theorem read_lc {own : List Nat} {tg : Tg} {mi : TM (List D)} {mt me : TM D} {l : Bool} {σ : L2.St} {H : Hp} {Q : VK} {P : Cf → Ev → D → Nat → Prop} (hsl : ∀ i, i ∈ tg.slots → i ∈ own)
    (hP : ∀ (c : Cf) (ρ : Ev) (ys : List D) (b : Nat), EnvOk X.K c ρ σ H → P c ρ (.list ys) b → ∀ (D : Addr) (acc : List V) (H' : Hp), Ext c.W.vol H H' → c.W.inv b H' → ¬ Nn c ρ σ D → H D = none → H' D = some (.lst acc) → ys.length ≤ sizeLine → RepL X.K c.W (fun a => Nn c ρ σ a ∨ a = D) H' acc ys → Q (.ref D) H')
    (h : ∃ c ρ, EnvOk X.K c ρ σ H ∧ (mLc own tg mi mt me ρ).run (P c ρ) (XQ X.K X.mg Wx c ρ σ H) c.b) : tLc (tI X.K X.mg Wx l mi) (gOf X.K tg) (tT X.K X.mg noX mt) (tE X.K X.mg noX me) own σ H Q := by
  obtain ⟨c, ρ, e, h⟩ := h
  refine ⟨c, ρ, e, (mi ρ).mono (fun xs _ q J H1 x1 i1 wk D hD => ?_) (fun _ _ z => z) h⟩
  obtain ⟨⟨hno, hfit⟩, q⟩ := q
  have q : (lcE (lcTurn own tg mt me ρ) xs).run (fun ys => P c ρ (.list ys)) (fun _ _ => False) _ := q
  obtain ⟨G, Y, g0, gst, w, it⟩ := wk
  have e1 := e.ext' x1 i1
  have nD : ¬ Nn c ρ σ D := fun z => e1.vc.kn D z hD
  have nvD : ¬ c.W.vol D := fun z => nD (e1.vc.bv D z)
  have hSv : ∀ {Ha Hb : Hp}, Ext c.W.vol Ha Hb → Ext (if l = true then c.W.vol else Nn c ρ σ) Ha Hb := fun {Ha Hb} z => by
    split
    · exact z
    · exact z.wide e.vc.bv
  refine lc_it w (fun i H' => ∃ acc ds b, H' D = some (.lst acc) ∧ ds.length ≤ i ∧ Ext c.W.vol H1 H' ∧ c.W.inv b H' ∧ RepL X.K c.W (fun a => Nn c ρ σ a ∨ a = D) H' acc ds ∧
    (lcE (lcTurn own tg mt me ρ) (xs.drop i)).run (fun ys => P c ρ (.list (ds ++ ys))) (fun _ _ => False) b) ?_ ?_ ?_ ?_
  · obtain ⟨p1, p2, _⟩ := e1.vc.new (o := .lst []) hD
    exact ⟨[], [], _, upd_same, Nat.le_refl _, p1, p2, .nil, q⟩
  · rintro i H' _ ⟨acc, ds, b, _, _, x, _⟩
    exact gst _ _ (hSv x) g0
  · rintro i v Hc H2 hi ⟨acc, ds, b, hDc, hle, xc, ic, lc, qc⟩ y
    have kc := (e1.ext' xc ic).vc
    obtain ⟨x2, i2, d, hd, rd⟩ := it i Hc v H2 (fun a => Nn c ρ σ a ∨ a = D) hi (gst _ _ (hSv xc) g0) (hSv xc) (fun a z => by
      rcases z with z | z
      · exact ⟨.inl z, kc.kn a z⟩
      · exact ⟨.inr (by rw [z]; exact hD), by rw [z, hDc]; simp⟩) y
    have i2 := i2 b ic
    have hdrop : xs.drop i = d :: xs.drop (i + 1) := by
      obtain ⟨hlt, e⟩ := List.getElem?_eq_some_iff.mp hd
      rw [List.drop_eq_getElem_cons hlt, e]
    rw [hdrop] at qc
    have qc : (lcTurn own tg mt me ρ d).run (fun ob => (lcE (lcTurn own tg mt me ρ) (xs.drop (i + 1))).run (fun bs => P c ρ (.list (ds ++ addO ob bs))) (fun _ _ => False)) (fun _ _ => False) b := qc
    have hD2 : H2 D = some (.lst acc) := x2 D _ nvD hDc
    have eb := ((e1.blk hD (xc.trans x2) i2 hD2).wipes own)
    have nb : ∀ a, Nn ((c.at b).blk D) (wipeE ρ own) (wipe σ own) a ↔ (Nn c ρ σ a ∨ a = D) := fun a => (nn_wipe hno).trans nn_blk
    refine bind_of eb (rd.anti fun a => (nb a).mp) (R := fun _ _ => False) ((bindT _ tg d).mono (fun ρ1 _ qt hb σ1 bd => ⟨by rw [bd.wp _ hsl, wipe_wipe], ?_⟩) (fun _ _ z => z) qc)
    have n1 : ∀ a, Nn ((c.at b).blk D) ρ1 σ1 a ↔ (Nn c ρ σ a ∨ a = D) := fun a => ⟨fun z => (nb a).mp (bd.sub a z), fun z => bd.sup (fun j hj d' z => (wipeE_get z).2 (hsl j hj)) a ((nb a).mpr z)⟩
    subst hb
    refine ⟨_, ρ1, bd.ok, (mt ρ1).mono (fun t _ qt => ?_) (fun _ _ z => z.elim) qt⟩
    obtain ⟨b, rfl, qt⟩ := asBool_run qt
    refine ⟨b, rfl, fun H3 x3 i3 => ?_⟩
    have x13 : Ext c.W.vol H1 H3 := (xc.trans x2).trans x3
    cases b with
    | false =>
      exact ⟨acc, ds, _, x3 D _ nvD hD2, Nat.le_succ_of_le hle, x13, i3, (lc.ext (x2.wide fun a z => .inl (e.vc.bv a z))).ext (x3.wide fun a z => .inl (e.vc.bv a z)), qt⟩
    | true =>
      refine ⟨_, ρ1, bd.ok.ext' x3 i3, (me ρ1).mono (fun yd b4 qy u H4 x4 i4 ru => ?_) (fun _ _ z => z.elim) qt⟩
      have hD4 : H4 D = some (.lst acc) := x4 D _ nvD (x3 D _ nvD hD2)
      have hal : acc.length = ds.length := lc.length
      have hfit : xs.length ≤ sizeLine := hfit
      refine ⟨acc, hD4, by omega, acc ++ [u], ds ++ [yd], b4, upd_same, by simp; omega, ?_, ?_, ?_, ?_⟩
      · intro a o na ha
        have hne : a ≠ D := fun z => by rw [z, hD] at ha; cases ha
        rw [upd_ne hne]
        exact x4 a _ na (x13 a _ na ha)
      · exact c.W.keep _ _ _ i4 fun a ha => upd_ne fun z => nvD (z ▸ ha)
      · refine RepL.ext (Ext.write (.inr rfl)) (RepL.append ?_ (.cons (ru.anti fun a => (n1 a).mpr) .nil))
        exact ((lc.ext (x2.wide fun a z => .inl (e.vc.bv a z))).ext (x3.wide fun a z => .inl (e.vc.bv a z))).ext (x4.wide fun a z => .inl (e.vc.bv a z))
      · have qy : (lcE (lcTurn own tg mt me ρ) (xs.drop (i + 1))).run (fun bs => P c ρ (.list (ds ++ (yd :: bs)))) (fun _ _ => False) b4 := qy
        simpa using qy
  · rintro H' ⟨acc, ds, b, hDc, hle, xc, ic, lc, qc⟩
    rw [List.drop_length] at qc
    have qc : P c ρ (.list (ds ++ [])) b := qc
    rw [List.append_nil] at qc
    have hfit : xs.length ≤ sizeLine := hfit
    have h0 : H D = none := by
      cases q : H D with
      | none => rfl
      | some o => rw [x1 D o nvD q] at hD; cases hD
    exact hP c ρ ds b e qc D acc H' (x1.trans xc) ic nD h0 hDc (by omega) lc
theorem s_lc {tgx iter elt : Expr} {ifs : List Expr} {scope : Scope} {ownp : List (Str × Nat)} {own : List Nat} {tg : Tg} {mi : TM (List D)} {mt me : TM D} {l : Bool} (hc : X.calm = true) (hN : X.N.Nodup) (hi : PIr X Wx tgx iter l mi) (ok : BlkOk X.N X.env.scope scope ownp) (ho : ownp.map (·.2) = own) (hsl : ∀ i, i ∈ tg.slots → i ∈ own)
    (hg : ∀ (s : Shared) (H : Hp) (C : Addr) (cl : List (Str × Addr)) (fp : List Addr), PG (X.blk s H scope (compEnvC scope cl C X.env) fp) tgx (gOf X.K tg))
    (ht : ∀ (s : Shared) (H : Hp) (C : Addr) (cl : List (Str × Addr)) (fp : List Addr), PTs (X.blk s H scope (compEnvC scope cl C X.env) fp) ifs (tT X.K X.mg noX mt))
    (he : ∀ (s : Shared) (H : Hp) (C : Addr) (cl : List (Str × Addr)) (fp : List Addr), PEr (X.blk s H scope (compEnvC scope cl C X.env) fp) noX elt me) (hs : ∀ x, foldedSetIterable iter X.env x = pure x) :
    PEr X Wx (.ListComp elt [⟨tgx, iter, ifs, 0⟩] scope pos) (mLc own tg mi mt me) := by
  subst ho
  refine pe_imp (pe_lc (te := tE X.K X.mg noX me) hc hN hi ok hg ht he hs) fun σ H Q h => ?_
  obtain ⟨c, ρ, e, h⟩ := h
  exact read_lc (P := fun c ρ d => VQ X.K c.W (Nn c ρ σ) H Q d) hsl (fun c ρ ys _ e q D acc H' x i n _ hD z l => q _ H' x i (.lst hD n z (l.anti fun a z => .inl z))) ⟨c, ρ, e, h⟩
end
end Ad
namespace Ad
open PySem PySem.Calls PySem.W PySem.SeqAt PySem.Spec PyProof.Rows L2

/-! ### lists of the def's own -/
section
variable {K : PySem.W.Frag} {c : Cf} {ρ : Ev} {σ : L2.St} {H H' : Hp}
theorem nn_own {i : Nat} {d0 : D} {a x : Addr} (h : Nn c (ρ.set i (some (d0, true))) (σ.set i (some (.ref a))) x) : Nn (c.blk a) ρ σ x := by
  rcases h with h | ⟨j, d, h1, h2⟩
  · exact .inl (.inl h)
  · rcases get_set h1 with ⟨rfl, _, q⟩ | ⟨hne, q⟩
    · rcases get_set h2 with ⟨_, _, q2⟩ | ⟨hne, _⟩
      · cases q2
        exact .inl (.inr rfl)
      · exact absurd rfl hne
    · rw [set_ne hne] at h2
      exact .inr ⟨j, d, q, h2⟩
/-- a list kept apart becomes a slot's own -/
theorem EnvOk.own0' {a : Addr} {o : HO} {d0 : D} (e : EnvOk K (c.blk a) ρ σ H) (i : Nat) (h : H a = some o) (l : OwnR K c.W (Nn (c.blk a) ρ σ) H o d0) (h0 : c.H0 a = none) (hn : ¬ c.B a)
    (hv : ¬ c.W.vol a) (hd : ∀ (j : Nat) (d : D), ρ[j]? = some (some (d, true)) → σ[j]? ≠ some (some (.ref a))) : EnvOk K c (ρ.set i (some (d0, true))) (σ.set i (some (.ref a))) H where
  len := by rw [List.length_set, List.length_set, e.len]
  val := fun j d q => by
    rcases get_set q with ⟨rfl, hl, q⟩ | ⟨hne, q⟩
    · cases q
    · obtain ⟨u, h1, h2⟩ := e.val j d q
      exact ⟨u, by rw [set_ne hne]; exact h1, h2.anti fun x => nn_own⟩
  own := fun j d q => by
    rcases get_set q with ⟨rfl, hl, q⟩ | ⟨hne, q⟩
    · cases q
      exact ⟨a, o, set_eq (by rw [← e.len]; exact hl), h, l.anti fun x => nn_own, h0, hn⟩
    · obtain ⟨b, o', h2, h3, h5, h6, h7⟩ := e.own j d q
      exact ⟨b, o', by rw [set_ne hne]; exact h2, h3, h5.anti fun x => nn_own, h6, fun q => h7 (.inl q)⟩
  dist := fun j k d d' b h1 h2 h3 h4 => by
    rcases get_set h1 with ⟨rfl, hl, q⟩ | ⟨hne, q⟩
    · rcases get_set h2 with ⟨rfl, hl', q'⟩ | ⟨hne', q'⟩
      · rfl
      · rcases get_set h3 with ⟨_, _, e3⟩ | ⟨hx, _⟩
        · cases e3
          rw [set_ne hne'] at h4
          exact absurd h4 (hd k d' q')
        · exact absurd rfl hx
    · rcases get_set h2 with ⟨rfl, hl', q'⟩ | ⟨hne', q'⟩
      · rcases get_set h4 with ⟨_, _, e3⟩ | ⟨hx, _⟩
        · cases e3
          rw [set_ne hne] at h3
          exact absurd h3 (hd j d q)
        · exact absurd rfl hx
      · rw [set_ne hne] at h3
        rw [set_ne hne'] at h4
        exact e.dist j k d d' b q q' h3 h4
  ext := e.ext
  inv := e.inv
  bkn := fun b z => e.bkn b (.inl z)
  bv := fun b z => by
    rcases e.bv b z with q | q
    · exact q
    · subst q
      exact absurd z hv
/-- a list kept apart becomes a slot's own -/
theorem EnvOk.own0 {a : Addr} {vs : List V} {ds : List D} (e : EnvOk K (c.blk a) ρ σ H) (i : Nat) (h : H a = some (.lst vs)) (z : ds.length ≤ sizeLine) (l : RepL K c.W (Nn (c.blk a) ρ σ) H vs ds) (h0 : c.H0 a = none) (hn : ¬ c.B a)
    (hv : ¬ c.W.vol a) (hd : ∀ (j : Nat) (d : D), ρ[j]? = some (some (d, true)) → σ[j]? ≠ some (some (.ref a))) : EnvOk K c (ρ.set i (some (.list ds, true))) (σ.set i (some (.ref a))) H := e.own0' i h (.lst z l) h0 hn hv hd
/-- a list kept apart becomes a slot's own -/
theorem EnvOk.own1 {a : Addr} {vs : List V} {ds : List D} (e : EnvOk K (c.blk a) ρ σ H) (i : Nat) (h : H a = some (.lst vs)) (z : ds.length ≤ sizeLine) (l : RepL K c.W (Nn (c.blk a) ρ σ) H vs ds) (h0 : c.H0 a = none) (hn : ¬ c.B a)
    (hv : ¬ c.W.vol a) : EnvOk K c (ρ.set i (some (.list ds, true))) (σ.set i (some (.ref a))) H := by
  have hd : ∀ (j : Nat) (d : D), ρ[j]? = some (some (d, true)) → σ[j]? ≠ some (some (.ref a)) := fun j d q q2 => by
    obtain ⟨b, o, h2, _, _, _, h7⟩ := e.own j d q
    rw [q2] at h2
    cases h2
    exact h7 (.inr rfl)
  exact EnvOk.own0 e i h z l h0 hn hv hd
theorem nn_setD {w : Nat} {d d0 : D} (hw : ρ[w]? = some (some (d, true))) (x : Addr) : Nn c (ρ.set w (some (d0, true))) σ x ↔ Nn c ρ σ x := by
  constructor
  · rintro (h | ⟨j, d', h1, h2⟩)
    · exact .inl h
    · rcases get_set h1 with ⟨rfl, _, q⟩ | ⟨hne, q⟩
      · exact .inr ⟨w, d, hw, h2⟩
      · exact .inr ⟨j, d', q, h2⟩
  · rintro (h | ⟨j, d', h1, h2⟩)
    · exact .inl h
    · by_cases e : w = j
      · subst e
        exact .inr ⟨w, d0, set_eq (List.getElem?_eq_some_iff.mp hw).1, h2⟩
      · exact .inr ⟨j, d', by rw [set_ne e]; exact h1, h2⟩
theorem nn_setO {w : Nat} {d : D} {ds : List D} (hw : ρ[w]? = some (some (d, true))) (x : Addr) : Nn c (setO ρ w ds) σ x ↔ Nn c ρ σ x := nn_setD hw x
/-- another object at a slot's own place -/
theorem EnvOk.writeD {w : Nat} {a : Addr} {d d0 : D} {o : HO} (e : EnvOk K c ρ σ H) (hw : ρ[w]? = some (some (d, true))) (ha : σ[w]? = some (some (.ref a))) (l : OwnR K c.W (Nn c ρ σ) H o d0) :
    EnvOk K c (ρ.set w (some (d0, true))) σ (upd H a o) ∧ Ext (Nn c ρ σ) H (upd H a o) := by
  have hN : Nn c ρ σ a := .inr ⟨w, d, hw, ha⟩
  have ex : Ext (Nn c ρ σ) H (upd H a o) := Ext.write hN
  obtain ⟨b, o0, hb, h3, h5, h6, h7⟩ := e.own w d hw
  rw [ha] at hb
  cases hb
  have hnv : ¬ c.W.vol a := fun z => h7 (e.bv a z)
  have n1 := fun x => nn_setD (c := c) (σ := σ) (d0 := d0) hw x
  refine ⟨{
    len := by rw [List.length_set, e.len]
    val := fun j d' q => ?_
    own := fun j d' q => ?_
    dist := fun j k d1 d2 b h1 h2 g1 g2 => ?_
    ext := fun x o n q => ?_
    inv := c.W.keep _ _ _ e.inv fun x hx => upd_ne fun z => hnv (z ▸ hx)
    bkn := fun b hb => ?_
    bv := e.bv }, ex⟩
  · rcases get_set q with ⟨rfl, hl, q⟩ | ⟨hne, q⟩
    · cases q
    · obtain ⟨u, u1, u2⟩ := e.val j d' q
      exact ⟨u, u1, (u2.ext ex).anti fun x => (n1 x).mp⟩
  · rcases get_set q with ⟨rfl, hl, q⟩ | ⟨hne, q⟩
    · cases q
      exact ⟨a, o, ha, upd_same, (l.ext ex).anti fun x => (n1 x).mp, h6, h7⟩
    · obtain ⟨b, o', k2, k3, k5, k6, k7⟩ := e.own j d' q
      have hba : b ≠ a := fun z => hne (e.dist w j d d' a hw q ha (by rw [k2, z]))
      exact ⟨b, o', k2, by rw [upd_ne hba]; exact k3, (k5.ext ex).anti fun x => (n1 x).mp, k6, k7⟩
  · rcases get_set h1 with ⟨rfl, _, q⟩ | ⟨hne, q⟩
    · rcases get_set h2 with ⟨rfl, _, q'⟩ | ⟨hne', q'⟩
      · rfl
      · exact e.dist w k d d2 b hw q' g1 g2
    · rcases get_set h2 with ⟨rfl, _, q'⟩ | ⟨hne', q'⟩
      · exact e.dist j w d1 d b q hw g1 g2
      · exact e.dist j k d1 d2 b q q' g1 g2
  · have hne : x ≠ a := fun z => by rw [z, h6] at q; cases q
    rw [upd_ne hne]
    exact e.ext x o n q
  · by_cases hba : b = a
    · exact ⟨_, by rw [hba]; exact upd_same, l.mut⟩
    · obtain ⟨ws, q, m⟩ := e.bkn b hb
      exact ⟨ws, by rw [upd_ne hba]; exact q, m⟩
theorem EnvOk.write {w : Nat} {a : Addr} {d : D} {vs : List V} {ds : List D} (e : EnvOk K c ρ σ H) (hw : ρ[w]? = some (some (d, true))) (ha : σ[w]? = some (some (.ref a))) (z : ds.length ≤ sizeLine) (l : RepL K c.W (Nn c ρ σ) H vs ds) :
    EnvOk K c (setO ρ w ds) σ (upd H a (.lst vs)) ∧ Ext (Nn c ρ σ) H (upd H a (.lst vs)) := e.writeD hw ha (.lst z l)

/-! ### steps of a body -/
structure Step (c : Cf) (ρ : Ev) (σ : L2.St) (H : Hp) (ρ' : Ev) (σ' : L2.St) (H' : Hp) : Prop where
  ext : Ext (Nn c ρ σ) H H'
  new : ∀ a, Nn c ρ' σ' a → Nn c ρ σ a ∨ H a = none
theorem Step.refl : Step c ρ σ H ρ σ H := ⟨Ext.refl H, fun _ h => .inl h⟩
theorem Step.trans {ρ1 ρ2 : Ev} {σ1 σ2 : L2.St} {H1 H2 : Hp} (a : Step c ρ σ H ρ1 σ1 H1) (b : Step c ρ1 σ1 H1 ρ2 σ2 H2) : Step c ρ σ H ρ2 σ2 H2 :=
  ⟨fun x o n q => b.ext x o (fun z => (a.new x z).elim n fun z => by rw [q] at z; cases z) (a.ext x o n q), fun x z => by
    rcases b.new x z with z | z
    · exact a.new x z
    · by_cases hn : Nn c ρ σ x
      · exact .inl hn
      · cases q : H x with
        | none => exact .inr rfl
        | some o => rw [a.ext x o hn q] at z; cases z⟩
theorem Step.of_vol (e : EnvOk K c ρ σ H) (x : Ext c.W.vol H H') : Step c ρ σ H ρ σ H' := ⟨x.wide e.vc.bv, fun _ h => .inl h⟩
/-- what a statement is to reach -/
def Rq (K : PySem.W.Frag) (c : Cf) (ρ : Ev) (σ : L2.St) (H : Hp) (D : Ends) : Rz → Nat → Prop
  | .nx ρ', b => ∀ σ' H', Step c ρ σ H ρ' σ' H' → EnvOk K (c.at b) ρ' σ' H' → D.nx σ' H'
  | .rt d, b => ∀ v H', Ext c.W.vol c.H0 H' → c.W.inv b H' → Rep K c.W c.B H' v d → D.rt v H'
  | .bk ρ', b => ∀ σ' H', Step c ρ σ H ρ' σ' H' → EnvOk K (c.at b) ρ' σ' H' → D.bk σ' H'
def XS (K : PySem.W.Frag) (mg : Str → Option Value) (Wx : WX) (c : Cf) : XV → Nat → Prop := fun x b => ∀ cls d σ' H', Ext c.W.vol c.H0 H' → c.W.inv b H' → RepX K mg c.W c.B H' x cls d → Wx cls d σ' H'
def tSt (K : PySem.W.Frag) (mg : Str → Option Value) (Wx : WX) (m : Ev → M Rz) : TS := fun D σ H => ∃ c ρ, EnvOk K c ρ σ H ∧ (m ρ).run (Rq K c ρ σ H D) (XS K mg Wx c) c.b
theorem RepX.anti {K : PySem.W.Frag} {mg : Str → Option Value} {W : Wd} {N N' : Addr → Prop} {H : Hp} {x : XV} {cls : Value} {d : Option Addr} (f : ∀ a, N' a → N a) (h : RepX K mg W N H x cls d) : RepX K mg W N' H x cls d := by
  obtain ⟨C, h1, h2, h3⟩ := h
  refine ⟨C, h1, h2, ?_⟩
  rcases h3 with h3 | ⟨h3, dd, vs, h4, h5, h6⟩
  · exact .inl h3
  · exact .inr ⟨h3, dd, vs, h4, h5, h6.anti f⟩
theorem XS.q {mg : Str → Option Value} {Wx : WX} (e : EnvOk K c ρ σ H) {x : XV} {b : Nat} (h : XS K mg Wx c x b) : XQ K mg Wx c ρ σ H x b := fun cls d H' x' i r => h cls d σ H' (e.ext.trans x') i (r.anti fun a z => .inl z)
theorem Step.un {n : Nat} {ρ' : Ev} {σ' : L2.St} (s : Step (c.at n) ρ σ H ρ' σ' H') : Step c ρ σ H ρ' σ' H' := ⟨s.ext, s.new⟩
theorem Step.on {n : Nat} {ρ' : Ev} {σ' : L2.St} (s : Step c ρ σ H ρ' σ' H') : Step (c.at n) ρ σ H ρ' σ' H' := ⟨s.ext, s.new⟩
theorem Rq.later {D : Ends} {ρ1 : Ev} {σ1 : L2.St} {H1 : Hp} {n : Nat} (s : Step c ρ σ H ρ1 σ1 H1) : ∀ {r : Rz} {b : Nat}, Rq K c ρ σ H D r b → Rq K (c.at n) ρ1 σ1 H1 D r b
  | .nx _, _, h => fun σ' H' s' e => h σ' H' (s.trans s'.un) e
  | .rt _, _, h => h
  | .bk _, _, h => fun σ' H' s' e => h σ' H' (s.trans s'.un) e
end
section
variable {X : Cx} {Wx : WX} {pos : Pos}
abbrev PSr (X : Cx) (Wx : WX) (x : Stmt) (m : Ev → M Rz) : Prop := PS X x (tSt X.K X.mg Wx m)
abbrev PSsr (X : Cx) (Wx : WX) (x : List Stmt) (m : Ev → M Rz) : Prop := PSs X x (tSt X.K X.mg Wx m)
theorem ps_imp {x : Stmt} {t t' : TS} (h : PS X x t) (i : ∀ (D : Ends) (σ : L2.St) (H : Hp), t' D σ H → t D σ H) : PS X x t' := ⟨fun pins s σ H D I q => h.run pins s σ H D I (i D σ H q)⟩
theorem pss_imp {x : List Stmt} {t t' : TS} (h : PSs X x t) (i : ∀ (D : Ends) (σ : L2.St) (H : Hp), t' D σ H → t D σ H) : PSs X x t' := ⟨fun pins s σ H D I q => h.run pins s σ H D I (i D σ H q)⟩
theorem st_nil : PSsr X Wx [] fun ρ => pure (.nx ρ) := pss_imp pss_nil fun D σ H h => by
  obtain ⟨c, ρ, e, h⟩ := h
  exact h σ H Step.refl e
/-- one after another -/
def mSeq (a b : Ev → M Rz) : Ev → M Rz := fun ρ => a ρ >>= Rz.sq b
theorem st_cons {x : Stmt} {xs : List Stmt} {a b : Ev → M Rz} (ha : PSr X Wx x a) (hb : PSsr X Wx xs b) : PSsr X Wx (x :: xs) (mSeq a b) := pss_imp (pss_cons ha hb) fun D σ H h => by
  obtain ⟨c, ρ, e, h⟩ := h
  refine ⟨c, ρ, e, (a ρ).mono (fun r _ q => ?_) (fun _ _ z => z) h⟩
  cases r with
  | nx ρ' => exact fun σ' H' s e' => ⟨_, ρ', e', (b ρ').mono (fun r _ q => q.later s) (fun _ _ z => z) q⟩
  | rt d => exact q
  | bk ρ' => exact q
/-- a reading of an expression within a body -/
theorem tE_in {K : PySem.W.Frag} {mg : Str → Option Value} {m : TM D} {c : Cf} {ρ : Ev} {σ : L2.St} {H : Hp} {Q : VK} {P : D → Nat → Prop} (e : EnvOk K c ρ σ H) (h : (m ρ).run P (XS K mg Wx c) c.b) (hP : ∀ d b, P d b → ∀ v H', Ext c.W.vol H H' → c.W.inv b H' → Rep K c.W (Nn c ρ σ) H' v d → Q v H') : tE K mg Wx m σ H Q :=
  ⟨c, ρ, e, (m ρ).mono (fun d b q => hP d b q) (fun _ _ z => z.q e) h⟩
theorem st_ret {x : Expr} {m : TM D} (h : PEr X Wx x m) : PSr X Wx (.Return (some x) pos) fun ρ => m ρ >>= fun d => pure (.rt d) := ps_imp (ps_ret h) fun D σ H q => by
  obtain ⟨c, ρ, e, q⟩ := q
  exact tE_in e q fun d _ q v H' x i r => q v H' (e.ext.trans x) i (r.anti fun a z => .inl z)
theorem st_retN : PSr X Wx (.Return none pos) fun _ => pure (.rt .none) := ps_imp ps_retN fun D σ H q => by
  obtain ⟨c, ρ, e, q⟩ := q
  exact q _ H e.ext e.inv .non
theorem st_pass : PSr X Wx (.Pass pos) fun ρ => pure (.nx ρ) := ps_imp ps_pass fun D σ H q => by
  obtain ⟨c, ρ, e, q⟩ := q
  exact q σ H Step.refl e
theorem st_brk : PSr X Wx (.Break pos) fun ρ => pure (.bk ρ) := ps_imp ps_break fun D σ H q => by
  obtain ⟨c, ρ, e, q⟩ := q
  exact q σ H Step.refl e
theorem st_ex {x : Expr} {m : TM D} (h : PEr X Wx x m) (hs : swapsWith x none pos.line X.env = pure false) : PSr X Wx (.Expr x pos) fun ρ => m ρ >>= fun _ => pure (.nx ρ) := ps_imp (ps_expr h hs) fun D σ H q => by
  obtain ⟨c, ρ, e, q⟩ := q
  exact tE_in e q fun d _ q v H' x i r => q σ H' (Step.of_vol e x) (e.ext' x i)
theorem st_if {z : Expr} {xs ys : List Stmt} {c : TM D} {a b : Ev → M Rz} (hc : PTr X Wx z c) (ha : PSsr X Wx xs a) (hb : PSsr X Wx ys b) : PSr X Wx (.If z xs ys pos) fun ρ => c ρ >>= fun d => asBool d >>= fun r => if r then a ρ else b ρ := ps_imp (ps_if hc ha hb) fun D σ H q => by
  obtain ⟨cf, ρ, e, q⟩ := q
  refine ⟨cf, ρ, e, (c ρ).mono (fun d _ q => ?_) (fun _ _ z => z.q e) q⟩
  obtain ⟨k, rfl, q⟩ := asBool_run q
  refine ⟨k, rfl, fun H1 x i => ?_⟩
  cases k with
  | true => exact ⟨_, ρ, e.ext' x i, (a ρ).mono (fun r _ q => q.later (Step.of_vol e x)) (fun _ _ z => z) q⟩
  | false => exact ⟨_, ρ, e.ext' x i, (b ρ).mono (fun r _ q => q.later (Step.of_vol e x)) (fun _ _ z => z) q⟩
theorem step_set {K : PySem.W.Frag} {c : Cf} {ρ ρ1 : Ev} {σ σ1 : L2.St} {H H1 : Hp} {sl : List Nat} {n : Nat} (e : EnvOk K c ρ σ H) (x : Ext c.W.vol H H1) (b : Bound K (c.at n) ρ σ sl H1 ρ1 σ1) : Step c ρ σ H ρ1 σ1 H1 :=
  ⟨x.wide e.vc.bv, fun a z => .inl (b.sub a z)⟩
theorem st_asg {tgx x : Expr} {tg : Tg} {m : TM D} (h : PEr X Wx x m) (hg : PG X tgx (gOf X.K tg)) (hs : swapsWithSole [tgx] x pos.line X.env = pure false) (hw : swappedStores [tgx] x X.env = pure none)
    (h1 : (assignEach [tgx] X.env).map (·.2) = [assign tgx X.env]) : PSr X Wx (.Assign [tgx] x pos) fun ρ => m ρ >>= fun d => bindT ρ tg d >>= fun ρ' => pure (.nx ρ') := ps_imp (ps_asg h hg hs hw h1) fun D σ H q => by
  obtain ⟨c, ρ, e, q⟩ := q
  exact tE_in e q fun d _ q v H' x i r => bind_of (e.ext' x i) r ((bindT ρ tg d).mono (fun ρ1 _ q1 hb σ1 b => by subst hb; exact q1 σ1 H' (step_set e x b) b.ok) (fun _ _ z => z) q)
theorem st_asgN {tgx x : Expr} {i : Nat} {js : List Nat} {m : TM D} (h : PEr X Wx x m) (hg : PG X tgx (gTup X.K 2 (gCons (gName i) (gCons (gOf X.K (.t js)) gNil)))) (hs : swapsWithSole [tgx] x pos.line X.env = pure false) (hw : swappedStores [tgx] x X.env = pure none)
    (h1 : (assignEach [tgx] X.env).map (·.2) = [assign tgx X.env]) : PSr X Wx (.Assign [tgx] x pos) fun ρ => m ρ >>= fun d => bindN ρ i js d >>= fun ρ' => pure (.nx ρ') := ps_imp (ps_asg h hg hs hw h1) fun D σ H q => by
  obtain ⟨c, ρ, e, q⟩ := q
  exact tE_in e q fun d _ q v H' x i' r => bind_ofN (e.ext' x i') r ((bindN ρ i js d).mono (fun ρ1 _ q1 hb σ1 b => by subst hb; exact q1 σ1 H' (step_set e x b) b.ok) (fun _ _ z => z) q)
end
end Ad
namespace Ad
open PySem PySem.Calls PySem.W PySem.SeqAt PySem.Spec PyProof.Rows L2

/-! ### new lists -/
def FQ (K : PySem.W.Frag) (c : Cf) (ρ : Ev) (σ : L2.St) (H : Hp) (Q : VK) : D → Nat → Prop := fun d b => ∃ ds, d = .list ds ∧ ∀ a vs H1, Ext c.W.vol H H1 → c.W.inv b H1 → H1 a = none → ds.length ≤ sizeLine → RepL K c.W (Nn c ρ σ) H1 vs ds → Q (.ref a) (upd H1 a (.lst vs))
def tF (K : PySem.W.Frag) (mg : Str → Option Value) (Wx : WX) (m : TM D) : TE := fun σ H Q => ∃ c ρ, EnvOk K c ρ σ H ∧ (m ρ).run (FQ K c ρ σ H Q) (XQ K mg Wx c ρ σ H) c.b
abbrev PFr (X : Cx) (Wx : WX) (x : Expr) (m : TM D) : Prop := PE X x (tF X.K X.mg Wx m)
section
variable {X : Cx} {Wx : WX} {pos : Pos}
theorem f_lst {xs : List Expr} {m : TM (List D)} (h : PAr X Wx xs m) (f : Few m) : PFr X Wx (.List xs pos) fun ρ => m ρ >>= fun ds => pure (.list ds) :=
  pe_imp (pe_lst h) fun σ H Q h => by
    obtain ⟨c, ρ, e, h⟩ := h
    refine ⟨c, ρ, e, (m ρ).mono (fun d _ q v H1 x i rv => ?_) (fun _ _ z => z) (f ρ _ _ _ h)⟩
    obtain ⟨ds, e', q2⟩ := q.2
    cases e'
    exact ⟨by rw [rv.length]; exact q.1, fun p hp => q2 p v H1 x i hp q.1 rv⟩
/-- two parts, then a step by values to a new list -/
theorem read2F {K : PySem.W.Frag} {mg : Str → Option Value} {σ : L2.St} {H : Hp} {Q : VK} {a b : TM D} {f : D → D → M D} {r : R2}
    (hv : ∀ (W : Wd) (N : Addr → Prop) (H : Hp) (b : Nat) (d e : D) (v u : V) (Q : VK) (R : XV → Nat → Prop), VC W N H b → RepB K W N H v d → RepB K W N H u e → (f d e).run (fun d b' => ∃ ds, d = .list ds ∧ (b' = b → ds.length ≤ sizeLine → ∀ a vs, H a = none → RepL K W N H vs ds → Q (.ref a) (upd H a (.lst vs)))) R b → r v u H Q)
    (h : tF K mg Wx (fun ρ => a ρ >>= fun x => b ρ >>= fun y => f x y) σ H Q) : tEB K mg Wx a σ H fun v H1 => tEB K mg Wx b σ H1 fun u H2 => r v u H2 Q := by
  obtain ⟨c, ρ, e, h⟩ := h
  refine ⟨c, ρ, e, (a ρ).mono (fun d _ q v H1 x i rv => ?_) (fun _ _ z => z) h⟩
  refine ⟨_, ρ, e.ext' x i, (b ρ).mono (fun d' _ q' v' H2 x2 i2 r2 => ?_) (fun _ _ z => XQ.later x z) q⟩
  have e2 := (e.ext' x i).ext' x2 i2
  refine hv c.W (Nn c ρ σ) H2 _ d d' v v' Q _ e2.vc (rv.ext x2 e.vc.bv) r2 ((f d d').mono (fun d3 _ q3 => ?_) (fun _ _ z => z) q')
  obtain ⟨ds, rfl, q3⟩ := q3
  exact ⟨ds, rfl, fun hb z a vs ha l => q3 a vs H2 (x.trans x2) (by rw [hb]; exact i2) ha z l⟩
theorem f_add {x y : Expr} {a b : TM D} (ha : PEb X Wx x a) (hb : PEb X Wx y b) : PFr X Wx (.BinOp x .Add y pos) fun ρ => a ρ >>= fun d => b ρ >>= fun e => addD d e :=
  pe_imp (pe_op op_cat ha hb) fun σ H Q h => read2F (f := addD) (r := rCat) (fun W N H _ d e v u Q R c r1 r2 h => by
    unfold addD at h
    split at h
    · obtain ⟨ds, e, _⟩ := h; cases e
    · obtain ⟨_, ds, e, _⟩ := h; cases e
    · obtain ⟨_, ds, e, _⟩ := h; cases e
    · obtain ⟨a, vs, rfl, h1, z1, l1⟩ := r1.list
      obtain ⟨b, ws, rfl, h2, z2, l2⟩ := r2.list
      obtain ⟨hz, ds, e, h⟩ := h
      cases e
      exact ⟨a, b, vs, ws, rfl, rfl, h1, h2, by rw [l1.length, l2.length]; exact hz, fun p hp => h rfl (by rw [List.length_append]; exact hz) p _ hp (l1.append l2)⟩
    · exact h.elim) h
theorem f_mul {x y : Expr} {a b : TM D} (ha : PEb X Wx x a) (hb : PEb X Wx y b) : PFr X Wx (.BinOp x .Mult y pos) fun ρ => a ρ >>= fun d => b ρ >>= fun e => mulD d e :=
  pe_imp (pe_op op_rep ha hb) fun σ H Q h => read2F (f := mulD) (r := rRep) (fun W N H _ d e v u Q R c r1 r2 h => by
    unfold mulD at h
    split at h
    · obtain ⟨_, ds, e, _⟩ := h; cases e
    · obtain ⟨a, vs, rfl, h1, z1, l1⟩ := r1.list
      obtain ⟨⟨b1, b2, b3⟩, ds, e, h⟩ := h
      cases e
      refine ⟨a, _, vs, rfl, r2.int, h1, b1, b2, by rw [l1.length]; exact b3, fun p hp => h rfl ?_ p _ hp (l1.flat _)⟩
      rw [List.length_flatten, List.map_replicate, List.sum_replicate_nat, Nat.mul_comm]
      exact b3
    · exact h.elim) h
theorem f_end {c : Cf} {ρ : Ev} {σ : L2.St} {H H' : Hp} {Q : VK} {D : Addr} {ys : List Ad.D} {acc : List V} {b : Nat} (e : EnvOk X.K c ρ σ H) (q : FQ X.K c ρ σ H Q (.list ys) b) (x : Ext c.W.vol H H') (i : c.W.inv b H') (n : ¬ Nn c ρ σ D) (h0 : H D = none) (hD : H' D = some (.lst acc)) (z : ys.length ≤ sizeLine) (l : RepL X.K c.W (fun a => Nn c ρ σ a ∨ a = D) H' acc ys) : Q (.ref D) H' := by
  obtain ⟨ds, e', q⟩ := q
  cases e'
  have hnv : ¬ c.W.vol D := fun z => n (e.vc.bv D z)
  have hu : upd (fun x => if x = D then none else H' x) D (.lst acc) = H' := by
    funext x
    by_cases hx : x = D
    · rw [hx, upd_same, hD]
    · rw [upd_ne hx]
      exact if_neg hx
  have q := q D acc (fun x => if x = D then none else H' x) (fun a o na ha => by
    have hne : a ≠ D := fun z => by rw [z, h0] at ha; cases ha
    show (if a = D then none else H' a) = some o
    rw [if_neg hne]
    exact x a o na ha) (c.W.keep _ H' _ i fun a ha => if_neg fun z => hnv (by rw [← z]; exact ha)) (if_pos rfl) z
    (RepL.to (N := fun a => Nn c ρ σ a ∨ a = D) (fun a na _ z => na (.inl z)) (fun a o na ha => by
      show (if a = D then none else H' a) = some o
      rw [if_neg fun z => na (.inr z)]
      exact ha) _ _ l)
  rw [hu] at q
  exact q
theorem f_lc {tgx iter elt : Expr} {ifs : List Expr} {scope : Scope} {ownp : List (Str × Nat)} {own : List Nat} {tg : Tg} {mi : TM (List D)} {mt me : TM D} {l : Bool} (hc : X.calm = true) (hN : X.N.Nodup) (hi : PIr X Wx tgx iter l mi) (ok : BlkOk X.N X.env.scope scope ownp) (ho : ownp.map (·.2) = own) (hsl : ∀ i, i ∈ tg.slots → i ∈ own)
    (hg : ∀ (s : Shared) (H : Hp) (C : Addr) (cl : List (Str × Addr)) (fp : List Addr), PG (X.blk s H scope (compEnvC scope cl C X.env) fp) tgx (gOf X.K tg))
    (ht : ∀ (s : Shared) (H : Hp) (C : Addr) (cl : List (Str × Addr)) (fp : List Addr), PTs (X.blk s H scope (compEnvC scope cl C X.env) fp) ifs (tT X.K X.mg noX mt))
    (he : ∀ (s : Shared) (H : Hp) (C : Addr) (cl : List (Str × Addr)) (fp : List Addr), PEr (X.blk s H scope (compEnvC scope cl C X.env) fp) noX elt me) (hs : ∀ x, foldedSetIterable iter X.env x = pure x) :
    PFr X Wx (.ListComp elt [⟨tgx, iter, ifs, 0⟩] scope pos) (mLc own tg mi mt me) := by
  subst ho
  refine pe_imp (pe_lc (te := tE X.K X.mg noX me) hc hN hi ok hg ht he hs) fun σ H Q h => ?_
  exact read_lc (P := fun c ρ d => FQ X.K c ρ σ H Q d) hsl (fun c ρ ys _ e q D acc H' x i n h0 hD z l => f_end e q x i n h0 hD z l) h
theorem read1F {m : TM (List D)} {f : D → M D} {σ : L2.St} {H : Hp} {Q : VK} {r : List V → Hp → VK → Prop}
    (hv : ∀ (W : Wd) (N : Addr → Prop) (H : Hp) (b : Nat) (d : D) (v : V) (Q : VK) (R : XV → Nat → Prop), VC W N H b → RepB X.K W N H v d → (f d).run (fun d b' => ∃ ds, d = .list ds ∧ (b' = b → ds.length ≤ sizeLine → ∀ a vs, H a = none → RepL X.K W N H vs ds → Q (.ref a) (upd H a (.lst vs)))) R b → r [v] H Q)
    (h : tF X.K X.mg Wx (fun ρ => m ρ >>= on1 f) σ H Q) : tCB r (tAB X.K X.mg Wx m) σ H Q := by
  obtain ⟨c, ρ, e, h⟩ := h
  refine ⟨c, ρ, e, (m ρ).mono (fun ds _ q vs H1 x i rv => ?_) (fun _ _ z => z) h⟩
  match ds, rv, q with
  | [], _, q => exact q.elim
  | _ :: _ :: _, _, q => exact q.elim
  | [d], rv, q =>
    obtain ⟨y, rfl, ry⟩ := rv.one
    refine hv c.W (Nn c ρ σ) H1 _ d y Q _ (e.ext' x i).vc ry ((f d).mono (fun d3 _ q3 => ?_) (fun _ _ z => z) q)
    obtain ⟨ds, rfl, q3⟩ := q3
    exact ⟨ds, rfl, fun hb z a vs ha l => q3 a vs H1 x (by rw [hb]; exact i) ha z l⟩
/-- list(x) -/
theorem f_list {x : Str} {e : Expr} {es : List Expr} {m : TM (List D)} {p : Pos} (hg : Gl X x) (hm : X.mg x = none) (hv : bootBuiltins x = some (.type "list")) (ha : PAb X Wx (e :: es) m) (hn : x ≠ "__name__") (hdb : (x == ("__debug__" : Str)) = false)
    (he : starEach (e :: es) X.env = (false, eval e X.env) :: starEach es X.env) (hpl : (backTo pos (starEach es X.env)).any (·.1) = false) : PFr X Wx (.Call (.Name x p) (e :: es) [] pos) fun ρ => m ρ >>= biD .list :=
  pe_imp (pe_callTy call_list_of hg hm hv ha hn hdb he hpl) fun σ H Q h => read1F (f := fun d => itemsOf d >>= fun xs => pure (.list xs)) (fun W N H _ d v Q R c r h => by
    obtain ⟨ds, a, vs, ⟨ds', e', q⟩, rfl, z, l, hx⟩ := r.items h
    cases e'
    refine ⟨a, vs, rfl, ?_, fun p hp => q rfl z p vs hp l⟩
    rcases hx with ⟨_, hx⟩ | ⟨_, hx, _⟩
    · exact .inl (SqL.of hx)
    · exact .inr hx) h

/-! ### several values at once -/
inductive Pend (K : PySem.W.Frag) (ρ : Ev) (σ : L2.St) (H : Hp) (cf : Cf) : Cf → List Bool → List V → List D → Prop
  | nil : EnvOk K cf ρ σ H → Pend K ρ σ H cf cf [] [] []
  | val {c : Cf} {fl : List Bool} {v : V} {vs : List V} {d : D} {ds : List D} : Rep K c.W (Nn cf ρ σ) H v d → Pend K ρ σ H cf c fl vs ds → Pend K ρ σ H cf c (false :: fl) (v :: vs) (d :: ds)
  | own {c : Cf} {fl : List Bool} {a : Addr} {ws vs : List V} {es ds : List D} : H a = some (.lst ws) → es.length ≤ sizeLine → RepL K c.W (Nn cf ρ σ) H ws es → c.H0 a = none → ¬ c.B a → ¬ c.W.vol a → Pend K ρ σ H cf (c.blk a) fl vs ds → Pend K ρ σ H cf c (true :: fl) (.ref a :: vs) (.list es :: ds)
theorem Pend.w {K : PySem.W.Frag} {ρ : Ev} {σ : L2.St} {H : Hp} {cf c : Cf} {fl : List Bool} {vs : List V} {ds : List D} (p : Pend K ρ σ H cf c fl vs ds) : cf.W = c.W ∧ EnvOk K cf ρ σ H := by
  induction p with
  | nil e => exact ⟨rfl, e⟩
  | val _ _ ih => exact ih
  | own _ _ _ _ _ _ _ ih => exact ih
def setAllS : L2.St → List Nat → List V → L2.St
  | σ, i :: is, v :: vs => (setAllS σ is vs).set i (some v)
  | σ, _, _ => σ
theorem Pend.done {K : PySem.W.Frag} {ρ : Ev} {σ : L2.St} {H : Hp} {cf c : Cf} {fl : List Bool} {vs : List V} {ds : List D} (p : Pend K ρ σ H cf c fl vs ds) : ∀ (is : List (Nat × Bool)), is.map (·.2) = fl →
    EnvOk K c (setAll ρ is ds) (setAllS σ (is.map (·.1)) vs) H ∧ ∀ x, Nn c (setAll ρ is ds) (setAllS σ (is.map (·.1)) vs) x → Nn cf ρ σ x := by
  induction p with
  | nil e =>
    intro is h
    cases is with
    | nil => exact ⟨e, fun _ z => z⟩
    | cons _ _ => cases h
  | val r p ih =>
    intro is h
    cases is with
    | nil => cases h
    | cons i is =>
      obtain ⟨i, o⟩ := i
      simp only [List.map_cons, List.cons.injEq] at h
      obtain ⟨ho, h⟩ := h
      have ho : o = false := ho
      subst ho
      obtain ⟨e, hn⟩ := ih is h
      exact ⟨e.setv i (r.anti hn), fun x z => hn x (nn_sub (fun _ z => by cases z) z)⟩
  | own h1 h2 h3 h4 h5 h6 p ih =>
    intro is h
    cases is with
    | nil => cases h
    | cons i is =>
      obtain ⟨i, o⟩ := i
      simp only [List.map_cons, List.cons.injEq] at h
      obtain ⟨ho, h⟩ := h
      have ho : o = true := ho
      subst ho
      obtain ⟨e, hn⟩ := ih is h
      exact ⟨e.own1 i h1 h2 (h3.anti hn) h4 h5 h6, fun x z => hn x (nn_own z)⟩
theorem Pend.ext {K : PySem.W.Frag} {ρ : Ev} {σ : L2.St} {H H' : Hp} {cf c : Cf} {fl : List Bool} {vs : List V} {ds : List D} {n : Nat} (p : Pend K ρ σ H cf c fl vs ds) (x : Ext c.W.vol H H') (i : c.W.inv n H') : Pend K ρ σ H' (cf.at n) (c.at n) fl vs ds := by
  induction p with
  | nil e => exact .nil (e.ext' x i)
  | val r p ih =>
    obtain ⟨hw, e⟩ := p.w
    exact .val (r.ext (x.wide fun a z => e.vc.bv a (by rw [hw]; exact z))) (ih x i)
  | own h1 h2 h3 h4 h5 h6 p ih =>
    obtain ⟨hw, e⟩ := p.w
    exact .own (x _ _ h6 h1) h2 (h3.ext (x.wide fun a z => e.vc.bv a (by rw [hw]; exact z))) h4 h5 h6 (ih x i)
def parM : List (Bool × TM D) → TM (List D)
  | [], _ => pure []
  | m :: ms, ρ => m.2 ρ >>= fun d => ownD m.1 d >>= fun d => parM ms ρ >>= fun ds => pure (d :: ds)
def tAP (K : PySem.W.Frag) (mg : Str → Option Value) (Wx : WX) (ms : List (Bool × TM D)) : TA := fun σ H Q => ∃ c ρ, EnvOk K c ρ σ H ∧
  (parM ms ρ).run (fun ds b => ∀ cf vs H', Ext c.W.vol H H' → c.W.inv b H' → Pend K ρ σ H' cf (c.at b) (ms.map (·.1)) vs ds → (∀ x, Nn cf ρ σ x → Nn c ρ σ x ∨ H x = none) → Q vs H') (XQ K mg Wx c ρ σ H) c.b
theorem par_nil : PA X [] (tAP X.K X.mg Wx []) := pa_imp pa_nil fun σ H Q h => by
  obtain ⟨c, ρ, e, h⟩ := h
  exact h c [] H (Ext.refl H) e.inv (.nil e) fun _ z => .inl z
theorem par_val {x : Expr} {xs : List Expr} {m : TM D} {ms : List (Bool × TM D)} (ha : PEr X Wx x m) (hb : PA X xs (tAP X.K X.mg Wx ms)) (hs : starEach (x :: xs) X.env = (false, eval x X.env) :: starEach xs X.env) : PA X (x :: xs) (tAP X.K X.mg Wx ((false, m) :: ms)) :=
  pa_imp (pa_cons ha hb hs) fun σ H Q h => by
    obtain ⟨c, ρ, e, h⟩ := h
    refine ⟨c, ρ, e, (m ρ).mono (fun d _ q v H1 x i rv => ?_) (fun _ _ z => z) h⟩
    refine ⟨_, ρ, e.ext' x i, (parM ms ρ).mono (fun ds _ q2 => ?_) (fun _ _ z => XQ.later x z) q⟩
    refine fun cf vs H2 x2 i2 p hn => ?_
    refine q2 cf (v :: vs) H2 (x.trans x2) i2 (.val (Rep.to (fun a na ha z => (hn a z).elim na ha) (x2.wide e.vc.bv) d v rv) p) fun a z => ?_
    rcases hn a z with z | z
    · exact .inl z
    · by_cases hv : c.W.vol a
      · exact .inl (e.vc.bv a hv)
      · cases q : H a with
        | none => exact .inr rfl
        | some o => rw [x a o hv q] at z; cases z
theorem asList_run {d : D} {Q : List D → Nat → Prop} {R : XV → Nat → Prop} {b : Nat} (h : (asList d).run Q R b) : ∃ xs, d = .list xs ∧ Q xs b := by
  cases d <;> first | exact h.elim | exact ⟨_, rfl, h⟩
theorem par_own {x : Expr} {xs : List Expr} {m : TM D} {ms : List (Bool × TM D)} (ha : PFr X Wx x m) (hb : PA X xs (tAP X.K X.mg Wx ms)) (hs : starEach (x :: xs) X.env = (false, eval x X.env) :: starEach xs X.env) : PA X (x :: xs) (tAP X.K X.mg Wx ((true, m) :: ms)) :=
  pa_imp (pa_cons ha hb hs) fun σ H Q h => by
    obtain ⟨c, ρ, e, h⟩ := h
    refine ⟨c, ρ, e, (m ρ).mono (fun d _ q => ?_) (fun _ _ z => z) h⟩
    obtain ⟨es, rfl, q⟩ := asList_run q
    refine ⟨es, rfl, fun a ws H1 x1 i1 ha hz l => ?_⟩
    have e1 := e.ext' x1 i1
    obtain ⟨xn, xi, nn⟩ := e1.vc.new (o := .lst ws) ha
    have nv : ¬ c.W.vol a := fun z => nn (e.vc.bv a z)
    have e2 := e1.blk ha xn xi (upd_same (o := .lst ws))
    have h0 : H a = none := by
      cases q : H a with
      | none => rfl
      | some o => rw [x1 a o nv q] at ha; cases ha
    have h00 : c.H0 a = none := by
      cases q : c.H0 a with
      | none => rfl
      | some o => rw [e.ext a o nv q] at h0; cases h0
    refine ⟨_, ρ, e2, (parM ms ρ).mono (fun ds _ q2 => ?_) (fun z _ qz => ?_) q⟩
    · intro cf vs H2 x2 i2 p hn
      have hsub : ∀ x, Nn cf ρ σ x → Nn c ρ σ x ∨ H1 x = none := fun x z => by
        rcases hn x z with z | z
        · rcases nn_blk.mp z with z | z
          · exact .inl z
          · exact .inr (by rw [z]; exact ha)
        · by_cases hx : x = a
          · exact .inr (by rw [hx]; exact ha)
          · rw [upd_ne hx] at z
            exact .inr z
      refine q2 cf (.ref a :: vs) H2 ((x1.trans xn).trans x2) i2 (.own (x2 a _ nv upd_same) hz (RepL.to (fun y na hy z => (hsub y z).elim na hy) ((xn.wide e.vc.bv).trans (x2.wide e.vc.bv)) es ws l) h00 (fun z => nn (.inl z)) nv p) fun y z => ?_
      rcases hsub y z with z | z
      · exact .inl z
      · by_cases hv : c.W.vol y
        · exact .inl (e.vc.bv y hv)
        · cases q : H y with
          | none => exact .inr rfl
          | some o => rw [x1 y o hv q] at z; cases z
    · exact fun cls d H' x' i' r => qz cls d H' ((x1.trans xn).trans x') i' (r.anti fun y z => nn_blk.mpr (.inl z))

/-! statements that make a def's own lists -/
theorem own_step {c : Cf} {ρ : Ev} {σ : L2.St} {H H1 : Hp} {a : Addr} {ws : List V} {es : List D} (e : EnvOk X.K c ρ σ H) (i : Nat) {b : Nat} (x1 : Ext c.W.vol H H1) (i1 : c.W.inv b H1) (ha : H1 a = none) (hz : es.length ≤ sizeLine) (l : RepL X.K c.W (Nn c ρ σ) H1 ws es) :
    EnvOk X.K (c.at b) (setO ρ i es) (σ.set i (some (.ref a))) (upd H1 a (.lst ws)) ∧ Step c ρ σ H (setO ρ i es) (σ.set i (some (.ref a))) (upd H1 a (.lst ws)) := by
  have e1 := e.ext' x1 i1
  obtain ⟨xn, xi, nn⟩ := e1.vc.new (o := .lst ws) ha
  have nv : ¬ c.W.vol a := fun z => nn (e.vc.bv a z)
  have e2 := e1.blk ha xn xi (upd_same (o := .lst ws))
  have h0 : H a = none := by
    cases q : H a with
    | none => rfl
    | some o => rw [x1 a o nv q] at ha; cases ha
  have h00 : c.H0 a = none := by
    cases q : c.H0 a with
    | none => rfl
    | some o => rw [e.ext a o nv q] at h0; cases h0
  refine ⟨e2.own1 i upd_same hz (RepL.to (fun y na hy z => (nn_blk.mp z).elim na fun z => hy (by rw [z]; exact ha)) (xn.wide e.vc.bv) es ws l) h00 (fun z => nn (.inl z)) nv, (x1.trans xn).wide e.vc.bv, fun y z => ?_⟩
  rcases nn_blk.mp (nn_own z) with z | z
  · exact .inl z
  · exact .inr (by rw [z]; exact h0)
theorem read_asgO {c : Cf} {ρ : Ev} {σ : L2.St} {H : Hp} {D : Ends} {i : Nat} {m : TM Ad.D} (e : EnvOk X.K c ρ σ H) (q : (m ρ >>= fun d => asList d >>= fun xs => pure (.nx (setO ρ i xs)) : M Rz).run (Rq X.K c ρ σ H D) (XS X.K X.mg Wx c) c.b) : (m ρ).run (FQ X.K c ρ σ H fun x H1 => D.nx (σ.set i (some x)) H1) (XS X.K X.mg Wx c) c.b :=
  (m ρ).mono (fun d _ q => by
    obtain ⟨es, rfl, q⟩ := asList_run q
    refine ⟨es, rfl, fun a ws H1 x1 i1 ha hz l => ?_⟩
    obtain ⟨e2, s⟩ := own_step e i x1 i1 ha hz l
    exact q _ _ s e2) (fun _ _ z => z) q
theorem st_asgO {i : Nat} {y : Str} {x : Expr} {m : TM D} {py : Pos} (h : PFr X Wx x m) (hN : X.N.Nodup) (hi : X.N[i]? = some y) (hx : Loc X.env.scope y) (hs : swapsWith x (some (.Name y py)) pos.line X.env = pure false) (hf : X.fn y = true ∨ X.env.scope.names.lookup y = some .local) :
    PSr X Wx (.Assign [.Name y py] x pos) fun ρ => m ρ >>= fun d => asList d >>= fun xs => pure (.nx (setO ρ i xs)) := ps_imp (ps_set hN hi hx h hs hf) fun D σ H q => by
  obtain ⟨c, ρ, e, q⟩ := q
  exact ⟨c, ρ, e, (m ρ).mono (fun _ _ z => z) (fun _ _ z => z.q e) (read_asgO e q)⟩
theorem st_set {i : Nat} {y : Str} {x : Expr} {m : TM D} {py : Pos} (h : PEr X Wx x m) (hN : X.N.Nodup) (hi : X.N[i]? = some y) (hx : Loc X.env.scope y) (hs : swapsWith x (some (.Name y py)) pos.line X.env = pure false) (hf : X.fn y = true ∨ X.env.scope.names.lookup y = some .local) :
    PSr X Wx (.Assign [.Name y py] x pos) fun ρ => m ρ >>= fun d => pure (.nx (ρ.set i (some (d, false)))) := ps_imp (ps_set hN hi hx h hs hf) fun D σ H q => by
  obtain ⟨c, ρ, e, q⟩ := q
  exact tE_in e q fun d _ q v H' x i r => q _ H' (step_set e x (Bound.one (e.ext' x i) _ r)) ((e.ext' x i).setv _ r)
end
end Ad
namespace Ad
open PySem PySem.Calls PySem.W PySem.SeqAt PySem.Spec PyProof.Rows L2

section
variable {X : Cx} {Wx : WX} {pos : Pos}
theorem lookO_run {ρ : Ev} {w : Nat} {Q : List D → Nat → Prop} {R : XV → Nat → Prop} {b : Nat} (h : (lookO ρ w).run Q R b) : ∃ ds, ρ[w]? = some (some (.list ds, true)) ∧ Q ds b := by
  unfold lookO at h
  split at h
  · exact ⟨_, ‹_›, h⟩
  · exact h.elim
/-- a slot's own list, as a value -/
theorem own_var {c : Cf} {ρ : Ev} {σ : L2.St} {H : Hp} {w : Nat} {ds : List D} (e : EnvOk X.K c ρ σ H) (h : ρ[w]? = some (some (.list ds, true))) : ∃ a vs, σ[w]? = some (some (V.ref a)) ∧ H a = some (.lst vs) ∧ ds.length ≤ sizeLine ∧ RepL X.K c.W (Nn c ρ σ) H vs ds ∧ tyV X.K "list" (.ref a) H := by
  obtain ⟨a, o, e2, e3, g, _⟩ := e.own w _ h
  obtain ⟨vs, rfl, e4, e5⟩ := g.list
  exact ⟨a, vs, e2, e3, e4, e5, .inl ⟨rfl, vs, SqL.of e3⟩⟩
theorem bound_step {c : Cf} {ρ ρ1 : Ev} {σ σ1 : L2.St} {H : Hp} {sl : List Nat} (b : Bound X.K c ρ σ sl H ρ1 σ1) : Step c ρ σ H ρ1 σ1 H := ⟨Ext.refl H, fun a z => .inl (b.sub a z)⟩
theorem write_step {c : Cf} {ρ : Ev} {σ : L2.St} {H : Hp} {w : Nat} {a : Addr} {d : D} {vs : List V} {ds : List D} (e : EnvOk X.K c ρ σ H) (hw : ρ[w]? = some (some (d, true))) (ha : σ[w]? = some (some (.ref a))) (z : ds.length ≤ sizeLine) (l : RepL X.K c.W (Nn c ρ σ) H vs ds) :
    EnvOk X.K c (setO ρ w ds) σ (upd H a (.lst vs)) ∧ Step c ρ σ H (setO ρ w ds) σ (upd H a (.lst vs)) := by
  obtain ⟨h1, h2⟩ := e.write hw ha z l
  exact ⟨h1, h2, fun x z => .inl ((nn_setO hw x).mp z)⟩
variable {w : Nat} {wn : Str} {wp apos cpos spos : Pos}
structure NameW (X : Cx) (w : Nat) (wn : Str) : Prop where
  hN : X.N[w]? = some wn
  vis : Vis X.env.scope wn
  d1 : (wn == ("__debug__" : Str)) = false
  d2 : (wn == ("__classdict__" : Str)) = false
theorem NameW.pe {p : Pos} (n : NameW X w wn) : PE X (.Name wn p) (tVar w) := pe_var n.hN n.vis n.d1 n.d2
theorem few_ok {e : Expr} {es : List Expr} (h : (e :: es).all notStar = true) (hl : (e :: es).length < 20) : ((backTo cpos (starEach (e :: es) X.env)).all (fun x => !x.1) && (backToKw cpos (keywordEach [] X.env)).all (fun x => x.1.isSome)
      && decide ((e :: es).length + ([] : List Keyword).length + (if ([] : List Keyword).isEmpty then 0 else 1) < 30)) = true := by
  have h1 : ∀ {es : List Expr}, es.all notStar = true → (backTo cpos (starEach es X.env)).all (fun x => !x.1) = true := by
    intro es
    induction es with
    | nil => intro _; rfl
    | cons e es ih =>
      intro h
      simp only [List.all_cons, Bool.and_eq_true] at h
      rw [star_ok h.1]
      show (!false && (backTo cpos (starEach es X.env)).all (fun x => !x.1)) = true
      rw [ih h.2]
      rfl
  rw [h1 h]
  simp only [List.length_nil, List.isEmpty_nil, if_true, Nat.add_zero, Bool.true_and, Bool.and_eq_true, decide_eq_true_eq]
  exact ⟨rfl, by omega⟩
theorem st_app {x : Expr} {m : TM D} (n : NameW X w wn) (hx : PEr X Wx x m) (hst : notStar x = true) (hline : (apos.endLine == cpos.line) = true) :
    PSr X Wx (.Expr (.Call (.Attribute (.Name wn wp) "append" apos) [x] [] cpos) spos) fun ρ => lookO ρ w >>= fun xs => m ρ >>= fun d => M.grd (xs.length < sizeLine) >>= fun _ => pure (.nx (setO ρ w (xs ++ [d]))) :=
  ps_imp (ps_expr (pe_bm PySem.F.plainAttrs_list PySem.F.slot_list_append PySem.F.type_list_append mt_append n.pe (pa_cons hx pa_nil (star_ok hst _ _)) (sup_ok rfl _ _ _) (few_ok (by simp [hst]) (by simp)) hline (star_ok hst _ _) (star_any rfl _ _)) rfl) fun D σ H q => by
    obtain ⟨c, ρ, e, q⟩ := q
    obtain ⟨ds, hw, q⟩ := lookO_run q
    obtain ⟨a, vs, h1, h2, h3, h4, h5⟩ := own_var e hw
    refine ⟨.ref a, h1, h5, tE_in e q fun d _ q v H' x i r => ?_⟩
    have e' := e.ext' x i
    obtain ⟨a', vs', h1', h2', h3', h4', _⟩ := own_var e' hw
    rw [h1] at h1'
    cases h1'
    have hl := h4'.length
    have q1 : ds.length < sizeLine := q.1
    obtain ⟨e2, s⟩ := write_step e' hw h1 (by rw [List.length_append]; exact q1) (h4'.append (.cons r .nil))
    exact ⟨a, vs', v, rfl, rfl, h2', by rw [hl]; exact q1, q.2 _ _ ((Step.of_vol e x).trans s.un) e2⟩
theorem st_ext {x : Expr} {m : TM D} (n : NameW X w wn) (hx : PEr X Wx x m) (hst : notStar x = true) (hline : (apos.endLine == cpos.line) = true) :
    PSr X Wx (.Expr (.Call (.Attribute (.Name wn wp) "extend" apos) [x] [] cpos) spos) fun ρ => lookO ρ w >>= fun xs => m ρ >>= fun d => asList d >>= fun ys => M.grd (xs.length + ys.length ≤ sizeLine) >>= fun _ => pure (.nx (setO ρ w (xs ++ ys))) :=
  ps_imp (ps_expr (pe_bm PySem.F.plainAttrs_list PySem.F.slot_list_extend PySem.F.type_list_extend mt_extend n.pe (pa_cons hx pa_nil (star_ok hst _ _)) (sup_ok rfl _ _ _) (few_ok (by simp [hst]) (by simp)) hline (star_ok hst _ _) (star_any rfl _ _)) rfl) fun D σ H q => by
    obtain ⟨c, ρ, e, q⟩ := q
    obtain ⟨ds, hw, q⟩ := lookO_run q
    obtain ⟨a, vs, h1, h2, h3, h4, h5⟩ := own_var e hw
    refine ⟨.ref a, h1, h5, tE_in e q fun d _ q v H' x i r => ?_⟩
    obtain ⟨ys, rfl, q⟩ := asList_run q
    have e' := e.ext' x i
    obtain ⟨a', vs', h1', h2', h3', h4', _⟩ := own_var e' hw
    rw [h1] at h1'
    cases h1'
    have hl := h4'.length
    cases r with
    | lst g1 g2 g3 g4 =>
      have hl2 := g4.length
      have q1 : ds.length + ys.length ≤ sizeLine := q.1
      obtain ⟨e2, s⟩ := write_step e' hw h1 (by rw [List.length_append]; exact q1) (h4'.append g4)
      exact ⟨a, _, vs', _, rfl, rfl, h2', g1, by rw [hl, hl2]; exact q1, q.2 _ _ ((Step.of_vol e x).trans s.un) e2⟩
theorem oget_last {vs : List V} {ds : List D} {K : PySem.W.Frag} {W : Wd} {N : Addr → Prop} {H : Hp} (l : RepL K W N H vs ds) {d : D} (h : ds[ds.length - 1]? = some d) : ∃ v, vs[vs.length - 1]? = some v ∧ Rep K W N H v d := by
  rw [l.length]
  exact l.get h
theorem st_pop {i : Nat} {y : Str} {py : Pos} (n : NameW X w wn) (hN : X.N.Nodup) (hi : X.N[i]? = some y) (hx : Loc X.env.scope y) (hf : X.fn y = true ∨ X.env.scope.names.lookup y = some .local) (hline : (apos.endLine == cpos.line) = true) :
    PSr X Wx (.Assign [.Name y py] (.Call (.Attribute (.Name wn wp) "pop" apos) [] [] cpos) spos) fun ρ => lookO ρ w >>= fun xs => oget xs[xs.length - 1]? >>= fun d => pure (.nx ((setO ρ w xs.dropLast).set i (some (d, false)))) :=
  ps_imp (ps_set hN hi hx (pe_bm0 PySem.F.plainAttrs_list PySem.F.slot_list_pop PySem.F.type_list_pop mt_pop n.pe (sup_ok rfl _ _ _) hline) rfl hf) fun D σ H q => by
    obtain ⟨c, ρ, e, q⟩ := q
    obtain ⟨ds, hw, q⟩ := lookO_run q
    obtain ⟨d, hd, q⟩ := oget_run q
    obtain ⟨a, vs, h1, h2, h3, h4, h5⟩ := own_var e hw
    obtain ⟨v, hv, rv⟩ := oget_last h4 hd
    obtain ⟨e2, s⟩ := write_step e hw h1 (by rw [List.length_dropLast]; omega) h4.dropLast
    refine ⟨.ref a, h1, h5, a, vs, v, rfl, rfl, h2, hv, ?_⟩
    have b := Bound.one e2 i ((rv.ext s.ext).anti fun x => (nn_setO hw x).mp)
    exact q _ _ (s.trans (bound_step b)) b.ok
theorem st_aug {i : Nat} {y : Str} {py : Pos} {x : Expr} {m : TM D} (hN : X.N.Nodup) (hi : X.N[i]? = some y) (hx : Loc X.env.scope y) (h : PEr X Wx x m) (hf : X.fn y = true ∨ X.env.scope.names.lookup y = some .local) :
    PSr X Wx (.AugAssign (.Name y py) .Add x pos) fun ρ => look ρ i >>= fun d => asInt d >>= fun a => m ρ >>= fun e => asInt e >>= fun b => pure (.nx (ρ.set i (some (.int (a + b), false)))) :=
  ps_imp (ps_aug hN hi hx h ip_add hf) fun D σ H q => by
    obtain ⟨c, ρ, e, q⟩ := q
    have q : (look ρ i).run (fun d => (asInt d).run (fun a => (m ρ).run (fun e => (asInt e).run (fun b => Rq X.K c ρ σ H D (.nx (ρ.set i (some (.int (a + b), false))))) (XS X.K X.mg Wx c)) (XS X.K X.mg Wx c)) (XS X.K X.mg Wx c)) (XS X.K X.mg Wx c) c.b := q
    unfold look at q
    split at q
    · obtain ⟨v, h1, h2⟩ := e.val _ _ ‹_›
      obtain ⟨a, rfl, q⟩ := asInt_run q
      cases h2
      refine ⟨_, h1, tE_in e q fun d _ q v H' x i' r => ?_⟩
      obtain ⟨b, rfl, q⟩ := asInt_run q
      cases r
      have bd := Bound.one (e.ext' x i') i (.int (a + b))
      exact ⟨a, b, rfl, rfl, q _ _ ((Step.of_vol e x).trans (bound_step bd).un) bd.ok⟩
    · exact q.elim

/-! ### loops -/
theorem for_core {tg : Tg} {b : Ev → M Rz} {D : Ends} {c : Cf} {ρ1 : Ev} {σ1 : L2.St} {H1 : Hp} {J : It} {xs : List Ad.D} (wk : WalkD X.K c.W (Nn c ρ1 σ1) (Nn c ρ1 σ1) H1 J xs) (e1 : EnvOk X.K c ρ1 σ1 H1)
    (q : (forE (fun d ρ => bindT ρ tg d >>= fun ρ' => b ρ') xs ρ1).run (Rq X.K c ρ1 σ1 H1 D) (XS X.K X.mg Wx c) c.b) :
    ∃ W : Nat → Nat → L2.St → Hp → Prop, (∃ m, W 0 m σ1 H1) ∧ ∀ i m σ H, W i m σ H →
      (J.stop i H ∧ D.nx σ H) ∨ (J.go i H ∧ ∃ N : L2.St → Hp → Prop, (∀ σ' H', N σ' H' → ∃ m', m' < m ∧ W (i + 1) m' σ' H') ∧ ∀ x H', J.yld i H x H' → gOf X.K tg x σ H' fun σ2 H2 => tSt X.K X.mg Wx b { D with nx := N, ct := N, bk := D.nx } σ2 H2) := by
  obtain ⟨G, Y, g0, gst, w, it⟩ := wk
  refine for_it w (fun i σ' H' => ∃ ρ' n, EnvOk X.K (c.at n) ρ' σ' H' ∧ Step c ρ1 σ1 H1 ρ' σ' H' ∧ (forE (fun d ρ => bindT ρ tg d >>= fun ρ' => b ρ') (xs.drop i) ρ').run (Rq X.K c ρ1 σ1 H1 D) (XS X.K X.mg Wx c) n) ⟨ρ1, c.b, e1, Step.refl, q⟩ ?_ ?_ ?_
  · rintro i σ' H' _ ⟨ρ', _, _, s, _⟩
    exact gst _ _ s.ext g0
  · rintro i v σ' Hc H2 hi ⟨ρ', n, e', s, qc⟩ y
    obtain ⟨x2, i2, d, hd, rd⟩ := it i Hc v H2 (Nn c ρ' σ') hi (gst _ _ s.ext g0) s.ext (fun a z => ⟨s.new a z, e'.vc.kn a z⟩) y
    have i2 := i2 n e'.inv
    have hdrop : xs.drop i = d :: xs.drop (i + 1) := by
      obtain ⟨hlt, e⟩ := List.getElem?_eq_some_iff.mp hd
      rw [List.drop_eq_getElem_cons hlt, e]
    rw [hdrop] at qc
    have qc : (bindT ρ' tg d).run (fun ρ2 => (b ρ2).run (fun r => (Rz.go (forE (fun d ρ => bindT ρ tg d >>= fun ρ' => b ρ') (xs.drop (i + 1))) r).run (Rq X.K c ρ1 σ1 H1 D) (XS X.K X.mg Wx c)) (XS X.K X.mg Wx c)) (XS X.K X.mg Wx c) n := qc
    have e2 := e'.ext' x2 i2
    have s2 := s.trans (Step.of_vol e' x2).un
    refine bind_of e2 rd ((bindT ρ' tg d).mono (fun ρ2 _ q2 hb σ2 bd => ?_) (fun _ _ z => z) qc)
    subst hb
    have s3 := s2.trans (bound_step bd).un.un
    refine ⟨_, ρ2, bd.ok, (b ρ2).mono (fun r _ qr => ?_) (fun _ _ z => z) q2⟩
    cases r with
    | nx ρ3 => exact fun σ3 H3 st e3 => ⟨ρ3, _, e3, s3.trans st.un.un, qr⟩
    | rt d => exact qr
    | bk ρ3 => exact fun σ3 H3 st e3 => qr σ3 H3 (s3.trans st.un.un) e3
  · rintro σ' H' ⟨ρ', n, e', s, qc⟩
    rw [List.drop_length] at qc
    exact qc σ' H' s e'
theorem st_for {tgx x : Expr} {body : List Stmt} {tg : Tg} {mi : TM (List D)} {b : Ev → M Rz} (hp : PassesOwn (model X.prog X.w) X.A X.env X.xe) (hc : X.calm = true) (hi : PIr X Wx tgx x false mi) (hg : PG X tgx (gOf X.K tg)) (hb : PSsr X Wx body b) (hs : ∀ v, foldedSetIterable x X.env v = pure v) :
    PSr X Wx (.For tgx x body [] pos) fun ρ => mi ρ >>= fun xs => forE (fun d ρ => bindT ρ tg d >>= fun ρ' => b ρ') xs ρ := ps_imp (ps_for hp hc hi hg hb hs) fun D σ H q => by
  obtain ⟨c, ρ, e, q⟩ := q
  refine ⟨c, ρ, e, (mi ρ).mono (fun xs n q J H1 x i wk => ?_) (fun _ _ z => z.q e) q⟩
  exact for_core (c := c.at n) wk (e.ext' x i) ((forE _ xs ρ).mono (fun r _ q => q.later (Step.of_vol e x)) (fun _ _ z => z) q)
theorem st_whl {z : Expr} {body : List Stmt} {cm : TM D} {b : Ev → M Rz} (hp : PassesOwn (model X.prog X.w) X.A X.env X.xe) (hc : PTr X Wx z cm) (hb : PSsr X Wx body b) : PSr X Wx (.While z body [] pos) fun ρ => whE (fun ρ => cm ρ >>= asBool) b ρ := ps_imp (ps_while hp hc hb) fun D σ H q => by
  obtain ⟨c, ρ, e, n, q⟩ := q
  refine ⟨fun m σ' H' => ∃ ρ' k, EnvOk X.K (c.at k) ρ' σ' H' ∧ Step c ρ σ H ρ' σ' H' ∧ (whN (fun ρ => cm ρ >>= asBool) b m ρ').run (Rq X.K c ρ σ H D) (XS X.K X.mg Wx c) k, ⟨n, ρ, c.b, e, Step.refl, q⟩, ?_⟩
  rintro m σ' H' ⟨ρ', kb, e', s, q⟩
  cases m with
  | zero => exact q.elim
  | succ m =>
    have q : (cm ρ').run (fun d => (asBool d).run (fun k => (if k then b ρ' >>= Rz.go (whN (fun ρ => cm ρ >>= asBool) b m) else pure (.nx ρ')).run (Rq X.K c ρ σ H D) (XS X.K X.mg Wx c)) (XS X.K X.mg Wx c)) (XS X.K X.mg Wx c) kb := q
    refine ⟨_, ρ', e', (cm ρ').mono (fun d _ q => ?_) (fun _ _ z => z.q e') q⟩
    obtain ⟨k, rfl, q⟩ := asBool_run q
    refine ⟨k, rfl, fun H1 x i => ?_⟩
    have s1 := s.trans (Step.of_vol e' x).un
    cases k with
    | false => exact q σ' H1 s1 (e'.ext' x i)
    | true =>
      refine ⟨fun σ2 H2 => ∃ ρ2 k, EnvOk X.K (c.at k) ρ2 σ2 H2 ∧ Step c ρ σ H ρ2 σ2 H2 ∧ (whN (fun ρ => cm ρ >>= asBool) b m ρ2).run (Rq X.K c ρ σ H D) (XS X.K X.mg Wx c) k, fun σ2 H2 h => ⟨m, Nat.lt_succ_self m, h⟩, ?_⟩
      refine ⟨_, ρ', e'.ext' x i, (b ρ').mono (fun r _ qr => ?_) (fun _ _ z => z) q⟩
      cases r with
      | nx ρ3 => exact fun σ3 H3 st e3 => ⟨ρ3, _, e3, s1.trans st.un.un, qr⟩
      | rt d => exact qr
      | bk ρ3 => exact fun σ3 H3 st e3 => qr σ3 H3 (s1.trans st.un.un) e3
end
end Ad
namespace Ad
open PySem PySem.Calls PySem.W PySem.SeqAt PySem.Spec PyProof.Rows L2

section
variable {X : Cx} {Wx : WX} {pos : Pos}
/-! ### several targets -/
def setS : L2.St → List Nat → List V → L2.St
  | σ, i :: is, v :: vs => setS (σ.set i (some v)) is vs
  | σ, _, _ => σ
theorem setAllS_set {i : Nat} {x : Option V} : ∀ {is : List Nat} {vs : List V} {σ : L2.St}, i ∉ is → setAllS (σ.set i x) is vs = (setAllS σ is vs).set i x
  | [], _, _, _ => rfl
  | _ :: _, [], _, _ => rfl
  | j :: is, v :: vs, σ, h => by
    simp only [List.mem_cons, not_or] at h
    show (setAllS (σ.set i x) is vs).set j _ = ((setAllS σ is vs).set j _).set i x
    rw [setAllS_set h.2, List.set_comm _ _ h.1]
theorem setS_eq : ∀ {is : List Nat} {vs : List V} {σ : L2.St}, is.Nodup → setS σ is vs = setAllS σ is vs
  | [], _, _, _ => rfl
  | _ :: _, [], _, _ => rfl
  | i :: is, v :: vs, σ, h => by
    show setS (σ.set i (some v)) is vs = (setAllS σ is vs).set i (some v)
    rw [setS_eq (List.nodup_cons.mp h).2, setAllS_set (List.nodup_cons.mp h).1]
theorem gNames_setS {Q : L2.St → Hp → Prop} {H : Hp} : ∀ {is : List Nat} {vs : List V} {σ : L2.St}, is.length = vs.length → Q (setS σ is vs) H → gNames is vs σ H Q
  | [], [], _, _, h => ⟨rfl, h⟩
  | i :: is, v :: vs, σ, hl, h => ⟨v, vs, rfl, gNames_setS (by simpa using hl) h⟩
  | [], _ :: _, _, hl, _ => by simp at hl
  | _ :: _, [], _, hl, _ => by simp at hl
theorem Pend.lens {K : PySem.W.Frag} {ρ : Ev} {σ : L2.St} {H : Hp} {cf c : Cf} {fl : List Bool} {vs : List V} {ds : List D} (p : Pend K ρ σ H cf c fl vs ds) : vs.length = fl.length := by
  induction p with
  | nil _ => rfl
  | val _ _ ih => simp [ih]
  | own _ _ _ _ _ _ _ ih => simp [ih]
/-- all values there: the slots -/
theorem par_end {c : Cf} {ρ : Ev} {σ : L2.St} {H : Hp} {D : Ends} {is : List (Nat × Bool)} {ms : List (Bool × TM Ad.D)} (e : EnvOk X.K c ρ σ H) (hf : is.map (·.2) = ms.map (·.1))
    (q : (parM ms ρ >>= fun ds => pure (.nx (setAll ρ is ds)) : M Rz).run (Rq X.K c ρ σ H D) (XS X.K X.mg Wx c) c.b) :
    tAP X.K X.mg Wx ms σ H fun vs H1 => vs.length = is.length ∧ D.nx (setAllS σ (is.map (·.1)) vs) H1 ∧ ∀ p o, H1 p = none → D.nx (setAllS σ (is.map (·.1)) vs) (upd H1 p o) := by
  refine ⟨c, ρ, e, (parM ms ρ).mono (fun ds b q cf vs H' x i p hn => ?_) (fun _ _ z => z.q e) q⟩
  have hst : ∀ H'', Ext c.W.vol H' H'' → c.W.inv b H'' → D.nx (setAllS σ (is.map (·.1)) vs) H'' := fun H'' x2 i2 => by
    obtain ⟨e2, n2⟩ := (p.ext x2 i2).done is hf
    refine q _ _ ⟨(x.trans x2).wide e.vc.bv, fun a z => hn a (n2 a z)⟩ e2
  refine ⟨?_, hst _ (Ext.refl _) i, fun a o ha => ?_⟩
  · have := p.lens
    have h2 := congrArg List.length hf
    simp only [List.length_map] at h2 this
    omega
  · obtain ⟨p1, p2, _⟩ := ((e.ext' x i).vc).new (o := o) ha
    exact hst _ p1 p2
theorem st_par2 {i j : Nat} {o1 o2 : Bool} {x y : Str} {a b : Expr} {m1 m2 : TM D} {px py pt : Pos} {kt k2 : Nat} {pt2 : Pos} (hc : X.calm = true) (hN : X.N.Nodup) (hi : X.N[i]? = some x) (hj : X.N[j]? = some y) (hij : i ≠ j)
    (hx : X.env.scope.names.lookup x = some .local) (hy : X.env.scope.names.lookup y = some .local) (ha : PA X [a, b] (tAP X.K X.mg Wx [(o1, m1), (o2, m2)]))
    (hw : swappedStores [.Tuple [.Name x px, .Name y py] kt pt] (.Tuple [a, b] k2 pt2) X.env = pure (some [x, y])) (hs : swapsWithSole [.Tuple [.Name x px, .Name y py] kt pt] (.Tuple [a, b] k2 pt2) pos.line X.env = pure false) :
    PSr X Wx (.Assign [.Tuple [.Name x px, .Name y py] kt pt] (.Tuple [a, b] k2 pt2) pos) fun ρ => parM [(o1, m1), (o2, m2)] ρ >>= fun ds => pure (.nx (setAll ρ [(i, o1), (j, o2)] ds)) :=
  ps_imp (ps_par hc hN hi hj hij hx hy ha hw hs) fun D σ H q => by
    obtain ⟨c, ρ, e, q⟩ := q
    obtain ⟨c', ρ', e', h⟩ := par_end (is := [(i, o1), (j, o2)]) e rfl q
    refine ⟨c', ρ', e', (parM _ ρ').mono (fun ds _ q cf vs H' x i p hn => ?_) (fun _ _ z => z) h⟩
    obtain ⟨hl, q, _⟩ := q cf vs H' x i p hn
    match vs, hl, q with
    | [v, w], _, q =>
      refine ⟨v, w, rfl, ?_⟩
      rw [List.set_comm _ _ hij]
      exact q
theorem st_par3 {i j l : Nat} {o1 o2 o3 : Bool} {x y z : Str} {a b d : Expr} {m1 m2 m3 : TM D} {px py pz pt : Pos} {kt k2 : Nat} {pt2 : Pos} (hc : X.calm = true) (hN : X.N.Nodup) (hi : X.N[i]? = some x) (hj : X.N[j]? = some y) (hl : X.N[l]? = some z) (hij : i ≠ j) (hil : i ≠ l) (hjl : j ≠ l)
    (hx : X.env.scope.names.lookup x = some .local) (hy : X.env.scope.names.lookup y = some .local) (hz : X.env.scope.names.lookup z = some .local) (ha : PA X [a, b, d] (tAP X.K X.mg Wx [(o1, m1), (o2, m2), (o3, m3)]))
    (hw : swappedStores [.Tuple [.Name x px, .Name y py, .Name z pz] kt pt] (.Tuple [a, b, d] k2 pt2) X.env = pure (some [x, y, z])) (hs : swapsWithSole [.Tuple [.Name x px, .Name y py, .Name z pz] kt pt] (.Tuple [a, b, d] k2 pt2) pos.line X.env = pure false) :
    PSr X Wx (.Assign [.Tuple [.Name x px, .Name y py, .Name z pz] kt pt] (.Tuple [a, b, d] k2 pt2) pos) fun ρ => parM [(o1, m1), (o2, m2), (o3, m3)] ρ >>= fun ds => pure (.nx (setAll ρ [(i, o1), (j, o2), (l, o3)] ds)) := by
  have hnd : [i, j, l].Nodup := by simp [hij, hil, hjl]
  exact ps_imp (ps_par3 hc hN hi hj hl hij hil hjl hx hy hz ha hw hs) fun D σ H q => by
    obtain ⟨c, ρ, e, q⟩ := q
    obtain ⟨c', ρ', e', h⟩ := par_end (is := [(i, o1), (j, o2), (l, o3)]) e rfl q
    refine ⟨c', ρ', e', (parM _ ρ').mono (fun ds _ q cf vs H' x i p hn => ?_) (fun _ _ z => z) h⟩
    obtain ⟨hl, q, _⟩ := q cf vs H' x i p hn
    match vs, hl, q with
    | [u, v, w], _, q =>
      refine ⟨u, v, w, rfl, ?_⟩
      have e1 := setS_eq (σ := σ) (vs := [u, v, w]) hnd
      exact (congrArg (fun s => D.nx s H') e1).mpr q
theorem st_parT {is : List (Nat × Bool)} {ts es : List Expr} {ms : List (Bool × TM D)} {pt pt2 : Pos} {kt k2 : Nat} (hc : X.calm = true) (hn : (is.map (·.1)).Nodup) (hf : is.map (·.2) = ms.map (·.1)) (hz : ms.length ≤ 100) (hg : PG X (.Tuple ts kt pt) (gOf X.K (.t (is.map (·.1))))) (ha : PA X es (tAP X.K X.mg Wx ms))
    (hw : swappedStores [.Tuple ts kt pt] (.Tuple es k2 pt2) X.env = pure none) (hs : swapsWithSole [.Tuple ts kt pt] (.Tuple es k2 pt2) pos.line X.env = pure false) (h1 : (assignEach [.Tuple ts kt pt] X.env).map (·.2) = [assign (.Tuple ts kt pt) X.env]) :
    PSr X Wx (.Assign [.Tuple ts kt pt] (.Tuple es k2 pt2) pos) fun ρ => parM ms ρ >>= fun ds => pure (.nx (setAll ρ is ds)) :=
  ps_imp (ps_asg (pe_tup ha) hg hs hw h1) fun D σ H q => by
    obtain ⟨c, ρ, e, q⟩ := q
    obtain ⟨c', ρ', e', h⟩ := par_end (is := is) e hf q
    refine ⟨c', ρ', e', (parM _ ρ').mono (fun ds _ q cf vs H' x i p hn' => ?_) (fun _ _ z => z) h⟩
    obtain ⟨hl, _, q⟩ := q cf vs H' x i p hn'
    have h3 := congrArg List.length hf
    simp only [List.length_map] at h3
    refine ⟨by rw [sizeLine_eq]; omega, fun a ha => ?_⟩
    refine .inl ⟨a, vs, rfl, SqT.of upd_same, by simp [hl], gNames_setS (by simp [hl]) ?_⟩
    rw [setS_eq hn]
    exact q a _ ha
/-! ### the rest -/
variable {w : Nat} {wn : Str} {wp apos cpos spos : Pos}
/-- w[i] = e -/
theorem st_setI {x y : Expr} {m mi : TM D} {tpos : Pos} (n : NameW X w wn) (hx : PEr X Wx x m) (hy : PEr X Wx y mi) (hns : notSlice y = true) (hs : swapsWithSole [.Subscript (.Name wn wp) y tpos] x pos.line X.env = pure false) (hw : swappedStores [.Subscript (.Name wn wp) y tpos] x X.env = pure none) :
    PSr X Wx (.Assign [.Subscript (.Name wn wp) y tpos] x pos) fun ρ => m ρ >>= fun d => lookO ρ w >>= fun xs => mi ρ >>= fun j => asInt j >>= fun k => oget (L2.ixN xs.length k) >>= fun n => pure (.nx (setO ρ w (xs.set n d))) :=
  ps_imp (ps_asg hx (pg_sub n.pe hy set_list fun v => by cases y <;> first | rfl | exact absurd hns (by simp [notSlice])) hs hw rfl) fun D σ H q => by
    obtain ⟨c, ρ, e, q⟩ := q
    refine tE_in e q fun d _ q v H1 x1 i1 r => ?_
    have e1 := e.ext' x1 i1
    obtain ⟨ds, hw, q⟩ := lookO_run q
    obtain ⟨a, vs, h1, h2, h3, h4, h5⟩ := own_var e1 hw
    refine ⟨.ref a, h1, tE_in e1 q fun j _ q u H2 x2 i2 ru => ?_⟩
    obtain ⟨k, rfl, q⟩ := asInt_run q
    obtain ⟨jn, hj, q⟩ := oget_run q
    cases ru
    have e2 := e1.ext' x2 i2
    obtain ⟨a', vs', h1', h2', h3', h4', _⟩ := own_var e2 hw
    rw [h1] at h1'
    cases h1'
    obtain ⟨e3, s⟩ := write_step e2 hw h1 (by rw [List.length_set]; exact h3') (h4'.set (r.ext (x2.wide e.vc.bv)) jn)
    exact ⟨a, vs', k, jn, rfl, rfl, h2', by rw [h4'.length]; exact hj, q _ _ ((Step.of_vol e (x1.trans x2)).trans s.un.un) e3⟩
/-- for .. in a[w.pop()] -/
theorem st_forPop {tgx x : Expr} {body : List Stmt} {tg : Tg} {m : TM D} {b : Ev → M Rz} {fp : Pos} (hp : PassesOwn (model X.prog X.w) X.A X.env X.xe) (hc : X.calm = true) (n : NameW X w wn) (hx : PEr X Wx x m) (hg : PG X tgx (gOf X.K tg)) (hb : PSsr X Wx body b) (hline : (apos.endLine == cpos.line) = true) :
    PSr X Wx (.For tgx (.Subscript x (.Call (.Attribute (.Name wn wp) "pop" apos) [] [] cpos) spos) body [] fp) fun ρ => lookO ρ w >>= fun ys => m ρ >>= fun d => oget ys[ys.length - 1]? >>= fun y => ixD d y >>= fun s => walked s >>= fun xs => forE (fun d ρ => bindT ρ tg d >>= fun ρ' => b ρ') xs (setO ρ w ys.dropLast) :=
  ps_imp (ps_for hp hc (pi_any (pe_ix ix_seq hx (pe_bm0 PySem.F.plainAttrs_list PySem.F.slot_list_pop PySem.F.type_list_pop mt_pop n.pe (sup_ok rfl _ _ _) hline) (slice_ok rfl))) hg hb fun _ => rfl) fun D σ H q => by
    obtain ⟨c, ρ, e, q⟩ := q
    obtain ⟨ds, hw, q⟩ := lookO_run q
    refine tE_in e q fun d _ q v H1 x1 i1 r => ?_
    have e1 := e.ext' x1 i1
    obtain ⟨y, hd, q⟩ := oget_run q
    obtain ⟨a, vs, h1, h2, h3, h4, h5⟩ := own_var e1 hw
    obtain ⟨u, hv, ru⟩ := oget_last h4 hd
    obtain ⟨e2, s⟩ := write_step e1 hw h1 (by rw [List.length_dropLast]; omega) h4.dropLast
    refine ⟨.ref a, h1, h5, a, vs, u, rfl, rfl, h2, hv, ?_⟩
    have r2 : Rep X.K c.W (Nn c (setO ρ w ds.dropLast) σ) (upd H1 a (.lst vs.dropLast)) v d := (r.ext s.ext).anti fun x => (nn_setO hw x).mp
    have ru2 : Rep X.K c.W (Nn c (setO ρ w ds.dropLast) σ) (upd H1 a (.lst vs.dropLast)) u y := (ru.ext s.ext).anti fun x => (nn_setO hw x).mp
    refine val_ix e2.vc (.inl r2) (.inl ru2) (R := XS X.K X.mg Wx c) ((ixD d y).mono (fun s' n2 q v' H2 x2 i2 r' => ?_) (fun _ _ z => z) q)
    have e3 := e2.ext' x2 i2
    have st := ((Step.of_vol e x1).trans s.un).trans (Step.of_vol e2 x2).un
    have go : ∀ {J : It} {xs : List Ad.D}, WalkD X.K c.W (Nn c (setO ρ w ds.dropLast) σ) (Nn c (setO ρ w ds.dropLast) σ) H2 J xs → (forE (fun d ρ => bindT ρ tg d >>= fun ρ' => b ρ') xs (setO ρ w ds.dropLast)).run (Rq X.K c ρ σ H D) (XS X.K X.mg Wx c) n2 → _ :=
      fun {J xs} wk q => for_core (c := c.at n2) wk e3 ((forE _ xs _).mono (fun r _ q => q.later st) (fun _ _ z => z) q)
    rcases walked_run q with ⟨xs, hd, q⟩ | ⟨z, rfl, q⟩
    · rcases hd with rfl | rfl
      · cases r' with
        | lst g1 g2 g3 g4 => exact .inl ⟨_, _, rfl, SqL.of g1, go (WalkD.list (fun _ z => z) g1 g2 g4) q⟩
      · obtain ⟨a', vs', rfl, g1, g2, g3, g4⟩ := RepB.tup (.inl r')
        exact .inr (.inl ⟨a', vs', rfl, g1, go (WalkD.tup (fun _ z => z) g2 g4) q⟩)
    · cases r'
      exact .inr (.inr ⟨z, rfl, go WalkD.str q⟩)
/-- w.append(u.pop(e)) -/
theorem st_appPop {u : Nat} {un : Str} {up apos2 cpos2 : Pos} {x : Expr} {m : TM D} (n : NameW X w wn) (n2 : NameW X u un) (hx : PEr X Wx x m) (hst : notStar x = true) (hline : (apos.endLine == cpos.line) = true) (hline2 : (apos2.endLine == cpos2.line) = true) :
    PSr X Wx (.Expr (.Call (.Attribute (.Name wn wp) "append" apos) [.Call (.Attribute (.Name un up) "pop" apos2) [x] [] cpos2] [] cpos) spos) fun ρ => lookO ρ w >>= fun xs => lookO ρ u >>= fun ys => m ρ >>= fun d => asInt d >>= fun i => M.grd (0 ≤ i ∧ i < ys.length ∧ w ≠ u) >>= fun _ => oget ys[i.toNat]? >>= fun y => M.grd (xs.length < sizeLine) >>= fun _ => pure (.nx (setO (setO ρ u (ys.eraseIdx i.toNat)) w (xs ++ [y]))) :=
  ps_imp (ps_expr (pe_bm PySem.F.plainAttrs_list PySem.F.slot_list_append PySem.F.type_list_append mt_append n.pe
    (pa_cons (pe_bm PySem.F.plainAttrs_list PySem.F.slot_list_pop PySem.F.type_list_pop mt_popAt n2.pe (pa_cons hx pa_nil (star_ok hst _ _)) (sup_ok rfl _ _ _) (few_ok (by simp [hst]) (by simp)) hline2 (star_ok hst _ _) (star_any rfl _ _)) pa_nil (star_ok rfl _ _)) (sup_ok rfl _ _ _) (few_ok rfl (by simp)) hline (star_ok rfl _ _) (star_any rfl _ _)) rfl) fun D σ H q => by
    obtain ⟨c, ρ, e, q⟩ := q
    obtain ⟨ds, hw, q⟩ := lookO_run q
    obtain ⟨es, hu, q⟩ := lookO_run q
    obtain ⟨a, vs, h1, h2, h3, h4, h5⟩ := own_var e hw
    obtain ⟨b, ws, g1, g2, g3, g4, g5⟩ := own_var e hu
    refine ⟨.ref a, h1, h5, .ref b, g1, g5, tE_in e q fun d _ q v H1 x1 i1 r => ?_⟩
    obtain ⟨i, rfl, ⟨q1, q2, q3⟩, q⟩ := asInt_run q
    cases r
    obtain ⟨y, hy, hz, q⟩ := oget_run q
    have e1 := e.ext' x1 i1
    obtain ⟨b', ws', g1', g2', g3', g4', _⟩ := own_var e1 hu
    rw [g1] at g1'
    cases g1'
    have hl := g4'.length
    have hs := sizeLine_eq
    have hlt : i.toNat < ws'.length := by omega
    obtain ⟨yv, hyv, ry⟩ := g4'.get hy
    obtain ⟨e2, s2⟩ := write_step e1 hu g1 (by rw [List.length_eraseIdx]; split <;> omega) (g4'.eraseIdx i.toNat)
    refine ⟨b, ws', i, i.toNat, yv, rfl, rfl, g2', by omega, by omega, PySem.StrLaws.seqIndex_nonneg q1 (by omega), hyv, ?_⟩
    have hw2 : (setO ρ u (es.eraseIdx i.toNat))[w]? = some (some (.list ds, true)) := by
      unfold setO
      rw [set_ne (fun z => q3 z.symm)]
      exact hw
    obtain ⟨a', vs', k1, k2, k3, k4, _⟩ := own_var e2 hw2
    rw [h1] at k1
    cases k1
    have hl2 := k4.length
    have hz : ds.length < sizeLine := hz
    obtain ⟨e3, s3⟩ := write_step e2 hw2 h1 (by rw [List.length_append]; exact hz) (k4.append (.cons ((ry.ext s2.ext).anti fun x => (nn_setO hu x).mp) .nil))
    exact ⟨a, vs', yv, rfl, rfl, k2, by rw [hl2]; exact hz, q _ _ (((Step.of_vol e x1).trans s2.un).trans s3.un) e3⟩
/-- w.append(w.pop(e)) -/
theorem st_rot {up apos2 cpos2 : Pos} {x : Expr} {m : TM D} (n : NameW X w wn) (hx : PEr X Wx x m) (hst : notStar x = true) (hline : (apos.endLine == cpos.line) = true) (hline2 : (apos2.endLine == cpos2.line) = true) :
    PSr X Wx (.Expr (.Call (.Attribute (.Name wn wp) "append" apos) [.Call (.Attribute (.Name wn up) "pop" apos2) [x] [] cpos2] [] cpos) spos) fun ρ => lookO ρ w >>= fun xs => m ρ >>= fun d => asInt d >>= fun i => M.grd (0 ≤ i ∧ i < xs.length) >>= fun _ => oget xs[i.toNat]? >>= fun y => pure (.nx (setO ρ w (xs.eraseIdx i.toNat ++ [y]))) :=
  ps_imp (ps_expr (pe_bm PySem.F.plainAttrs_list PySem.F.slot_list_append PySem.F.type_list_append mt_append n.pe
    (pa_cons (pe_bm PySem.F.plainAttrs_list PySem.F.slot_list_pop PySem.F.type_list_pop mt_popAt n.pe (pa_cons hx pa_nil (star_ok hst _ _)) (sup_ok rfl _ _ _) (few_ok (by simp [hst]) (by simp)) hline2 (star_ok hst _ _) (star_any rfl _ _)) pa_nil (star_ok rfl _ _)) (sup_ok rfl _ _ _) (few_ok rfl (by simp)) hline (star_ok rfl _ _) (star_any rfl _ _)) rfl) fun D σ H q => by
    obtain ⟨c, ρ, e, q⟩ := q
    obtain ⟨es, hu, q⟩ := lookO_run q
    obtain ⟨b, ws, g1, g2, g3, g4, g5⟩ := own_var e hu
    refine ⟨.ref b, g1, g5, .ref b, g1, g5, tE_in e q fun d _ q v H1 x1 i1 r => ?_⟩
    obtain ⟨i, rfl, ⟨q1, q2⟩, q⟩ := asInt_run q
    cases r
    obtain ⟨y, hy, q⟩ := oget_run q
    have e1 := e.ext' x1 i1
    obtain ⟨b', ws', g1', g2', g3', g4', _⟩ := own_var e1 hu
    rw [g1] at g1'
    cases g1'
    have hl := g4'.length
    have hs := sizeLine_eq
    have hlt : i.toNat < ws'.length := by omega
    obtain ⟨yv, hyv, ry⟩ := g4'.get hy
    obtain ⟨e2, s2⟩ := write_step e1 hu g1 (by rw [List.length_eraseIdx]; split <;> omega) (g4'.eraseIdx i.toNat)
    refine ⟨b, ws', i, i.toNat, yv, rfl, rfl, g2', by omega, by omega, PySem.StrLaws.seqIndex_nonneg q1 (by omega), hyv, ?_⟩
    have hw2 : (setO ρ w (es.eraseIdx i.toNat))[w]? = some (some (.list (es.eraseIdx i.toNat), true)) := by
      unfold setO
      rw [List.getElem?_set, if_pos rfl, if_pos (List.getElem?_eq_some_iff.mp hu).1]
    obtain ⟨a', vs', k1, k2, k3, k4, _⟩ := own_var e2 hw2
    rw [g1] at k1
    cases k1
    have hl2 := k4.length
    have hel : (es.eraseIdx i.toNat).length + 1 = es.length := by
      rw [List.length_eraseIdx, if_pos (by omega)]
      omega
    obtain ⟨e3, s3⟩ := write_step e2 hw2 g1 (by rw [List.length_append]; show (es.eraseIdx i.toNat).length + 1 ≤ _; omega) (k4.append (.cons ((ry.ext s2.ext).anti fun x => (nn_setO hu x).mp) .nil))
    have e4 : setO (setO ρ w (es.eraseIdx i.toNat)) w (es.eraseIdx i.toNat ++ [y]) = setO ρ w (es.eraseIdx i.toNat ++ [y]) := List.set_set ..
    rw [e4] at e3 s3
    exact ⟨b, vs', yv, rfl, rfl, k2, by omega, q _ _ (((Step.of_vol e x1).trans s2.un).trans s3.un) e3⟩
/-- w.remove(e) -/
def rRemD (K : PySem.W.Frag) : V → List V → Hp → VK → Prop := fun x vs H Q => ∃ (l : Addr) (y : V) (xs : List V) (W : Wd) (N : Addr → Prop) (ds : List D) (d : D) (j : Nat), x = .ref l ∧ vs = [y] ∧ H l = some (.lst xs) ∧ RepL K W N H xs ds ∧ RepB K W N H y d ∧ (eqOk d ∧ eqOk (.list ds)) ∧
  (ds.findIdx? fun z => PyData.eqv z d) = some j ∧ Q .non (upd H l (.lst (xs.eraseIdx j)))
theorem mt_removeD (hu : X.A.units + 66 < cLine) : MtR X "list.remove" (rRemD X.K) := by
  intro pins s σ H x vs v us Q I rx rv h
  obtain ⟨l, y, xs, W, N, ds, d, j, rfl, rfl, hH, rl, ry, ⟨od, oz⟩, hj, q⟩ := h
  cases rx
  obtain ⟨u, rfl, ru⟩ := rv.one
  obtain ⟨z, its, n, r, hl, e⟩ := I.lstM hH
  have hpl : ∀ z, z ∈ ds → z.plain = true := plainAll_mem oz.1
  obtain ⟨as, ra⟩ := RepL.reads' I hpl rl r
  obtain ⟨bs, rb, _⟩ := ry.reads I (okD_plain _ od.1) ru
  have hm := Nat.min_le_right (PyData.depthAll ds) d.depth
  have hd := od.2
  refine SeqAt.remove_list_data (j := j) (vs := its.toArray) ⟨_, e, rfl, n, rfl⟩ (by rw [List.toList_toArray]; exact ra) rb oz.1 od.1 (by omega) hj ?_ ?_
  · rw [List.size_toArray, ← hl]
    exact z
  · refine ⟨.non, _, I.lset (its' := its.eraseIdx j) hH e ?_ (r.eraseIdx j) ?_, rfl, q⟩
    · rw [List.eraseIdxIfInBounds_toArray]
    · rw [List.length_eraseIdx]
      split <;> omega
theorem st_rem {x : Expr} {m : TM D} (hu : X.A.units + 66 < cLine) (n : NameW X w wn) (hx : PEr X Wx x m) (hst : notStar x = true) (hline : (apos.endLine == cpos.line) = true) :
    PSr X Wx (.Expr (.Call (.Attribute (.Name wn wp) "remove" apos) [x] [] cpos) spos) fun ρ => lookO ρ w >>= fun xs => m ρ >>= fun d => M.grd (eqOk d ∧ eqOk (.list xs)) >>= fun _ => oget (xs.findIdx? fun z => PyData.eqv z d) >>= fun j => pure (.nx (setO ρ w (xs.eraseIdx j))) :=
  ps_imp (ps_expr (pe_bm PySem.F.plainAttrs_list PySem.F.slot_list_remove PySem.F.type_list_remove (mt_removeD hu) n.pe (pa_cons hx pa_nil (star_ok hst _ _)) (sup_ok rfl _ _ _) (few_ok (by simp [hst]) (by simp)) hline (star_ok hst _ _) (star_any rfl _ _)) rfl) fun D σ H q => by
    obtain ⟨c, ρ, e, q⟩ := q
    obtain ⟨ds, hw, q⟩ := lookO_run q
    obtain ⟨a, vs, h1, h2, h3, h4, h5⟩ := own_var e hw
    refine ⟨.ref a, h1, h5, tE_in e q fun d _ q v H' x i r => ?_⟩
    have e' := e.ext' x i
    obtain ⟨a', vs', h1', h2', h3', h4', _⟩ := own_var e' hw
    rw [h1] at h1'
    cases h1'
    obtain ⟨g, q⟩ := q
    obtain ⟨j, hj, q⟩ := oget_run q
    have hl := h4'.length
    obtain ⟨e2, s⟩ := write_step e' hw h1 (by rw [List.length_eraseIdx]; split <;> omega) (h4'.eraseIdx j)
    exact ⟨a, v, vs', _, _, ds, d, j, rfl, rfl, h2', h4', .inl r, g, hj, q _ _ ((Step.of_vol e x).trans s.un) e2⟩
end
end Ad
namespace Ad
open PySem PySem.Calls PySem.W PySem.SeqAt PySem.Spec PyProof.Rows L2

/-! ### the deck of a law -/
section
variable {X : Cx} {Wx : WX} {pos : Pos}
theorem look_run {K : PySem.W.Frag} {c : Cf} {ρ : Ev} {σ : L2.St} {H : Hp} {i : Nat} {Q : D → Nat → Prop} {R : XV → Nat → Prop} {b : Nat} (e : EnvOk K c ρ σ H) (h : (look ρ i).run Q R b) : ∃ d v, Q d b ∧ σ[i]? = some (some v) ∧ Rep K c.W (Nn c ρ σ) H v d := by
  unfold look at h
  split at h
  · obtain ⟨v, h1, h2⟩ := e.val _ _ ‹_›
    exact ⟨_, v, h, h1, h2⟩
  · exact h.elim
theorem volL_run {K : PySem.W.Frag} {W : Wd} {N : Addr → Prop} {H : Hp} {d : D} {v : V} {Q : Bool × Int → Nat → Prop} {R : XV → Nat → Prop} {b : Nat} (r : Rep K W N H v d) (h : (volL d).run Q R b) : ∃ t a, v = .ref a ∧ W.vl t = some a ∧ Q (t, (W.len : Nat)) b := by
  unfold volL at h
  split at h
  · cases r with
    | vls h1 => exact ⟨_, _, rfl, h1, h⟩
  · exact h.elim
theorem deck_rep {K : PySem.W.Frag} {W : Wd} {N : Addr → Prop} {H : Hp} {d : D} {v : V} (r : Rep K W N H v d) (h : isDeck d = true) : ∃ a, v = .ref a ∧ W.dk = some a := by
  unfold isDeck at h
  split at h
  · cases r with
    | dck h1 => exact ⟨_, rfl, h1⟩
  · cases h
theorem s_vlen {i : Nat} {x : Str} {p p2 : Pos} (hg : Gl X "len") (hm : X.mg "len" = none) (hp : PE X (.Name x p2) (tVar i)) : PEr X Wx (.Call (.Name "len" p) [.Name x p2] [] pos) (dE (.vlen i)) :=
  pe_imp (pe_callB call_len hg hm boot_len (pa_cons hp pa_nil rfl) (by decide) (by decide) rfl rfl) fun σ H Q q => by
    obtain ⟨c, ρ, e, q⟩ := q
    have q : (look ρ i).run (fun d => (volL d).run (fun p => VQ X.K c.W (Nn c ρ σ) H Q (.int p.2)) (XQ X.K X.mg Wx c ρ σ H)) (XQ X.K X.mg Wx c ρ σ H) c.b := q
    obtain ⟨d, v, q, h1, h2⟩ := look_run e q
    obtain ⟨t, a, rfl, h3, q⟩ := volL_run h2 q
    obtain ⟨ns, h4, h5⟩ := c.W.vlk _ H t a e.inv h3
    exact ⟨.ref a, h1, .ref a, c.W.len, rfl, .inl ⟨_, SqL.of h4, by rw [List.length_map, h5]⟩, e.vc.vint q⟩
theorem s_vg {i : Nat} {x : Str} {y : Expr} {ei : E} {p2 : Pos} (hp : PE X (.Name x p2) (tVar i)) (hy : PEr X Wx y (dE ei)) (hs : notSlice y = true) : PEr X Wx (.Subscript (.Name x p2) y pos) (dE (.vg i ei)) :=
  pe_imp (pe_ix ix_seq hp hy (slice_ok hs)) fun σ H Q q => by
    obtain ⟨c, ρ, e, q⟩ := q
    have q : (look ρ i).run (fun d => (volL d).run (fun p => (dE ei ρ).run (fun x => (asInt x).run (fun j b => (0 ≤ j ∧ j < p.2) ∧ ∀ k, VQ X.K c.W (Nn c ρ σ) H Q (.int k) b) (XQ X.K X.mg Wx c ρ σ H)) (XQ X.K X.mg Wx c ρ σ H)) (XQ X.K X.mg Wx c ρ σ H)) (XQ X.K X.mg Wx c ρ σ H) c.b := q
    obtain ⟨d, v, q, h1, h2⟩ := look_run e q
    obtain ⟨t, a, rfl, h3, q⟩ := volL_run h2 q
    refine ⟨.ref a, h1, c, ρ, e, (dE ei ρ).mono (fun d n q u H2 x2 i2 r2 => ?_) (fun _ _ z => z) q⟩
    obtain ⟨j, rfl, ⟨g1, g2⟩, q⟩ := asInt_run q
    cases r2
    have e2 := e.ext' x2 i2
    obtain ⟨ns, h4, h5⟩ := c.W.vlk _ H2 t a i2 h3
    have hlt : j.toNat < ns.length := by omega
    refine .inl ⟨a, _, j, .int ns[j.toNat], rfl, rfl, SqL.of h4, ?_, e2.vc.vint fun v H' x' i' r => q _ v H' (x2.trans x') i' r⟩
    unfold L2.atI ixN
    rw [List.length_map, h5, if_pos g1, if_pos g2]
    show (ns.map V.int)[j.toNat]? = _
    rw [List.getElem?_map, List.getElem?_eq_getElem hlt]
    rfl
theorem st_dkUn {w ic it ir : Nat} {wn : Str} {wp pt : Pos} {ts : List Expr} {k : Nat} (hc : X.calm = true) (n : NameW X w wn) (hg : PGs X ts (gNames [ic, it, ir])) (hn : (assignEach ts X.env).length = 3) (hst : (assignEach ts X.env).findIdx? (·.1) = none) :
    PSr X Wx (.Assign [.Tuple ts k pt] (.Name wn wp) pos) (dS (.dkUn ic it ir w)) :=
  ps_imp (ps_asg n.pe (pg_lst hc hg hn hst) rfl rfl rfl) fun D σ H q => by
    obtain ⟨c, ρ, e, q⟩ := q
    have q : (look ρ w).run (fun d b => isDeck d = true ∧ ∀ (L : Nat) (t : Int), 0 < L → L ≤ 63 → 0 ≤ t → t + b ≤ 4294967296 → Rq X.K c ρ σ H D (.nx (((ρ.set ic (some (volD false L, false))).set it (some (.int t, false))).set ir (some (volD true L, false)))) b) (XS X.K X.mg Wx c) c.b := q
    obtain ⟨d, v, ⟨hd, q⟩, h1, h2⟩ := look_run e q
    obtain ⟨a, rfl, h3⟩ := deck_rep h2 hd
    obtain ⟨c1, r1, t, h4, h5, h6, h7, h8⟩ := c.W.dkk _ H a e.inv h3
    refine ⟨.ref a, h1, a, _, rfl, SqL.of h4, rfl, ?_⟩
    refine bind_names (is := [ic, it, ir]) (ds := [volD false c.W.len, .int t, volD true c.W.len]) rfl e (.cons (.vls h5) (.cons (.int t) (.cons (.vls h6) .nil))) fun σ1 b => ?_
    exact q c.W.len t c.W.pos.1 c.W.pos.2 h7 h8 σ1 H (bound_step b) b.ok
theorem vol_write {c : Cf} {ρ : Ev} {σ : L2.St} {H : Hp} {a : Addr} {o : HO} {n : Nat} (e : EnvOk X.K c ρ σ H) (hv : c.W.vol a) (i : c.W.inv n (upd H a o)) : EnvOk X.K (c.at n) ρ σ (upd H a o) ∧ Ext c.W.vol H (upd H a o) := by
  have x : Ext c.W.vol H (upd H a o) := Ext.write hv
  exact ⟨e.ext' x i, x⟩
theorem st_dkInc {w : Nat} {wn : Str} {wp tpos cp : Pos} {k : Nat} {v : Expr} {ev : E} (n : NameW X w wn) (hv : PEr X Wx v (dE ev)) (hs : swapsWithSole [.Subscript (.Name wn wp) (.Constant (.int 1) k cp) tpos] v pos.line X.env = pure false) (hw : swappedStores [.Subscript (.Name wn wp) (.Constant (.int 1) k cp) tpos] v X.env = pure none) :
    PSr X Wx (.Assign [.Subscript (.Name wn wp) (.Constant (.int 1) k cp) tpos] v pos) (dS (.dkInc w ev)) :=
  ps_imp (ps_asg hv (pg_sub n.pe pe_int set_list fun _ => rfl) hs hw rfl) fun D σ H q => by
    obtain ⟨c, ρ, e, q⟩ := q
    have q : (dE ev ρ).run (fun x => (asInt x).run (fun v => (look ρ w).run (fun d b => isDeck d = true ∧ 0 < b ∧ 0 ≤ v ∧ v + (b - 1 : Nat) ≤ 4294967296 ∧ Rq X.K c ρ σ H D (.nx ρ) (b - 1)) (XS X.K X.mg Wx c)) (XS X.K X.mg Wx c)) (XS X.K X.mg Wx c) c.b := q
    refine tE_in e q fun d b q u H1 x1 i1 r => ?_
    obtain ⟨j, rfl, q⟩ := asInt_run q
    cases r
    have e1 := e.ext' x1 i1
    obtain ⟨d, v, ⟨hd, hb, hv0, hle, q⟩, h1, h2⟩ := look_run e1 q
    obtain ⟨a, rfl, h3⟩ := deck_rep h2 hd
    obtain ⟨c1, r1, t, h4, h5, h6, h7, h8⟩ := c.W.dkk _ H1 a i1 h3
    have inv' := c.W.dkw b (b - 1) H1 a c1 r1 t j i1 h3 h4 hv0 hle
    obtain ⟨e2, x2⟩ := vol_write e1 (c.W.dkv a h3) inv'
    refine ⟨.ref a, h1, a, _, 1, 1, rfl, rfl, h4, rfl, ?_⟩
    exact q σ _ (Step.of_vol e (x1.trans x2)) e2
theorem st_vset {i : Nat} {wn : Str} {wp tpos : Pos} {y v : Expr} {ej ev : E} (n : NameW X i wn) (hy : PEr X Wx y (dE ej)) (hv : PEr X Wx v (dE ev)) (hns : notSlice y = true) (hs : swapsWithSole [.Subscript (.Name wn wp) y tpos] v pos.line X.env = pure false) (hw : swappedStores [.Subscript (.Name wn wp) y tpos] v X.env = pure none) :
    PSr X Wx (.Assign [.Subscript (.Name wn wp) y tpos] v pos) (dS (.vset i ej ev)) :=
  ps_imp (ps_asg hv (pg_sub n.pe hy set_list fun v => by cases y <;> first | rfl | exact absurd hns (by simp [notSlice])) hs hw rfl) fun D σ H q => by
    obtain ⟨c, ρ, e, q⟩ := q
    have q : (dE ev ρ).run (fun x => (asInt x).run (fun v => (look ρ i).run (fun d => (volL d).run (fun p b => p.1 = true ∧ (dE ej ρ).run (fun y => (asInt y).run (fun k b => (0 ≤ k ∧ k < p.2) ∧ Rq X.K c ρ σ H D (.nx ρ) b) (XS X.K X.mg Wx c)) (XS X.K X.mg Wx c) b) (XS X.K X.mg Wx c)) (XS X.K X.mg Wx c)) (XS X.K X.mg Wx c)) (XS X.K X.mg Wx c) c.b := q
    refine tE_in e q fun d b q u H1 x1 i1 r => ?_
    obtain ⟨vj, rfl, q⟩ := asInt_run q
    cases r
    have e1 := e.ext' x1 i1
    obtain ⟨d, u, q, h1, h2⟩ := look_run e1 q
    obtain ⟨t, a, rfl, h3, ht, q⟩ := volL_run h2 q
    have ht : t = true := ht
    subst ht
    refine ⟨.ref a, h1, _, ρ, e1, (dE ej ρ).mono (fun d n q u H2 x2 i2 r2 => ?_) (fun _ _ z => XQ.later x1 (z.q e)) q⟩
    obtain ⟨k, rfl, ⟨g1, g2⟩, q⟩ := asInt_run q
    cases r2
    obtain ⟨ns, h4, h5⟩ := c.W.vlk _ H2 true a i2 h3
    have hk : ixN (ns.map V.int).length k = some k.toNat := by
      unfold ixN
      rw [List.length_map, h5, if_pos g1, if_pos g2]
    have hset : (ns.map V.int).set k.toNat (.int vj) = (ns.set k.toNat vj).map V.int := by rw [List.map_set]
    have inv' := c.W.vlw _ H2 a (ns.set k.toNat vj) i2 h3 (by rw [List.length_set, h5])
    obtain ⟨e3, x3⟩ := vol_write (e1.ext' x2 i2) (c.W.vlv true a h3) inv'
    refine ⟨a, _, k, k.toNat, rfl, rfl, h4, hk, ?_⟩
    rw [hset]
    exact q σ _ (Step.of_vol e ((x1.trans x2).trans x3)) e3
end
end Ad
namespace Ad
open PySem PySem.Calls PySem.W PySem.SeqAt PySem.Spec PyProof.Rows L2

/-! ### where an expression stands -/
structure Cc where
  N : List Str
  sc : List (Str × NameKind)
  as : List Str
def nmB (cc : Cc) (i : Nat) : Expr → Bool
  | .Name x _ => decide (cc.N[i]? = some x) && (match cc.sc.lookup x with | some .local => true | some .cell => true | some .free => true | _ => false) && !(x == ("__debug__" : Str)) && !(x == ("__classdict__" : Str))
  | _ => false
def setB (cc : Cc) (i : Nat) : Expr → Bool
  | .Name x _ => decide (cc.N[i]? = some x) && (match cc.sc.lookup x with | some .local => true | some .cell => cc.as.contains x | _ => false)
  | _ => false
def glB (cc : Cc) (x : Str) : Bool := decide (cc.sc.lookup x = some .globalImplicit) && !(x == ("__debug__" : Str))
def setsB (cc : Cc) : List Nat → List Expr → Bool
  | [], [] => true
  | i :: is, x :: xs => setB cc i x && setsB cc is xs
  | _, _ => false
def tupB (cc : Cc) (is : List Nat) : Expr → Bool
  | .Tuple xs _ _ => setsB cc is xs
  | _ => false
def tgB (cc : Cc) : Tg → Expr → Bool
  | .n i, x => setB cc i x
  | .t is, x => tupB cc is x
def bltNames : List Str := ["len", "tuple", "list", "int", "str", "min", "max", "sorted", "set", "repr", "isinstance", "bool", "range", "enumerate", "zip"]
/-- what is known of the place, for all expressions there -/
structure CtxOk (P : Str → (List D → M D) → Prop) (G : Str → D → Prop) (X : Cx) (Wx : WX) (cc : Cc) : Prop where
  N : X.N = cc.N
  nd : X.N.Nodup
  sc : X.env.scope.names = cc.sc
  kind : X.env.scope.kind = .function
  fn : ∀ x, cc.as.contains x = true → X.fn x = true
  calm : X.calm = true
  tk : Takes X Wx
  grd : X.A.guards = some []
  un : X.A.units + 66 < cLine
  mg : ∀ b, b ∈ bltNames → X.mg b = none
  sys : ∃ o, X.base.get? sysModules = some o
  call : ∀ nm f, P nm f → ∃ k, Room k X.A ∧ CallP X.prog X.w X.K X.mg X.base k nm f
  glob : ∀ nm d, G nm d → ∃ u v, X.mg nm = some u ∧ RelV v u ∧ Stat X.K v d
section
variable {P : Str → (List D → M D) → Prop} {G : Str → D → Prop} {X : Cx} {Wx : WX} {cc : Cc}
theorem CtxOk.name (c : CtxOk P G X Wx cc) {i : Nat} {x : Expr} (h : nmB cc i x = true) : ∃ nm p, x = .Name nm p ∧ X.N[i]? = some nm ∧ Vis X.env.scope nm ∧ (nm == ("__debug__" : Str)) = false ∧ (nm == ("__classdict__" : Str)) = false := by
  unfold nmB at h
  split at h
  rotate_left
  · cases h
  rename_i nm p
  simp only [Bool.and_eq_true, decide_eq_true_eq, Bool.not_eq_true'] at h
  obtain ⟨⟨⟨h1, h2⟩, h3⟩, h4⟩ := h
  refine ⟨nm, p, rfl, by rw [c.N]; exact h1, ?_, h3, h4⟩
  unfold Vis
  rw [c.sc]
  split at h2 <;> first | exact .inl ‹_› | exact .inr (.inl ‹_›) | exact .inr (.inr ‹_›) | cases h2
theorem CtxOk.set (c : CtxOk P G X Wx cc) {i : Nat} {x : Expr} (h : setB cc i x = true) : ∃ nm p, x = .Name nm p ∧ X.N[i]? = some nm ∧ Loc X.env.scope nm ∧ (X.fn nm = true ∨ X.env.scope.names.lookup nm = some .local) := by
  unfold setB at h
  split at h
  rotate_left
  · cases h
  rename_i nm p
  simp only [Bool.and_eq_true, decide_eq_true_eq] at h
  obtain ⟨h1, h2⟩ := h
  refine ⟨nm, p, rfl, by rw [c.N]; exact h1, ?_⟩
  unfold L2.Loc
  rw [c.sc]
  split at h2
  · exact ⟨.inl ‹_›, .inr ‹_›⟩
  · exact ⟨.inr ‹_›, .inl (c.fn _ h2)⟩
  · cases h2
theorem CtxOk.gl (c : CtxOk P G X Wx cc) {x : Str} (h : glB cc x = true) : Gl X x ∧ (x == ("__debug__" : Str)) = false := by
  simp only [glB, Bool.and_eq_true, decide_eq_true_eq, Bool.not_eq_true'] at h
  refine ⟨?_, h.2⟩
  show X.env.scope.names.lookup x = some .globalImplicit
  rw [c.sc]
  exact h.1
theorem names_assign {cc : Cc} {env : PySem.Env} : ∀ {is : List Nat} {xs : List Expr}, setsB cc is xs = true → (assignEach xs env).length = is.length ∧ (assignEach xs env).findIdx? (·.1) = none ∧ xs.length = is.length
  | [], [], _ => ⟨rfl, rfl, rfl⟩
  | i :: is, x :: xs, h => by
    simp only [setsB, Bool.and_eq_true] at h
    obtain ⟨h1, h2, h3⟩ := names_assign (env := env) h.2
    have h0 := h.1
    unfold setB at h0
    split at h0
    rotate_left
    · cases h0
    refine ⟨by show (assignEach xs env).length + 1 = _; rw [h1]; rfl, ?_, by simp [h3]⟩
    show List.findIdx? _ ((false, _) :: assignEach xs env) = none
    rw [List.findIdx?_cons, h2]
    rfl
  | [], _ :: _, h => by simp [setsB] at h
  | _ :: _, [], h => by simp [setsB] at h
theorem CtxOk.sets (c : CtxOk P G X Wx cc) : ∀ {is : List Nat} {xs : List Expr}, setsB cc is xs = true → PGs X xs (gNames is)
  | [], [], _ => pgs_nil
  | i :: is, x :: xs, h => by
    simp only [setsB, Bool.and_eq_true] at h
    obtain ⟨nm, p, rfl, h1, h2, h3⟩ := c.set h.1
    exact pgs_cons (pg_name c.nd h1 h2 h3) (c.sets h.2) rfl
  | [], _ :: _, h => by simp [setsB] at h
  | _ :: _, [], h => by simp [setsB] at h
theorem CtxOk.tg (c : CtxOk P G X Wx cc) {tg : Tg} {x : Expr} (h : tgB cc tg x = true) : PG X x (gOf X.K tg) := by
  cases tg with
  | n i =>
    obtain ⟨nm, p, rfl, h1, h2, h3⟩ := c.set (show setB cc i x = true from h)
    exact pg_name c.nd h1 h2 h3
  | t is =>
    have h : tupB cc is x = true := h
    unfold tupB at h
    split at h
    · obtain ⟨h1, h2, _⟩ := names_assign (env := X.env) h
      exact Ad.PG.or (pg_tup c.calm (c.sets h) h1 h2) (pg_lst c.calm (c.sets h) h1 h2)
    · cases h
end

/-! ### what is written, against the syntax -/
def nw : E → Bool
  | .w _ => false
  | _ => true
def nwAll : Es → Bool
  | .nil => true
  | .cons e es => nw e && nwAll es
def lenEs : Es → Nat
  | .nil => 0
  | .cons _ es => lenEs es + 1
def tst : Expr → Bool
  | .IfExp .. => false
  | _ => true
def isBO : Expr → Bool
  | .BoolOp _ (_ :: _ :: _) _ => true
  | _ => false
def biName : Bi → Option (Str × Bool)
  | .len => some ("len", true)
  | .tuple => some ("tuple", false)
  | .list => some ("list", false)
  | .int1 => some ("int", false)
  | .str1 => some ("str", false)
  | .min1 => some ("min", true)
  | .max1 => some ("max", true)
  | .min2 => some ("min", true)
  | .max2 => some ("max", true)
  | .sorted => some ("sorted", true)
  | .repr => some ("repr", true)
  | _ => none
def isaName : Bi → Option String
  | .isInt => some "int"
  | .isBool => some "bool"
  | .isStr => some "str"
  | .isTuple => some "tuple"
  | .isList => some "list"
  | _ => none
def scOf (names : List (Str × NameKind)) : Scope := { kind := .function, names := names, isGenerator := false, isCoroutine := false }
def relB (names : List (Str × NameKind)) (sc : List (Str × NameKind)) : List (Str × NameKind) := names.map fun (n, k) => if (k == .free && sc.lookup n == some .cell) then (n, .cell) else (n, k)
def Cc.blk (cc : Cc) (scope : Scope) : Cc := { N := cc.N, sc := relB scope.names cc.sc, as := (scope.names.filter fun y => scope.names.lookup y.1 == some .cell).map (·.1) }
def ownP (cc : Cc) (own : List Nat) : List (Str × Nat) := own.map fun i => (cc.N.getD i "", i)
def slotsIn (own : List Nat) (tg : Tg) : Bool := tg.slots.all fun i => own.contains i
/-! shapes -/
def onCon (x : Expr) (f : Const → Bool) : Bool := match x with
  | .Constant c _ _ => f c
  | _ => false
theorem on_con {x : Expr} {f : Const → Bool} (h : onCon x f = true) : ∃ c k p, x = .Constant c k p ∧ f c = true := by
  unfold onCon at h
  split at h
  · exact ⟨_, _, _, rfl, h⟩
  · cases h
def onName (x : Expr) (f : Str → Bool) : Bool := match x with
  | .Name c _ => f c
  | _ => false
theorem on_name {x : Expr} {f : Str → Bool} (h : onName x f = true) : ∃ c p, x = .Name c p ∧ f c = true := by
  unfold onName at h
  split at h
  · exact ⟨_, _, rfl, h⟩
  · cases h
def onTup (x : Expr) (f : List Expr → Bool) : Bool := match x with
  | .Tuple xs _ _ => f xs
  | _ => false
theorem on_tup {x : Expr} {f : List Expr → Bool} (h : onTup x f = true) : ∃ xs k p, x = .Tuple xs k p ∧ f xs = true := by
  unfold onTup at h
  split at h
  · exact ⟨_, _, _, rfl, h⟩
  · cases h
def onLst (x : Expr) (f : List Expr → Bool) : Bool := match x with
  | .List xs _ => f xs
  | _ => false
theorem on_lst {x : Expr} {f : List Expr → Bool} (h : onLst x f = true) : ∃ xs p, x = .List xs p ∧ f xs = true := by
  unfold onLst at h
  split at h
  · exact ⟨_, _, rfl, h⟩
  · cases h
def onDic (x : Expr) : Bool := match x with
  | .Dict [] [] _ => true
  | _ => false
theorem on_dic {x : Expr} (h : onDic x = true) : ∃ p, x = .Dict [] [] p := by
  unfold onDic at h
  split at h
  · exact ⟨_, rfl⟩
  · cases h
def onBin (x : Expr) (f : Operator → Expr → Expr → Bool) : Bool := match x with
  | .BinOp y o z _ => f o y z
  | _ => false
theorem on_bin {x : Expr} {f : Operator → Expr → Expr → Bool} (h : onBin x f = true) : ∃ o y z p, x = .BinOp y o z p ∧ f o y z = true := by
  unfold onBin at h
  split at h
  · exact ⟨_, _, _, _, rfl, h⟩
  · cases h
def onNeg (x : Expr) (f : Expr → Bool) : Bool := match x with
  | .UnaryOp .USub y _ => f y
  | _ => false
theorem on_neg {x : Expr} {f : Expr → Bool} (h : onNeg x f = true) : ∃ y p, x = .UnaryOp .USub y p ∧ f y = true := by
  unfold onNeg at h
  split at h
  · exact ⟨_, _, rfl, h⟩
  · cases h
def onNot (x : Expr) (f : Expr → Bool) : Bool := match x with
  | .UnaryOp .Not y _ => f y
  | _ => false
theorem on_not {x : Expr} {f : Expr → Bool} (h : onNot x f = true) : ∃ y p, x = .UnaryOp .Not y p ∧ f y = true := by
  unfold onNot at h
  split at h
  · exact ⟨_, _, rfl, h⟩
  · cases h
def onAnd (x : Expr) (f : Expr → Expr → List Expr → Pos → Bool) : Bool := match x with
  | .BoolOp .And (y :: z :: rest) p => f y z rest p
  | _ => false
theorem on_and {x : Expr} {f : Expr → Expr → List Expr → Pos → Bool} (h : onAnd x f = true) : ∃ y z rest p, x = .BoolOp .And (y :: z :: rest) p ∧ f y z rest p = true := by
  unfold onAnd at h
  split at h
  · exact ⟨_, _, _, _, rfl, h⟩
  · cases h
def onOr (x : Expr) (f : Expr → Expr → List Expr → Pos → Bool) : Bool := match x with
  | .BoolOp .Or (y :: z :: rest) p => f y z rest p
  | _ => false
theorem on_or {x : Expr} {f : Expr → Expr → List Expr → Pos → Bool} (h : onOr x f = true) : ∃ y z rest p, x = .BoolOp .Or (y :: z :: rest) p ∧ f y z rest p = true := by
  unfold onOr at h
  split at h
  · exact ⟨_, _, _, _, rfl, h⟩
  · cases h
def onCmp (x : Expr) (f : CmpOp → Expr → Expr → Bool) : Bool := match x with
  | .Compare y [o] [z] _ => f o y z
  | _ => false
theorem on_cmp {x : Expr} {f : CmpOp → Expr → Expr → Bool} (h : onCmp x f = true) : ∃ o y z p, x = .Compare y [o] [z] p ∧ f o y z = true := by
  unfold onCmp at h
  split at h
  · exact ⟨_, _, _, _, rfl, h⟩
  · cases h
def onCmp2 (x : Expr) (f : CmpOp → CmpOp → Expr → Expr → Expr → Bool) : Bool := match x with
  | .Compare y [o, q] [z, u] _ => f o q y z u
  | _ => false
theorem on_cmp2 {x : Expr} {f : CmpOp → CmpOp → Expr → Expr → Expr → Bool} (h : onCmp2 x f = true) : ∃ o q y z u p, x = .Compare y [o, q] [z, u] p ∧ f o q y z u = true := by
  unfold onCmp2 at h
  split at h
  · exact ⟨_, _, _, _, _, _, rfl, h⟩
  · cases h
def onIf (x : Expr) (f : Expr → Expr → Expr → Bool) : Bool := match x with
  | .IfExp c y z _ => f c y z
  | _ => false
theorem on_if {x : Expr} {f : Expr → Expr → Expr → Bool} (h : onIf x f = true) : ∃ c y z p, x = .IfExp c y z p ∧ f c y z = true := by
  unfold onIf at h
  split at h
  · exact ⟨_, _, _, _, rfl, h⟩
  · cases h
def onSub (x : Expr) (f : Expr → Expr → Bool) : Bool := match x with
  | .Subscript y z _ => f y z
  | _ => false
theorem on_sub {x : Expr} {f : Expr → Expr → Bool} (h : onSub x f = true) : ∃ y z p, x = .Subscript y z p ∧ f y z = true := by
  unfold onSub at h
  split at h
  · exact ⟨_, _, _, rfl, h⟩
  · cases h
def onLo (x : Expr) (f : Expr → Bool) : Bool := match x with
  | .Slice (some y) none none _ => f y
  | _ => false
theorem on_lo {x : Expr} {f : Expr → Bool} (h : onLo x f = true) : ∃ y p, x = .Slice (some y) none none p ∧ f y = true := by
  unfold onLo at h
  split at h
  · exact ⟨_, _, rfl, h⟩
  · cases h
def onHi (x : Expr) (f : Expr → Bool) : Bool := match x with
  | .Slice none (some y) none _ => f y
  | _ => false
theorem on_hi {x : Expr} {f : Expr → Bool} (h : onHi x f = true) : ∃ y p, x = .Slice none (some y) none p ∧ f y = true := by
  unfold onHi at h
  split at h
  · exact ⟨_, _, rfl, h⟩
  · cases h
def onRev (x : Expr) : Bool := match x with
  | .Slice none none (some (.UnaryOp .USub (.Constant (.int 1) _ _) _)) _ => true
  | _ => false
theorem on_rev {x : Expr} (h : onRev x = true) : ∃ k p1 p2 p3, x = .Slice none none (some (.UnaryOp .USub (.Constant (.int 1) k p1) p2)) p3 := by
  unfold onRev at h
  split at h
  · exact ⟨_, _, _, _, rfl⟩
  · cases h
def onLc (x : Expr) (f : Expr → Expr → Expr → List Expr → Scope → Bool) : Bool := match x with
  | .ListComp y [⟨t, i, ifs, 0⟩] scope _ => f y t i ifs scope
  | _ => false
theorem on_lc {x : Expr} {f : Expr → Expr → Expr → List Expr → Scope → Bool} (h : onLc x f = true) : ∃ y t i ifs scope p, x = .ListComp y [⟨t, i, ifs, 0⟩] scope p ∧ f y t i ifs scope = true := by
  unfold onLc at h
  split at h
  · exact ⟨_, _, _, _, _, _, rfl, h⟩
  · cases h
def onCall (x : Expr) (f : Str → List Expr → Bool) : Bool := match x with
  | .Call (.Name g _) xs [] _ => f g xs
  | _ => false
theorem on_call {x : Expr} {f : Str → List Expr → Bool} (h : onCall x f = true) : ∃ g p xs pos, x = .Call (.Name g p) xs [] pos ∧ f g xs = true := by
  unfold onCall at h
  split at h
  · exact ⟨_, _, _, _, rfl, h⟩
  · cases h
def onMeth (x : Expr) (f : Expr → Str → Pos → List Expr → Pos → Bool) : Bool := match x with
  | .Call (.Attribute o n ap) xs [] p => f o n ap xs p
  | _ => false
theorem on_meth {x : Expr} {f : Expr → Str → Pos → List Expr → Pos → Bool} (h : onMeth x f = true) : ∃ o n ap xs p, x = .Call (.Attribute o n ap) xs [] p ∧ f o n ap xs p = true := by
  unfold onMeth at h
  split at h
  · exact ⟨_, _, _, _, _, rfl, h⟩
  · cases h
def one (xs : List Expr) (f : Expr → Bool) : Bool := match xs with
  | [x] => f x
  | _ => false
theorem on_one {xs : List Expr} {f : Expr → Bool} (h : one xs f = true) : ∃ x, xs = [x] ∧ f x = true := by
  unfold one at h
  split at h
  · exact ⟨_, rfl, h⟩
  · cases h
def two (xs : List Expr) (f : Expr → Expr → Bool) : Bool := match xs with
  | [x, y] => f x y
  | _ => false
theorem on_two {xs : List Expr} {f : Expr → Expr → Bool} (h : two xs f = true) : ∃ x y, xs = [x, y] ∧ f x y = true := by
  unfold two at h
  split at h
  · exact ⟨_, _, rfl, h⟩
  · cases h
def isTupE : Expr → Bool
  | .Tuple .. => true
  | _ => false
def isStrC : E → Bool
  | .k (.str _) => true
  | _ => false
def isTrueC : E → Bool
  | .k (.bool true) => true
  | _ => false
mutual
def mE (cc : Cc) : E → Expr → Bool
  | .v i, x => nmB cc i x
  | .w i, x => nmB cc i x
  | .k d, x => onCon x fun c => conE c d
  | .g nm _, x => onName x fun n => decide (n = nm) && glB cc n
  | .tup es, x => onTup x fun xs => mEs cc es xs && nwAll es && decide (lenEs es ≤ 1000)
  | .lst es, x => onLst x fun xs => mEs cc es xs && nwAll es && decide (lenEs es ≤ 1000)
  | .dic, x => onDic x
  | .bin op a b, x => onBin x fun o y z => decide (o = op) && mE cc a y && mE cc b z
  | .neg a, x => onNeg x fun y => mE cc a y
  | .not a, x => onNot x fun y => mE cc a y && nw a && tst y
  | .and a b, x => onAnd x fun y z rest pos => mE cc a y && nw a && tst y && nw b && (match rest with
    | [] => mE cc b z && tst z
    | r :: rest => mE cc b (.BoolOp .And (z :: r :: rest) pos))
  | .or a b, x => onOr x fun y z rest pos => mE cc a y && nw a && tst y && nw b && (match rest with
    | [] => mE cc b z && tst z
    | r :: rest => mE cc b (.BoolOp .Or (z :: r :: rest) pos))
  | .cmp op a b, x => onCmp x fun o y z => decide (o = op) && mE cc a y && mE cc b z && notSet z
  | .cmp2 p q a b c, x => onCmp2 x fun o o2 y z u => decide (o = p) && decide (o2 = q) && mE cc a y && mE cc b z && mE cc c u && notSet u
  | .ife c a b, x => onIf x fun z y u => mE cc c z && nw c && tst z && mE cc a y && nw a && mE cc b u && nw b
  | .ix a i, x => onSub x fun y z => mE cc a y && mE cc i z && notSlice z
  | .sl true a b, x => onSub x fun y z => mE cc a y && onLo z fun u => mE cc b u
  | .sl false a b, x => onSub x fun y z => mE cc a y && onHi z fun u => mE cc b u
  | .rev a, x => onSub x fun y z => mE cc a y && onRev z
  | .lc own tg it tst' elt, x => onLc x fun y tgx iter ifs scope =>
    (match it with
      | .bi .range1 (.cons e .nil) => onCall iter fun g xs => one xs fun u => decide (g = "range") && glB cc g && mE cc e u && notStar u
      | .bi .range2 (.cons e (.cons f .nil)) => onCall iter fun g xs => two xs fun u v => decide (g = "range") && glB cc g && mE cc e u && notStar u && mE cc f v && notStar v
      | .bi .enum (.cons e .nil) => isTupE tgx && onCall iter fun g xs => one xs fun u => decide (g = "enumerate") && glB cc g && mE cc e u && notStar u
      | e => mE cc e iter) && blkC cc.N (scOf cc.sc) scope (ownP cc own) && slotsIn own tg && tgB (cc.blk scope) tg tgx && mE (cc.blk scope) elt y && nw elt && nw tst' && notSet iter && (match ifs with
    | [] => isTrueC tst'
    | [c] => mE (cc.blk scope) tst' c && tst c
    | _ => false)
  | .call nm _ es, x => onCall x fun g xs => decide (g = nm) && glB cc g && mEs cc es xs && nwAll es
  | .callB nm _ es, x => onCall x fun g xs => decide (g = nm) && glB cc g && mEs cc es xs && !xs.isEmpty
  | .bi b es, x => onCall x fun g xs => glB cc g && (match b with
    | .listRange => decide (g = "list") && one xs fun u => onCall u fun r ys => one ys fun v => decide (r = "range") && glB cc r && mEs cc es [v]
    | .tupRange1 => decide (g = "tuple") && one xs fun u => onCall u fun r ys => one ys fun v => decide (r = "range") && glB cc r && mEs cc es [v]
    | .sortedSet => decide (g = "sorted") && one xs fun u => onCall u fun r ys => one ys fun v => decide (r = "set") && glB cc r && mEs cc es [v]
    | .lenSet => decide (g = "len") && one xs fun u => onCall u fun r ys => one ys fun v => decide (r = "set") && glB cc r && mEs cc es [v]
    | b => (match isaName b with
      | some ty => decide (g = "isinstance") && two xs fun u v => onName v fun t => decide (t = Str.ofString ty) && glB cc t && mEs cc es [u]
      | none => (match biName b with
        | some nm => decide (g = nm.1) && mEs cc es xs && !xs.isEmpty
        | none => false)))
  | .mt m o es, x => onMeth x fun y n apos xs cpos => (match m with
    | .join => decide (n = "join") && mE cc o y && notSup y && mEs cc es xs && one xs (fun _ => true) && (apos.endLine == cpos.line) && isStrC o
    | .index => decide (n = "index") && mE cc o y && notSup y && mEs cc es xs && one xs (fun _ => true) && (apos.endLine == cpos.line)
    | .tindex => decide (n = "index") && mE cc o y && notSup y && mEs cc es xs && one xs (fun _ => true) && (apos.endLine == cpos.line)
    | .split => decide (n = "split") && mE cc o y && notSup y && mEs cc es xs && one xs (fun _ => true) && (apos.endLine == cpos.line)
    | _ => false)
  | .vlen i, x => onCall x fun g xs => decide (g = "len") && glB cc g && one xs fun u => nmB cc i u
  | .vg i e, x => onSub x fun y z => nmB cc i y && mE cc e z && nw e && notSlice z
def mEs (cc : Cc) : Es → List Expr → Bool
  | .nil, xs => xs.isEmpty
  | .cons e es, xs => (match xs with
    | x :: xs => notStar x && mE cc e x && mEs cc es xs
    | [] => false)
end
/-- what a for or a comprehension walks -/
def mI (cc : Cc) (it : E) (iter tgx : Expr) : Bool := match it with
  | .bi .range1 (.cons e .nil) => onCall iter fun g xs => one xs fun u => decide (g = "range") && glB cc g && mE cc e u && notStar u
  | .bi .range2 (.cons e (.cons f .nil)) => onCall iter fun g xs => two xs fun u v => decide (g = "range") && glB cc g && mE cc e u && notStar u && mE cc f v && notStar v
  | .bi .enum (.cons e .nil) => isTupE tgx && onCall iter fun g xs => one xs fun u => decide (g = "enumerate") && glB cc g && mE cc e u && notStar u
  | e => mE cc e iter
theorem mE_lc {cc : Cc} {own : List Nat} {tg : Tg} {it t elt : E} {x : Expr} : mE cc (.lc own tg it t elt) x = onLc x fun y tgx iter ifs scope => mI cc it iter tgx && blkC cc.N (scOf cc.sc) scope (ownP cc own) && slotsIn own tg && tgB (cc.blk scope) tg tgx && mE (cc.blk scope) elt y && nw elt && nw t && notSet iter && (match ifs with
    | [] => isTrueC t
    | [c] => mE (cc.blk scope) t c && tst c
    | _ => false) := by
  conv => lhs; unfold mE
  unfold mI
  rfl
end Ad
namespace Ad
open PySem PySem.Calls PySem.W PySem.SeqAt PySem.Spec PyProof.Rows L2

section
variable (P : Str → (List D → M D) → Prop) (G : Str → D → Prop)
mutual
/-- what is called, what is read of the top level -/
def cE : E → Prop
  | .v _ => True
  | .w _ => True
  | .k _ => True
  | .g nm d => G nm d
  | .tup es => cEs es
  | .lst es => cEs es
  | .dic => True
  | .bin _ a b => cE a ∧ cE b
  | .neg a => cE a
  | .not a => cE a
  | .and a b => cE a ∧ cE b
  | .or a b => cE a ∧ cE b
  | .cmp _ a b => cE a ∧ cE b
  | .cmp2 _ _ a b c => cE a ∧ cE b ∧ cE c
  | .ife c a b => cE c ∧ cE a ∧ cE b
  | .ix a i => cE a ∧ cE i
  | .sl _ a b => cE a ∧ cE b
  | .rev a => cE a
  | .lc _ _ it t e => cE it ∧ cE t ∧ cE e
  | .call nm f es => P nm f ∧ cEs es
  | .callB nm f es => P nm f ∧ cEs es
  | .bi _ es => cEs es
  | .mt _ o es => cE o ∧ cEs es
  | .vlen _ => True
  | .vg _ e => cE e
def cEs : Es → Prop
  | .nil => True
  | .cons e es => cE e ∧ cEs es
end
end
section
variable {P : Str → (List D → M D) → Prop} {G : Str → D → Prop}
structure Snd (X : Cx) (Wx : WX) (x : Expr) (e : E) : Prop where
  b : PEb X Wx x (dE e)
  r : nw e = true → PEr X Wx x (dE e)
  t : nw e = true → tst x = true → PTr X Wx x (dE e)
  w : nw e = true → isBO x = true → PWr X Wx x (dE e)
def SndAll (X : Cx) (Wx : WX) : List Expr → Es → Prop
  | x :: xs, .cons e es => Snd X Wx x e ∧ SndAll X Wx xs es
  | _, _ => True
structure Snds (X : Cx) (Wx : WX) (xs : List Expr) (es : Es) : Prop where
  b : PAb X Wx xs (dEs es)
  r : nwAll es = true → PAr X Wx xs (dEs es)
  ns : xs.all notStar = true
  all : SndAll X Wx xs es
  len : lenEs es = xs.length
/-- may be walked by a for -/
def nwI : E → Bool
  | .bi .enum (.cons e .nil) => nw e
  | .w _ => false
  | _ => true
structure SndI (X : Cx) (Wx : WX) (tgx x : Expr) (e : E) : Prop where
  b : PIr X Wx tgx x true fun ρ => dE e ρ >>= walked
  r : nwI e = true → PIr X Wx tgx x false fun ρ => dE e ρ >>= walked
theorem Snd.of {X : Cx} {Wx : WX} {x : Expr} {e : E} (h : PEr X Wx x (dE e)) (p : plainE x = true) : Snd X Wx x e :=
  ⟨b_of h, fun _ => h, fun _ _ => t_of h (plain_ok p X.env), fun _ q => by
    unfold isBO at q
    split at q
    · cases p
    · cases q⟩
theorem dEs_len : ∀ (es : Es) (ρ : Ev) (Q : List D → Nat → Prop) (R : XV → Nat → Prop) (b : Nat), (dEs es ρ).run Q R b → (dEs es ρ).run (fun ds b => ds.length = lenEs es ∧ Q ds b) R b
  | .nil, _, _, _, _, h => ⟨rfl, h⟩
  | .cons e es, ρ, Q, R, b, h => (dE e ρ).mono (fun d _ q => (dEs es ρ).mono (fun ds _ q => ⟨by rw [List.length_cons, q.1]; rfl, q.2⟩) (fun _ _ z => z) (dEs_len es ρ _ _ _ q)) (fun _ _ z => z) h
theorem few_of {es : Es} (h : lenEs es ≤ 1000) : Few (dEs es) := fun ρ Q R b q => (dEs es ρ).mono (fun ds _ q => ⟨by rw [q.1, sizeLine_eq]; omega, q.2⟩) (fun _ _ z => z) (dEs_len es ρ Q R b q)
variable {X : Cx} {Wx : WX} {cc : Cc}
/-- a built-in by its name -/
theorem bi_snd (c : CtxOk P G X Wx cc) {b : Bi} {nm : Str × Bool} {g : Str} {p pos : Pos} {x : Expr} {xs : List Expr} {es : Es} (hb : biName b = some nm) (hg : glB cc g = true) (e : g = nm.1) (h : Snds X Wx (x :: xs) es) : PEr X Wx (.Call (.Name g p) (x :: xs) [] pos) (dE (.bi b es)) := by
  subst e
  obtain ⟨hgl, hd⟩ := c.gl hg
  have hns := h.ns
  simp only [List.all_cons, Bool.and_eq_true] at hns
  have he := star_ok hns.1 xs X.env
  have hp := star_any hns.2 pos X.env
  cases b <;> simp only [biName, Option.some.injEq, reduceCtorEq] at hb <;> subst hb
  · exact s_biF cr_len hgl (c.mg _ (by decide)) boot_len h.b (by decide) hd he hp
  · exact s_biT cr_tuple hgl (c.mg _ (by decide)) PyProof.Rows.boot_tuple h.b (by decide) hd he hp
  · exact s_biT cr_list hgl (c.mg _ (by decide)) PyProof.Rows.boot_list h.b (by decide) hd he hp
  · exact s_biT cr_int1 hgl (c.mg _ (by decide)) PyProof.Rows.boot_int h.b (by decide) hd he hp
  · exact s_biT cr_str1 hgl (c.mg _ (by decide)) PyProof.Rows.boot_str h.b (by decide) hd he hp
  · exact s_biF (cr_min1 c.un c.calm) hgl (c.mg _ (by decide)) PyProof.Rows.boot_min h.b (by decide) hd he hp
  · exact s_biF (cr_min2 c.calm) hgl (c.mg _ (by decide)) PyProof.Rows.boot_min h.b (by decide) hd he hp
  · exact s_biF (cr_max1 c.un c.calm) hgl (c.mg _ (by decide)) PyProof.Rows.boot_max h.b (by decide) hd he hp
  · exact s_biF (cr_max2 c.calm) hgl (c.mg _ (by decide)) PyProof.Rows.boot_max h.b (by decide) hd he hp
  · exact s_biF (cr_sorted c.un) hgl (c.mg _ (by decide)) PyProof.Rows.boot_sorted h.b (by decide) hd he hp
  · exact s_biF (cr_reprD c.un c.grd c.sys) hgl (c.mg _ (by decide)) PyProof.Rows.boot_repr h.b (by decide) hd he hp
theorem on1_one {e : E} {f : D → M D} {ρ : Ev} : (dEs (.cons e .nil) ρ >>= on1 f) = (dE e ρ >>= f) := rfl
theorem isa_snd (c : CtxOk P G X Wx cc) {b : Bi} {ty : String} {p p2 pos : Pos} {g t : Str} {x : Expr} {e : E} (hb : isaName b = some ty) (hg : glB cc g = true) (eg : g = "isinstance") (ht : glB cc t = true) (et : t = Str.ofString ty) (h : PEb X Wx x (dE e)) (hs : notStar x = true) : PEr X Wx (.Call (.Name g p) [x, .Name t p2] [] pos) (dE (.bi b (.cons e .nil))) := by
  subst eg
  subst et
  obtain ⟨hgl, hd⟩ := c.gl hg
  obtain ⟨htl, htd⟩ := c.gl ht
  cases b <;> simp only [isaName, Option.some.injEq, reduceCtorEq] at hb <;> subst hb
  · exact s_isa (cr_isaC cr_isInt) hgl (c.mg _ (by decide)) boot_isinstance htl (c.mg _ (by decide)) PyProof.Rows.boot_int (by decide) htd h (star_ok hs _ _)
  · exact s_isa (cr_isaC cr_isBool) hgl (c.mg _ (by decide)) boot_isinstance htl (c.mg _ (by decide)) PyProof.Rows.boot_bool (by decide) htd h (star_ok hs _ _)
  · exact s_isa (cr_isaC cr_isStr) hgl (c.mg _ (by decide)) boot_isinstance htl (c.mg _ (by decide)) PyProof.Rows.boot_str (by decide) htd h (star_ok hs _ _)
  · exact s_isa (cr_isaC cr_isTuple) hgl (c.mg _ (by decide)) boot_isinstance htl (c.mg _ (by decide)) PyProof.Rows.boot_tuple (by decide) htd h (star_ok hs _ _)
  · exact s_isa (cr_isaC cr_isList) hgl (c.mg _ (by decide)) boot_isinstance htl (c.mg _ (by decide)) PyProof.Rows.boot_list (by decide) htd h (star_ok hs _ _)
/-! ### within a comprehension -/
theorem relabel_eq {scope : Scope} {env : PySem.Env} (hk : env.scope.kind = .function) {sc : List (Str × NameKind)} (hs : env.scope.names = sc) : (relabel scope env).names = relB scope.names sc := by
  unfold relabel relB
  subst hs
  simp only [hk]
  refine congrArg (fun f => List.map f scope.names) (funext fun y => ?_)
  have e : (ScopeKind.function == ScopeKind.function) = true := rfl
  rw [e, Bool.and_true]
  rfl
theorem CtxOk.blk (c : CtxOk P G X Wx cc) (scope : Scope) (hk : scope.kind = .function) (s : Shared) (H : Hp) (C : Addr) (cl : List (Str × Addr)) (fp : List Addr) : CtxOk P G (X.blk s H scope (compEnvC scope cl C X.env) fp) noX (cc.blk scope) where
  N := c.N
  nd := c.nd
  sc := relabel_eq c.kind c.sc
  kind := hk
  fn := fun x h => by
    show (scope.names.lookup x == some .cell) = true
    have h : x ∈ (scope.names.filter fun y => scope.names.lookup y.1 == some .cell).map (·.1) := by simpa [Cc.blk] using h
    obtain ⟨y, hy, rfl⟩ := List.mem_map.mp h
    exact (List.mem_filter.mp hy).2
  calm := c.calm
  tk := takes_none5
  grd := c.grd
  un := c.un
  mg := c.mg
  sys := c.sys
  call := c.call
  glob := c.glob
theorem blkOk_of (c : CtxOk P G X Wx cc) {scope : Scope} {own : List (Str × Nat)} (h : blkC cc.N (scOf cc.sc) scope own = true) : BlkOk X.N X.env.scope scope own := by
  have q := blkOk_by h
  exact { kind := q.kind, uniq := q.uniq, ix := fun p hp => by rw [c.N]; exact q.ix p hp, free := fun y hy e => by rw [c.sc]; exact q.free y hy e, own := fun y hy e => by rw [c.N]; exact q.own y hy e }
theorem ownP_map {cc : Cc} (own : List Nat) : (ownP cc own).map (·.2) = own := by
  unfold ownP
  rw [List.map_map]
  exact List.map_id own
theorem slots_of {own : List Nat} {tg : Tg} (h : slotsIn own tg = true) : ∀ i, i ∈ tg.slots → i ∈ own := fun i hi => by
  have := List.all_eq_true.mp h i hi
  simpa using this
theorem pts_yes {t : E} (ht : isTrueC t = true) : PTs X [] (tT X.K X.mg noX (dE t)) := by
  unfold isTrueC at ht
  split at ht
  · exact ⟨fun pins s σ H Q I h => pts_nil.run pins s σ H Q I (by
      obtain ⟨c, ρ, e, b, eb, q⟩ := h
      cases eb
      exact q H (Ext.refl H) e.inv)⟩
  · cases ht
theorem pts_of {t : E} {x : Expr} (h : PTr X noX x (dE t)) : PTs X [x] (tT X.K X.mg noX (dE t)) := pts_one h

theorem pack {e : E} {x : Expr} (hn : nwI e = nw e) (hI : ∀ tgx, mI cc e x tgx = mE cc e x) (h : mE cc e x = true → Snd X Wx x e) : (mE cc e x = true → Snd X Wx x e) ∧ ∀ tgx, mI cc e x tgx = true → SndI X Wx tgx x e :=
  ⟨h, fun tgx q => by
    rw [hI] at q
    exact ⟨s_iterB (h q).b, fun w => s_iter ((h q).r (by rw [← hn]; exact w))⟩⟩
/-! list(range(n)), tuple(range(n)) -/
theorem rgV_rep {K : PySem.W.Frag} {W : Wd} {N : Addr → Prop} {H : Hp} (a b : Int) : RepL K W N H (rgV a b) (rangeD a b) := by
  unfold rgV rangeD
  generalize List.range (b - a).toNat = l
  induction l with
  | nil => exact .nil
  | cons x xs ih => exact .cons (.int _) ih
theorem rangeD_length (a b : Int) : (rangeD a b).length = (b - a).toNat := by unfold rangeD; rw [List.length_map, List.length_range]
theorem rg_fits {a b : Int} (h : RgOk a b) : (rangeD a b).length ≤ sizeLine := by
  rw [rangeD_length, sizeLine_eq]
  have := h.2.2.2.2
  omega
theorem s_listRg {x : Expr} {e : E} {p p2 pos pos2 : Pos} (hc : X.calm = true) (hg : Gl X "list") (hm : X.mg "list" = none) (hg2 : Gl X "range") (hm2 : X.mg "range" = none) (h : PEb X Wx x (dE e)) (hs : notStar x = true) : PEr X Wx (.Call (.Name "list" p) [.Call (.Name "range" p2) [x] [] pos2] [] pos) (dE (.bi .listRange (.cons e .nil))) :=
  pe_imp (pe_listRg hc hg hm (prg_1 hg2 hm2 h (star_ok hs _ _)) (star_ok rfl _ _)) fun σ H Q q => by
    obtain ⟨c, ρ, ev, q⟩ := q
    refine ⟨c, ρ, ev, (dE e ρ).mono (fun d _ q v H1 x i rv => ?_) (fun _ _ z => z) q⟩
    have q : (asInt d).run (fun j b => RgOk 0 j ∧ VQ X.K c.W (Nn c ρ σ) H Q (.list (rangeD 0 j)) b) (XQ X.K X.mg Wx c ρ σ H) _ := q
    obtain ⟨j, rfl, q1, q2⟩ := asInt_run q
    refine ⟨j, rv.int, q1, (ev.ext' x i).vc.vlst (rgV_rep 0 j) (rg_fits q1) fun v H' x' i' r => q2 v H' (x.trans x') i' r⟩
theorem f_listRg {x : Expr} {e : E} {p p2 pos pos2 : Pos} (hc : X.calm = true) (hg : Gl X "list") (hm : X.mg "list" = none) (hg2 : Gl X "range") (hm2 : X.mg "range" = none) (h : PEb X Wx x (dE e)) (hs : notStar x = true) : PFr X Wx (.Call (.Name "list" p) [.Call (.Name "range" p2) [x] [] pos2] [] pos) (dE (.bi .listRange (.cons e .nil))) :=
  pe_imp (pe_listRg hc hg hm (prg_1 hg2 hm2 h (star_ok hs _ _)) (star_ok rfl _ _)) fun σ H Q q => by
    obtain ⟨c, ρ, ev, q⟩ := q
    refine ⟨c, ρ, ev, (dE e ρ).mono (fun d _ q v H1 x i rv => ?_) (fun _ _ z => z) q⟩
    have q : (asInt d).run (fun j b => RgOk 0 j ∧ FQ X.K c ρ σ H Q (.list (rangeD 0 j)) b) (XQ X.K X.mg Wx c ρ σ H) _ := q
    obtain ⟨j, rfl, q1, ds, e', q2⟩ := asInt_run q
    cases e'
    exact ⟨j, rv.int, q1, fun a ha => q2 a _ H1 x i ha (rg_fits q1) (rgV_rep 0 j)⟩
theorem s_tupRg {x : Expr} {e : E} {p p2 pos pos2 : Pos} (hc : X.calm = true) (hg : Gl X "tuple") (hm : X.mg "tuple" = none) (hg2 : Gl X "range") (hm2 : X.mg "range" = none) (h : PEb X Wx x (dE e)) (hs : notStar x = true) : PEr X Wx (.Call (.Name "tuple" p) [.Call (.Name "range" p2) [x] [] pos2] [] pos) (dE (.bi .tupRange1 (.cons e .nil))) :=
  pe_imp (pe_tupRgS hc hg hm (prg_1 hg2 hm2 h (star_ok hs _ _)) (star_ok rfl _ _)) fun σ H Q q => by
    obtain ⟨c, ρ, ev, q⟩ := q
    refine ⟨c, ρ, ev, (dE e ρ).mono (fun d _ q v H1 x i rv => ?_) (fun _ _ z => z) q⟩
    have q : (asInt d).run (fun j b => RgOk 0 j ∧ VQ X.K c.W (Nn c ρ σ) H Q (.tuple (rangeD 0 j)) b) (XQ X.K X.mg Wx c ρ σ H) _ := q
    obtain ⟨j, rfl, q1, q2⟩ := asInt_run q
    refine ⟨j, rv.int, q1, (ev.ext' x i).vc.vtup (rgV_rep 0 j) (rg_fits q1) fun v H' x' i' r => q2 v H' (x.trans x') i' r⟩
theorem s_sortSet {x : Expr} {e : E} {p p2 pos pos2 : Pos} (hc : X.calm = true) (hu : X.A.units + 66 < cLine) (hg : Gl X "sorted") (hm : X.mg "sorted" = none) (hg2 : Gl X "set") (hm2 : X.mg "set" = none) (h : PEb X Wx x (dE e)) (hs : notStar x = true) : PEr X Wx (.Call (.Name "sorted" p) [.Call (.Name "set" p2) [x] [] pos2] [] pos) (dE (.bi .sortedSet (.cons e .nil))) :=
  pe_imp (pe_sortSet hc hu hg hm hg2 hm2 h (star_ok hs _ _)) fun σ H Q q => by
    obtain ⟨c, ρ, ev, q⟩ := q
    refine ⟨c, ρ, ev, (dE e ρ).mono (fun d _ q v H1 x i rv => ?_) (fun _ _ z => z) q⟩
    have q : (itemsOf d >>= fun xs => M.grd (sortable xs ∧ setOk xs) >>= fun _ => M.anyPerm (onceD xs) >>= fun ys => (pure (.list (sortD ys)) : M D)).run (VQ X.K c.W (Nn c ρ σ) H Q) (XQ X.K X.mg Wx c ρ σ H) _ := q
    obtain ⟨ds, a, vs, ⟨⟨hk, ok⟩, q⟩, rfl, z, l, hx⟩ := rv.items q
    refine ⟨c.W, Nn c ρ σ, ds, ⟨a, vs, d, rfl, l, hx.imp (fun g => ⟨g.1, SqL.of g.2⟩) fun g => ⟨g.1, g.2.1⟩, ok⟩, hk, fun p ws cs hp pm l2 len => ?_⟩
    exact (ev.ext' x i).vc.vlst l2 (by unfold sortD; rw [List.length_mergeSort]; exact len) (fun v H' x' i' r => q cs pm v H' (x.trans x') i' r) p hp
theorem f_sortSet {x : Expr} {e : E} {p p2 pos pos2 : Pos} (hc : X.calm = true) (hu : X.A.units + 66 < cLine) (hg : Gl X "sorted") (hm : X.mg "sorted" = none) (hg2 : Gl X "set") (hm2 : X.mg "set" = none) (h : PEb X Wx x (dE e)) (hs : notStar x = true) : PFr X Wx (.Call (.Name "sorted" p) [.Call (.Name "set" p2) [x] [] pos2] [] pos) (dE (.bi .sortedSet (.cons e .nil))) :=
  pe_imp (pe_sortSet hc hu hg hm hg2 hm2 h (star_ok hs _ _)) fun σ H Q q => by
    obtain ⟨c, ρ, ev, q⟩ := q
    refine ⟨c, ρ, ev, (dE e ρ).mono (fun d _ q v H1 x i rv => ?_) (fun _ _ z => z) q⟩
    have q : (itemsOf d >>= fun xs => M.grd (sortable xs ∧ setOk xs) >>= fun _ => M.anyPerm (onceD xs) >>= fun ys => (pure (.list (sortD ys)) : M D)).run (FQ X.K c ρ σ H Q) (XQ X.K X.mg Wx c ρ σ H) _ := q
    obtain ⟨ds, a, vs, ⟨⟨hk, ok⟩, q⟩, rfl, z, l, hx⟩ := rv.items q
    refine ⟨c.W, Nn c ρ σ, ds, ⟨a, vs, d, rfl, l, hx.imp (fun g => ⟨g.1, SqL.of g.2⟩) fun g => ⟨g.1, g.2.1⟩, ok⟩, hk, fun p ws cs hp pm l2 len => ?_⟩
    obtain ⟨ds', e', q2⟩ := q cs pm
    cases e'
    exact q2 p ws H1 x i hp (by unfold sortD; rw [List.length_mergeSort]; exact len) l2
theorem s_lenSet {x : Expr} {e : E} {p p2 pos pos2 : Pos} (hc : X.calm = true) (hu : X.A.units + 66 < cLine) (hg : Gl X "len") (hm : X.mg "len" = none) (hg2 : Gl X "set") (hm2 : X.mg "set" = none) (h : PEb X Wx x (dE e)) (hs : notStar x = true) : PEr X Wx (.Call (.Name "len" p) [.Call (.Name "set" p2) [x] [] pos2] [] pos) (dE (.bi .lenSet (.cons e .nil))) :=
  pe_imp (pe_lenSet hc hu hg hm hg2 hm2 h (star_ok hs _ _)) fun σ H Q q => by
    obtain ⟨c, ρ, ev, q⟩ := q
    refine ⟨c, ρ, ev, (dE e ρ).mono (fun d _ q v H1 x i rv => ?_) (fun _ _ z => z) q⟩
    have q : (itemsOf d >>= fun xs => M.grd (setOkL xs) >>= fun _ => (pure (.int (onceD xs).length) : M D)).run (VQ X.K c.W (Nn c ρ σ) H Q) (XQ X.K X.mg Wx c ρ σ H) _ := q
    obtain ⟨ds, a, vs, ⟨ok, q⟩, rfl, z, l, hx⟩ := rv.items q
    exact ⟨c.W, Nn c ρ σ, ds, ⟨a, vs, d, rfl, l, hx.imp (fun g => ⟨g.1, SqL.of g.2⟩) fun g => ⟨g.1, g.2.1⟩, ok⟩, (ev.ext' x i).vc.vint fun v H' x' i' r => q v H' (x.trans x') i' r⟩
/-- "..".join(x) -/
theorem s_join {o y : Expr} {z : Str} {es : Es} {apos cpos : Pos} (ho : PEr X Wx o fun _ => pure (.str z)) (ha : PAb X Wx [y] (dEs es)) (hs : notStar y = true) (hsup : notSup o = true) (hline : (apos.endLine == cpos.line) = true) :
    PEr X Wx (.Call (.Attribute o "join" apos) [y] [] cpos) (dE (.mt .join (.k (.str z)) es)) :=
  pe_imp (pe_bm PySem.F.plainAttrs_str PySem.F.slot_str_join PySem.F.type_str_join mr_join ho ha (sup_ok hsup _ _ _) (few_ok (by simp [hs]) (by simp)) hline (star_ok hs _ _) (star_any rfl _ _)) fun σ H Q q => by
    obtain ⟨c, ρ, ev, q⟩ := q
    have q : (dEs es ρ).run (fun ds => (mtD .join (.str z) ds).run (VQ X.K c.W (Nn c ρ σ) H Q) (XQ X.K X.mg Wx c ρ σ H)) (XQ X.K X.mg Wx c ρ σ H) _ := q
    refine ⟨c, ρ, ev, fun v H1 x i rv => ?_⟩
    cases rv
    refine ⟨rfl, _, ρ, ev.ext' x i, (dEs es ρ).mono (fun ds _ q vs H2 x2 i2 rs => ?_) (fun _ _ w => XQ.later x w) q⟩
    exact ⟨c.W, Nn c ρ σ, .str z, ds, _, _, ((ev.ext' x i).ext' x2 i2).vc, .inl (.str z), rs, (mtD .join (.str z) ds).mono (fun d _ q v H' x' i' r => q v H' ((x.trans x2).trans x') i' r) (fun _ _ w => w) q⟩
/-- x.split(y), x a text -/
theorem s_split {o y : Expr} {eo : E} {es : Es} {apos cpos : Pos} (ho : PEb X Wx o (dE eo)) (ha : PAb X Wx [y] (dEs es)) (hs : notStar y = true) (hsup : notSup o = true) (hline : (apos.endLine == cpos.line) = true) :
    PEr X Wx (.Call (.Attribute o "split" apos) [y] [] cpos) (dE (.mt .split eo es)) :=
  pe_imp (pe_bm PySem.F.plainAttrs_str PySem.F.slot_str_split PySem.F.type_str_split mr_split ho ha (sup_ok hsup _ _ _) (few_ok (by simp [hs]) (by simp)) hline (star_ok hs _ _) (star_any rfl _ _)) fun σ H Q q => by
    obtain ⟨c, ρ, ev, q⟩ := q
    refine ⟨c, ρ, ev, (dE eo ρ).mono (fun d b q v H1 x i rv => ?_) (fun _ _ w => w) q⟩
    have q : (mtG .split d >>= fun _ => dEs es ρ >>= fun ds => mtD .split d ds).run (VQ X.K c.W (Nn c ρ σ) H Q) (XQ X.K X.mg Wx c ρ σ H) b := q
    match d, rv, q with
    | .str z, rv, q =>
      have q : (dEs es ρ).run (fun ds => (mtD .split (.str z) ds).run (VQ X.K c.W (Nn c ρ σ) H Q) (XQ X.K X.mg Wx c ρ σ H)) (XQ X.K X.mg Wx c ρ σ H) b := q
      have e := rv.str
      subst e
      refine ⟨rfl, _, ρ, ev.ext' x i, (dEs es ρ).mono (fun ds _ q us H2 x2 i2 rs => ?_) (fun _ _ w => XQ.later x w) q⟩
      exact ⟨c.W, Nn c ρ σ, .str z, ds, _, _, ((ev.ext' x i).ext' x2 i2).vc, .inl (.str z), rs, (mtD .split (.str z) ds).mono (fun d _ q v H' x' i' r => q v H' ((x.trans x2).trans x') i' r) (fun _ _ w => w) q⟩
    | .list _, _, q => exact q.elim
    | .none, _, q => exact q.elim
    | .bool _, _, q => exact q.elim
    | .int _, _, q => exact q.elim
    | .tuple _, _, q => exact q.elim
    | .dict _, _, q => exact q.elim
/-- xs.index(x), xs a list -/
theorem s_index {o y : Expr} {eo : E} {es : Es} {apos cpos : Pos} (hu : X.A.units + 66 < cLine) (ho : PEb X Wx o (dE eo)) (ha : PAb X Wx [y] (dEs es)) (hs : notStar y = true) (hsup : notSup o = true) (hline : (apos.endLine == cpos.line) = true) :
    PEr X Wx (.Call (.Attribute o "index" apos) [y] [] cpos) (dE (.mt .index eo es)) :=
  pe_imp (pe_bm PySem.F.plainAttrs_list PySem.F.slot_list_index PySem.F.type_list_index (mr_index hu) ho ha (sup_ok hsup _ _ _) (few_ok (by simp [hs]) (by simp)) hline (star_ok hs _ _) (star_any rfl _ _)) fun σ H Q q => by
    obtain ⟨c, ρ, ev, q⟩ := q
    refine ⟨c, ρ, ev, (dE eo ρ).mono (fun d b q v H1 x i rv => ?_) (fun _ _ w => w) q⟩
    have q : (mtG .index d >>= fun _ => dEs es ρ >>= fun ds => mtD .index d ds).run (VQ X.K c.W (Nn c ρ σ) H Q) (XQ X.K X.mg Wx c ρ σ H) b := q
    match d, rv, q with
    | .list zs, rv, q =>
      have q : (dEs es ρ).run (fun ds => (mtD .index (.list zs) ds).run (VQ X.K c.W (Nn c ρ σ) H Q) (XQ X.K X.mg Wx c ρ σ H)) (XQ X.K X.mg Wx c ρ σ H) b := q
      obtain ⟨a, vs, e1, e2, e3, l⟩ := rv.list
      refine ⟨by rw [e1]; exact .inl ⟨rfl, vs, SqL.of e2⟩, _, ρ, ev.ext' x i, (dEs es ρ).mono (fun ds _ q us H2 x2 i2 rs => ?_) (fun _ _ w => XQ.later x w) q⟩
      exact ⟨c.W, Nn c ρ σ, .list zs, ds, _, _, ((ev.ext' x i).ext' x2 i2).vc, rv.ext x2 ((ev.ext' x i).vc.bv), rs, (mtD .index (.list zs) ds).mono (fun d _ q v H' x' i' r => q v H' ((x.trans x2).trans x') i' r) (fun _ _ w => w) q⟩
    | .str _, _, q => exact q.elim
    | .none, _, q => exact q.elim
    | .bool _, _, q => exact q.elim
    | .int _, _, q => exact q.elim
    | .tuple _, _, q => exact q.elim
    | .dict _, _, q => exact q.elim
theorem tupN_ty {K : PySem.W.Frag} {N : Addr → Prop} {H : Hp} {v : V} {a : Addr} {vs : List V} (e : v = .ref a) (h : TupN K N H a vs) : tyT K v H := by
  rcases h with h | ⟨o, _, _, h, z⟩
  · exact ⟨a, e, .inl ⟨vs, h.1⟩⟩
  · exact ⟨a, e, .inr ⟨o, h.1, h.2.1, z⟩⟩
/-- t.index(x), t a tuple -/
theorem s_tindex {o y : Expr} {eo : E} {es : Es} {apos cpos : Pos} (hu : X.A.units + 66 < cLine) (ho : PEb X Wx o (dE eo)) (ha : PAb X Wx [y] (dEs es)) (hs : notStar y = true) (hsup : notSup o = true) (hline : (apos.endLine == cpos.line) = true) :
    PEr X Wx (.Call (.Attribute o "index" apos) [y] [] cpos) (dE (.mt .tindex eo es)) :=
  pe_imp (pe_bmT PySem.F.slot_tuple_index PySem.F.type_tuple_index (mr_tindex hu) ho ha (sup_ok hsup _ _ _) (few_ok (by simp [hs]) (by simp)) hline (star_ok hs _ _) (star_any rfl _ _)) fun σ H Q q => by
    obtain ⟨c, ρ, ev, q⟩ := q
    refine ⟨c, ρ, ev, (dE eo ρ).mono (fun d b q v H1 x i rv => ?_) (fun _ _ w => w) q⟩
    have q : (mtG .tindex d >>= fun _ => dEs es ρ >>= fun ds => mtD .tindex d ds).run (VQ X.K c.W (Nn c ρ σ) H Q) (XQ X.K X.mg Wx c ρ σ H) b := q
    match d, rv, q with
    | .tuple zs, rv, q =>
      have q : (dEs es ρ).run (fun ds => (mtD .tindex (.tuple zs) ds).run (VQ X.K c.W (Nn c ρ σ) H Q) (XQ X.K X.mg Wx c ρ σ H)) (XQ X.K X.mg Wx c ρ σ H) b := q
      obtain ⟨a, vs, e1, e4, e2, e3, l⟩ := rv.tup
      refine ⟨tupN_ty e1 e2, _, ρ, ev.ext' x i, (dEs es ρ).mono (fun ds _ q us H2 x2 i2 rs => ?_) (fun _ _ w => XQ.later x w) q⟩
      exact ⟨c.W, Nn c ρ σ, .tuple zs, ds, _, _, ((ev.ext' x i).ext' x2 i2).vc, rv.ext x2 ((ev.ext' x i).vc.bv), rs, (mtD .tindex (.tuple zs) ds).mono (fun d _ q v H' x' i' r => q v H' ((x.trans x2).trans x') i' r) (fun _ _ w => w) q⟩
    | .str _, _, q => exact q.elim
    | .none, _, q => exact q.elim
    | .bool _, _, q => exact q.elim
    | .int _, _, q => exact q.elim
    | .list _, _, q => exact q.elim
    | .dict _, _, q => exact q.elim
mutual
theorem sE : ∀ (e : E) (x : Expr) (X : Cx) (Wx : WX) (cc : Cc), CtxOk P G X Wx cc → cE P G e → (mE cc e x = true → Snd X Wx x e) ∧ ∀ tgx, mI cc e x tgx = true → SndI X Wx tgx x e
  | .v i, x, X, Wx, cc, c, _ => pack rfl (fun _ => rfl) fun h => by
    obtain ⟨nm, p, rfl, h1, h2, h3, h4⟩ := c.name (show nmB cc i x = true from h)
    exact Snd.of (s_var h1 h2 h3 h4) rfl
  | .w i, x, X, Wx, cc, c, _ => pack rfl (fun _ => rfl) fun h => by
    obtain ⟨nm, p, rfl, h1, h2, h3, h4⟩ := c.name (show nmB cc i x = true from h)
    exact ⟨s_varB h1 h2 h3 h4, fun q => (by cases q), fun q => (by cases q), fun q => (by cases q)⟩
  | .k d, x, X, Wx, cc, c, _ => pack rfl (fun _ => rfl) fun h => by
    rw [mE] at h
    obtain ⟨k, j, p, rfl, hh⟩ := on_con h
    clear h
    have h := hh
    clear hh
    exact Snd.of (s_const h) rfl
  | .g nm d, x, X, Wx, cc, c, hg => pack rfl (fun _ => rfl) fun h => by
    rw [mE] at h
    obtain ⟨n, p, rfl, hh⟩ := on_name h
    clear h
    have h := hh
    clear hh
    simp only [Bool.and_eq_true, decide_eq_true_eq] at h
    obtain ⟨rfl, h0⟩ := h
    obtain ⟨h1, h2⟩ := c.gl h0
    obtain ⟨u, v, h3, h4, h5⟩ := c.glob _ _ hg
    exact Snd.of (s_con (pe_glob h1 h3 h4 h2) h5) rfl
  | .tup es, x, X, Wx, cc, c, hc => pack rfl (fun _ => rfl) fun h => by
    rw [mE] at h
    obtain ⟨xs, k, p, rfl, hh⟩ := on_tup h
    clear h
    have h := hh
    clear hh
    simp only [Bool.and_eq_true, decide_eq_true_eq] at h
    exact Snd.of (s_tup ((sEs es xs X Wx cc c hc h.1.1).r h.1.2) (few_of h.2)) rfl
  | .lst es, x, X, Wx, cc, c, hc => pack rfl (fun _ => rfl) fun h => by
    rw [mE] at h
    obtain ⟨xs, p, rfl, hh⟩ := on_lst h
    clear h
    have h := hh
    clear hh
    simp only [Bool.and_eq_true, decide_eq_true_eq] at h
    exact Snd.of (s_lst ((sEs es xs X Wx cc c hc h.1.1).r h.1.2) (few_of h.2)) rfl
  | .dic, x, X, Wx, cc, c, hc => pack rfl (fun _ => rfl) fun h => by
    rw [mE] at h
    obtain ⟨p, rfl⟩ := on_dic h
    exact Snd.of s_dic rfl
  | .bin op a b, x, X, Wx, cc, c, hc => pack rfl (fun _ => rfl) fun h => by
    rw [mE] at h
    obtain ⟨o, y, z, p, rfl, hh⟩ := on_bin h
    clear h
    have h := hh
    clear hh
    simp only [Bool.and_eq_true, decide_eq_true_eq] at h
    obtain ⟨⟨rfl, h1⟩, h2⟩ := h
    exact Snd.of (s_bin ((sE a y X Wx cc c hc.1).1 h1).b ((sE b z X Wx cc c hc.2).1 h2).b) rfl
  | .neg a, x, X, Wx, cc, c, hc => pack rfl (fun _ => rfl) fun h => by
    rw [mE] at h
    obtain ⟨y, p, rfl, hh⟩ := on_neg h
    clear h
    have h := hh
    clear hh
    exact Snd.of (s_neg ((sE a y X Wx cc c hc).1 h).b) rfl
  | .not a, x, X, Wx, cc, c, hc => pack rfl (fun _ => rfl) fun h => by
    rw [mE] at h
    obtain ⟨y, p, rfl, hh⟩ := on_not h
    clear h
    have h := hh
    clear hh
    simp only [Bool.and_eq_true] at h
    have q := (sE a y X Wx cc c hc).1 h.1.1
    have r := s_not (pos := p) (q.r h.1.2)
    exact ⟨b_of r, fun _ => r, fun _ _ => s_notT (q.t h.1.2 h.2), fun _ z => (by cases z)⟩
  | .and a b, x, X, Wx, cc, c, hc => pack rfl (fun _ => rfl) fun h => by
    rw [mE] at h
    obtain ⟨y, z, rest, p, rfl, hh⟩ := on_and h
    clear h
    have h := hh
    clear hh
    simp only [Bool.and_eq_true] at h
    obtain ⟨⟨⟨⟨h1, h2⟩, h3⟩, h4⟩, h5⟩ := h
    have q := (sE a y X Wx cc c hc.1).1 h1
    cases rest with
    | nil =>
      simp only [Bool.and_eq_true] at h5
      have q2 := (sE b z X Wx cc c hc.2).1 h5.1
      have r := s_and (pos := p) (q.r h2) (pe_one (q2.r h4))
      have w := s_andW (pos := p) (q.t h2 h3) (pw_and1 (q2.t h4 h5.2))
      exact ⟨b_of r, fun _ => r, fun _ _ => w.pt, fun _ _ => w⟩
    | cons u rest =>
      have q2 := (sE b (.BoolOp .And (z :: u :: rest) p) X Wx cc c hc.2).1 h5
      have r := s_and (pos := p) (q.r h2) (q2.r h4)
      have w := s_andW (pos := p) (q.t h2 h3) (q2.w h4 rfl)
      exact ⟨b_of r, fun _ => r, fun _ _ => w.pt, fun _ _ => w⟩
  | .or a b, x, X, Wx, cc, c, hc => pack rfl (fun _ => rfl) fun h => by
    rw [mE] at h
    obtain ⟨y, z, rest, p, rfl, hh⟩ := on_or h
    clear h
    have h := hh
    clear hh
    simp only [Bool.and_eq_true] at h
    obtain ⟨⟨⟨⟨h1, h2⟩, h3⟩, h4⟩, h5⟩ := h
    have q := (sE a y X Wx cc c hc.1).1 h1
    cases rest with
    | nil =>
      simp only [Bool.and_eq_true] at h5
      have q2 := (sE b z X Wx cc c hc.2).1 h5.1
      have r := s_or (pos := p) (q.r h2) (pe_one (q2.r h4))
      have w := s_orW (pos := p) (q.t h2 h3) (pw_or1 (q2.t h4 h5.2))
      exact ⟨b_of r, fun _ => r, fun _ _ => w.pt, fun _ _ => w⟩
    | cons u rest =>
      have q2 := (sE b (.BoolOp .Or (z :: u :: rest) p) X Wx cc c hc.2).1 h5
      have r := s_or (pos := p) (q.r h2) (q2.r h4)
      have w := s_orW (pos := p) (q.t h2 h3) (q2.w h4 rfl)
      exact ⟨b_of r, fun _ => r, fun _ _ => w.pt, fun _ _ => w⟩
  | .cmp op a b, x, X, Wx, cc, c, hc => pack rfl (fun _ => rfl) fun h => by
    rw [mE] at h
    obtain ⟨o, y, z, p, rfl, hh⟩ := on_cmp h
    clear h
    have h := hh
    clear hh
    simp only [Bool.and_eq_true, decide_eq_true_eq] at h
    obtain ⟨⟨⟨rfl, h1⟩, h2⟩, h3⟩ := h
    have q1 := ((sE a y X Wx cc c hc.1).1 h1).b
    have q2 := ((sE b z X Wx cc c hc.2).1 h2).b
    have r := s_cmp (pos := p) c.un q1 q2 (set_ok h3 o)
    exact ⟨b_of r, fun _ => r, fun _ _ => s_cmpT c.un q1 q2 (set_ok h3 o), fun _ z => (by cases z)⟩
  | .cmp2 o1 o2 a b d, x, X, Wx, cc, c, hc => pack rfl (fun _ => rfl) fun h => by
    rw [mE] at h
    obtain ⟨o, o', y, z, u, p, rfl, hh⟩ := on_cmp2 h
    clear h
    have h := hh
    clear hh
    simp only [Bool.and_eq_true, decide_eq_true_eq] at h
    obtain ⟨⟨⟨⟨⟨rfl, rfl⟩, h1⟩, h2⟩, h3⟩, h4⟩ := h
    have q1 := ((sE a y X Wx cc c hc.1).1 h1).b
    have q2 := ((sE b z X Wx cc c hc.2.1).1 h2).b
    have q3 := ((sE d u X Wx cc c hc.2.2).1 h3).b
    have r := s_cmp2 (pos := p) c.un q1 q2 q3 (o1 := o) (o2 := o') (show behindInMarks o' u = false from set_ok h4 o')
    exact ⟨b_of r, fun _ => r, fun _ _ => s_cmp2T c.un q1 q2 q3 (show behindInMarks o' u = false from set_ok h4 o'), fun _ z => (by cases z)⟩
  | .ife d a b, x, X, Wx, cc, c, hc => pack rfl (fun _ => rfl) fun h => by
    rw [mE] at h
    obtain ⟨z, y, u, p, rfl, hh⟩ := on_if h
    clear h
    have h := hh
    clear hh
    simp only [Bool.and_eq_true] at h
    obtain ⟨⟨⟨⟨⟨⟨h1, h2⟩, h3⟩, h4⟩, h5⟩, h6⟩, h7⟩ := h
    have r := s_if (pos := p) (((sE d z X Wx cc c hc.1).1 h1).t h2 h3) (((sE a y X Wx cc c hc.2.1).1 h4).r h5) (((sE b u X Wx cc c hc.2.2).1 h6).r h7)
    exact ⟨b_of r, fun _ => r, fun _ z => (by cases z), fun _ z => (by cases z)⟩
  | .ix a i, x, X, Wx, cc, c, hc => pack rfl (fun _ => rfl) fun h => by
    rw [mE] at h
    obtain ⟨y, z, p, rfl, hh⟩ := on_sub h
    clear h
    have h := hh
    clear hh
    simp only [Bool.and_eq_true] at h
    exact Snd.of (s_ix ((sE a y X Wx cc c hc.1).1 h.1.1).b ((sE i z X Wx cc c hc.2).1 h.1.2).b (slice_ok h.2)) rfl
  | .sl true a b, x, X, Wx, cc, c, hc => pack rfl (fun _ => rfl) fun h => by
    rw [mE] at h
    obtain ⟨y, z, p, rfl, hh⟩ := on_sub h
    clear h
    have h := hh
    clear hh
    simp only [Bool.and_eq_true] at h
    obtain ⟨u, p2, rfl, h2⟩ := on_lo h.2
    exact Snd.of (s_slL ((sE a y X Wx cc c hc.1).1 h.1).b ((sE b u X Wx cc c hc.2).1 h2).b) rfl
  | .sl false a b, x, X, Wx, cc, c, hc => pack rfl (fun _ => rfl) fun h => by
    rw [mE] at h
    obtain ⟨y, z, p, rfl, hh⟩ := on_sub h
    clear h
    have h := hh
    clear hh
    simp only [Bool.and_eq_true] at h
    obtain ⟨u, p2, rfl, h2⟩ := on_hi h.2
    exact Snd.of (s_slU ((sE a y X Wx cc c hc.1).1 h.1).b ((sE b u X Wx cc c hc.2).1 h2).b) rfl
  | .rev a, x, X, Wx, cc, c, hc => pack rfl (fun _ => rfl) fun h => by
    rw [mE] at h
    obtain ⟨y, z, p, rfl, hh⟩ := on_sub h
    clear h
    have h := hh
    clear hh
    simp only [Bool.and_eq_true] at h
    obtain ⟨k, p1, p2, p3, rfl⟩ := on_rev h.2
    exact Snd.of (s_rev ((sE a y X Wx cc c hc).1 h.1).b) rfl
  | .lc own tg it t elt, x, X, Wx, cc, c, hc => pack rfl (fun _ => rfl) fun h => by
    rw [mE_lc] at h
    obtain ⟨y, tgx, iter, ifs, scope, p, rfl, hh⟩ := on_lc h
    clear h
    have h := hh
    clear hh
    simp only [Bool.and_eq_true] at h
    obtain ⟨⟨⟨⟨⟨⟨⟨⟨h1, h2⟩, h3⟩, h4⟩, h5⟩, h6⟩, h7⟩, h8⟩, h9⟩ := h
    have hk : scope.kind = .function := (blkOk_by h2).kind
    have cb := fun s H C cl fp => c.blk scope hk s H C cl fp
    have hi := ((sE it iter X Wx cc c hc.1).2 tgx h1).b
    have he := fun s H C cl fp => ((sE elt y _ noX (cc.blk scope) (cb s H C cl fp) hc.2.2).1 h5).r h6
    have ht : ∀ (s : Shared) (H : Hp) (C : Addr) (cl : List (Str × Addr)) (fp : List Addr), PTs (X.blk s H scope (compEnvC scope cl C X.env) fp) ifs (tT X.K X.mg noX (dE t)) := by
      intro s H C cl fp
      cases ifs with
      | nil => exact pts_yes (X := X.blk s H scope (compEnvC scope cl C X.env) fp) h9
      | cons z zs =>
        cases zs with
        | nil =>
          have h9 : (mE (cc.blk scope) t z && tst z) = true := h9
          simp only [Bool.and_eq_true] at h9
          exact pts_one (((sE t z _ noX (cc.blk scope) (cb s H C cl fp) hc.2.1).1 h9.1).t h7 h9.2)
        | cons _ _ => cases h9
    exact Snd.of (s_lc c.calm c.nd hi (blkOk_of c h2) (ownP_map own) (slots_of h3) (fun s H C cl fp => (cb s H C cl fp).tg h4) ht he (set_fold h8 _)) rfl
  | .call nm f es, x, X, Wx, cc, c, hc => pack rfl (fun _ => rfl) fun h => by
    rw [mE] at h
    obtain ⟨g, p, xs, pos, rfl, hh⟩ := on_call h
    clear h
    have h := hh
    clear hh
    simp only [Bool.and_eq_true, decide_eq_true_eq] at h
    obtain ⟨⟨⟨rfl, h1⟩, h2⟩, h3⟩ := h
    obtain ⟨hgl, hd⟩ := c.gl h1
    obtain ⟨k, hr, C⟩ := c.call _ _ hc.1
    have q := sEs es xs X Wx cc c hc.2 h2
    cases xs with
    | nil =>
      cases es with
      | nil => exact Snd.of (s_call0 C hr c.grd hgl c.tk hd) rfl
      | cons _ _ => cases h2
    | cons y ys =>
      have hns := q.ns
      simp only [List.all_cons, Bool.and_eq_true] at hns
      exact Snd.of (s_call C hr c.grd hgl c.tk (q.r h3) hd (star_ok hns.1 ys X.env) (star_any hns.2 pos X.env)) rfl
  | .callB nm f es, x, X, Wx, cc, c, hc => pack rfl (fun _ => rfl) fun h => by
    rw [mE] at h
    obtain ⟨g, p, xs, pos, rfl, hh⟩ := on_call h
    clear h
    have h := hh
    clear hh
    simp only [Bool.and_eq_true, decide_eq_true_eq] at h
    obtain ⟨⟨⟨rfl, h1⟩, h2⟩, h3⟩ := h
    obtain ⟨hgl, hd⟩ := c.gl h1
    obtain ⟨k, hr, C⟩ := c.call _ _ hc.1
    have q := sEs es xs X Wx cc c hc.2 h2
    cases xs with
    | nil => cases h3
    | cons y ys =>
      have hns := q.ns
      simp only [List.all_cons, Bool.and_eq_true] at hns
      exact Snd.of (s_callB C hr c.grd hgl c.tk q.b hd (star_ok hns.1 ys X.env) (star_any hns.2 pos X.env)) rfl
  | .bi b es, x, X, Wx, cc, c, hc => by
    have q := fun xs => sEs es xs X Wx cc c hc
    have first : mE cc (.bi b es) x = true → Snd X Wx x (.bi b es) := by
      intro h
      rw [mE] at h
      obtain ⟨g, p, xs, pos, rfl, hh⟩ := on_call h
      clear h
      have h := hh
      clear hh
      simp only [Bool.and_eq_true] at h
      obtain ⟨h0, h⟩ := h
      split at h
      · simp only [Bool.and_eq_true, decide_eq_true_eq] at h
        obtain ⟨rfl, h⟩ := h
        obtain ⟨u, e1, h1⟩ := on_one h
        obtain ⟨r, p2, ys, pos2, e2, h2⟩ := on_call h1
        obtain ⟨v, e3, h3⟩ := on_one h2
        subst e1
        subst e2
        subst e3
        clear h h1 h2
        have h := h3
        clear h3
        simp only [Bool.and_eq_true, decide_eq_true_eq] at h
        obtain ⟨⟨rfl, h1⟩, h2⟩ := h
        have q := q _ h2
        have hns := q.ns
        simp only [List.all_cons, List.all_nil, Bool.and_true] at hns
        match es, q with
        | .cons e .nil, q => exact Snd.of (s_listRg c.calm (c.gl h0).1 (c.mg _ (by decide)) (c.gl h1).1 (c.mg _ (by decide)) q.all.1.b hns) rfl
        | .nil, q => exact absurd q.len (by simp [lenEs])
        | .cons _ (.cons _ _), q => exact absurd q.len (by simp [lenEs])
      · simp only [Bool.and_eq_true, decide_eq_true_eq] at h
        obtain ⟨rfl, h⟩ := h
        obtain ⟨u, e1, h1⟩ := on_one h
        obtain ⟨r, p2, ys, pos2, e2, h2⟩ := on_call h1
        obtain ⟨v, e3, h3⟩ := on_one h2
        subst e1
        subst e2
        subst e3
        clear h h1 h2
        have h := h3
        clear h3
        simp only [Bool.and_eq_true, decide_eq_true_eq] at h
        obtain ⟨⟨rfl, h1⟩, h2⟩ := h
        have q := q _ h2
        have hns := q.ns
        simp only [List.all_cons, List.all_nil, Bool.and_true] at hns
        match es, q with
        | .cons e .nil, q => exact Snd.of (s_tupRg c.calm (c.gl h0).1 (c.mg _ (by decide)) (c.gl h1).1 (c.mg _ (by decide)) q.all.1.b hns) rfl
        | .nil, q => exact absurd q.len (by simp [lenEs])
        | .cons _ (.cons _ _), q => exact absurd q.len (by simp [lenEs])
      · simp only [Bool.and_eq_true, decide_eq_true_eq] at h
        obtain ⟨rfl, h⟩ := h
        obtain ⟨u, e1, h1⟩ := on_one h
        obtain ⟨r, p2, ys, pos2, e2, h2⟩ := on_call h1
        obtain ⟨v, e3, h3⟩ := on_one h2
        subst e1
        subst e2
        subst e3
        clear h h1 h2
        have h := h3
        clear h3
        simp only [Bool.and_eq_true, decide_eq_true_eq] at h
        obtain ⟨⟨rfl, h1⟩, h2⟩ := h
        have q := q _ h2
        have hns := q.ns
        simp only [List.all_cons, List.all_nil, Bool.and_true] at hns
        match es, q with
        | .cons e .nil, q => exact Snd.of (s_sortSet c.calm c.un (c.gl h0).1 (c.mg _ (by decide)) (c.gl h1).1 (c.mg _ (by decide)) q.all.1.b hns) rfl
        | .nil, q => exact absurd q.len (by simp [lenEs])
        | .cons _ (.cons _ _), q => exact absurd q.len (by simp [lenEs])
      · simp only [Bool.and_eq_true, decide_eq_true_eq] at h
        obtain ⟨rfl, h⟩ := h
        obtain ⟨u, e1, h1⟩ := on_one h
        obtain ⟨r, p2, ys, pos2, e2, h2⟩ := on_call h1
        obtain ⟨v, e3, h3⟩ := on_one h2
        subst e1
        subst e2
        subst e3
        clear h h1 h2
        have h := h3
        clear h3
        simp only [Bool.and_eq_true, decide_eq_true_eq] at h
        obtain ⟨⟨rfl, h1⟩, h2⟩ := h
        have q := q _ h2
        have hns := q.ns
        simp only [List.all_cons, List.all_nil, Bool.and_true] at hns
        match es, q with
        | .cons e .nil, q => exact Snd.of (s_lenSet c.calm c.un (c.gl h0).1 (c.mg _ (by decide)) (c.gl h1).1 (c.mg _ (by decide)) q.all.1.b hns) rfl
        | .nil, q => exact absurd q.len (by simp [lenEs])
        | .cons _ (.cons _ _), q => exact absurd q.len (by simp [lenEs])
      · split at h
        · rename_i ty hty
          simp only [Bool.and_eq_true, decide_eq_true_eq] at h
          obtain ⟨hg, h⟩ := h
          obtain ⟨u, v, e1, h1⟩ := on_two h
          obtain ⟨t, p2, e2, h2⟩ := on_name h1
          subst e1
          subst e2
          clear h h1
          have h := h2
          clear h2
          simp only [Bool.and_eq_true, decide_eq_true_eq] at h
          obtain ⟨⟨ht, h1⟩, h2⟩ := h
          have q := q _ h2
          have hns := q.ns
          simp only [List.all_cons, List.all_nil, Bool.and_true] at hns
          match es, q with
          | .cons e .nil, q => exact Snd.of (isa_snd c hty h0 hg h1 ht q.all.1.b hns) rfl
          | .nil, q => exact absurd q.len (by simp [lenEs])
          | .cons _ (.cons _ _), q => exact absurd q.len (by simp [lenEs])
        · split at h
          · rename_i nm hnm
            simp only [Bool.and_eq_true, decide_eq_true_eq] at h
            obtain ⟨⟨hg, h1⟩, h2⟩ := h
            have q := q _ h1
            cases xs with
            | nil => cases h2
            | cons y ys => exact Snd.of (bi_snd c hnm h0 hg q) rfl
          · cases h
    refine ⟨first, fun tgx h => ?_⟩
    unfold mI at h
    split at h
    · rename_i e heq
      cases heq
      obtain ⟨g, p, xs, pos, e1, h1⟩ := on_call h
      obtain ⟨u, e2, h2⟩ := on_one h1
      subst e1
      subst e2
      clear h h1
      simp only [Bool.and_eq_true, decide_eq_true_eq] at h2
      obtain ⟨⟨⟨hg, h3⟩, h4⟩, h5⟩ := h2
      subst hg
      have q := q [u] (by
        show (notStar u && mE cc e u && mEs cc .nil []) = true
        rw [h4, h5]
        rfl)
      have st := star_ok h5 [] X.env
      exact ⟨s_range1 true (c.gl h3).1 (c.mg _ (by decide)) q.b st, fun _ => s_range1 false (c.gl h3).1 (c.mg _ (by decide)) q.b st⟩
    · rename_i e f heq
      cases heq
      obtain ⟨g, p, xs, pos, e1, h1⟩ := on_call h
      obtain ⟨u, v, e2, h2⟩ := on_two h1
      subst e1
      subst e2
      clear h h1
      simp only [Bool.and_eq_true, decide_eq_true_eq] at h2
      obtain ⟨⟨⟨⟨⟨hg, h3⟩, h4⟩, h5⟩, h6⟩, h7⟩ := h2
      subst hg
      have q := q [u, v] (by
        show (notStar u && mE cc e u && (notStar v && mE cc f v && mEs cc .nil [])) = true
        rw [h4, h5, h6, h7]
        rfl)
      have st := star_ok h5 [v] X.env
      have st2 := star_ok h7 [] X.env
      rw [st2] at st
      exact ⟨s_range2 true (c.gl h3).1 (c.mg _ (by decide)) q.b st st2, fun _ => s_range2 false (c.gl h3).1 (c.mg _ (by decide)) q.b st st2⟩
    · rename_i e heq
      cases heq
      simp only [Bool.and_eq_true] at h
      obtain ⟨ht, h⟩ := h
      obtain ⟨g, p, xs, pos, e1, h1⟩ := on_call h
      obtain ⟨u, e2, h2⟩ := on_one h1
      subst e1
      subst e2
      clear h h1
      simp only [Bool.and_eq_true, decide_eq_true_eq] at h2
      obtain ⟨⟨⟨hg, h3⟩, h4⟩, h5⟩ := h2
      subst hg
      have q := q [u] (by
        show (notStar u && mE cc e u && mEs cc .nil []) = true
        rw [h4, h5]
        rfl)
      have st := star_ok h5 [] X.env
      unfold isTupE at ht
      split at ht
      · exact ⟨s_enumB (c.gl h3).1 (c.mg _ (by decide)) q.all.1.b st, fun hn => s_enum (c.gl h3).1 (c.mg _ (by decide)) (q.all.1.r hn) st⟩
      · cases ht
    · have w := first h
      exact ⟨s_iterB w.b, fun _ => s_iter (w.r rfl)⟩
  | .mt m o es, x, X, Wx, cc, c, hc => pack rfl (fun _ => rfl) fun h => by
    rw [mE] at h
    obtain ⟨y, n, apos, xs, cpos, rfl, hh⟩ := on_meth h
    clear h
    have h := hh
    clear hh
    split at h
    · simp only [Bool.and_eq_true, decide_eq_true_eq] at h
      obtain ⟨⟨⟨⟨⟨⟨rfl, h1⟩, h2⟩, h3⟩, h4⟩, h5⟩, h6⟩ := h
      obtain ⟨z, rfl, _⟩ := on_one h4
      have q := sEs es [z] X Wx cc c hc.2 h3
      have hns := q.ns
      simp only [List.all_cons, List.all_nil, Bool.and_true] at hns
      have qo := (sE o y X Wx cc c hc.1).1 h1
      unfold isStrC at h6
      split at h6
      · exact Snd.of (s_join (qo.r rfl) q.b hns h2 h5) rfl
      · cases h6
    · simp only [Bool.and_eq_true, decide_eq_true_eq] at h
      obtain ⟨⟨⟨⟨⟨rfl, h1⟩, h2⟩, h3⟩, h4⟩, h5⟩ := h
      obtain ⟨z, rfl, _⟩ := on_one h4
      have q := sEs es [z] X Wx cc c hc.2 h3
      have hns := q.ns
      simp only [List.all_cons, List.all_nil, Bool.and_true] at hns
      have qo := (sE o y X Wx cc c hc.1).1 h1
      exact Snd.of (s_index c.un qo.b q.b hns h2 h5) rfl
    · simp only [Bool.and_eq_true, decide_eq_true_eq] at h
      obtain ⟨⟨⟨⟨⟨rfl, h1⟩, h2⟩, h3⟩, h4⟩, h5⟩ := h
      obtain ⟨z, rfl, _⟩ := on_one h4
      have q := sEs es [z] X Wx cc c hc.2 h3
      have hns := q.ns
      simp only [List.all_cons, List.all_nil, Bool.and_true] at hns
      have qo := (sE o y X Wx cc c hc.1).1 h1
      exact Snd.of (s_tindex c.un qo.b q.b hns h2 h5) rfl
    · simp only [Bool.and_eq_true, decide_eq_true_eq] at h
      obtain ⟨⟨⟨⟨⟨rfl, h1⟩, h2⟩, h3⟩, h4⟩, h5⟩ := h
      obtain ⟨z, rfl, _⟩ := on_one h4
      have q := sEs es [z] X Wx cc c hc.2 h3
      have hns := q.ns
      simp only [List.all_cons, List.all_nil, Bool.and_true] at hns
      have qo := (sE o y X Wx cc c hc.1).1 h1
      exact Snd.of (s_split qo.b q.b hns h2 h5) rfl
    · cases h
  | .vlen i, x, X, Wx, cc, c, _ => pack rfl (fun _ => rfl) fun h => by
    rw [mE] at h
    obtain ⟨g, p, xs, pos, rfl, hh⟩ := on_call h
    clear h
    simp only [Bool.and_eq_true, decide_eq_true_eq] at hh
    obtain ⟨⟨hg, h1⟩, h2⟩ := hh
    obtain ⟨u, e1, h3⟩ := on_one h2
    obtain ⟨nm, p2, e2, g1, g2, g3, g4⟩ := c.name h3
    subst e1
    subst e2
    subst hg
    exact Snd.of (s_vlen (c.gl h1).1 (c.mg _ (by decide)) (pe_var g1 g2 g3 g4)) rfl
  | .vg i e, x, X, Wx, cc, c, hc => pack rfl (fun _ => rfl) fun h => by
    rw [mE] at h
    obtain ⟨y, z, p, rfl, hh⟩ := on_sub h
    clear h
    simp only [Bool.and_eq_true] at hh
    obtain ⟨⟨⟨h1, h2⟩, h3⟩, h4⟩ := hh
    obtain ⟨nm, p2, rfl, g1, g2, g3, g4⟩ := c.name h1
    exact Snd.of (s_vg (pe_var g1 g2 g3 g4) (((sE e z X Wx cc c hc).1 h2).r h3) h4) rfl
theorem sEs : ∀ (es : Es) (xs : List Expr) (X : Cx) (Wx : WX) (cc : Cc), CtxOk P G X Wx cc → cEs P G es → mEs cc es xs = true → Snds X Wx xs es
  | .nil, xs, X, Wx, cc, c, _, h => by
    cases xs with
    | nil => exact ⟨s_nilB, fun _ => s_nil, rfl, trivial, rfl⟩
    | cons _ _ => cases h
  | .cons e es, xs, X, Wx, cc, c, hc, h => by
    cases xs with
    | nil => cases h
    | cons x xs =>
      have h : (notStar x && mE cc e x && mEs cc es xs) = true := h
      simp only [Bool.and_eq_true] at h
      have q1 := (sE e x X Wx cc c hc.1).1 h.1.2
      have q2 := sEs es xs X Wx cc c hc.2 h.2
      refine ⟨s_consB q1.b q2.b (star_ok h.1.1 xs X.env), fun hn => ?_, ?_, ⟨q1, q2.all⟩, by rw [List.length_cons, ← q2.len]; rfl⟩
      · have hn : (nw e && nwAll es) = true := hn
        simp only [Bool.and_eq_true] at hn
        exact s_cons (q1.r hn.1) (q2.r hn.2) (star_ok h.1.1 xs X.env)
      · simp only [List.all_cons, Bool.and_eq_true]
        exact ⟨h.1.1, q2.ns⟩
end
end
end Ad
namespace Ad
open PySem PySem.Calls PySem.W PySem.SeqAt PySem.Spec PyProof.Rows L2

section
variable {P : Str → (List D → M D) → Prop} {G : Str → D → Prop} {X : Cx} {Wx : WX} {cc : Cc}
/-- makes a new list -/
def isF : E → Bool
  | .lst _ => true
  | .lc .. => true
  | .bin .Add _ _ => true
  | .bin .Mult _ _ => true
  | .bi .list _ => true
  | .bi .listRange (.cons _ .nil) => true
  | .bi .sortedSet (.cons _ .nil) => true
  | _ => false
/-- the parts of a comprehension -/
structure LcOk (X : Cx) (Wx : WX) (own : List Nat) (tg : Tg) (it t elt : E) (y tgx iter : Expr) (ifs : List Expr) (scope : Scope) (ownp : List (Str × Nat)) : Prop where
  hi : PIr X Wx tgx iter true fun ρ => dE it ρ >>= walked
  ok : BlkOk X.N X.env.scope scope ownp
  ho : ownp.map (·.2) = own
  hsl : ∀ i, i ∈ tg.slots → i ∈ own
  hg : ∀ (s : Shared) (H : Hp) (C : Addr) (cl : List (Str × Addr)) (fp : List Addr), PG (X.blk s H scope (compEnvC scope cl C X.env) fp) tgx (gOf X.K tg)
  ht : ∀ (s : Shared) (H : Hp) (C : Addr) (cl : List (Str × Addr)) (fp : List Addr), PTs (X.blk s H scope (compEnvC scope cl C X.env) fp) ifs (tT X.K X.mg noX (dE t))
  he : ∀ (s : Shared) (H : Hp) (C : Addr) (cl : List (Str × Addr)) (fp : List Addr), PEr (X.blk s H scope (compEnvC scope cl C X.env) fp) noX y (dE elt)
  hs : ∀ v, foldedSetIterable iter X.env v = pure v
theorem lc_ok (c : CtxOk P G X Wx cc) {own : List Nat} {tg : Tg} {it t elt : E} {x : Expr} (hc : cE P G (.lc own tg it t elt)) (h : mE cc (.lc own tg it t elt) x = true) :
    ∃ y tgx iter ifs scope p, x = .ListComp y [⟨tgx, iter, ifs, 0⟩] scope p ∧ LcOk X Wx own tg it t elt y tgx iter ifs scope (ownP cc own) := by
  rw [mE_lc] at h
  obtain ⟨y, tgx, iter, ifs, scope, p, rfl, hh⟩ := on_lc h
  clear h
  have h := hh
  clear hh
  simp only [Bool.and_eq_true] at h
  obtain ⟨⟨⟨⟨⟨⟨⟨⟨h1, h2⟩, h3⟩, h4⟩, h5⟩, h6⟩, h7⟩, h8⟩, h9⟩ := h
  have hk : scope.kind = .function := (blkOk_by h2).kind
  have cb := fun s H C cl fp => c.blk scope hk s H C cl fp
  refine ⟨y, tgx, iter, ifs, scope, p, rfl, ⟨((sE it iter X Wx cc c hc.1).2 tgx h1).b, blkOk_of c h2, ownP_map own, slots_of h3, fun s H C cl fp => (cb s H C cl fp).tg h4, ?_, fun s H C cl fp => ((sE elt y _ noX (cc.blk scope) (cb s H C cl fp) hc.2.2).1 h5).r h6, set_fold h8 _⟩⟩
  intro s H C cl fp
  cases ifs with
  | nil => exact pts_yes (X := X.blk s H scope (compEnvC scope cl C X.env) fp) h9
  | cons z zs =>
    cases zs with
    | nil =>
      have h9 : (mE (cc.blk scope) t z && tst z) = true := h9
      simp only [Bool.and_eq_true] at h9
      exact pts_one (((sE t z _ noX (cc.blk scope) (cb s H C cl fp) hc.2.1).1 h9.1).t h7 h9.2)
    | cons _ _ => cases h9
/-- new lists -/
theorem sF (c : CtxOk P G X Wx cc) {e : E} {x : Expr} (hc : cE P G e) (hf : isF e = true) (h : mE cc e x = true) : PFr X Wx x (dE e) := by
  unfold isF at hf
  split at hf
  · rw [mE] at h
    obtain ⟨xs, p, rfl, hh⟩ := on_lst h
    simp only [Bool.and_eq_true, decide_eq_true_eq] at hh
    exact f_lst ((sEs _ xs X Wx cc c hc hh.1.1).r hh.1.2) (few_of hh.2)
  · obtain ⟨y, tgx, iter, ifs, scope, p, rfl, l⟩ := lc_ok c hc h
    exact f_lc c.calm c.nd l.hi l.ok l.ho l.hsl l.hg l.ht l.he l.hs
  · rw [mE] at h
    obtain ⟨o, y, z, p, rfl, hh⟩ := on_bin h
    simp only [Bool.and_eq_true, decide_eq_true_eq] at hh
    obtain ⟨⟨rfl, h1⟩, h2⟩ := hh
    exact f_add ((sE _ y X Wx cc c hc.1).1 h1).b ((sE _ z X Wx cc c hc.2).1 h2).b
  · rw [mE] at h
    obtain ⟨o, y, z, p, rfl, hh⟩ := on_bin h
    simp only [Bool.and_eq_true, decide_eq_true_eq] at hh
    obtain ⟨⟨rfl, h1⟩, h2⟩ := hh
    exact f_mul ((sE _ y X Wx cc c hc.1).1 h1).b ((sE _ z X Wx cc c hc.2).1 h2).b
  · rw [mE] at h
    obtain ⟨g, p, xs, pos, rfl, hh⟩ := on_call h
    clear h
    simp only [Bool.and_eq_true] at hh
    obtain ⟨h0, h⟩ := hh
    have h : (decide (g = (("list" : Str), false).1) && mEs cc _ xs && !xs.isEmpty) = true := h
    simp only [Bool.and_eq_true, decide_eq_true_eq] at h
    obtain ⟨⟨rfl, h1⟩, h2⟩ := h
    obtain ⟨hgl, hd⟩ := c.gl h0
    have q := sEs _ xs X Wx cc c hc h1
    cases xs with
    | nil => cases h2
    | cons y ys =>
      have hns := q.ns
      simp only [List.all_cons, Bool.and_eq_true] at hns
      exact f_list hgl (c.mg _ (by decide)) PyProof.Rows.boot_list q.b (by decide) hd (star_ok hns.1 ys X.env) (star_any hns.2 pos X.env)
  · rw [mE] at h
    obtain ⟨g, p, xs, pos, rfl, hh⟩ := on_call h
    clear h
    simp only [Bool.and_eq_true, decide_eq_true_eq] at hh
    obtain ⟨h0, hg, h⟩ := hh
    subst hg
    obtain ⟨u, e1, h1⟩ := on_one h
    obtain ⟨r, p2, ys, pos2, e2, h2⟩ := on_call h1
    obtain ⟨v, e3, h3⟩ := on_one h2
    subst e1
    subst e2
    subst e3
    simp only [Bool.and_eq_true, decide_eq_true_eq] at h3
    obtain ⟨⟨hr, h5⟩, h4⟩ := h3
    subst hr
    have q := sEs _ [v] X Wx cc c hc h4
    have hns := q.ns
    simp only [List.all_cons, List.all_nil, Bool.and_true] at hns
    exact f_listRg c.calm (c.gl h0).1 (c.mg _ (by decide)) (c.gl h5).1 (c.mg _ (by decide)) q.all.1.b hns
  · rw [mE] at h
    obtain ⟨g, p, xs, pos, rfl, hh⟩ := on_call h
    clear h
    simp only [Bool.and_eq_true, decide_eq_true_eq] at hh
    obtain ⟨h0, hg, h⟩ := hh
    subst hg
    obtain ⟨u, e1, h1⟩ := on_one h
    obtain ⟨r, p2, ys, pos2, e2, h2⟩ := on_call h1
    obtain ⟨v, e3, h3⟩ := on_one h2
    subst e1
    subst e2
    subst e3
    simp only [Bool.and_eq_true, decide_eq_true_eq] at h3
    obtain ⟨⟨hr, h5⟩, h4⟩ := h3
    subst hr
    have q := sEs _ [v] X Wx cc c hc h4
    have hns := q.ns
    simp only [List.all_cons, List.all_nil, Bool.and_true] at hns
    exact f_sortSet c.calm c.un (c.gl h0).1 (c.mg _ (by decide)) (c.gl h5).1 (c.mg _ (by decide)) q.all.1.b hns
  · cases hf

/-! ### where a store and a comprehension are exchanged -/
def isLc : Expr → Bool
  | .ListComp .. => true
  | .SetComp .. => true
  | .DictComp .. => true
  | _ => false
theorem sw_not {x : Expr} (h : isLc x = false) (t : Option Expr) (n : Nat) (env : PySem.Env) : swapsWith x t n env = pure false := by
  cases x <;> first | rfl | exact absurd h (by simp [isLc])
def lcSw (cc : Cc) (y : Str) (py : Pos) (x : Expr) : Bool := match x with
  | .ListComp _ _ s p => decide (cc.sc.lookup y = some .local) && (py.line == p.line) && !(s.names.any fun (n, k) => n == y && (k == .local || k == .cell))
  | _ => false
theorem sw_lc (c : CtxOk P G X Wx cc) {y : Str} {py : Pos} {x : Expr} (h : ∃ a b s p, x = .ListComp a b s p) (n : Nat) : swapsWith x (some (.Name y py)) n X.env = pure (lcSw cc y py x) := by
  obtain ⟨a, b, s, p, rfl⟩ := h
  show (pure (X.env.blockKind == .function && X.env.kindOf y == some .local && py.line == p.line && !(s.names.any fun (n, k) => n == y && (k == .local || k == .cell))) : Sem Bool) = _
  refine congrArg pure ?_
  have hk : X.env.blockKind = .function := by
    unfold Env.blockKind
    rw [c.kind]
    rfl
  rw [hk, show X.env.kindOf y = cc.sc.lookup y from by unfold Env.kindOf; rw [c.sc]]
  unfold lcSw
  have e1 : (ScopeKind.function == ScopeKind.function) = true := rfl
  rw [e1, Bool.true_and, Bool.beq_eq_decide_eq]
theorem st_setLc {i : Nat} {y : Str} {py spos p : Pos} {own : List Nat} {tg : Tg} {it t elt : E} {z tgx iter : Expr} {ifs : List Expr} {scope : Scope} {ownp : List (Str × Nat)} (hc : X.calm = true) (hN : X.N.Nodup) (hi : X.N[i]? = some y) (hy : X.env.scope.names.lookup y = some .local) (l : LcOk X Wx own tg it t elt z tgx iter ifs scope ownp)
    (hsw : swapsWith (.ListComp z [⟨tgx, iter, ifs, 0⟩] scope p) (some (.Name y py)) spos.line X.env = pure true) :
    PSr X Wx (.Assign [.Name y py] (.ListComp z [⟨tgx, iter, ifs, 0⟩] scope p) spos) fun ρ => dE (.lc own tg it t elt) ρ >>= fun d => pure (.nx (ρ.set i (some (d, false)))) := by
  obtain ⟨hI, ok, ho, hsl, hg, ht, he, hs⟩ := l
  subst ho
  refine ps_imp (ps_setLc (te := tE X.K X.mg noX (dE elt)) hc hN hi hy hsw hI ok hg ht he hs) fun D σ H q => ?_
  obtain ⟨c, ρ, e, q⟩ := q
  show tLc _ _ _ _ _ σ H fun x H1 => D.nx (σ.set i (some x)) H1
  refine read_lc (Wx := Wx) (P := fun c ρ d => VQ X.K c.W (Nn c ρ σ) H (fun x H1 => D.nx (σ.set i (some x)) H1) d) hsl (fun c ρ ys _ e q D acc H' x i n _ hD z l => q _ H' x i (.lst hD n z (l.anti fun a z => .inl z))) ⟨c, ρ, e, ?_⟩
  have q : (mLc (ownp.map (·.2)) tg (fun ρ => dE it ρ >>= walked) (dE t) (dE elt) ρ).run (fun d => Rq X.K c ρ σ H D (.nx (ρ.set i (some (d, false))))) (XS X.K X.mg Wx c) c.b := q
  refine (mLc (ownp.map (·.2)) tg (fun ρ => dE it ρ >>= walked) (dE t) (dE elt) ρ).mono (Q' := fun d => VQ X.K c.W (Nn c ρ σ) H (fun x H1 => D.nx (σ.set i (some x)) H1) d) (fun d _ q v H' x i' r => ?_) (fun _ _ z => z.q e) q
  exact q _ _ (step_set e x (Bound.one (e.ext' x i') _ r)) ((e.ext' x i').setv _ r)
theorem st_setLcO {i : Nat} {y : Str} {py spos p : Pos} {own : List Nat} {tg : Tg} {it t elt : E} {z tgx iter : Expr} {ifs : List Expr} {scope : Scope} {ownp : List (Str × Nat)} (hc : X.calm = true) (hN : X.N.Nodup) (hi : X.N[i]? = some y) (hy : X.env.scope.names.lookup y = some .local) (l : LcOk X Wx own tg it t elt z tgx iter ifs scope ownp)
    (hsw : swapsWith (.ListComp z [⟨tgx, iter, ifs, 0⟩] scope p) (some (.Name y py)) spos.line X.env = pure true) :
    PSr X Wx (.Assign [.Name y py] (.ListComp z [⟨tgx, iter, ifs, 0⟩] scope p) spos) fun ρ => dE (.lc own tg it t elt) ρ >>= fun d => asList d >>= fun xs => pure (.nx (setO ρ i xs)) := by
  obtain ⟨hI, ok, ho, hsl, hg, ht, he, hs⟩ := l
  subst ho
  refine ps_imp (ps_setLc (te := tE X.K X.mg noX (dE elt)) hc hN hi hy hsw hI ok hg ht he hs) fun D σ H q => ?_
  obtain ⟨c, ρ, e, q⟩ := q
  show tLc _ _ _ _ _ σ H fun x H1 => D.nx (σ.set i (some x)) H1
  refine read_lc (Wx := Wx) (P := fun c ρ d => FQ X.K c ρ σ H (fun x H1 => D.nx (σ.set i (some x)) H1) d) hsl (fun c ρ ys _ e q D' acc H' x i' n h0 hD z l => ?_) ⟨c, ρ, e, (mLc _ tg (fun ρ => dE it ρ >>= walked) (dE t) (dE elt) ρ).mono (fun _ _ z => z) (fun _ _ z => z.q e) (read_asgO e q)⟩
  exact f_end e q x i' n h0 hD z l
end
end Ad
namespace Ad
open PySem PySem.Calls PySem.W PySem.SeqAt PySem.Spec PyProof.Rows L2

section
variable {P : Str → (List D → M D) → Prop} {G : Str → D → Prop} {X : Cx} {Wx : WX} {cc : Cc}
/-! ### a, b = x, y -/
def isStar : Expr → Bool
  | .Starred .. => true
  | _ => false
def locName (cc : Cc) (line : Nat) : Expr → Option Str
  | .Name id pos => if cc.sc.lookup id == some .local && pos.line == line then some id else none
  | _ => none
def swapOf (cc : Cc) (ts vs : List Expr) : Option (Option (List Str)) :=
  if !(ts.length == 2 || ts.length == 3) || vs.length != ts.length then some none
  else if vs.any isStar then some none
  else
    let names := ts.filterMap (locName cc ((ts.head?.map (·.pos.line)).getD 0))
    if names.length != ts.length || names.eraseDups.length != names.length then some none
    else if vs.all (foldedForSure 8) then some none
    else if vs.all (constantsAlone 8) then none
    else some (some names)
def swBody (b : Bool) (f : Expr → Option Str) (g : Expr → Bool) (ts vs : List Expr) : Sem (Option (List Str)) := do
  if !(ts.length == 2 || ts.length == 3) || vs.length != ts.length || b then return none
  if vs.any g then return none
  let names := ts.filterMap f
  if names.length != ts.length || names.eraseDups.length != names.length then return none
  if vs.all (foldedForSure 8) then return none
  if vs.all (constantsAlone 8) then unsupported "assign.tuple-of-constant-expressions:order-of-the-stores"
  return some names
theorem sw_body {ts vs : List Expr} {kt k2 : Nat} {pt p2 : Pos} {env : PySem.Env} : swappedStores [.Tuple ts kt pt] (.Tuple vs k2 p2) env = swBody (env.blockKind != .function)
    (fun t => match t with
      | .Name id pos => if env.kindOf id == some .local && pos.line == (ts.head?.map (·.pos.line)).getD 0 then some id else none
      | _ => none) (fun t => match t with | .Starred .. => true | _ => false) ts vs := rfl
theorem swap_ok (c : CtxOk P G X Wx cc) {ts vs : List Expr} {kt k2 : Nat} {pt p2 : Pos} {r : Option (List Str)} (h : swapOf cc ts vs = some r) : swappedStores [.Tuple ts kt pt] (.Tuple vs k2 p2) X.env = pure r := by
  have hk : (X.env.blockKind != .function) = false := by
    unfold Env.blockKind
    rw [c.kind]
    rfl
  have hn : (fun t : Expr => match t with
      | .Name id pos => if X.env.kindOf id == some .local && pos.line == (ts.head?.map (·.pos.line)).getD 0 then some id else none
      | _ => none) = locName cc ((ts.head?.map (·.pos.line)).getD 0) := by
    funext t
    cases t <;> try rfl
    show (if X.env.kindOf _ == some .local && _ then _ else _) = (if cc.sc.lookup _ == some .local && _ then _ else _)
    rw [show ∀ y, X.env.kindOf y = cc.sc.lookup y from fun y => by unfold Env.kindOf; rw [c.sc]]
  have hs : (fun t : Expr => match t with | .Starred .. => true | _ => false) = isStar := by
    funext t
    cases t <;> rfl
  rw [sw_body, hk, hn, hs]
  unfold swapOf at h
  unfold swBody
  rw [Bool.or_false]
  split at h
  · rename_i q
    rw [if_pos q]
    cases h
    rfl
  · rename_i q
    rw [if_neg q]
    split at h
    · rename_i q
      cases h
      rw [if_pos q]
    · rename_i q
      rw [if_neg q]
      dsimp only at h ⊢
      split at h
      · rename_i q
        cases h
        rw [if_pos q]
      · rename_i q
        rw [if_neg q]
        split at h
        · rename_i q
          cases h
          rw [if_pos q]
        · rename_i q
          rw [if_neg q]
          split at h
          · cases h
          · rename_i q
            cases h
            rw [if_neg q]

/-! ### shapes of statements -/
def onAsg (x : Stmt) (f : Expr → Expr → Bool) : Bool := match x with
  | .Assign [t] v _ => f t v
  | _ => false
theorem on_asg {x : Stmt} {f : Expr → Expr → Bool} (h : onAsg x f = true) : ∃ t v p, x = .Assign [t] v p ∧ f t v = true := by
  unfold onAsg at h
  split at h
  · exact ⟨_, _, _, rfl, h⟩
  · cases h
def onAug (x : Stmt) (f : Expr → Expr → Bool) : Bool := match x with
  | .AugAssign t .Add v _ => f t v
  | _ => false
theorem on_aug {x : Stmt} {f : Expr → Expr → Bool} (h : onAug x f = true) : ∃ t v p, x = .AugAssign t .Add v p ∧ f t v = true := by
  unfold onAug at h
  split at h
  · exact ⟨_, _, _, rfl, h⟩
  · cases h
def onFor (x : Stmt) (f : Expr → Expr → List Stmt → Bool) : Bool := match x with
  | .For t i b [] _ => f t i b
  | _ => false
theorem on_for {x : Stmt} {f : Expr → Expr → List Stmt → Bool} (h : onFor x f = true) : ∃ t i b p, x = .For t i b [] p ∧ f t i b = true := by
  unfold onFor at h
  split at h
  · exact ⟨_, _, _, _, rfl, h⟩
  · cases h
def onWhl (x : Stmt) (f : Expr → List Stmt → Bool) : Bool := match x with
  | .While c b [] _ => f c b
  | _ => false
theorem on_whl {x : Stmt} {f : Expr → List Stmt → Bool} (h : onWhl x f = true) : ∃ c b p, x = .While c b [] p ∧ f c b = true := by
  unfold onWhl at h
  split at h
  · exact ⟨_, _, _, rfl, h⟩
  · cases h
def onIte (x : Stmt) (f : Expr → List Stmt → List Stmt → Bool) : Bool := match x with
  | .If c a b _ => f c a b
  | _ => false
theorem on_ite {x : Stmt} {f : Expr → List Stmt → List Stmt → Bool} (h : onIte x f = true) : ∃ c a b p, x = .If c a b p ∧ f c a b = true := by
  unfold onIte at h
  split at h
  · exact ⟨_, _, _, _, rfl, h⟩
  · cases h
def onEx (x : Stmt) (f : Expr → Bool) : Bool := match x with
  | .Expr v _ => f v
  | _ => false
theorem on_ex {x : Stmt} {f : Expr → Bool} (h : onEx x f = true) : ∃ v p, x = .Expr v p ∧ f v = true := by
  unfold onEx at h
  split at h
  · exact ⟨_, _, rfl, h⟩
  · cases h
def onRet (x : Stmt) (f : Option Expr → Bool) : Bool := match x with
  | .Return v _ => f v
  | _ => false
theorem on_ret {x : Stmt} {f : Option Expr → Bool} (h : onRet x f = true) : ∃ v p, x = .Return v p ∧ f v = true := by
  unfold onRet at h
  split at h
  · exact ⟨_, _, rfl, h⟩
  · cases h
def isPass : Stmt → Bool
  | .Pass _ => true
  | _ => false
def isRaise : Stmt → Bool
  | .Raise _ _ _ => true
  | _ => false
def isBrk : Stmt → Bool
  | .Break _ => true
  | _ => false
/-- w.name(xs) -/
def onWM (cc : Cc) (w : Nat) (nm : Str) (x : Expr) (f : List Expr → Bool) : Bool := onMeth x fun o n ap xs p => nmB cc w o && decide (n = nm) && (ap.endLine == p.line) && f xs
def parMs : List (Nat × Bool) → Es → List (Bool × TM D)
  | i :: is, .cons e es => (i.2, dE e) :: parMs is es
  | _, _ => []
def mP (cc : Cc) : List (Nat × Bool) → Es → List Expr → Bool
  | [], .nil, [] => true
  | i :: is, .cons e es, x :: xs => (if i.2 then isF e else nw e) && mE cc e x && notStar x && mP cc is es xs
  | _, _, _ => false
theorem mP_ok (c : CtxOk P G X Wx cc) : ∀ {is : List (Nat × Bool)} {es : Es} {xs : List Expr}, cEs P G es → mP cc is es xs = true → PA X xs (tAP X.K X.mg Wx (parMs is es)) ∧ (∀ ρ, dPar is es ρ = parM (parMs is es) ρ) ∧ is.map (·.2) = (parMs is es).map (·.1) ∧ xs.length = is.length ∧ (parMs is es).length = is.length
  | [], .nil, [], _, _ => ⟨par_nil, fun _ => rfl, rfl, rfl, rfl⟩
  | i :: is, .cons e es, x :: xs, hc, h => by
    simp only [mP, Bool.and_eq_true] at h
    obtain ⟨⟨⟨h1, h2⟩, h3⟩, h4⟩ := h
    obtain ⟨q1, q2, q3, q4, q5⟩ := mP_ok c hc.2 h4
    have hs := star_ok h3 xs X.env
    obtain ⟨i, o⟩ := i
    refine ⟨?_, fun ρ => ?_, ?_, by simp [q4], by simp [parMs, q5]⟩
    · cases o with
      | false => exact par_val (((sE e x X Wx cc c hc.1).1 h2).r h1) q1 hs
      | true => exact par_own (sF c hc.1 h1 h2) q1 hs
    · show (dE e ρ >>= fun d => ownD o d >>= fun d => dPar is es ρ >>= fun ds => pure (d :: ds)) = _
      rw [q2]
      rfl
    · show o :: is.map (·.2) = o :: (parMs is es).map (·.1)
      rw [q3]
  | [], .nil, _ :: _, _, h => by simp [mP] at h
  | [], .cons _ _, _, _, h => by simp [mP] at h
  | _ :: _, .nil, _, _, h => by simp [mP] at h
  | _ :: _, .cons _ _, [], _, h => by simp [mP] at h
def lc1 (cc : Cc) : Expr → Str → Bool
  | .Name x _, y => decide (x = y) && decide (cc.sc.lookup x = some .local)
  | _, _ => false
/-- the three ways in which a, b = x, y is done -/
def mPar (cc : Cc) (is : List (Nat × Bool)) (es : Es) (ts xs : List Expr) : Bool := setsB cc (is.map (·.1)) ts && mP cc is es xs && decide (is.map (·.1)).Nodup && decide (is.length ≤ 100) && (match swapOf cc ts xs with
  | some none => true
  | some (some [a, b]) => (match ts with | [t, u] => lc1 cc t a && lc1 cc u b | _ => false)
  | some (some [a, b, d]) => (match ts with | [t, u, v] => lc1 cc t a && lc1 cc u b && lc1 cc v d | _ => false)
  | _ => false)
theorem lc1_ok (c : CtxOk P G X Wx cc) {t : Expr} {a : Str} (h : lc1 cc t a = true) : ∃ p, t = .Name a p ∧ X.env.scope.names.lookup a = some .local := by
  unfold lc1 at h
  split at h
  · simp only [Bool.and_eq_true, decide_eq_true_eq] at h
    obtain ⟨rfl, h⟩ := h
    exact ⟨_, rfl, by rw [c.sc]; exact h⟩
  · cases h
theorem set_at (c : CtxOk P G X Wx cc) {i : Nat} {a : Str} {p : Pos} (h : setB cc i (.Name a p) = true) : X.N[i]? = some a := by
  obtain ⟨nm, p', e, h1, _⟩ := c.set h
  cases e
  exact h1
theorem mPar_ok (c : CtxOk P G X Wx cc) {is : List (Nat × Bool)} {es : Es} {ts xs : List Expr} {kt k2 : Nat} {pt p2 pos : Pos} (hc : cEs P G es) (h : mPar cc is es ts xs = true) : PSr X Wx (.Assign [.Tuple ts kt pt] (.Tuple xs k2 p2) pos) (dS (.par is es)) := by
  unfold mPar at h
  simp only [Bool.and_eq_true, decide_eq_true_eq] at h
  obtain ⟨⟨⟨⟨h1, h2⟩, h3⟩, h4⟩, h5⟩ := h
  obtain ⟨q1, q2, q3, q4, q5⟩ := mP_ok c hc h2
  have hd : dS (.par is es) = fun ρ => parM (parMs is es) ρ >>= fun ds => pure (.nx (setAll ρ is ds)) := by
    funext ρ
    show (dPar is es ρ >>= fun ds => pure (Rz.nx (setAll ρ is ds)) : M Rz) = _
    rw [q2]
  rw [hd]
  have hss : swapsWithSole [.Tuple ts kt pt] (.Tuple xs k2 p2) pos.line X.env = pure false := rfl
  split at h5
  · rename_i e
    have htg : tgB cc (.t (is.map (·.1))) (.Tuple ts kt pt) = true := h1
    exact st_parT c.calm h3 q3 (by rw [q5]; exact h4) (c.tg htg) q1 (swap_ok c e) hss rfl
  · rename_i a b e
    split at h5
    · simp only [Bool.and_eq_true] at h5
      obtain ⟨p, rfl, l1⟩ := lc1_ok c h5.1
      obtain ⟨q, rfl, l2⟩ := lc1_ok c h5.2
      match is, es, xs, e, h1, h2, h3, q1, q4 with
      | [(i, o1), (j, o2)], .cons e1 (.cons e2 .nil), [x, y], e, h1, h2, h3, q1, q4 =>
        simp only [List.map_cons, List.map_nil, setsB, Bool.and_eq_true] at h1
        have hij : i ≠ j := by simpa using h3
        exact st_par2 c.calm c.nd (set_at c h1.1) (set_at c h1.2.1) hij l1 l2 q1 (swap_ok c e) hss
      | [(i, o1), (j, o2)], .nil, _, e, h1, h2, h3, q1, q4 => simp [mP] at h2
      | [(i, o1), (j, o2)], .cons _ .nil, [], e, h1, h2, h3, q1, q4 => simp [mP] at h2
      | [(i, o1), (j, o2)], .cons _ .nil, _ :: _, e, h1, h2, h3, q1, q4 => simp [mP] at h2
      | [(i, o1), (j, o2)], .cons _ (.cons _ (.cons _ _)), [], e, h1, h2, h3, q1, q4 => simp [mP] at h2
      | [(i, o1), (j, o2)], .cons _ (.cons _ (.cons _ _)), [_], e, h1, h2, h3, q1, q4 => simp [mP] at h2
      | [(i, o1), (j, o2)], .cons _ (.cons _ (.cons _ _)), _ :: _ :: _, e, h1, h2, h3, q1, q4 => simp [mP] at h2
      | [], _, _, _, h1, _, _, _, _ => simp [setsB] at h1
      | [_], _, _, _, h1, _, _, _, _ => simp [setsB] at h1
      | _ :: _ :: _ :: _, _, _, _, h1, _, _, _, _ => simp [setsB] at h1
      | [(i, o1), (j, o2)], .cons e1 (.cons e2 .nil), [], e, h1, h2, h3, q1, q4 => simp at q4
      | [(i, o1), (j, o2)], .cons e1 (.cons e2 .nil), [_], e, h1, h2, h3, q1, q4 => simp at q4
      | [(i, o1), (j, o2)], .cons e1 (.cons e2 .nil), _ :: _ :: _ :: _, e, h1, h2, h3, q1, q4 => simp at q4
    · cases h5
  · rename_i a b d e
    split at h5
    · simp only [Bool.and_eq_true] at h5
      obtain ⟨p, rfl, l1⟩ := lc1_ok c h5.1.1
      obtain ⟨q, rfl, l2⟩ := lc1_ok c h5.1.2
      obtain ⟨r, rfl, l3⟩ := lc1_ok c h5.2
      match is, es, xs, e, h1, h2, h3, q1, q4 with
      | [(i, o1), (j, o2), (l, o3)], .cons e1 (.cons e2 (.cons e3 .nil)), [x, y, z], e, h1, h2, h3, q1, q4 =>
        simp only [List.map_cons, List.map_nil, setsB, Bool.and_eq_true] at h1
        simp only [List.map_cons, List.map_nil, List.nodup_cons, List.mem_cons, List.not_mem_nil, or_false, not_or, List.nodup_nil, and_true, not_false_eq_true] at h3
        exact st_par3 c.calm c.nd (set_at c h1.1) (set_at c h1.2.1) (set_at c h1.2.2.1) h3.1.1 h3.1.2 h3.2 l1 l2 l3 q1 (swap_ok c e) hss
      | [_, _, _], .nil, _, e, h1, h2, h3, q1, q4 => simp [mP] at h2
      | [_, _, _], .cons _ .nil, [], e, h1, h2, h3, q1, q4 => simp [mP] at h2
      | [_, _, _], .cons _ .nil, _ :: _, e, h1, h2, h3, q1, q4 => simp [mP] at h2
      | [_, _, _], .cons _ (.cons _ .nil), [], e, h1, h2, h3, q1, q4 => simp [mP] at h2
      | [_, _, _], .cons _ (.cons _ .nil), [_], e, h1, h2, h3, q1, q4 => simp [mP] at h2
      | [_, _, _], .cons _ (.cons _ .nil), _ :: _ :: _, e, h1, h2, h3, q1, q4 => simp [mP] at h2
      | [_, _, _], .cons _ (.cons _ (.cons _ (.cons _ _))), [], e, h1, h2, h3, q1, q4 => simp [mP] at h2
      | [_, _, _], .cons _ (.cons _ (.cons _ (.cons _ _))), [_], e, h1, h2, h3, q1, q4 => simp [mP] at h2
      | [_, _, _], .cons _ (.cons _ (.cons _ (.cons _ _))), [_, _], e, h1, h2, h3, q1, q4 => simp [mP] at h2
      | [_, _, _], .cons _ (.cons _ (.cons _ (.cons _ _))), _ :: _ :: _ :: _, e, h1, h2, h3, q1, q4 => simp [mP] at h2
      | [], _, _, _, h1, _, _, _, _ => simp [setsB] at h1
      | [_], _, _, _, h1, _, _, _, _ => simp [setsB] at h1
      | [_, _], _, _, _, h1, _, _, _, _ => simp [setsB] at h1
      | _ :: _ :: _ :: _ :: _, _, _, _, h1, _, _, _, _ => simp [setsB] at h1
      | [_, _, _], .cons e1 (.cons e2 (.cons e3 .nil)), [], e, h1, h2, h3, q1, q4 => simp at q4
      | [_, _, _], .cons e1 (.cons e2 (.cons e3 .nil)), [_], e, h1, h2, h3, q1, q4 => simp at q4
      | [_, _, _], .cons e1 (.cons e2 (.cons e3 .nil)), [_, _], e, h1, h2, h3, q1, q4 => simp at q4
      | [_, _, _], .cons e1 (.cons e2 (.cons e3 .nil)), _ :: _ :: _ :: _ :: _, e, h1, h2, h3, q1, q4 => simp at q4
    · cases h5
  · cases h5
/-- a, (b, c) -/
def mNest (cc : Cc) (i : Nat) (js : List Nat) (ts : List Expr) : Bool := match ts with
  | [a, b] => setB cc i a && tgB cc (.t js) b
  | _ => false
theorem mNest_ok (c : CtxOk P G X Wx cc) {i : Nat} {js : List Nat} {ts : List Expr} {k : Nat} {p : Pos} (h : mNest cc i js ts = true) : PG X (.Tuple ts k p) (gTup X.K 2 (gCons (gName i) (gCons (gOf X.K (.t js)) gNil))) := by
  match ts, h with
  | [a, b], h =>
    simp only [mNest, Bool.and_eq_true] at h
    obtain ⟨h1, h2⟩ := h
    have hb : ∃ ys k2 p2, b = .Tuple ys k2 p2 := by
      have h3 : tupB cc js b = true := h2
      unfold tupB at h3
      split at h3
      · exact ⟨_, _, _, rfl⟩
      · cases h3
    obtain ⟨nm, q, rfl, g1, g2, g3⟩ := c.set h1
    have gb := c.tg h2
    obtain ⟨ys, k2, p2, rfl⟩ := hb
    exact pg_tup c.calm (pgs_cons (pg_name c.nd g1 g2 g3) (pgs_cons gb pgs_nil rfl) rfl) rfl rfl
end
end Ad
namespace Ad
open PySem PySem.Calls PySem.W PySem.SeqAt PySem.Spec PyProof.Rows L2

section
variable (P : Str → (List D → M D) → Prop) (G : Str → D → Prop)
mutual
def cS : S → Prop
  | .asg _ e => cE P G e
  | .asgO _ e => cE P G e
  | .pop _ _ => True
  | .asgT _ e => cE P G e
  | .asgN _ _ e => cE P G e
  | .par _ es => cEs P G es
  | .app _ e => cE P G e
  | .appPop _ _ e => cE P G e
  | .rot _ e => cE P G e
  | .rem _ e => cE P G e
  | .ext _ e => cE P G e
  | .set _ i e => cE P G i ∧ cE P G e
  | .aug _ e => cE P G e
  | .ex e => cE P G e
  | .ite c a b => cE P G c ∧ cSs a ∧ cSs b
  | .for _ it b => cE P G it ∧ cSs b
  | .forPop _ a _ b => cE P G a ∧ cSs b
  | .whl c b => cE P G c ∧ cSs b
  | .ret e => cE P G e
  | .retn => True
  | .brk => True
  | .pass => True
  | .nev => True
  | .frz _ => True
  | .dkUn .. => True
  | .dkInc _ e => cE P G e
  | .vset _ j e => cE P G j ∧ cE P G e
def cSs : Ss → Prop
  | .nil => True
  | .cons s ss => cS s ∧ cSs ss
end
end
def isLcE : E → Bool
  | .lc .. => true
  | _ => false
mutual
def mS (cc : Cc) : S → Stmt → Bool
  | .asg i e, x => onAsg x fun t v => setB cc i t && mE cc e v && nw e && (!isLc v || isLcE e)
  | .asgO i e, x => onAsg x fun t v => setB cc i t && mE cc e v && isF e && (!isLc v || isLcE e)
  | .pop i w, x => onAsg x fun t v => setB cc i t && onWM cc w "pop" v fun xs => xs.isEmpty
  | .asgT is e, x => onAsg x fun t v => tupB cc is t && mE cc e v && nw e && !isTupE v && !isLc v
  | .asgN i js e, x => onAsg x fun t v => onTup t fun ts => onTup v fun xs => mNest cc i js ts && (match swapOf cc ts xs with | some none => true | _ => false) && mE cc e v && nw e
  | .par is es, x => onAsg x fun t v => onTup t fun ts => onTup v fun xs => mPar cc is es ts xs
  | .app w e, x => onEx x fun v => onWM cc w "append" v fun xs => one xs fun y => mE cc e y && nw e && notStar y
  | .appPop w u e, x => onEx x fun v => onWM cc w "append" v fun xs => one xs fun y => onWM cc u "pop" y fun ys => one ys fun z => mE cc e z && nw e && notStar z
  | .rot w e, x => onEx x fun v => onWM cc w "append" v fun xs => one xs fun y => onWM cc w "pop" y fun ys => one ys fun z => mE cc e z && nw e && notStar z
  | .rem w e, x => onEx x fun v => onWM cc w "remove" v fun xs => one xs fun y => mE cc e y && nw e && notStar y
  | .ext w e, x => onEx x fun v => onWM cc w "extend" v fun xs => one xs fun y => mE cc e y && nw e && notStar y
  | .set w i e, x => onAsg x fun t v => onSub t fun o y => nmB cc w o && mE cc i y && nw i && notSlice y && mE cc e v && nw e && !isLc v
  | .aug i e, x => onAug x fun t v => setB cc i t && mE cc e v && nw e
  | .ex e, x => onEx x fun v => mE cc e v && nw e && !isLc v
  | .ite c a b, x => onIte x fun z xs ys => mE cc c z && nw c && tst z && mSs cc a xs && mSs cc b ys
  | .for tg it b, x => onFor x fun tgx iter xs => mI cc it iter tgx && nwI it && tgB cc tg tgx && notSet iter && mSs cc b xs
  | .forPop tg a w b, x => onFor x fun tgx iter xs => onSub iter (fun y z => mE cc a y && nw a && onWM cc w "pop" z fun ys => ys.isEmpty) && tgB cc tg tgx && mSs cc b xs
  | .whl c b, x => onWhl x fun z xs => mE cc c z && nw c && tst z && mSs cc b xs
  | .ret e, x => onRet x fun v => (match v with | some y => mE cc e y && nw e | none => false)
  | .retn, x => onRet x fun v => (match v with | some _ => false | none => true)
  | .brk, x => isBrk x
  | .pass, x => isPass x
  | .nev, x => isRaise x
  | .frz _, _ => false
  | .dkUn ic it ir w, x => onAsg x fun t v => tupB cc [ic, it, ir] t && nmB cc w v
  | .dkInc w e, x => onAsg x fun t v => onSub t fun o y => nmB cc w o && onCon y (fun k => conE k (.int 1)) && mE cc e v && nw e && !isTupE v && !isLc v
  | .vset i j e, x => onAsg x fun t v => onSub t fun o y => nmB cc i o && mE cc j y && nw j && notSlice y && mE cc e v && nw e && !isTupE v && !isLc v
def mSs (cc : Cc) : Ss → List Stmt → Bool
  | .nil, xs => xs.isEmpty
  | .cons s ss, xs => (match s with
    | .frz _ => mSs cc ss xs
    | s => (match xs with
      | x :: xs => mS cc s x && mSs cc ss xs
      | [] => false))
end
section
variable {P : Str → (List D → M D) → Prop} {G : Str → D → Prop} {X : Cx} {Wx : WX} {cc : Cc}
theorem on_wm {w : Nat} {nm : Str} {x : Expr} {f : List Expr → Bool} (c : CtxOk P G X Wx cc) (h : onWM cc w nm x f = true) : ∃ wn wp ap xs p, x = .Call (.Attribute (.Name wn wp) nm ap) xs [] p ∧ NameW X w wn ∧ (ap.endLine == p.line) = true ∧ f xs = true := by
  unfold onWM at h
  obtain ⟨o, n, ap, xs, p, rfl, hh⟩ := on_meth h
  simp only [Bool.and_eq_true, decide_eq_true_eq] at hh
  obtain ⟨⟨⟨h1, rfl⟩, h2⟩, h3⟩ := hh
  obtain ⟨wn, wp, rfl, g1, g2, g3, g4⟩ := c.name h1
  exact ⟨wn, wp, ap, xs, p, rfl, ⟨g1, g2, g3, g4⟩, h2, h3⟩
/-- a list of the def's own is given away -/
theorem EnvOk.frz {K : PySem.W.Frag} {c : Cf} {ρ : Ev} {σ : L2.St} {H : Hp} {i : Nat} {d : D} (e : EnvOk K c ρ σ H) (h : ρ[i]? = some (some (d, true))) : EnvOk K c (ρ.set i (some (d, false))) σ H ∧ ∀ a, Nn c (ρ.set i (some (d, false))) σ a → Nn c ρ σ a := by
  obtain ⟨a, o, h2, h3, h5, h6, h7⟩ := e.own i d h
  have hn : ∀ x, Nn c (ρ.set i (some (d, false))) σ x → Nn c ρ σ x := by
    rintro x (q | ⟨j, d', q1, q2⟩)
    · exact .inl q
    · rcases get_set q1 with ⟨_, _, q⟩ | ⟨hne, q⟩
      · cases q
      · exact .inr ⟨j, d', q, q2⟩
  have ha : ¬ Nn c (ρ.set i (some (d, false))) σ a := by
    rintro (q | ⟨j, d', q1, q2⟩)
    · exact h7 q
    · rcases get_set q1 with ⟨_, _, q⟩ | ⟨hne, q⟩
      · cases q
      · exact hne (e.dist i j _ d' a h q h2 q2)
  refine ⟨{
    len := by rw [List.length_set, e.len]
    val := fun j d' q => ?_
    own := fun j d' q => ?_
    dist := fun j k d1 d2 b q1 q2 g1 g2 => ?_
    ext := e.ext
    inv := e.inv
    bkn := e.bkn
    bv := e.bv }, hn⟩
  · rcases get_set q with ⟨rfl, hl, q⟩ | ⟨hne, q⟩
    · cases q
      refine ⟨.ref a, h2, ?_⟩
      cases h5 with
      | lst z l => exact .lst h3 ha z (l.anti hn)
      | dic g =>
        cases g with
        | dki z => exact .dci h3 ha z
        | dkt z => exact .dct h3 ha z
    · obtain ⟨u, u1, u2⟩ := e.val j d' q
      exact ⟨u, u1, u2.anti hn⟩
  · rcases get_set q with ⟨rfl, hl, q⟩ | ⟨hne, q⟩
    · cases q
    · obtain ⟨b, o', k2, k3, k5, k6, k7⟩ := e.own j d' q
      exact ⟨b, o', k2, k3, k5.anti hn, k6, k7⟩
  · rcases get_set q1 with ⟨_, _, q⟩ | ⟨_, q⟩
    · cases q
    · rcases get_set q2 with ⟨_, _, q'⟩ | ⟨_, q'⟩
      · cases q'
      · exact e.dist j k d1 d2 b q q' g1 g2
theorem st_frz {xs : List Stmt} {i : Nat} {b : Ev → M Rz} (h : PSsr X Wx xs b) : PSsr X Wx xs (mSeq (dS (.frz i)) b) := pss_imp h fun D σ H q => by
  obtain ⟨c, ρ, e, q⟩ := q
  have q : ((match ρ[i]? with
    | some (some (d, _)) => pure (.nx (ρ.set i (some (d, false))))
    | _ => M.fail) : M Rz).run (fun r => (Rz.sq b r).run (Rq X.K c ρ σ H D) (XS X.K X.mg Wx c)) (XS X.K X.mg Wx c) c.b := q
  split at q
  · rename_i d o hd
    have q : (b (ρ.set i (some (d, false)))).run (Rq X.K c ρ σ H D) (XS X.K X.mg Wx c) c.b := q
    cases o with
    | true =>
      obtain ⟨e2, hn⟩ := e.frz hd
      exact ⟨c, _, e2, (b _).mono (fun r _ q => q.later (n := c.b) ⟨Ext.refl H, fun a z => .inl (hn a z)⟩) (fun _ _ z => z) q⟩
    | false =>
      have hs : ρ.set i (some (d, false)) = ρ := by
        apply List.ext_getElem?
        intro j
        by_cases hj : i = j
        · subst hj
          rw [set_eq (List.getElem?_eq_some_iff.mp hd).1, hd]
        · rw [set_ne hj]
      rw [hs] at q
      exact ⟨c, ρ, e, q⟩
  · exact q.elim
theorem lcE_of {e : E} (h : isLcE e = true) : ∃ own tg it t elt, e = .lc own tg it t elt := by
  unfold isLcE at h
  split at h
  · exact ⟨_, _, _, _, _, rfl⟩
  · cases h
theorem asg_ok (c : CtxOk P G X Wx cc) {i : Nat} {e : E} {t v : Expr} {p : Pos} (hc : cE P G e) (h1 : setB cc i t = true) (h2 : mE cc e v = true) (h3 : nw e = true) (h4 : (!isLc v || isLcE e) = true) : PSr X Wx (.Assign [t] v p) (dS (.asg i e)) := by
  obtain ⟨y, py, rfl, g1, g2, g3⟩ := c.set h1
  have r := ((sE e v X Wx cc c hc).1 h2).r h3
  cases hl : isLc v with
  | false => exact st_set r c.nd g1 g2 (sw_not hl _ _ _) g3
  | true =>
    rw [hl] at h4
    obtain ⟨own, tg, it, t', elt, rfl⟩ := lcE_of h4
    obtain ⟨z, tgx, iter, ifs, scope, q, rfl, l⟩ := lc_ok c hc h2
    have hsw := sw_lc c (y := y) (py := py) ⟨z, [⟨tgx, iter, ifs, 0⟩], scope, q, rfl⟩ p.line
    cases hb : lcSw cc y py (.ListComp z [⟨tgx, iter, ifs, 0⟩] scope q) with
    | false => rw [hb] at hsw; exact st_set r c.nd g1 g2 hsw g3
    | true =>
      rw [hb] at hsw
      have hy : X.env.scope.names.lookup y = some .local := by
        unfold lcSw at hb
        simp only [Bool.and_eq_true, decide_eq_true_eq] at hb
        rw [c.sc]
        exact hb.1.1
      exact st_setLc c.calm c.nd g1 hy l hsw
theorem asgO_ok (c : CtxOk P G X Wx cc) {i : Nat} {e : E} {t v : Expr} {p : Pos} (hc : cE P G e) (h1 : setB cc i t = true) (h2 : mE cc e v = true) (h3 : isF e = true) (h4 : (!isLc v || isLcE e) = true) : PSr X Wx (.Assign [t] v p) (dS (.asgO i e)) := by
  obtain ⟨y, py, rfl, g1, g2, g3⟩ := c.set h1
  have r := sF c hc h3 h2
  cases hl : isLc v with
  | false => exact st_asgO r c.nd g1 g2 (sw_not hl _ _ _) g3
  | true =>
    rw [hl] at h4
    obtain ⟨own, tg, it, t', elt, rfl⟩ := lcE_of h4
    obtain ⟨z, tgx, iter, ifs, scope, q, rfl, l⟩ := lc_ok c hc h2
    have hsw := sw_lc c (y := y) (py := py) ⟨z, [⟨tgx, iter, ifs, 0⟩], scope, q, rfl⟩ p.line
    cases hb : lcSw cc y py (.ListComp z [⟨tgx, iter, ifs, 0⟩] scope q) with
    | false => rw [hb] at hsw; exact st_asgO r c.nd g1 g2 hsw g3
    | true =>
      rw [hb] at hsw
      have hy : X.env.scope.names.lookup y = some .local := by
        unfold lcSw at hb
        simp only [Bool.and_eq_true, decide_eq_true_eq] at hb
        rw [c.sc]
        exact hb.1.1
      exact st_setLcO c.calm c.nd g1 hy l hsw
theorem notLc_of {v : Expr} (h : (!isLc v) = true) : isLc v = false := by simpa using h
theorem noSwapS {y z v : Expr} {p : Pos} (env : PySem.Env) : swappedStores [.Subscript y z p] v env = pure none := by
  cases v <;> rfl
theorem noSwap {t v : Expr} (h : (!isTupE v) = true) (env : PySem.Env) : swappedStores [t] v env = pure none := by
  have hv : isTupE v = false := by simpa using h
  cases v <;> first | (cases t <;> rfl) | (exact absurd hv (by simp [isTupE]))
mutual
theorem sS : ∀ (s : S) (x : Stmt), CtxOk P G X Wx cc → PassesOwn (model X.prog X.w) X.A X.env X.xe → cS P G s → mS cc s x = true → PSr X Wx x (dS s)
  | .asg i e, x, c, hp, hc, h => by
    rw [mS] at h
    obtain ⟨t, v, p, rfl, hh⟩ := on_asg h
    simp only [Bool.and_eq_true] at hh
    exact asg_ok c hc hh.1.1.1 hh.1.1.2 hh.1.2 hh.2
  | .asgO i e, x, c, hp, hc, h => by
    rw [mS] at h
    obtain ⟨t, v, p, rfl, hh⟩ := on_asg h
    simp only [Bool.and_eq_true] at hh
    exact asgO_ok c hc hh.1.1.1 hh.1.1.2 hh.1.2 hh.2
  | .pop i w, x, c, hp, hc, h => by
    rw [mS] at h
    obtain ⟨t, v, p, rfl, hh⟩ := on_asg h
    simp only [Bool.and_eq_true] at hh
    obtain ⟨y, py, rfl, g1, g2, g3⟩ := c.set hh.1
    obtain ⟨wn, wp, ap, xs, q, rfl, n, hl, hx⟩ := on_wm c hh.2
    have hx : xs = [] := by simpa using hx
    subst hx
    exact st_pop n c.nd g1 g2 g3 hl
  | .asgT is e, x, c, hp, hc, h => by
    rw [mS] at h
    obtain ⟨t, v, p, rfl, hh⟩ := on_asg h
    simp only [Bool.and_eq_true] at hh
    obtain ⟨⟨⟨⟨h1, h2⟩, h3⟩, h4⟩, h5⟩ := hh
    have htg : tgB cc (.t is) t = true := h1
    have ha : (assignEach [t] X.env).map (·.2) = [assign t X.env] := by
      unfold tupB at h1
      split at h1
      · rfl
      · cases h1
    exact st_asg (((sE e v X Wx cc c hc).1 h2).r h3) (c.tg htg) (sw_not (notLc_of h5) _ _ _) (noSwap h4 _) ha
  | .asgN i js e, x, c, hp, hc, h => by
    rw [mS] at h
    obtain ⟨t, v, p, rfl, hh⟩ := on_asg h
    obtain ⟨ts, k, p1, rfl, h1⟩ := on_tup hh
    obtain ⟨xs, k2, p2, rfl, h2⟩ := on_tup h1
    simp only [Bool.and_eq_true] at h2
    obtain ⟨⟨⟨h2, h3⟩, h4⟩, h5⟩ := h2
    have hw : swapOf cc ts xs = some none := by
      split at h3
      · assumption
      · cases h3
    exact st_asgN (((sE e _ X Wx cc c hc).1 h4).r h5) (mNest_ok c h2) rfl (swap_ok c hw) rfl
  | .par is es, x, c, hp, hc, h => by
    rw [mS] at h
    obtain ⟨t, v, p, rfl, hh⟩ := on_asg h
    obtain ⟨ts, k, p1, rfl, h1⟩ := on_tup hh
    obtain ⟨xs, k2, p2, rfl, h2⟩ := on_tup h1
    exact mPar_ok c hc h2
  | .app w e, x, c, hp, hc, h => by
    rw [mS] at h
    obtain ⟨v, p, rfl, hh⟩ := on_ex h
    obtain ⟨wn, wp, ap, xs, q, rfl, n, hl, hx⟩ := on_wm c hh
    obtain ⟨y, rfl, hy⟩ := on_one hx
    simp only [Bool.and_eq_true] at hy
    exact st_app n (((sE e y X Wx cc c hc).1 hy.1.1).r hy.1.2) hy.2 hl
  | .appPop w u e, x, c, hp, hc, h => by
    rw [mS] at h
    obtain ⟨v, p, rfl, hh⟩ := on_ex h
    obtain ⟨wn, wp, ap, xs, q, rfl, n, hl, hx⟩ := on_wm c hh
    obtain ⟨y, rfl, hy⟩ := on_one hx
    obtain ⟨un, up, ap2, ys, q2, rfl, n2, hl2, hx2⟩ := on_wm c hy
    obtain ⟨z, rfl, hz⟩ := on_one hx2
    simp only [Bool.and_eq_true] at hz
    exact st_appPop n n2 (((sE e z X Wx cc c hc).1 hz.1.1).r hz.1.2) hz.2 hl hl2
  | .rot w e, x, c, hp, hc, h => by
    rw [mS] at h
    obtain ⟨v, p, rfl, hh⟩ := on_ex h
    obtain ⟨wn, wp, ap, xs, q, rfl, n, hl, hx⟩ := on_wm c hh
    obtain ⟨y, rfl, hy⟩ := on_one hx
    obtain ⟨un, up, ap2, ys, q2, rfl, n2, hl2, hx2⟩ := on_wm c hy
    obtain ⟨z, rfl, hz⟩ := on_one hx2
    simp only [Bool.and_eq_true] at hz
    have en : un = wn := Option.some.inj (n2.hN.symm.trans n.hN)
    subst en
    exact st_rot n (((sE e z X Wx cc c hc).1 hz.1.1).r hz.1.2) hz.2 hl hl2
  | .rem w e, x, c, hp, hc, h => by
    rw [mS] at h
    obtain ⟨v, p, rfl, hh⟩ := on_ex h
    obtain ⟨wn, wp, ap, xs, q, rfl, n, hl, hx⟩ := on_wm c hh
    obtain ⟨y, rfl, hy⟩ := on_one hx
    simp only [Bool.and_eq_true] at hy
    exact st_rem c.un n (((sE e y X Wx cc c hc).1 hy.1.1).r hy.1.2) hy.2 hl
  | .ext w e, x, c, hp, hc, h => by
    rw [mS] at h
    obtain ⟨v, p, rfl, hh⟩ := on_ex h
    obtain ⟨wn, wp, ap, xs, q, rfl, n, hl, hx⟩ := on_wm c hh
    obtain ⟨y, rfl, hy⟩ := on_one hx
    simp only [Bool.and_eq_true] at hy
    exact st_ext n (((sE e y X Wx cc c hc).1 hy.1.1).r hy.1.2) hy.2 hl
  | .set w i e, x, c, hp, hc, h => by
    rw [mS] at h
    obtain ⟨t, v, p, rfl, hh⟩ := on_asg h
    obtain ⟨o, y, p2, rfl, h1⟩ := on_sub hh
    simp only [Bool.and_eq_true] at h1
    obtain ⟨⟨⟨⟨⟨⟨g1, g2⟩, g3⟩, g4⟩, g5⟩, g6⟩, g8⟩ := h1
    obtain ⟨wn, wp, rfl, k1, k2, k3, k4⟩ := c.name g1
    exact st_setI ⟨k1, k2, k3, k4⟩ (((sE e v X Wx cc c hc.2).1 g5).r g6) (((sE i y X Wx cc c hc.1).1 g2).r g3) g4 (show swapsWith v (some (.Subscript (.Name wn wp) y p2)) p.line X.env = pure false from sw_not (notLc_of g8) _ _ _) (noSwapS _)
  | .aug i e, x, c, hp, hc, h => by
    rw [mS] at h
    obtain ⟨t, v, p, rfl, hh⟩ := on_aug h
    simp only [Bool.and_eq_true] at hh
    obtain ⟨y, py, rfl, g1, g2, g3⟩ := c.set hh.1.1
    exact st_aug c.nd g1 g2 (((sE e v X Wx cc c hc).1 hh.1.2).r hh.2) g3
  | .ex e, x, c, hp, hc, h => by
    rw [mS] at h
    obtain ⟨v, p, rfl, hh⟩ := on_ex h
    simp only [Bool.and_eq_true] at hh
    exact st_ex (((sE e v X Wx cc c hc).1 hh.1.1).r hh.1.2) (sw_not (notLc_of hh.2) _ _ _)
  | .ite z a b, x, c, hp, hc, h => by
    rw [mS] at h
    obtain ⟨zx, xs, ys, p, rfl, hh⟩ := on_ite h
    simp only [Bool.and_eq_true] at hh
    obtain ⟨⟨⟨⟨h1, h2⟩, h3⟩, h4⟩, h5⟩ := hh
    exact st_if (((sE z zx X Wx cc c hc.1).1 h1).t h2 h3) (sSs a xs c hp hc.2.1 h4) (sSs b ys c hp hc.2.2 h5)
  | .for tg it b, x, c, hp, hc, h => by
    rw [mS] at h
    obtain ⟨tgx, iter, xs, p, rfl, hh⟩ := on_for h
    simp only [Bool.and_eq_true] at hh
    obtain ⟨⟨⟨⟨h1, h2⟩, h3⟩, h4⟩, h5⟩ := hh
    exact st_for hp c.calm (((sE it iter X Wx cc c hc.1).2 tgx h1).r h2) (c.tg h3) (sSs b xs c hp hc.2 h5) (set_fold h4 _)
  | .forPop tg a w b, x, c, hp, hc, h => by
    rw [mS] at h
    obtain ⟨tgx, iter, xs, p, rfl, hh⟩ := on_for h
    simp only [Bool.and_eq_true] at hh
    obtain ⟨⟨h1, h2⟩, h3⟩ := hh
    obtain ⟨y, z, p2, rfl, h4⟩ := on_sub h1
    simp only [Bool.and_eq_true] at h4
    obtain ⟨wn, wp, ap, ys, q, rfl, n, hl, hx⟩ := on_wm c h4.2
    have hx : ys = [] := by simpa using hx
    subst hx
    exact st_forPop hp c.calm n (((sE a y X Wx cc c hc.1).1 h4.1.1).r h4.1.2) (c.tg h2) (sSs b xs c hp hc.2 h3) hl
  | .whl z b, x, c, hp, hc, h => by
    rw [mS] at h
    obtain ⟨zx, xs, p, rfl, hh⟩ := on_whl h
    simp only [Bool.and_eq_true] at hh
    obtain ⟨⟨⟨h1, h2⟩, h3⟩, h4⟩ := hh
    exact st_whl hp (((sE z zx X Wx cc c hc.1).1 h1).t h2 h3) (sSs b xs c hp hc.2 h4)
  | .ret e, x, c, hp, hc, h => by
    rw [mS] at h
    obtain ⟨v, p, rfl, hh⟩ := on_ret h
    split at hh
    · simp only [Bool.and_eq_true] at hh
      exact st_ret (((sE e _ X Wx cc c hc).1 hh.1).r hh.2)
    · cases hh
  | .retn, x, c, hp, hc, h => by
    rw [mS] at h
    obtain ⟨v, p, rfl, hh⟩ := on_ret h
    split at hh
    · cases hh
    · exact st_retN
  | .brk, x, c, hp, hc, h => by
    rw [mS] at h
    unfold isBrk at h
    split at h
    · exact st_brk
    · cases h
  | .nev, x, c, hp, hc, h => ⟨fun pins s σ H D I q => by
    obtain ⟨c, ρ, e, q⟩ := q
    exact q.elim⟩
  | .pass, x, c, hp, hc, h => by
    rw [mS] at h
    unfold isPass at h
    split at h
    · exact st_pass
    · cases h
  | .frz _, x, c, hp, hc, h => by
    rw [mS] at h
    cases h
  | .dkUn ic it ir w, x, c, hp, hc, h => by
    rw [mS] at h
    obtain ⟨t, v, p, rfl, hh⟩ := on_asg h
    clear h
    simp only [Bool.and_eq_true] at hh
    obtain ⟨h1, h2⟩ := hh
    obtain ⟨wn, wp, rfl, k1, k2, k3, k4⟩ := c.name h2
    unfold tupB at h1
    split at h1
    · obtain ⟨g1, g2, _⟩ := names_assign (env := X.env) h1
      exact st_dkUn c.calm ⟨k1, k2, k3, k4⟩ (c.sets h1) g1 g2
    · cases h1
  | .dkInc w e, x, c, hp, hc, h => by
    rw [mS] at h
    obtain ⟨t, v, p, rfl, hh⟩ := on_asg h
    obtain ⟨o, y, p2, rfl, h1⟩ := on_sub hh
    simp only [Bool.and_eq_true] at h1
    obtain ⟨⟨⟨⟨⟨g1, g2⟩, g3⟩, g4⟩, g5⟩, g6⟩ := h1
    obtain ⟨wn, wp, rfl, k1, k2, k3, k4⟩ := c.name g1
    obtain ⟨kc, kk, kp, e1, g7⟩ := on_con g2
    have e2 : kc = .int 1 := by
      cases kc <;> first
        | (have e3 := of_decide_eq_true g7; rw [e3]; done)
        | cases g7
    subst e1
    subst e2
    exact st_dkInc ⟨k1, k2, k3, k4⟩ (((sE e v X Wx cc c hc).1 g3).r g4) (show swapsWith v (some (.Subscript (.Name wn wp) (.Constant (.int 1) kk kp) p2)) p.line X.env = pure false from sw_not (notLc_of g6) _ _ _) (noSwap g5 _)
  | .vset i j e, x, c, hp, hc, h => by
    rw [mS] at h
    obtain ⟨t, v, p, rfl, hh⟩ := on_asg h
    obtain ⟨o, y, p2, rfl, h1⟩ := on_sub hh
    simp only [Bool.and_eq_true] at h1
    obtain ⟨⟨⟨⟨⟨⟨⟨g1, g2⟩, g3⟩, g4⟩, g5⟩, g6⟩, g7⟩, g8⟩ := h1
    obtain ⟨wn, wp, rfl, k1, k2, k3, k4⟩ := c.name g1
    exact st_vset ⟨k1, k2, k3, k4⟩ (((sE j y X Wx cc c hc.1).1 g2).r g3) (((sE e v X Wx cc c hc.2).1 g5).r g6) g4 (show swapsWith v (some (.Subscript (.Name wn wp) y p2)) p.line X.env = pure false from sw_not (notLc_of g8) _ _ _) (noSwap g7 _)
theorem sSs : ∀ (ss : Ss) (xs : List Stmt), CtxOk P G X Wx cc → PassesOwn (model X.prog X.w) X.A X.env X.xe → cSs P G ss → mSs cc ss xs = true → PSsr X Wx xs (dSs ss)
  | .nil, xs, c, hp, hc, h => by
    rw [mSs] at h
    have hx : xs = [] := by simpa using h
    subst hx
    exact st_nil
  | .cons s ss, xs, c, hp, hc, h => by
    unfold mSs at h
    split at h
    · exact st_frz (sSs ss xs c hp hc.2 h)
    · cases xs with
      | nil => cases h
      | cons x xs =>
        have h : (mS cc s x && mSs cc ss xs) = true := h
        simp only [Bool.and_eq_true] at h
        exact st_cons (sS s x c hp hc.1 h.1) (sSs ss xs c hp hc.2 h.2)
end
end
end Ad
namespace Ad
open PySem PySem.Calls PySem.W PySem.SeqAt PySem.Spec PyProof.Rows L2

/-! ### a def -/
section
variable {Pr : Program} {w : World} {K : PySem.W.Frag} {mg : Str → Option Value} {base : Heap}
/-- fn_of, the guards known -/
theorem fn_ofG {k : Nat} {f : Addr} {name qual : Str} {params : Arguments} {body : List Stmt} {scope : Scope} {dV kV doc pm cdv ct oc : Value} {an od : Option Addr}
    {osl : Array (Option Value)} {N ps : List Str} {sp : Sp} (lk : K.lookup f = some ⟨oc, od, .func (PySem.W.fnOf name qual params body scope dV kV doc pm an cdv ct), osl⟩) (hcd : PySem.W.codeIn K cdv qual = true) (S : FnScope N ps scope)
    (len : ∀ vs H Q E, sp vs H Q E → vs.length = ps.length)
    (hbody : ∀ (A : Around) (outer : List Env) (s : Shared) (H : Hp) (vs : List V) (Q : VK) (E : XK), Room k (A.deeper (envOfC qual scope s.heap.objs.size f cdv)) → A.guards = some [] → Mod K mg base → sp vs H Q E →
      ∃ t, PSs (cxOf (CX Pr w) Pr w K mg base N qual scope f cdv A outer s H E) body t ∧ t { nx := fun _ H' => Q .non H', rt := Q } (start N vs) H) :
    FnG Pr w K mg base (k + 1) f (PySem.W.fnOf name qual params body scope dV kV doc pm an cdv ct) ps sp := by
  refine ⟨len, fun A outer s H args us vs Q E hr hg e0 hb r hsp => ?_⟩
  have hl := len _ _ _ _ hsp
  have KX : K.In s.heap := e0.mod.kin.keeps fun b o e => (e0.bs b o e).1
  have lim : s.heap.NoLimit := e0.mod.nolimit.keeps fun b o e => (e0.bs b o e).1
  have hkind : ∀ y ∈ ps.zip us, scope.names.lookup y.1 = some .local ∨ (scope.names.lookup y.1 = some .cell ∧ ((cellsFrom (s.heap.objs.size + 1) scope.names []).lookup y.1).isSome = true) := fun ⟨n, v⟩ hy => by
    rcases S.par n (List.of_mem_zip hy).1 with q | q
    · exact .inl q
    · exact .inr ⟨q, PySem.W.cellsFrom_some _ _ _ (.inl q)⟩
  refine codeAny_call_function hr.depth (KX _ _ lk) rfl S.co S.gen rfl (PySem.W.codeRec_of KX hcd) (hb _ _ _ _ ?_)
  refine wpAny_newFunctionEnv_cells S.kind hkind fun env he s1 x => ?_
  subst he
  refine ⟨lim.keeps x.toInCall.keep, codeAny_func ?_⟩
  obtain ⟨t, ht, hq⟩ := hbody A outer s H vs Q E (hr.deeper _) hg e0.mod hsp
  have I : L2.Inv (cxOf (CX Pr w) Pr w K mg base N qual scope f cdv A outer s H E) [] (start N vs) H s1 := inv_start S hr.hd e0 hl r x
  refine wpAny_mono (ht.run [] s1 (start N vs) H _ I hq) (fun fl s' hs => ?_) fun e s' hs => hs
  have fin : ∀ {σ' : L2.St} {H' : Hp} {v : V} {u : Value}, L2.Inv (cxOf (CX Pr w) Pr w K mg base N qual scope f cdv A outer s H E) [] σ' H' s' → RelV v u → Q v H' → CE outer Pr w H s Q u s' :=
    fun {σ' H' v u} J rv q => ⟨v, H', J.os, J.bare, J.base, J.hok, rv, q⟩
  cases fl with
  | ret u =>
    obtain ⟨v, σ', H', J, rv, q⟩ := hs
    exact fin J rv q
  | next =>
    obtain ⟨σ', H', J, q⟩ := hs
    exact fin (v := V.non) (u := Value.none) J rfl q
  | brk =>
    obtain ⟨_, _, _, q⟩ := hs
    exact False.elim q
  | cont =>
    obtain ⟨_, _, _, q⟩ := hs
    exact False.elim q
/-- what all defs of a law share -/
structure Top (K : PySem.W.Frag) (mg : Str → Option Value) (base : Heap) : Prop where
  blt : ∀ b, b ∈ bltNames → mg b = none
  sys : ∃ o, base.get? sysModules = some o
theorem ctx_fn {k : Nat} {N ps : List Str} {qual : Str} {scope : Scope} {f : Addr} {cdv : Value} {A : Around} {outer : List Env} {s : Shared} {H : Hp} {E : XK} (T : Top K mg base) (S : FnScope N ps scope) (hr : Room k (A.deeper (envOfC qual scope s.heap.objs.size f cdv))) (hg : A.guards = some []) {P : Str → (List D → M D) → Prop} {G : Str → D → Prop}
    (hP : ∀ nm g, P nm g → CallP Pr w K mg base k nm g) (hG : ∀ nm d, G nm d → ∃ u v, mg nm = some u ∧ RelV v u ∧ Stat K v d) :
    CtxOk P G (cxOf (CX Pr w) Pr w K mg base N qual scope f cdv A outer s H E) (fun cls d _ H => E cls d H) ⟨N, scope.names, scope.names.map (·.1)⟩ where
  N := rfl
  nd := S.nd
  sc := rfl
  kind := S.kind
  fn := fun _ _ => rfl
  calm := rfl
  tk := takes_of rfl rfl rfl rfl
  grd := hg
  un := by have := hr.un; show (A.deeper _).units + 66 < cLine; omega
  mg := T.blt
  sys := T.sys
  call := fun nm g h => ⟨k, hr, hP nm g h⟩
  glob := hG
theorem dFn_len {np n : Nat} {b : Ss} {ds : List D} {Q : D → Nat → Prop} {R : XV → Nat → Prop} {t : Nat} (h : (dFn np n b ds).run Q R t) : ds.length = np := h.1
/-- a def keeps its promise -/
theorem fn_dFn {k : Nat} {f : Addr} {x qual : Str} {params : Arguments} {body : List Stmt} {scope : Scope} {fd : FuncData} {N ps : List Str} {np n : Nat} {b : Ss} (F : FunD K x qual params body scope [] [] f fd) (T : Top K mg base) (S : FnScope N ps scope) (hn : N.length = n) (hp : ps.length = np)
    (hm : mSs ⟨N, scope.names, scope.names.map (·.1)⟩ b body = true) {P : Str → (List D → M D) → Prop} {G : Str → D → Prop} (hc : cSs P G b) (hP : ∀ nm g, P nm g → CallP Pr w K mg base k nm g) (hG : ∀ nm d, G nm d → ∃ u v, mg nm = some u ∧ RelV v u ∧ Stat K v d) :
    FnG Pr w K mg base (k + 1) f fd ps (spOf K mg (dFn np n b)) := by
  obtain ⟨oc, od, dV, kV, doc, pm, an, cdv, ct, osl, rfl, lk, hcd, _, _⟩ := F.ex
  refine fn_ofG lk hcd S (fun vs H Q E h => ?_) fun A outer s H vs Q E hr hg hM hsp => ⟨_, sSs b body (ctx_fn T S hr hg hP hG) (passes_of rfl) hc hm, ?_⟩
  · obtain ⟨W, B, ds, t, vc, l, h⟩ := h
    rw [l.length, dFn_len h, hp]
  · obtain ⟨W, B, ds, t, vc, l, h⟩ := hsp
    obtain ⟨hl, h⟩ := h
    have hlv := l.length
    refine ⟨⟨W, B, H, t⟩, ds.map (fun d => some (d, false)) ++ List.replicate (n - ds.length) none, ?_, ?_⟩
    · have nn : ∀ a, Nn ⟨W, B, H, t⟩ (ds.map (fun d => some (d, false)) ++ List.replicate (n - ds.length) none) (start N vs) a → B a := by
        rintro a (z | ⟨i, d, z, _⟩)
        · exact z
        · rw [List.getElem?_append] at z
          split at z
          · rw [List.getElem?_map] at z
            cases q : ds[i]? <;> rw [q] at z <;> cases z
          · rw [List.getElem?_replicate] at z
            split at z <;> cases z
      exact {
        len := by
          unfold L2.start
          rw [List.length_append, List.length_append, List.length_map, List.length_map, List.length_replicate, List.length_replicate, hlv, hn]
        val := fun i d z => by
          rw [List.getElem?_append] at z
          split at z
          · rename_i hi
            rw [List.getElem?_map] at z
            cases q : ds[i]? with
            | none => rw [q] at z; cases z
            | some e =>
              rw [q] at z
              cases z
              obtain ⟨v, h1, h2⟩ := l.get q
              refine ⟨v, ?_, h2.anti nn⟩
              unfold L2.start
              rw [List.getElem?_append_left (by rw [List.length_map]; exact (List.getElem?_eq_some_iff.mp h1).1), List.getElem?_map, h1]
              rfl
          · rw [List.getElem?_replicate] at z
            split at z <;> cases z
        own := fun i d z => by
          rw [List.getElem?_append] at z
          split at z
          · rw [List.getElem?_map] at z
            cases q : ds[i]? <;> rw [q] at z <;> cases z
          · rw [List.getElem?_replicate] at z
            split at z <;> cases z
        dist := fun i j d e a z _ _ _ => by
          rw [List.getElem?_append] at z
          split at z
          · rw [List.getElem?_map] at z
            cases q : ds[i]? <;> rw [q] at z <;> cases z
          · rw [List.getElem?_replicate] at z
            split at z <;> cases z
        ext := Ext.refl H
        inv := vc.inv
        bkn := vc.kl
        bv := vc.bv }
    · refine (dSs b _).mono (fun r _ q => ?_) (fun x _ q => ?_) h
      · cases r with
        | nx ρ' => exact fun σ' H' s e => q _ H' e.ext e.inv .non
        | rt d => exact fun v H' x i r => q v H' x i r
        | bk ρ' => exact q.elim
      · exact fun cls d σ' H' x' i r => q cls d H' x' i r
end
end Ad
namespace Ad
open PySem PySem.Calls PySem.W PySem.SeqAt PySem.Spec PyProof.Rows L2

/-! ### how a law's deck is made (l: the row of its def) -/
def deckBody (l : Nat) : List Stmt := [
  .Assign [.Name "_law_cells" ⟨l + 1, 4, l + 1, 14⟩]
    (.BinOp (.Call (.Name "list" ⟨l + 1, 17, l + 1, 21⟩) [.Subscript (.Name "_law_script" ⟨l + 1, 22, l + 1, 33⟩) (.Slice none (some (.Constant (.int 63) 0 ⟨l + 1, 35, l + 1, 37⟩)) none ⟨l + 1, 34, l + 1, 37⟩) ⟨l + 1, 22, l + 1, 38⟩] [] ⟨l + 1, 17, l + 1, 39⟩)
      .Add
      (.BinOp (.List [.Constant (.int 0) 0 ⟨l + 1, 43, l + 1, 44⟩] ⟨l + 1, 42, l + 1, 45⟩) .Mult
        (.Call (.Name "int" ⟨l + 1, 48, l + 1, 51⟩) [.Compare (.Call (.Name "len" ⟨l + 1, 52, l + 1, 55⟩) [.Name "_law_script" ⟨l + 1, 56, l + 1, 67⟩] [] ⟨l + 1, 52, l + 1, 68⟩) [.Eq] [.Constant (.int 0) 0 ⟨l + 1, 72, l + 1, 73⟩] ⟨l + 1, 52, l + 1, 73⟩] [] ⟨l + 1, 48, l + 1, 74⟩) ⟨l + 1, 42, l + 1, 74⟩)
      ⟨l + 1, 17, l + 1, 74⟩) ⟨l + 1, 4, l + 1, 74⟩,
  .Return (some (.List [.Name "_law_cells" ⟨l + 2, 12, l + 2, 22⟩, .Constant (.int 0) 0 ⟨l + 2, 24, l + 2, 25⟩,
    .ListComp (.BinOp (.Name "_law_cell" ⟨l + 2, 28, l + 2, 37⟩) .Mult (.Call (.Name "int" ⟨l + 2, 40, l + 2, 43⟩) [.Compare (.Name "_law_cell" ⟨l + 2, 44, l + 2, 53⟩) [.GtE] [.BinOp (.Constant (.int 10) 0 ⟨l + 2, 57, l + 2, 59⟩) .Pow (.Constant (.int 18) 0 ⟨l + 2, 63, l + 2, 65⟩) ⟨l + 2, 57, l + 2, 65⟩] ⟨l + 2, 44, l + 2, 65⟩] [] ⟨l + 2, 40, l + 2, 66⟩) ⟨l + 2, 28, l + 2, 66⟩)
      [⟨.Name "_law_cell" ⟨l + 2, 71, l + 2, 80⟩, .Name "_law_cells" ⟨l + 2, 84, l + 2, 94⟩, [], 0⟩]
      { kind := .function, names := [(".0", .local), ("_law_cell", .local), ("int", .globalImplicit)], isGenerator := false, isCoroutine := false, more := [] } ⟨l + 2, 27, l + 2, 95⟩] ⟨l + 2, 11, l + 2, 96⟩)) ⟨l + 2, 4, l + 2, 96⟩]
def deckScope : Scope := { kind := .function, names := [("_law_script", .local), ("_law_cells", .local), ("list", .globalImplicit), ("int", .globalImplicit), ("len", .globalImplicit)], isGenerator := false, isCoroutine := false, more := [("fast", .str "_law_script"), ("fast", .str "_law_cells"), ("fast", .str "_law_cell")] }
def deckN : List Str := ["_law_script", "_law_cells", "_law_cell"]
theorem deckS : FnScope deckN ["_law_script"] deckScope := ⟨rfl, rfl, rfl, by decide +kernel, rfl, by decide +kernel, by decide +kernel⟩
/-- a deck just made -/
structure DeckAt (H H' : Hp) (v : V) (dk c r : Addr) (L : Nat) : Prop where
  ev : v = .ref dk
  hdk : H' dk = some (.lst [.ref c, .int 0, .ref r])
  hc : ∃ ns : List Int, H' c = some (.lst (ns.map V.int)) ∧ ns.length = L
  hr : ∃ ns : List Int, H' r = some (.lst (ns.map V.int)) ∧ ns.length = L
  pos : 0 < L ∧ L ≤ 63
  ne : dk ≠ c ∧ dk ≠ r ∧ c ≠ r
def spDeck (K : PySem.W.Frag) : Sp := fun vs H Q _ => ∃ (a : Addr) (ns : List Int), vs = [.ref a] ∧ SqL K H a (ns.map V.int) ∧ ∀ v H' dk c r L, DeckAt H H' v dk c r L → Q v H'
section
variable {Pr : Program} {w : World} {K : PySem.W.Frag} {mg : Str → Option Value} {base : Heap}
theorem sq_new {H : Hp} {a p : Addr} {xs : List V} {o : HO} (h : SqL K H a xs) (hp : H p = none) : SqL K (upd H p o) a xs := by
  rcases h with h | h
  · exact .inl (rd_ext (N := fun _ => False) (Ext.new hp) (fun z => z) h)
  · exact .inr h
theorem cutV_take {xs : List V} : cutV xs none (some 63) = xs.take 63 := by
  unfold cutV
  have e1 : HT.sIx xs.length 0 none = 0 := rfl
  have e2 : HT.sIx xs.length xs.length (some 63) = min 63 xs.length := HT.sIx_nat _ _ 63
  rw [e1, e2, List.drop_zero, Nat.sub_zero]
  by_cases h : 63 ≤ xs.length
  · rw [Nat.min_eq_left h]
  · rw [Nat.min_eq_right (by omega), List.take_of_length_le (Nat.le_refl _), List.take_of_length_le (by omega)]
/-- what the comprehension of rests gives -/
def restOf (n : Int) : Int := n * (if decide ((10 : Int) ^ (18 : Int).toNat ≤ n) then 1 else 0)
theorem ok_deck {k : Nat} {l : Nat} {f : Addr} {q : Str} {params : Arguments} {fd : FuncData} (F : FunD K "_law_deck" q params (deckBody l) deckScope [] [] f fd) (T : Top K mg base) : FnG Pr w K mg base (k + 1) f fd ["_law_script"] (spDeck K) := by
  obtain ⟨oc, od, dV, kV, doc, pm, an, cdv, ct, osl, rfl, lk, hcd, _, _⟩ := F.ex
  refine fn_ofG lk hcd deckS (fun vs H Q E h => ?_) fun A outer s H vs Q E hr hg hM hsp => ?_
  · obtain ⟨a, ns, rfl, _⟩ := h
    rfl
  · obtain ⟨a, ns, rfl, hS, hQ⟩ := hsp
    have g1 : mg "list" = none := T.blt _ (by decide)
    have g2 : mg "int" = none := T.blt _ (by decide)
    have g3 : mg "len" = none := T.blt _ (by decide)
    have hb : blkC deckN deckScope { kind := .function, names := [(".0", .local), ("_law_cell", .local), ("int", .globalImplicit)], isGenerator := false, isCoroutine := false, more := [] } [("_law_cell", 2)] = true := by decide +kernel
    refine ⟨_, pss_cons (ps_set (i := 1) deckS.nd rfl (.inl rfl) (pe_op op_cat (pe_callTy call_list_of rfl g1 PyProof.Rows.boot_list (pa_cons (pe_slice sl_list (pe_var (i := 0) rfl (.inl rfl)) po_none (po_some pe_int)) pa_nil))
        (pe_op op_rep (pe_lst (pa_cons pe_int pa_nil)) (pe_callTy call_int1 rfl g2 PyProof.Rows.boot_int (pa_cons (pe_cmpR op_eq (pe_callB call_len rfl g3 boot_len (pa_cons (pe_var (i := 0) rfl (.inl rfl)) pa_nil)) pe_int rfl) pa_nil)))) rfl (.inl rfl))
      (pss_one (ps_ret (pe_lst (pa_cons (pe_var (i := 1) rfl (.inl rfl)) (pa_cons pe_int (pa_cons (pe_lc (own := [("_law_cell", 2)]) rfl deckS.nd (pi_list (pe_var (i := 1) rfl (.inl rfl))) (blkOk_by hb)
        (fun s H C cl fp => pg_name (i := 2) deckS.nd rfl (.inl rfl) (.inr rfl)) (fun s H C cl fp => pts_nil)
        (fun s H C cl fp => pe_op op_mul (pe_var (i := 2) rfl (.inl rfl)) (pe_callTy call_int1 rfl g2 PyProof.Rows.boot_int (pa_cons (pe_cmpR op_ge (pe_var (i := 2) rfl (.inl rfl)) (pe_op op_pow pe_int pe_int) rfl) pa_nil)))) pa_nil)))))), ?_⟩
    have hz := sizeLine_eq
    refine ⟨.ref a, rfl, 63, rfl, a, _, rfl, hS, fun p1 hp1 => ?_⟩
    refine ⟨p1, _, rfl, .inl (SqL.of upd_same), fun p2 hp2 => ?_⟩
    refine ⟨by rw [hz]; decide, fun p3 hp3 => ?_⟩
    have hS3 := sq_new (o := .lst [.int 0]) (sq_new (o := .lst (cutV (ns.map V.int) none (some 63))) (sq_new (o := .lst (cutV (ns.map V.int) none (some 63))) hS hp1) hp2) hp3
    refine ⟨.ref a, rfl, .ref a, _, rfl, .inl ⟨_, hS3, rfl⟩, rfl, .inr ⟨_, rfl, ?_⟩⟩
    generalize hkk : (if decide (V.int ((ns.map V.int).length : Int) = V.int 0) = true then (1 : Int) else 0) = kk
    have hk01 : kk = (if ns.length = 0 then 1 else 0 : Nat) := by
      rw [← hkk]
      by_cases h0 : ns.length = 0
      · rw [if_pos h0, if_pos]
        · rfl
        · rw [List.length_map, h0]
          exact decide_eq_true rfl
      · rw [if_neg h0, if_neg]
        · rfl
        · rw [List.length_map]
          intro z
          have z := of_decide_eq_true z
          injection z with z
          omega
    have hk2 : 0 ≤ kk ∧ kk ≤ 1 := by rw [hk01]; split <;> omega
    have hzs : (List.replicate kk.toNat [V.int 0]).flatten = (if ns.length = 0 then [(0 : Int)] else []).map V.int := by
      rw [hk01]
      split <;> rfl
    refine ⟨p3, kk, [.int 0], rfl, rfl, upd_same, by omega, by omega, by rw [hz]; simp only [List.length_cons, List.length_nil]; omega, fun p4 hp4 => ?_⟩
    have n32 : p3 ≠ p2 := fun z => by rw [z, upd_same] at hp3; cases hp3
    have n42 : p4 ≠ p2 := fun z => by rw [z, upd_ne (fun z => n32 z.symm), upd_same] at hp4; cases hp4
    rw [cutV_take, ← List.map_take, hzs] at *
    generalize hcs : (ns.take 63) = c1 at *
    have hc1 : c1.length ≤ 63 := by rw [← hcs, List.length_take]; omega
    refine ⟨p2, p4, c1.map V.int, _, rfl, rfl, by rw [upd_ne (fun z => n42 z.symm), upd_ne (fun z => n32 z.symm), upd_same], upd_same, ?_, fun c hc => ?_⟩
    · rw [hz, List.length_map, List.length_map]
      split <;> simp only [List.length_cons, List.length_nil] <;> omega
    rw [← List.map_append]
    have hL : 0 < (c1 ++ (if ns.length = 0 then [(0 : Int)] else [])).length ∧ (c1 ++ (if ns.length = 0 then [(0 : Int)] else [])).length ≤ 63 := by
      rw [List.length_append]
      split
      · rename_i h0
        rw [← hcs, List.length_take, h0]
        simp
      · rename_i h0
        have : c1.length = min 63 ns.length := by rw [← hcs, List.length_take]
        simp only [List.length_nil]
        omega
    generalize (c1 ++ (if ns.length = 0 then [(0 : Int)] else [])) = cs at *
    generalize hHc : upd _ c (.lst (cs.map V.int)) = Hc
    have hcc : Hc c = some (.lst (cs.map V.int)) := by rw [← hHc]; exact upd_same
    refine ⟨.ref c, rfl, .ref c, rfl, c, rfl, ⟨_, SqL.of hcc⟩, fun D hD => ?_⟩
    have nDc : D ≠ c := fun z => by rw [z, hcc] at hD; cases hD
    refine lc_list (xs := cs.map V.int) (fun i H' => ∃ ms : List Int, H' D = some (.lst (ms.map V.int)) ∧ ms.length = i ∧ H' c = some (.lst (cs.map V.int))) ⟨[], upd_same, rfl, by rw [upd_ne (fun z => nDc z.symm)]; exact hcc⟩ (fun i H' _ h => SqL.of h.choose_spec.2.2) ?_ ?_
    · rintro i x H' hx ⟨ms, m1, m2, m3⟩
      obtain ⟨n, rfl⟩ : ∃ n, x = V.int n := by
        rw [List.getElem?_map] at hx
        cases q : cs[i]? with
        | none => rw [q] at hx; cases hx
        | some n => rw [q] at hx; cases hx; exact ⟨n, rfl⟩
      have hi : i < cs.length := by
        have := (List.getElem?_eq_some_iff.mp hx).1
        simpa using this
      refine ⟨rfl, ?_⟩
      unfold tYes
      dsimp only
      rw [if_pos rfl]
      refine ⟨.int n, rfl, .int n, rfl, 10, 18, rfl, rfl, ⟨by decide, by decide, by decide⟩, n, _, rfl, rfl, .inr ⟨_, rfl, ?_⟩⟩
      refine ⟨n, _, rfl, rfl, .inr ?_, ?_⟩
      · split <;> decide
      · exact ⟨_, m1, by rw [List.length_map, hz]; omega, ms ++ [_], by rw [upd_same, List.map_append]; rfl, by simp [m2], by rw [upd_ne (fun z => nDc z.symm)]; exact m3⟩
    · rintro H' ⟨ms, m1, m2, m3⟩
      refine ⟨by rw [hz]; show 3 ≤ 16777216; decide, fun p hp => ?_⟩
      have npc : p ≠ c := fun z => by rw [z, m3] at hp; cases hp
      have npD : p ≠ D := fun z => by rw [z, m1] at hp; cases hp
      refine hQ _ _ p c D cs.length ⟨rfl, upd_same, ⟨cs, by rw [upd_ne npc.symm]; exact m3, rfl⟩, ⟨ms, by rw [upd_ne npD.symm]; exact m1, by rw [m2, List.length_map]⟩, hL, ⟨npc, npD, fun z => nDc z.symm⟩⟩
end
end Ad
namespace Ad
open PySem PySem.Calls PySem.W PySem.SeqAt PySem.Spec PyProof.Rows L2

/-! ### the world of a law: its deck -/
def volsOf (dk c r : Addr) (t : Bool) : Option Addr := if t then some r else some c
def wdDeck (dk c r : Addr) (L : Nat) (hL : 0 < L ∧ L ≤ 63) (ne : dk ≠ c ∧ dk ≠ r ∧ c ≠ r) : Wd where
  vol := fun a => a = dk ∨ a = c ∨ a = r
  dk := some dk
  vl := volsOf dk c r
  len := L
  inv := fun b H => (∃ t : Int, H dk = some (.lst [.ref c, .int t, .ref r]) ∧ 0 ≤ t ∧ t + b ≤ 4294967296) ∧ (∃ ns : List Int, H c = some (.lst (ns.map V.int)) ∧ ns.length = L) ∧ ∃ ns : List Int, H r = some (.lst (ns.map V.int)) ∧ ns.length = L
  known := fun b H a ⟨⟨t, h1, _⟩, ⟨ns, h2, _⟩, ⟨ms, h3, _⟩⟩ h => by
    rcases h with rfl | rfl | rfl
    · exact ⟨_, h1⟩
    · exact ⟨_, h2⟩
    · exact ⟨_, h3⟩
  keep := fun b H H' ⟨⟨t, h1, h1'⟩, ⟨ns, h2, h2'⟩, ⟨ms, h3, h3'⟩⟩ h => ⟨⟨t, by rw [h dk (.inl rfl)]; exact h1, h1'⟩, ⟨ns, by rw [h c (.inr (.inl rfl))]; exact h2, h2'⟩, ⟨ms, by rw [h r (.inr (.inr rfl))]; exact h3, h3'⟩⟩
  pos := hL
  dkv := fun a h => by cases h; exact .inl rfl
  vlv := fun t a h => by
    cases t
    · cases h; exact .inr (.inl rfl)
    · cases h; exact .inr (.inr rfl)
  dkk := fun b H a ⟨⟨t, h1, h1', h1''⟩, _, _⟩ h => by
    cases h
    exact ⟨c, r, t, h1, rfl, rfl, h1', h1''⟩
  dkw := fun b b' H a c' r' t v ⟨⟨t', h1, _⟩, ⟨ns, h2, h2'⟩, ⟨ms, h3, h3'⟩⟩ h hH h0 hle => by
    cases h
    rw [h1] at hH
    cases hH
    exact ⟨⟨v, upd_same, h0, hle⟩, ⟨ns, by rw [upd_ne ne.1.symm]; exact h2, h2'⟩, ⟨ms, by rw [upd_ne ne.2.1.symm]; exact h3, h3'⟩⟩
  vlk := fun b H t a ⟨_, h2, h3⟩ h => by
    cases t
    · cases h; exact h2
    · cases h; exact h3
  vlw := fun b H a ns ⟨⟨t, h1, h1'⟩, ⟨ms, h2, h2'⟩, _⟩ h hl => by
    cases h
    exact ⟨⟨t, by rw [upd_ne ne.2.1]; exact h1, h1'⟩, ⟨ms, by rw [upd_ne ne.2.2]; exact h2, h2'⟩, ⟨ns, upd_same, hl⟩⟩

/-! ### the def law -/
inductive First where
  | one (i : Nat)
  | two (i j : Nat) (o : Bool) (e : E)
def env0 (n : Nat) : Ev := List.replicate n none
def runLaw (n : Nat) : First → Ss → M Rz
  | .one i, b => dSs b ((env0 n).set i (some (deckD, false)))
  | .two i j o e, b => dE e (env0 n) >>= fun d => ownD o d >>= fun d => dSs b (((env0 n).set j (some (d, o))).set i (some (deckD, false)))
def isDeckCall (cc : Cc) (v : Expr) : Bool := onCall v fun g xs => decide (g = "_law_deck") && glB cc g && one xs fun u => nmB cc 0 u
def mFirst (cc : Cc) : First → Stmt → Bool
  | .one i, x => onAsg x fun t v => setB cc i t && isDeckCall cc v
  | .two i j o e, x => onAsg x fun t v => onTup t fun ts => onTup v fun xs => two xs fun u y => isDeckCall cc u && mP cc [(j, o)] (.cons e .nil) [y] && setsB cc [i, j] ts && decide (i ≠ j) && (match swapOf cc ts xs with
    | some none => true
    | some (some [a, b]) => (match ts with | [t, u] => lc1 cc t a && lc1 cc u b | _ => false)
    | _ => false)
section
variable {Pr : Program} {w : World} {K : PySem.W.Frag} {mg : Str → Option Value} {base : Heap}
def spLaw (K : PySem.W.Frag) : Sp := fun vs H Q _ => ∃ (a : Addr) (ns : List Int), vs = [.ref a] ∧ SqL K H a (ns.map V.int) ∧ ∀ H', Q (.bl true) H'
/-- the deck's def at work -/
def CallD (Pr : Program) (w : World) (K : PySem.W.Frag) (mg : Str → Option Value) (base : Heap) (k : Nat) : Prop :=
  ∃ (a : Addr) (fd : FuncData), mg "_law_deck" = some (.ref a) ∧ PySem.W.keepIn K (.ref a) = true ∧ FnG Pr w K mg base k a fd ["_law_script"] (spDeck K) ∧ Binds K fd ["_law_script"] []
theorem pe_deck {X : Cx} {Wx : WX} {P : Str → (List D → M D) → Prop} {G : Str → D → Prop} {cc : Cc} {k : Nat} {x : Expr} (c : CtxOk P G X Wx cc) (hr : Room k X.A) (C : CallD X.prog X.w X.K X.mg X.base k) (h : isDeckCall cc x = true) :
    PE X x (fun σ H Q => ∃ v, σ[0]? = some (some v) ∧ spDeck X.K [v] H Q (fun _ _ _ => False)) := by
  obtain ⟨g, p, xs, pos, rfl, hh⟩ := on_call h
  clear h
  simp only [Bool.and_eq_true, decide_eq_true_eq] at hh
  obtain ⟨⟨rfl, h1⟩, h2⟩ := hh
  obtain ⟨u, rfl, h3⟩ := on_one h2
  obtain ⟨nm, p2, rfl, g1, g2, g3, g4⟩ := c.name h3
  obtain ⟨hgl, hd⟩ := c.gl h1
  obtain ⟨a, fd, hm, hk, F, hb⟩ := C
  refine ⟨fun pins s σ H Q I hq => ?_⟩
  obtain ⟨v, hv, hq⟩ := hq
  refine wpAny_Call_Name_kw (ld_glob I hgl hm ?_ hd)
  refine PySem.W.callWith_K (h₀ := X.base) I.ok.mod.kin hk (thn ((pa_cons (pe_var g1 g2 g3 g4) pa_nil rfl).run pos pins s σ H (fun vs H1 => vs = [v] ∧ H1 = H) I ⟨v, hv, rfl, rfl⟩) fun us s1 ⟨vs, H1, I1, r, e1, e2⟩ => ⟨I1.kIn, ?_⟩) rfl rfl
  subst e1
  subst e2
  exact run_fnG (E := fun _ _ _ => False) F hr c.grd hb (fun pins H s e s' I z => (takes_none5 (X := X)) e s' (XE.of_call I (fun _ _ _ h => h) z)) I1 r hq
theorem env0_none {n i : Nat} {x : D × Bool} : (env0 n)[i]? ≠ some (some x) := fun z => by
  unfold env0 at z
  rw [List.getElem?_replicate] at z
  split at z <;> cases z
/-- nothing is known of the slots -/
theorem env0_ok {c : Cf} {σ : L2.St} {H : Hp} {n : Nat} (hn : n = σ.length) (h0 : c.H0 = H) (hB : ∀ a, c.B a → ∃ o, H a = some o ∧ MutO o) (hv : ∀ a, c.W.vol a → c.B a) (hi : c.W.inv c.b H) : EnvOk K c (env0 n) σ H where
  len := by unfold env0; rw [List.length_replicate, hn]
  val := fun i d z => absurd z env0_none
  own := fun i d z => absurd z env0_none
  dist := fun i j d e a z _ _ _ => absurd z env0_none
  ext := by rw [h0]; exact Ext.refl H
  inv := hi
  bkn := hB
  bv := hv
theorem ok_law {k : Nat} {f : Addr} {q : Str} {params : Arguments} {st : Stmt} {body : List Stmt} {scope : Scope} {fd : FuncData} {N : List Str} {n : Nat} {fst : First} {b : Ss} (F : FunD K "law" q params (st :: body) scope [] [] f fd) (T : Top K mg base) (S : FnScope N ["_law_script"] scope) (hn : N.length = n)
    (hf : mFirst ⟨N, scope.names, scope.names.map (·.1)⟩ fst st = true) (hm : mSs ⟨N, scope.names, scope.names.map (·.1)⟩ b body = true) {P : Str → (List D → M D) → Prop} {G : Str → D → Prop} (hc : cSs P G b) (hcf : ∀ i j o e, fst = .two i j o e → cE P G e)
    (hP : ∀ nm g, P nm g → CallP Pr w K mg base k nm g) (hG : ∀ nm d, G nm d → ∃ u v, mg nm = some u ∧ RelV v u ∧ Stat K v d) (hD : CallD Pr w K mg base k)
    (hrun : (runLaw n fst b).run (fun r _ => r = .rt (.bool true)) (fun _ _ => False) 4294967296) : FnG Pr w K mg base (k + 1) f fd ["_law_script"] (spLaw K) := by
  obtain ⟨oc, od, dV, kV, doc, pm, an, cdv, ct, osl, rfl, lk, hcd, _, _⟩ := F.ex
  refine fn_ofG lk hcd S (fun vs H Q E h => ?_) fun A outer s H vs Q E hr hg hM hsp => ?_
  · obtain ⟨a, ns, rfl, _⟩ := h
    rfl
  · obtain ⟨a, ns, rfl, hS, hQ⟩ := hsp
    have cx := ctx_fn (E := E) (outer := outer) (H := H) T S hr hg hP hG
    have rest := sSs b body cx (passes_of rfl) hc hm
    have hlen : n = (L2.start N [V.ref a]).length := by
      unfold L2.start
      rw [List.length_append, List.length_map, List.length_replicate]
      have h1 : ["_law_script"].length ≤ N.length := by
        have := congrArg List.length S.pre
        rw [List.length_take] at this
        simp at this ⊢
        omega
      simp only [List.length_cons, List.length_nil] at h1 ⊢
      omega
    have h0 : (L2.start N [V.ref a])[0]? = some (some (V.ref a)) := rfl
    -- from a state in which the deck stands to the end
    have tail : ∀ (c : Cf) (ρ : Ev) (σ : L2.St) (H' : Hp), EnvOk K c ρ σ H' → (dSs b ρ).run (fun r _ => r = .rt (.bool true)) (fun _ _ => False) c.b → tSt K mg (fun cls d _ H => E cls d H) (dSs b) { nx := fun _ H' => Q .non H', rt := Q } σ H' := fun c ρ σ H' e h =>
      ⟨c, ρ, e, (dSs b ρ).mono (fun r _ q => by
        subst q
        intro v H2 x i r
        cases r
        exact hQ H2) (fun _ _ z => z.elim) h⟩
    cases fst with
    | one i =>
      obtain ⟨t, v, p, rfl, hh⟩ := on_asg hf
      simp only [Bool.and_eq_true] at hh
      obtain ⟨y, py, rfl, g1, g2, g3⟩ := cx.set hh.1
      have hv := hh.2
      have hsw : swapsWith v (some (.Name y py)) p.line (cxOf (CX Pr w) Pr w K mg base N q scope f cdv A outer s H E).env = pure false := by
        obtain ⟨_, _, _, _, rfl, _⟩ := on_call hv
        rfl
      refine ⟨_, pss_cons (ps_set S.nd g1 g2 (pe_deck cx hr hD hv) hsw g3) rest, ⟨.ref a, h0, a, ns, rfl, hS, fun v H' dk c r L d => ?_⟩⟩
      have hn1 := d.ev
      subst hn1
      let W := wdDeck dk c r L d.pos d.ne
      have hinv : W.inv 4294967296 H' := ⟨⟨0, d.hdk, by omega, by omega⟩, d.hc, d.hr⟩
      have e0 : EnvOk K ⟨W, W.vol, H', 4294967296⟩ (env0 n) (L2.start N [V.ref a]) H' := env0_ok hlen rfl (fun a h => Exists.elim (W.known _ _ a hinv h) fun vs q => ⟨.lst vs, q, trivial⟩) (fun _ h => h) hinv
      exact tail _ _ _ _ (e0.setv i (.dck rfl)) hrun
    | two i j o e =>
      obtain ⟨t, v, p, rfl, hh1⟩ := on_asg hf
      obtain ⟨ts, kt, pt, e1, hh2⟩ := on_tup hh1
      obtain ⟨xs, k2, p2, e2, hh3⟩ := on_tup hh2
      obtain ⟨u, y, e3, hh⟩ := on_two hh3
      subst e1
      subst e2
      subst e3
      simp only [Bool.and_eq_true, decide_eq_true_eq] at hh
      obtain ⟨⟨⟨⟨h1, h2⟩, h3⟩, hij⟩, h4⟩ := hh
      have hce : cEs P G (.cons e .nil) := ⟨hcf i j o e rfl, trivial⟩
      obtain ⟨q1, q2, q3, q4, q5⟩ := mP_ok cx hce h2
      have hst : notStar u = true := by
        obtain ⟨_, _, _, _, rfl, _⟩ := on_call h1
        rfl
      have pa := pa_cons (pe_deck cx hr hD h1) q1 (star_ok hst [y] _)
      -- the two values, in their slots
      have two : ∀ (R : List V → Hp → Prop), (∀ v u H2, (tSt K mg (fun cls d _ H => E cls d H) (dSs b) { nx := fun _ H' => Q .non H', rt := Q } (((L2.start N [V.ref a]).set i (some v)).set j (some u)) H2) →
          (∀ p o, H2 p = none → tSt K mg (fun cls d _ H => E cls d H) (dSs b) { nx := fun _ H' => Q .non H', rt := Q } (((L2.start N [V.ref a]).set i (some v)).set j (some u)) (upd H2 p o)) → R [v, u] H2) →
          tCons (fun σ H Q => ∃ v, σ[0]? = some (some v) ∧ spDeck K [v] H Q (fun _ _ _ => False)) (tAP K mg (fun cls d _ H => E cls d H) (parMs [(j, o)] (.cons e .nil))) (L2.start N [V.ref a]) H R := by
        intro R hR
        refine ⟨.ref a, h0, a, ns, rfl, hS, fun v H' dk c r L d => ?_⟩
        have hn1 := d.ev
        subst hn1
        let W := wdDeck dk c r L d.pos d.ne
        have hinv : W.inv 4294967296 H' := ⟨⟨0, d.hdk, by omega, by omega⟩, d.hc, d.hr⟩
        have e0 : EnvOk K ⟨W, W.vol, H', 4294967296⟩ (env0 n) (L2.start N [V.ref a]) H' := env0_ok hlen rfl (fun a h => Exists.elim (W.known _ _ a hinv h) fun vs q => ⟨.lst vs, q, trivial⟩) (fun _ h => h) hinv
        have hrun : (parM (parMs [(j, o)] (.cons e .nil)) (env0 n)).run (fun ds => (dSs b ((setAll (env0 n) [(j, o)] ds).set i (some (deckD, false)))).run (fun r _ => r = .rt (.bool true)) (fun _ _ => False)) (fun _ _ => False) 4294967296 := hrun
        refine ⟨_, env0 n, e0, (parM _ _).mono (fun ds b' q cf vs H2 x2 i2 pd hn2 => ?_) (fun _ _ z => z.elim) hrun⟩
        have hl := pd.lens
        match vs, hl with
        | [u], _ =>
          have go : ∀ H3, Ext W.vol H2 H3 → W.inv b' H3 → tSt K mg (fun cls d _ H => E cls d H) (dSs b) { nx := fun _ H' => Q .non H', rt := Q } (((L2.start N [V.ref a]).set i (some (.ref dk))).set j (some u)) H3 := fun H3 x3 i3 => by
            obtain ⟨e3, _⟩ := (pd.ext x3 i3).done [(j, o)] rfl
            have e4 := e3.setv i (d := deckD) (v := .ref dk) (.dck rfl)
            have e5 : ((setAllS (L2.start N [V.ref a]) [j] [u]).set i (some (.ref dk))) = (((L2.start N [V.ref a]).set i (some (.ref dk))).set j (some u)) := List.set_comm _ _ (fun z => hij z.symm)
            rw [← e5]
            exact tail _ _ _ _ e4 q
          refine hR _ u H2 (go H2 (Ext.refl H2) i2) fun p o hp => ?_
          obtain ⟨p1, p2, _⟩ := (e0.ext' x2 i2).vc.new (o := o) hp
          exact go _ p1 p2
      have hss : swapsWithSole [.Tuple ts kt pt] (.Tuple [u, y] k2 p2) p.line (cxOf (CX Pr w) Pr w K mg base N q scope f cdv A outer s H E).env = pure false := rfl
      split at h4
      · rename_i es
        have htg : tgB ⟨N, scope.names, scope.names.map (·.1)⟩ (.t [i, j]) (.Tuple ts kt pt) = true := h3
        refine ⟨_, pss_cons (ps_asg (pe_tup pa) (cx.tg htg) hss (swap_ok cx es) rfl) rest, ?_⟩
        unfold tSeq tAsg tTup
        dsimp only
        refine two _ fun v u' H2 _ hp => ⟨by rw [sizeLine_eq]; show 2 ≤ 16777216; decide, fun a' ha => .inl ⟨a', _, rfl, SqT.of upd_same, rfl, gNames_setS rfl ?_⟩⟩
        exact hp a' _ ha
      · rename_i a1 b1 es
        split at h4
        · simp only [Bool.and_eq_true] at h4
          obtain ⟨p3, rfl, l1⟩ := lc1_ok cx h4.1
          obtain ⟨p4, rfl, l2⟩ := lc1_ok cx h4.2
          simp only [setsB, Bool.and_eq_true] at h3
          refine ⟨_, pss_cons (ps_par cx.calm S.nd (set_at cx h3.1) (set_at cx h3.2.1) hij l1 l2 pa (swap_ok cx es) hss) rest, ?_⟩
          unfold tSeq tPar
          dsimp only
          exact two _ fun v u' H2 h _ => ⟨v, u', rfl, h⟩
        · cases h4
      · cases h4
end
end Ad
namespace Ad
open PySem PySem.Calls PySem.W PySem.SeqAt PySem.Spec PyProof.Rows L2

/-! ### a number drawn -/
def e1 (e : E) : Es := .cons e .nil
def drawB (c1 c2 c3 c4 c5 c6 c7 c8 c9 : Int) : Ss :=
  .cons (.dkUn 2 3 4 0) <| .cons (.asg 5 (.bin .Mod (.bi .int1 (e1 (.v 3))) (.vlen 2))) <| .cons (.dkInc 0 (.bin .Add (.v 3) (.k (.int 1)))) <|
  .cons (.ite (.cmp .Gt (.vg 4 (.v 5)) (.k (.int 0))) (.cons (.asg 6 (.bin .Mod (.bi .int1 (e1 (.vg 4 (.v 5)))) (.v 1))) <| .cons (.vset 4 (.v 5) (.bin .FloorDiv (.vg 4 (.v 5)) (.v 1))) <| .cons (.ret (.v 6)) .nil) .nil) <|
  .cons (.asg 7 (.bin .Mod (.bin .Pow (.bin .Add (.bin .Add (.bin .Mod (.bi .int1 (e1 (.vg 2 (.v 5)))) (.k (.int c1))) (.bin .Mult (.k (.int c2)) (.v 3))) (.k (.int c3))) (.k (.int 3))) (.k (.int c4)))) <|
  .cons (.asg 8 (.bin .Mod (.bin .Pow (.bin .Add (.bin .Add (.v 7) (.bin .Mult (.k (.int c5)) (.v 3))) (.k (.int c6))) (.k (.int 3))) (.k (.int c7)))) <|
  .cons (.ret (.bin .Mod (.bin .Mod (.bi .int1 (e1 (.bin .Add (.bin .Mult (.v 8) (.k (.int c8))) (.v 7)))) (.k (.int c9))) (.v 1))) .nil
/-- all that a law knows of a draw -/
def drawF : List D → M D
  | [d, .int n] => do
    M.grd (isDeck d = true ∧ 0 < n ∧ n < 1073741824)
    let k ← M.draw n.toNat
    pure (.int (k : Nat))
  | _ => M.fail
def Small (m c : Int) : Prop := 0 < c ∧ c < m
theorem Small.pos {m c : Int} (h : Small m c) : 0 < c := h.1
theorem Small.lt {m c : Int} (h : Small m c) : c < m := h.2
theorem pow_ok {m c d x t : Int} (hm : 0 < m ∧ m ≤ 4294967296) (hx : 0 ≤ x ∧ x < m) (hc : Small 1048576 c) (hd : Small 1048576 d) (ht : 0 ≤ t ∧ t ≤ 4294967296) : L2.CPow (x + c * t + d) 3 := by
  have h1 : 0 ≤ c * t := Int.mul_nonneg (Int.le_of_lt hc.pos) ht.1
  have h2 : c * t ≤ 1048576 * 4294967296 := Int.mul_le_mul (Int.le_of_lt hc.lt) ht.2 ht.1 (by omega)
  have := hd.pos
  have := hd.lt
  refine ⟨by omega, by omega, ?_⟩
  have e : (2 : Nat) ^ 64 = 18446744073709551616 := by decide
  rw [e]
  omega
theorem draw_ref {c1 c2 c3 c4 c5 c6 c7 c8 c9 : Int} (h1 : Small 4294967296 c1) (h2 : Small 1048576 c2) (h3 : Small 1048576 c3) (h4 : Small 4294967296 c4) (h5 : Small 1048576 c5) (h6 : Small 1048576 c6) (h7 : Small 4294967296 c7) (h8 : Small 4294967296 c8) (h9 : 0 < c9) (ds : List D) (Q : D → Nat → Prop) (R : XV → Nat → Prop) (b : Nat)
    (h : (drawF ds).run Q R b) : (dFn 2 9 (drawB c1 c2 c3 c4 c5 c6 c7 c8 c9) ds).run Q R b := by
  unfold drawF at h
  split at h
  · rename_i d n
    obtain ⟨⟨hd, hn, hn2⟩, hb, hq⟩ := h
    unfold isDeck at hd
    split at hd
    · have fin : ∀ x : Int, Q (.int (x % n)) (b - 1) := fun x => by
        have k1 := Int.emod_nonneg x (show n ≠ 0 by omega)
        have k2 := Int.emod_lt_of_pos x hn
        have := hq (x % n).toNat (by omega)
        have e : ((x % n).toNat : Int) = x % n := by omega
        rw [← e]
        exact this
      refine And.intro rfl (And.intro rfl fun L t g1 g2 g3 g4 => ?_)
      have hL : (0 : Int) < (L : Int) := by omega
      have at1 := Int.emod_nonneg t (show (L : Int) ≠ 0 by omega)
      have at2 := Int.emod_lt_of_pos t hL
      refine And.intro hL (And.intro rfl (And.intro hb (And.intro (show 0 ≤ t + 1 by omega) (And.intro (show t + 1 + (b - 1 : Nat) ≤ 4294967296 by omega) ?_))))
      refine And.intro ⟨at1, at2⟩ fun r => ?_
      change (ite (decide (0 < r) = true) _ _ : M Rz).run _ _ _
      by_cases h0 : 0 < r
      · rw [if_pos (decide_eq_true h0)]
        refine And.intro ⟨at1, at2⟩ fun r2 => And.intro hn (And.intro ⟨at1, at2⟩ fun r3 => And.intro ⟨hn, hn2⟩ (And.intro rfl (And.intro ⟨at1, at2⟩ ?_)))
        exact fin r2
      · rw [if_neg (fun z => h0 (of_decide_eq_true z))]
        have ht : 0 ≤ t ∧ t ≤ 4294967296 := ⟨g3, by omega⟩
        refine And.intro ⟨at1, at2⟩ fun r2 => And.intro h1.pos (And.intro (.inl ⟨by have := h2.pos; omega, by have := h2.lt; omega⟩) (And.intro ?_ (And.intro h4.pos ?_)))
        · exact pow_ok ⟨h1.pos, by have := h1.lt; omega⟩ ⟨Int.emod_nonneg r2 (by have := h1.pos; omega), Int.emod_lt_of_pos r2 h1.pos⟩ h2 h3 ht
        refine And.intro (.inl ⟨by have := h5.pos; omega, by have := h5.lt; omega⟩) (And.intro ?_ (And.intro h7.pos ?_))
        · exact pow_ok ⟨h4.pos, by have := h4.lt; omega⟩ ⟨Int.emod_nonneg _ (by have := h4.pos; omega), Int.emod_lt_of_pos _ h4.pos⟩ h5 h6 ht
        refine And.intro (.inr ⟨by have := h8.pos; omega, by have := h8.lt; omega⟩) (And.intro h9 (And.intro hn ?_))
        exact fin _
    · cases hd
  · exact h.elim
end Ad
namespace Ad
open PySem PySem.Calls PySem.W PySem.SeqAt PySem.Spec PyProof.Rows L2

section
variable {Pr : Program} {w : World} {K : PySem.W.Frag} {mg : Str → Option Value} {base : Heap}
theorem FnG.imp {k : Nat} {f : Addr} {fd : FuncData} {ps : List Str} {sp sp' : Sp} (F : FnG Pr w K mg base k f fd ps sp) (h : ∀ vs H Q E, sp' vs H Q E → sp vs H Q E) : FnG Pr w K mg base k f fd ps sp' :=
  ⟨fun vs H Q E z => F.len vs H Q E (h _ _ _ _ z), fun A outer s H args us vs Q E hr hg he hb r z => F.run A outer s H args us vs Q E hr hg he hb r (h _ _ _ _ z)⟩
/-- a def does what refines it -/
theorem FnG.refine {k : Nat} {f : Addr} {fd : FuncData} {ps : List Str} {g g' : List D → M D} (F : FnG Pr w K mg base k f fd ps (spOf K mg g)) (h : ∀ ds (Q : D → Nat → Prop) (R : XV → Nat → Prop) b, (g' ds).run Q R b → (g ds).run Q R b) : FnG Pr w K mg base k f fd ps (spOf K mg g') :=
  F.imp fun vs H Q E z => by
    obtain ⟨W, B, ds, b, v, l, z⟩ := z
    exact ⟨W, B, ds, b, v, l, h _ _ _ _ z⟩
theorem CallP.refine {k : Nat} {nm : Str} {g g' : List D → M D} (c : CallP Pr w K mg base k nm g) (h : ∀ ds (Q : D → Nat → Prop) (R : XV → Nat → Prop) b, (g' ds).run Q R b → (g ds).run Q R b) : CallP Pr w K mg base k nm g' := by
  obtain ⟨a, fd, ps, h1, h2, F, b⟩ := c
  exact ⟨a, fd, ps, h1, h2, F.refine h, b⟩

/-! ### the head -/
/-- the script alone is tracked, where it is no object of the module -/
def scriptH (K : PySem.W.Frag) (a : Addr) (o : Obj) (ns : List Int) : Hp := fun b => if b = a ∧ K.lookup a = none then some (.frz o (.lst (ns.map V.int))) else none
theorem scriptH_or (K : PySem.W.Frag) (a : Addr) (o : Obj) (ns : List Int) (b : Addr) : scriptH K a o ns b = none ∨ (b = a ∧ K.lookup a = none ∧ scriptH K a o ns b = some (.frz o (.lst (ns.map V.int)))) := by
  unfold scriptH
  by_cases h : b = a ∧ K.lookup a = none
  · exact .inr ⟨h.1, h.2, if_pos h⟩
  · exact .inl (if_neg h)
/-- a law's call: its def gives True -/
theorem law_callG {k : Nat} {fa a : Addr} {fd : FuncData} {x : Str} {sp : Sp} {s : Shared} {vs : List Value} {ns : List Int} {mb : Str → Option Value}
    (KX : K.In s.heap) (hg : s.heap.Ns mainGlobals mg) (hb : s.heap.Ns builtinsNs mb) (hbb : ∀ x : Str, x ≠ "__name__" → mb x = bootBuiltins x) (hlim : s.heap.NoLimit) (hgen : s.gens = #[])
    (hsys : ∃ o es n, s.heap.get? sysModules = some o ∧ o.data = .dict es n)
    (ha : s.heap.get? a = some { cls := .type "list", data := .seq vs.toArray }) (hi : IntsAre vs ns) (hl : ns.length ≤ sizeLine) (hr : Room k callerA)
    (F : ∀ base : Heap, K.In base → base.Ns mainGlobals mg → (∃ o, base.get? sysModules = some o) → FnG Pr w K mg base k fa fd [x] sp) (hbind : ∀ (s : Shared) (u : Value), BindsTo s fd ⟨[u], []⟩ [(x, u)])
    (hsp : ∀ H : Hp, SqL K H a (ns.map V.int) → sp [.ref a] H (fun v _ => v = .bl true) fun _ _ _ => False) :
    codeAny (model Pr w) callerA (.call (.ref fa) ⟨[.ref a], []⟩) (fun r s' => r = .ok (.ret (.bool true)) ∧ OldK s.heap s'.heap ∧ s'.os = s.os ∧ AllBare s'.gens) s := by
  have rv := vals_ints hi
  obtain ⟨H, hH⟩ : ∃ H, H = scriptH K a { cls := .type "list", data := .seq vs.toArray } ns := ⟨_, rfl⟩
  have or_ : ∀ b, H b = none ∨ (b = a ∧ K.lookup a = none ∧ H b = some (.frz { cls := .type "list", data := .seq vs.toArray } (.lst (ns.map V.int)))) := fun b => by
    rw [hH]
    exact scriptH_or K a _ ns b
  -- what is not the script is of the base
  have old : ∀ {b : Addr} {o : Obj}, s.heap.get? b = some o → H b = none → (hidT s.heap H).get? b = some o := fun e n => hidT_get e n
  have dicN : ∀ {b : Addr} {o : Obj} {es : Array DictEntry} {n : Nat}, s.heap.get? b = some o → o.data = .dict es n → H b = none := fun {b o es n} e d => by
    rcases or_ b with z | ⟨rfl, _, _⟩
    · exact z
    · rw [ha] at e
      cases e
      cases d
  have nsB : ∀ {b : Addr} {m : Str → Option Value}, s.heap.Ns b m → (hidT s.heap H).Ns b m := fun {b m} ⟨o, es, n, e, d, r⟩ => ⟨o, es, n, old e (dicN e d), d, r⟩
  have KB : K.In (hidT s.heap H) := fun b o e => old (KX b o e) (by
    rcases or_ b with z | ⟨rfl, h, _⟩
    · exact z
    · rw [h] at e
      cases e)
  have M : Mod K mg (hidT s.heap H) := ⟨KB, nsB hg, ⟨mb, nsB hb, hbb⟩, let ⟨mc, h1, h2⟩ := hlim; ⟨mc, nsB h1, h2⟩⟩
  have hok : HOk Pr w H s.heap := fun b u z => by
    rcases or_ b with z' | ⟨rfl, _, z'⟩
    · rw [z'] at z
      cases z
    · rw [z'] at z
      cases z
      exact ⟨ha, by rw [List.length_map]; exact hl, vs, _, rv, ha⟩
  have hS : SqL K H a (ns.map V.int) := by
    cases q : K.lookup a with
    | none => exact .inl (.inr ⟨_, by
        rw [hH]
        exact if_pos ⟨rfl, q⟩⟩)
    | some o =>
      have e := KX a o q
      rw [ha] at e
      cases e
      exact .inr ⟨_, vs.toArray, _, q, rfl, rfl, rfl, by rw [List.size_toArray, hi.length]; exact hl, by simpa using rv⟩
  obtain ⟨so, es, n, e1, e2⟩ := hsys
  have e0 : Env0 Pr w K mg (hidT s.heap H) callerA [] s H := ⟨rfl, M, fun b o e => of_hidT e, Nat.le_of_eq (hidT_size _ _), trivial, fun b z => absurd (show b ∈ ([] : List Addr) from z) (by simp), hok, .of_eq hgen⟩
  refine codeAny_mono ((F _ KB (nsB hg) ⟨_, old e1 (dicN e1 e2)⟩).run callerA [] s H ⟨[.ref a], []⟩ [.ref a] [.ref a] _ _ hr rfl e0 (hbind s (.ref a)) (.cons rfl .nil) (hsp H hS)) fun r s' h => ?_
  cases r with
  | error e =>
    obtain ⟨_, _, _, _, _, _, _, _, _, _, _, _, z⟩ := h
    exact z.elim
  | ok fl =>
    cases fl with
    | next => exact False.elim h
    | brk => exact False.elim h
    | cont => exact False.elim h
    | ret u =>
      obtain ⟨v, H', os, bare, un, hok', r', q⟩ := h
      have q' : v = .bl true := q
      subst q'
      obtain rfl : u = Value.bool true := r'
      refine ⟨rfl, OldK.of_keep fun b o e => ?_, os, bare⟩
      rcases or_ b with z | ⟨_, _, z⟩
      · exact un.keep b o e z (fun z => absurd (show b ∈ ([] : List Addr) from z) (by simp)) (by simp)
      · obtain ⟨e1, _⟩ := hok b _ z
        obtain ⟨e2, _⟩ := hok' b _ (un.frzs b _ _ z)
        rw [e] at e1
        cases e1
        exact e2
/-- the same, as the head wants it -/
theorem walk_ofG {l : PySem.W.OpenLaw} {n k : Nat} {q : Program} {loose : List Str} {XP : (Str → Option Value) → Heap → Prop} {YP : World → Heap → Prop} {d : DefRec} {x : Str}
    (hn : l.most = some n) (hn2 : n ≤ sizeLine) (hdf : d.params.defaults = []) (hr : Room k callerA)
    (F : ∀ (w : World) (mg : Str → Option Value) (fa : Addr) (h : Heap), YP w h → h.Ns mainGlobals mg → mg d.name = some (.ref fa) →
      ∃ (K : PySem.W.Frag) (fd : FuncData), K.In h ∧ (∃ o es n, h.get? sysModules = some o ∧ o.data = .dict es n) ∧ (∀ (s : Shared) (u : Value), BindsTo s fd ⟨[u], []⟩ [(x, u)]) ∧
        ∀ base : Heap, K.In base → base.Ns mainGlobals mg → (∃ o, base.get? sysModules = some o) → FnG l.prog w K mg base k fa fd [x] (spLaw K)) :
    PySem.W.WalkO q loose XP YP l.row.toRowW d [] (fun f vs => PySem.call f vs) := by
  refine Att.attach_call hn hdf fun w s₀ s₁ mg mb fa o pm cd doc a vs ns G Y ho hd hcd hmg hobj hints hlen hg => ?_
  obtain ⟨K, fd, KX, hs, hb, hF⟩ := F w mg fa _ Y G.T.g hmg
  exact law_callG KX G.T.g G.T.b G.T.builtins G.T.nolimit hg hs hobj hints (Nat.le_trans hlen hn2) hr hF hb fun H hS => ⟨a, ns, rfl, hS, fun _ => rfl⟩
end
end Ad
namespace Ad
open PySem PySem.Calls PySem.W PySem.SeqAt PySem.Spec PyProof.Rows L2

/-! ### constants of the module: tuples too -/
mutual
def statB (K : PySem.W.Frag) : D → Value → Bool
  | .int i, .int j _ => decide (i = j)
  | .str x, .str y _ => decide (x = y)
  | .bool x, .bool y => decide (x = y)
  | .none, .none => true
  | .tuple ds, .ref a => (match K.lookup a with
    | some ⟨.type c, none, .seq its _, _⟩ => decide (c = "tuple") && (decide (its.size ≤ sizeLine) && (decide (ds.length ≤ sizeLine) && statsB K ds its.toList))
    | _ => false)
  | _, _ => false
def statsB (K : PySem.W.Frag) : List D → List Value → Bool
  | [], [] => true
  | d :: ds, v :: vs => statB K d v && statsB K ds vs
  | _, _ => false
end
mutual
theorem statB_ok {K : PySem.W.Frag} : ∀ (d : D) (u : Value), statB K d u = true → ∃ v, RelV v u ∧ Stat K v d
  | .int i, .int j t, h => by
    cases of_decide_eq_true h
    exact ⟨.int i, ⟨t, rfl⟩, fun _ _ _ => .int _⟩
  | .str x, .str y t, h => by
    cases of_decide_eq_true h
    exact ⟨.str x, ⟨t, rfl⟩, fun _ _ _ => .str _⟩
  | .bool x, .bool y, h => by
    cases of_decide_eq_true h
    exact ⟨.bl x, rfl, fun _ _ _ => .bl _⟩
  | .none, .none, _ => ⟨.non, rfl, fun _ _ _ => .non⟩
  | .tuple ds, .ref a, h => by
    unfold statB at h
    split at h
    · rename_i c its n sl q
      simp only [Bool.and_eq_true, decide_eq_true_eq] at h
      obtain ⟨h1, h2, h3, h4⟩ := h
      obtain ⟨vs, r, z⟩ := statsB_ok ds _ h4
      exact ⟨.ref a, rfl, fun W N H => .stp ⟨_, its, n, ⟨q, congrArg Value.type h1, rfl, h2, r⟩, rfl⟩ h3 (z W N H)⟩
    · cases h
theorem statsB_ok {K : PySem.W.Frag} : ∀ (ds : List D) (us : List Value), statsB K ds us = true → ∃ vs, Vals vs us ∧ ∀ W N H, RepL K W N H vs ds
  | [], [], _ => ⟨[], .nil, fun _ _ _ => .nil⟩
  | d :: ds, v :: vs, h => by
    unfold statsB at h
    obtain ⟨h1, h2⟩ := Bool.and_eq_true_iff.mp h
    obtain ⟨v', r, z⟩ := statB_ok d v h1
    obtain ⟨vs', rs, zs⟩ := statsB_ok ds vs h2
    exact ⟨v' :: vs', .cons r rs, fun W N H => .cons (z W N H) (zs W N H)⟩
end
/-- the module's name holds this -/
def constB (K : PySem.W.Frag) (c : Str × D) : Bool := match PySem.W.nsIn K mainGlobals c.1 with
  | some (some u) => statB K c.2 u
  | _ => false
theorem constB_ok {K : PySem.W.Frag} {h : Heap} {mg : Str → Option Value} (X : K.In h) (G : h.Ns mainGlobals mg) {nm : Str} {d : D} (c : constB K (nm, d) = true) : ∃ u v, mg nm = some u ∧ RelV v u ∧ Stat K v d := by
  unfold constB at c
  split at c
  · rename_i u q
    obtain ⟨v, r, z⟩ := statB_ok _ _ c
    exact ⟨u, v, PySem.W.mg_of X G q, r, z⟩
  · cases c
/-! ### the head's Hook, sys.modules seen -/
def sysB (g : Addr → Option Obj) : Bool := match g sysModules with
  | some ⟨_, _, .dict _ _, _⟩ => true
  | _ => false
theorem sysB_ok {g : Addr → Option Obj} (h : sysB g = true) : ∃ o es n, g sysModules = some o ∧ o.data = .dict es n := by
  unfold sysB at h
  split at h
  · rename_i c od es n sl q
    exact ⟨_, es, n, q, rfl⟩
  · cases h
abbrev AlE : Type := He.AlD × Bool
def obsE (n : Nat) (fa : List He.Fa) (fn : List He.DefD) (cs : List (Str × D)) (g : Addr → Option Obj) : AlE :=
  (He.obsD fa fn (He.frG g (He.asD g n)), sysB g && cs.all fun c => constB (He.frG g (He.asD g n)) c)
def hookE (n : Nat) (fa : List He.Fa) (fn : List He.DefD) (cs : List (Str × D)) : PySem.W.Hook where
  α := AlE
  obs := fun s => obsE n fa fn cs s.heap.get?
  val := fun _ => (He.valD fn, true)
  says := fun _ h => (∃ K : PySem.W.Frag, K.In h ∧ He.SaysD fa fn K ∧ ∀ c, c ∈ cs → constB K c = true) ∧ ∃ o es n, h.get? sysModules = some o ∧ o.data = .dict es n
  of := fun _ s e => by
    have e1 := congrArg Prod.fst e
    have e2 := congrArg Prod.snd e
    obtain ⟨h1, h2⟩ := Bool.and_eq_true_iff.mp (show (sysB s.heap.get? && cs.all fun c => constB (He.frG s.heap.get? (He.asD s.heap.get? n)) c) = true from e2)
    exact ⟨⟨_, He.frG_in, e1, fun c hc => List.all_eq_true.mp h2 c hc⟩, sysB_ok h1⟩
  keeps := fun _ _ _ ⟨⟨K, hK, c⟩, o, es, n, h1, h2⟩ k => ⟨⟨K, PySem.W.Frag.In.keeps hK k, c⟩, o, es, n, k _ _ h1, h2⟩
theorem obsE_eq {n : Nat} {fa : List He.Fa} {fn : List He.DefD} {cs : List (Str × D)} {g : Addr → Option Obj} {s : Shared} (h : ∀ a, g a = s.heap.get? a) : obsE n fa fn cs g = (hookE n fa fn cs).obs s := by
  have e : g = s.heap.get? := funext h
  rw [e]
  rfl
end Ad
namespace Ad
open PySem PySem.Calls PySem.W PySem.SeqAt PySem.Spec PyProof.Rows L2

/-! ### the defs of a law, one on another -/
def InL (l : List (Str × (List D → M D))) (nm : Str) (g : List D → M D) : Prop := (nm, g) ∈ l
def InG (l : List (Str × D)) (nm : Str) (d : D) : Prop := (nm, d) ∈ l
/-- a def of the top, as the head tells it -/
def Defd (K : PySem.W.Frag) (mg : Str → Option Value) (nm : Str) (params : Arguments) (body : List Stmt) (scope : Scope) (ps : List Str) : Prop :=
  ∃ (f : Addr) (fd : FuncData), FunD K nm nm params body scope [] [] f fd ∧ mg nm = some (.ref f) ∧ Binds K fd ps []
section
variable {Pr : Program} {w : World} {K : PySem.W.Frag} {mg : Str → Option Value} {base : Heap}
theorem lib_nil {k : Nat} : ∀ nm g, InL [] nm g → CallP Pr w K mg base k nm g := fun _ _ h => nomatch h
theorem lib_cons {j k : Nat} {nm : Str} {g : List D → M D} {l : List (Str × (List D → M D))} (c : CallP Pr w K mg base j nm g) (h : j ≤ k) (t : ∀ nm g, InL l nm g → CallP Pr w K mg base k nm g) : ∀ nm' g', InL ((nm, g) :: l) nm' g' → CallP Pr w K mg base k nm' g' := fun nm' g' q => by
  rcases List.mem_cons.mp q with e | q
  · cases e
    exact c.mono h
  · exact t _ _ q
/-- a def does what its literal says -/
theorem call_of {k : Nat} {nm : Str} {params : Arguments} {body : List Stmt} {scope : Scope} {ps N : List Str} {np n : Nat} {b : Ss} {l : List (Str × (List D → M D))} {cs : List (Str × D)} (d : Defd K mg nm params body scope ps) (T : Top K mg base) (S : FnScope N ps scope) (hn : N.length = n) (hp : ps.length = np)
    (hm : mSs ⟨N, scope.names, scope.names.map (·.1)⟩ b body = true) (hG : ∀ nm d, InG cs nm d → ∃ u v, mg nm = some u ∧ RelV v u ∧ Stat K v d) (hP : ∀ nm g, InL l nm g → CallP Pr w K mg base k nm g) (hc : cSs (InL l) (InG cs) b) : CallP Pr w K mg base (k + 1) nm (dFn np n b) := by
  obtain ⟨f, fd, F, hmg, hb⟩ := d
  exact ⟨f, fd, ps, hmg, F.kp, fn_dFn F T S hn hp hm hc hP hG, hb⟩
/-- what promises nothing -/
theorem call_fail {k : Nat} {nm : Str} {params : Arguments} {body : List Stmt} {scope : Scope} {ps : List Str} (d : Defd K mg nm params body scope ps) : CallP Pr w K mg base k nm (fun _ => M.fail) := by
  obtain ⟨f, fd, F, hmg, hb⟩ := d
  refine ⟨f, fd, ps, hmg, F.kp, ⟨fun vs H Q E h => ?_, fun A outer s H args us vs Q E _ _ _ _ _ h => ?_⟩, hb⟩
  · obtain ⟨_, _, _, _, _, _, z⟩ := h
    exact z.elim
  · obtain ⟨_, _, _, _, _, _, z⟩ := h
    exact z.elim
theorem call_draw {k : Nat} {params : Arguments} {body : List Stmt} {scope : Scope} {ps N : List Str} {c1 c2 c3 c4 c5 c6 c7 c8 c9 : Int} (d : Defd K mg "_law_draw" params body scope ps) (T : Top K mg base) (S : FnScope N ps scope) (hn : N.length = 9) (hp : ps.length = 2)
    (hm : mSs ⟨N, scope.names, scope.names.map (·.1)⟩ (drawB c1 c2 c3 c4 c5 c6 c7 c8 c9) body = true)
    (h : (Small 4294967296 c1 ∧ Small 1048576 c2 ∧ Small 1048576 c3 ∧ Small 4294967296 c4 ∧ Small 1048576 c5 ∧ Small 1048576 c6 ∧ Small 4294967296 c7 ∧ Small 4294967296 c8 ∧ 0 < c9)) : CallP Pr w K mg base (k + 1) "_law_draw" drawF := by
  have c : CallP Pr w K mg base (k + 1) "_law_draw" (dFn 2 9 (drawB c1 c2 c3 c4 c5 c6 c7 c8 c9)) :=
    call_of (l := []) (cs := []) d T S hn hp hm (fun _ _ z => nomatch z) lib_nil (by simp [drawB, cSs, cS, cE, cEs, e1])
  obtain ⟨h1, h2, h3, h4, h5, h6, h7, h8, h9⟩ := h
  exact c.refine fun ds Q R b z => draw_ref h1 h2 h3 h4 h5 h6 h7 h8 h9 ds Q R b z
theorem call_deck {k l : Nat} {params : Arguments} {body : List Stmt} {scope : Scope} (hb : body = deckBody l) (hs : scope = deckScope) (d : Defd K mg "_law_deck" params body scope ["_law_script"]) (T : Top K mg base) : CallD Pr w K mg base (k + 1) := by
  subst hb hs
  obtain ⟨f, fd, F, hmg, hb⟩ := d
  exact ⟨f, fd, hmg, F.kp, ok_deck F T, hb⟩
theorem law_of {k : Nat} {params : Arguments} {st : Stmt} {body : List Stmt} {scope : Scope} {N : List Str} {n : Nat} {fst : First} {b : Ss} {l : List (Str × (List D → M D))} {cs : List (Str × D)} {f : Addr} {fd : FuncData} (F : FunD K "law" "law" params (st :: body) scope [] [] f fd) (T : Top K mg base) (S : FnScope N ["_law_script"] scope) (hn : N.length = n)
    (hf : mFirst ⟨N, scope.names, scope.names.map (·.1)⟩ fst st = true) (hm : mSs ⟨N, scope.names, scope.names.map (·.1)⟩ b body = true) (hG : ∀ nm d, InG cs nm d → ∃ u v, mg nm = some u ∧ RelV v u ∧ Stat K v d) (hP : ∀ nm g, InL l nm g → CallP Pr w K mg base k nm g)
    (hD : CallD Pr w K mg base k) (hc : cSs (InL l) (InG cs) b) (hcf : ∀ i j o e, fst = .two i j o e → cE (InL l) (InG cs) e) (hrun : (runLaw n fst b).run (fun r _ => r = .rt (.bool true)) (fun _ _ => False) 4294967296) : FnG Pr w K mg base (k + 1) f fd ["_law_script"] (spLaw K) :=
  ok_law F T S hn hf hm hc hcf hP hG hD hrun
end
end Ad
namespace Ad
open PySem

/-! ### runs, by rules -/
/-- a for: I i holds ahead of the i-th turn -/
theorem forE_run {f : D → Ev → M Rz} {xs : List D} {I : Nat → Ev → Nat → Prop} {Q : Rz → Nat → Prop} {R : XV → Nat → Prop} {b : Nat} {ρ : Ev} (h0 : I 0 ρ b)
    (hs : ∀ i x, xs[i]? = some x → ∀ ρ b, I i ρ b → (f x ρ).run (fun r b' => match r with | .nx ρ' => I (i + 1) ρ' b' | .rt d => Q (.rt d) b' | .bk ρ' => Q (.nx ρ') b') R b)
    (hq : ∀ ρ b, I xs.length ρ b → Q (.nx ρ) b) : (forE f xs ρ).run Q R b := by
  have aux : ∀ (k i : Nat) (ρ : Ev) (b : Nat), i + k = xs.length → I i ρ b → (forE f (xs.drop i) ρ).run Q R b := by
    intro k
    induction k with
    | zero =>
      intro i ρ b e h
      rw [List.drop_eq_nil_of_le (by omega)]
      have e : i = xs.length := by omega
      subst e
      exact hq ρ b h
    | succ k ih =>
      intro i ρ b e h
      have hi : i < xs.length := by omega
      rw [List.drop_eq_getElem_cons hi]
      refine (f xs[i] ρ).mono (fun r b' q => ?_) (fun _ _ z => z) (hs i xs[i] (List.getElem?_eq_getElem hi) ρ b h)
      cases r with
      | nx ρ' => exact ih (i + 1) ρ' b' (by omega) q
      | rt d => exact q
      | bk ρ' => exact q
  have := aux xs.length 0 ρ b (by omega) h0
  rwa [List.drop_zero] at this
/-- a while: I n holds with n turns left -/
theorem whE_run {c : Ev → M Bool} {f : Ev → M Rz} {I : Nat → Ev → Nat → Prop} {Q : Rz → Nat → Prop} {R : XV → Nat → Prop} {b n : Nat} {ρ : Ev} (h0 : I n ρ b)
    (hs : ∀ n ρ b, I n ρ b → (c ρ).run (fun t b' => if t then ∃ m, n = m + 1 ∧ (f ρ).run (fun r b'' => match r with | .nx ρ' => I m ρ' b'' | .rt d => Q (.rt d) b'' | .bk ρ' => Q (.nx ρ') b'') R b' else Q (.nx ρ) b') R b) : (whE c f ρ).run Q R b := by
  have aux : ∀ (n : Nat) (ρ : Ev) (b : Nat), I n ρ b → (whN c f (n + 1) ρ).run Q R b := by
    intro n
    induction n with
    | zero =>
      intro ρ b h
      refine (c ρ).mono (fun t b' q => ?_) (fun _ _ z => z) (hs 0 ρ b h)
      cases t with
      | true =>
        obtain ⟨m, e, _⟩ := (if_pos rfl).mp q
        omega
      | false => exact q
    | succ n ih =>
      intro ρ b h
      refine (c ρ).mono (fun t b' q => ?_) (fun _ _ z => z) (hs (n + 1) ρ b h)
      cases t with
      | true =>
        obtain ⟨m, e, q⟩ : ∃ m, n + 1 = m + 1 ∧ _ := q
        have e : n = m := by omega
        subst e
        refine (f ρ).mono (fun r b'' q => ?_) (fun _ _ z => z) q
        cases r with
        | nx ρ' => exact ih ρ' b'' q
        | rt d => exact q
        | bk ρ' => exact q
      | false => exact q
  exact ⟨n + 1, aux n ρ b h0⟩
end Ad
namespace Ad
open PySem

/-! ### how long a value's text is -/
mutual
def sz : D → Nat
  | .none => 4
  | .bool _ => 5
  | .int i => i.natAbs.log2 + 2
  | .str x => 10 * x.length + 2
  | .list xs => szAll xs + 4
  | .tuple xs => szAll xs + 4
  | .dict _ => 2
def szAll : List D → Nat
  | [] => 0
  | x :: xs => sz x + 2 + szAll xs
end
mutual
/-- of what the laws' values are made: short ints, texts of plain signs, the empty dict, nothing else -/
def fine : D → Bool
  | .none => true
  | .bool _ => true
  | .int i => decide (i.natAbs.log2 < 1000)
  | .str x => x.cps.toList.all fun c => decide (c < 128)
  | .list xs => fineAll xs
  | .tuple xs => fineAll xs
  | .dict [] => true
  | .dict _ => false
def fineAll : List D → Bool
  | [] => true
  | x :: xs => fine x && fineAll xs
end
mutual
theorem fine_okD : ∀ d : D, fine d = true → okD d = true ∧ d.showable = true
  | .none, _ => ⟨rfl, rfl⟩
  | .bool _, _ => ⟨rfl, rfl⟩
  | .int i, h => ⟨rfl, decide_eq_true (Nat.lt_trans (of_decide_eq_true h) (by decide))⟩
  | .str _, _ => ⟨rfl, rfl⟩
  | .list xs, h => fine_okAll xs h
  | .tuple xs, h => fine_okAll xs h
  | .dict [], _ => ⟨rfl, rfl⟩
  | .dict (_ :: _), h => nomatch h
theorem fine_okAll : ∀ ds : List D, fineAll ds = true → okAll ds = true ∧ PyData.showableAll ds = true
  | [], _ => ⟨rfl, rfl⟩
  | d :: ds, h => by
    obtain ⟨h1, h2⟩ := Bool.and_eq_true_iff.mp (show (fine d && fineAll ds) = true from h)
    obtain ⟨a1, a2⟩ := fine_okD d h1
    obtain ⟨b1, b2⟩ := fine_okAll ds h2
    exact ⟨Bool.and_eq_true_iff.mpr ⟨a1, b1⟩, Bool.and_eq_true_iff.mpr ⟨a2, b2⟩⟩
end
theorem join_len : ∀ ts : List Str, (Str.join ", " ts).length ≤ (ts.map fun t => t.length + 2).sum
  | [] => Nat.le_refl _
  | t :: ts => by
    have h := join_length_add (t :: ts) (by simp)
    have e : ∀ us : List Str, piled us = (us.map fun t => t.length + 2).sum := fun us => by
      induction us with
      | nil => rfl
      | cons u us ih => simp only [piled, List.map_cons, List.sum_cons] at *
    rw [e] at h
    omega
theorem from_len : ∀ (ts : List Str) (k : Nat) (acc : Str), (textFrom k acc ts).length ≤ acc.length + (ts.map fun t => t.length + 2).sum
  | [], k, acc => by
    show acc.length ≤ _
    simp
  | t :: r, k, acc => by
    have ih := from_len r (k + 1) (acc ++ (if k > 0 then ", " else "" : String) ++ t)
    have e : (acc ++ (if k > 0 then ", " else "" : String) ++ t).length ≤ acc.length + 2 + t.length := by
      rw [strLen_append, strLen_append]
      split
      · exact Nat.le_refl _
      · show acc.length + 0 + t.length ≤ _
        omega
    rw [List.map_cons, List.sum_cons]
    have z : textFrom k acc (t :: r) = textFrom (k + 1) (acc ++ (if k > 0 then ", " else "" : String) ++ t) r := rfl
    rw [z]
    omega
mutual
theorem shown_le : ∀ d : D, fine d = true → d.shown.length ≤ sz d
  | .none, _ => by decide
  | .bool true, _ => by decide
  | .bool false, _ => by decide
  | .int i, h => by
    have := int_text_length_le (a := i) (k := i.natAbs.log2 + 1) (by omega) (by omega)
    show (Str.ofString (toString i)).length ≤ i.natAbs.log2 + 2
    rw [ofString_length]
    exact this
  | .str x, h => StrLaws.reprText_len x fun c hc => Nat.lt_trans (of_decide_eq_true (List.all_eq_true.mp h c hc)) (by decide)
  | .list xs, h => by
    have q := shownAll_le xs h
    have z := from_len (PyData.shownAll xs) 0 "["
    show (textFrom 0 "[" (PyData.shownAll xs) ++ ("]" : Str)).length ≤ _
    rw [strLen_append]
    have e1 : (("[" : String) : Str).length = 1 := rfl
    have e2 : (("]" : String) : Str).length = 1 := rfl
    show _ ≤ szAll xs + 4
    omega
  | .tuple xs, h => by
    have q := shownAll_le xs h
    have z := join_len (PyData.shownAll xs)
    show (("(" : Str) ++ Str.join ", " (PyData.shownAll xs) ++ (if (PyData.shownAll xs).length == 1 then ",)" else ")" : String)).length ≤ _
    rw [strLen_append, strLen_append]
    have e1 : (("(" : String) : Str).length = 1 := rfl
    have e2 : (((if (PyData.shownAll xs).length == 1 then ",)" else ")" : String)) : Str).length ≤ 2 := by split <;> decide
    show _ ≤ szAll xs + 4
    omega
  | .dict [], _ => by decide
  | .dict (_ :: _), h => nomatch h
theorem shownAll_le : ∀ ds : List D, fineAll ds = true → ((PyData.shownAll ds).map fun t => t.length + 2).sum ≤ szAll ds
  | [], _ => Nat.le_refl _
  | d :: ds, h => by
    obtain ⟨h1, h2⟩ := Bool.and_eq_true_iff.mp (show (fine d && fineAll ds) = true from h)
    have a := shown_le d h1
    have b := shownAll_le ds h2
    have e : ((PyData.shownAll (d :: ds)).map fun t => t.length + 2).sum = ((PyData.shown d).length + 2) + ((PyData.shownAll ds).map fun t => t.length + 2).sum := by
      rw [show PyData.shownAll (d :: ds) = PyData.shown d :: PyData.shownAll ds from rfl, List.map_cons, List.sum_cons]
    have e2 : szAll (d :: ds) = sz d + 2 + szAll ds := rfl
    omega
end
theorem repr_eq {d : D} (h : fine d = true) (hd : d.depth ≤ 40) (hs : sz d ≤ 16777216) : biD .repr [d] = pure (.str d.shown) := by
  obtain ⟨h1, h2⟩ := fine_okD d h
  exact M.grd_bind ⟨h1, h2, hd, Nat.le_trans (shown_le d h) (by rw [sizeLine_eq]; exact hs)⟩ _
end Ad
namespace Ad
open PySem

/-! ### evaluation -/
theorem lcE_filter {α : Type} {f : D → M (Option D)} {enc : α → D} {keep : α → Bool} {val : α → D} : ∀ {xs : List α}, (∀ x, x ∈ xs → f (enc x) = pure (if keep x then some (val x) else none)) → lcE f (xs.map enc) = pure ((xs.filter keep).map val)
  | [], _ => rfl
  | x :: xs, h => by
    rw [List.map_cons]
    unfold lcE
    rw [h x List.mem_cons_self, lcE_filter fun y hy => h y (List.mem_cons_of_mem _ hy)]
    rw [List.filter_cons]
    cases keep x <;> rfl
/-- a comprehension, over what stands for the xs -/
theorem lc_eq {α : Type} {own : List Nat} {tg : Tg} {it tst elt : E} {ρ : Ev} (xs : List α) (enc : α → D) (keep : α → Bool) (val : α → D) (hit : (dE it ρ >>= walked) = pure (xs.map enc)) (hn : noOwn ρ own = true) (hf : xs.length ≤ 16777216)
    (h : ∀ x, x ∈ xs → ∃ ρ1, bindT (wipeE ρ own) tg (enc x) = pure ρ1 ∧ dE tst ρ1 = pure (.bool (keep x)) ∧ (keep x = true → dE elt ρ1 = pure (val x))) :
    dE (.lc own tg it tst elt) ρ = pure (.list ((xs.filter keep).map val)) := by
  have e : dE (.lc own tg it tst elt) ρ = (dE it ρ >>= walked) >>= fun xs => (do
    M.grd (noOwn ρ own = true ∧ fitsD xs)
    let ys ← M.quiet (lcE (fun d => do
      let ρ1 ← bindT (wipeE ρ own) tg d
      let t ← dE tst ρ1
      let b ← asBool t
      if b then (do let y ← dE elt ρ1; pure (some y)) else pure none) xs)
    pure (.list ys)) := rfl
  rw [e, hit, M.pb, M.grd_bind ⟨hn, by unfold fitsD; rw [List.length_map, sizeLine_eq]; exact hf⟩]
  rw [lcE_filter (keep := keep) (val := val) fun x hx => by
    obtain ⟨ρ1, h1, h2, h3⟩ := h x hx
    rw [h1, M.pb, h2, M.pb]
    cases hk : keep x with
    | true =>
      show (dE elt ρ1 >>= fun y => (pure (some y) : M (Option D))) = pure (some (val x))
      rw [h3 hk]
      rfl
    | false => rfl]
  rfl
theorem eq_int (i j : Int) : eqD (.int i) (.int j) = pure (decide (i = j)) := by
  unfold eqD
  rw [M.grd_bind (.inl ⟨⟨rfl, Nat.zero_le _⟩, ⟨rfl, Nat.zero_le _⟩⟩)]
  congr 1
theorem eq_str (i j : Str) : eqD (.str i) (.str j) = pure (i == j) := by
  unfold eqD
  rw [M.grd_bind (.inl ⟨⟨rfl, Nat.zero_le _⟩, ⟨rfl, Nat.zero_le _⟩⟩)]
  congr 1
/-! webs -/
def iD (n : Nat) : D := .int n
def pairD (p : Nat × Nat) : D := .tuple [.int p.1, .int p.2]
def webD (n : Nat) (a : List (Nat × Nat)) : D := .tuple [.int n, .tuple (a.map pairD)]
theorem rangeD_nat (n : Nat) : rangeD 0 n = (List.range n).map iD := by
  unfold rangeD
  simp only [Int.sub_zero, Int.toNat_natCast]
  exact List.map_congr_left fun i _ => by rw [Int.zero_add]; rfl
end Ad
namespace Ad
open PySem
theorem range_eq {e : E} {ρ : Ev} {n : Nat} (h : dE e ρ = pure (.int n)) (hn : n ≤ 16777216) : (dE (.bi .range1 (.cons e .nil)) ρ >>= walked) = pure ((List.range n).map iD) := by
  have e1 : (dE (.bi .range1 (.cons e .nil)) ρ >>= walked) = (dE e ρ >>= fun x => (do
    let j ← asInt x
    M.grd (j ≤ 2 ^ 24 ∧ -(2 ^ 62) ≤ j)
    pure (.list (rangeD 0 j))) >>= walked) := rfl
  rw [e1, h, M.pb]
  show (M.grd ((n : Int) ≤ 2 ^ 24 ∧ -(2 ^ 62) ≤ (n : Int)) >>= fun _ => pure (.list (rangeD 0 n))) >>= walked = _
  rw [M.grd_bind ⟨by omega, by omega⟩, rangeD_nat]
  rfl
theorem bind_pair {ρ : Ev} {i j : Nat} {x y : D} : bindT ρ (.t [i, j]) (.tuple [x, y]) = pure ((ρ.set i (some (x, false))).set j (some (y, false))) := M.grd_bind (show ([x, y] : List D).length = [i, j].length from rfl) _
theorem filter_all {α : Type} (l : List α) : (l.filter fun _ => true) = l := List.filter_eq_self.mpr fun _ _ => rfl
/-- a def that is one return -/
theorem dFn_ret {np n : Nat} {e : E} {ds : List D} {m : M D} (hl : ds.length = np) (h : dE e (ds.map (fun d => some (d, false)) ++ List.replicate (n - ds.length) none) = m) : dFn np n (.cons (.ret e) .nil) ds = m := by
  rw [← h]
  exact (M.grd_bind hl _).trans (M.ext rfl)
/-! lists of small numbers -/
theorem ints_plain : ∀ ns : List Nat, PyData.plainAll (ns.map iD) = true ∧ PyData.depthAll (ns.map iD) = 0
  | [] => ⟨rfl, rfl⟩
  | n :: ns => by
    obtain ⟨h1, h2⟩ := ints_plain ns
    refine ⟨?_, ?_⟩
    · show (PyData.plain (iD n) && PyData.plainAll (ns.map iD)) = true
      rw [h1]
      rfl
    · show max (PyData.depth (iD n)) (PyData.depthAll (ns.map iD)) = 0
      rw [h2]
      rfl
theorem eqOk_ints (ns : List Nat) : eqOk (.list (ns.map iD)) := ⟨(ints_plain ns).1, by
  show PyData.depthAll (ns.map iD) + 1 ≤ 64
  rw [(ints_plain ns).2]
  omega⟩
theorem eqOk_int (i : Int) : eqOk (.int i) := ⟨rfl, Nat.zero_le _⟩
theorem any_ints (k : Nat) (ns : List Nat) : ((ns.map iD).any fun z => PyData.eqv z (iD k)) = decide (k ∈ ns) := by
  induction ns with
  | nil => rfl
  | cons n ns ih =>
    rw [List.map_cons, List.any_cons, ih]
    have e : PyData.eqv (iD n) (iD k) = decide (k = n) := by
      show ((n : Int) == (k : Int)) = _
      by_cases h : k = n
      · subst h
        simp
      · have : ¬ ((n : Int) = (k : Int)) := by omega
        simp [h, this]
    rw [e]
    simp [List.mem_cons]
theorem in_ints (k : Nat) (ns : List Nat) : inD (iD k) (.list (ns.map iD)) = pure (decide (k ∈ ns)) := by
  show (M.grd _ >>= fun _ => _) = _
  rw [M.grd_bind (.inl ⟨eqOk_int k, eqOk_ints ns⟩), any_ints]
theorem eq_nil (ns : List Nat) : eqD (.list (ns.map iD)) (.list []) = pure ns.isEmpty := by
  show (M.grd _ >>= fun _ => _) = _
  rw [M.grd_bind (.inl ⟨eqOk_ints ns, eqOk_ints []⟩)]
  cases ns <;> rfl
theorem look_some {ρ : Ev} {i : Nat} {d : D} (h : ρ[i]? = some (some (d, false))) : look ρ i = pure d := by
  unfold look
  rw [h]
theorem lookB_some {ρ : Ev} {i : Nat} {d : D} {o : Bool} (h : ρ[i]? = some (some (d, o))) : lookB ρ i = pure d := by
  unfold lookB
  rw [h]
/-- a for that folds: Inv holds of what is folded so far -/
theorem forE_fold {α β : Type} {f : D → Ev → M Rz} {enc : α → D} {st : β → α → β} {Inv : β → Ev → Prop} {Q : Rz → Nat → Prop} {R : XV → Nat → Prop} {b : Nat} : ∀ {xs : List α} {z : β} {ρ : Ev}, Inv z ρ →
    (∀ x, x ∈ xs → ∀ z ρ, Inv z ρ → ∃ ρ', f (enc x) ρ = pure (.nx ρ') ∧ Inv (st z x) ρ') → (∀ ρ, Inv (xs.foldl st z) ρ → Q (.nx ρ) b) → (forE f (xs.map enc) ρ).run Q R b
  | [], z, ρ, h0, _, hq => hq ρ h0
  | x :: xs, z, ρ, h0, hs, hq => by
    obtain ⟨ρ', e, h1⟩ := hs x List.mem_cons_self z ρ h0
    show ((f (enc x) ρ) >>= Rz.go (forE f (xs.map enc))).run Q R b
    rw [e]
    exact forE_fold (z := st z x) h1 (fun y hy => hs y (List.mem_cons_of_mem _ hy)) hq
theorem fre_set {ρ : Ev} {vs : List Nat} (h : ∀ j, j ∈ vs → ∀ d, ρ[j]? ≠ some (some (d, true))) (i : Nat) (x : D) : ∀ j, j ∈ vs → ∀ d, (ρ.set i (some (x, false)))[j]? ≠ some (some (d, true)) := fun j hj d z => by
  rw [List.getElem?_set] at z
  split at z
  · split at z
    · cases z
    · cases z
  · exact h j hj d z
theorem seq_one {s : S} {ρ ρ' : Ev} (h : dS s ρ = pure (.nx ρ')) : dSs (.cons s .nil) ρ = pure (.nx ρ') := by
  show dS s ρ >>= _ = _
  rw [h]
  rfl
theorem noOwn_one {ρ : Ev} {v : Nat} (h : ∀ d, ρ[v]? ≠ some (some (d, true))) : noOwn ρ [v] = true := by
  unfold noOwn
  rw [List.all_cons, List.all_nil, Bool.and_true]
  split
  · rename_i d q
    exact absurd q (h d)
  · rfl
theorem run_cons {s : S} {ss : Ss} {ρ ρ' : Ev} {Q : Rz → Nat → Prop} {R : XV → Nat → Prop} {b : Nat} (h : dS s ρ = pure (.nx ρ')) (hq : (dSs ss ρ').run Q R b) : (dSs (.cons s ss) ρ).run Q R b := by
  show (dS s ρ >>= _).run Q R b
  rw [h]
  exact hq
theorem run_cons' {s : S} {ss : Ss} {ρ : Ev} {Q : Rz → Nat → Prop} {R : XV → Nat → Prop} {b : Nat} (h : (dS s ρ).run (fun r b => (Rz.sq (fun ρ => dSs ss ρ) r).run Q R b) R b) : (dSs (.cons s ss) ρ).run Q R b := h
theorem asg_eq {i : Nat} {e : E} {ρ : Ev} {d : D} (h : dE e ρ = pure d) : dS (.asg i e) ρ = pure (.nx (ρ.set i (some (d, false)))) := by
  show dE e ρ >>= _ = _
  rw [h]
  rfl
/-- m does at least what v is -/
def M.ge {α : Type} (m : M α) (v : α) : Prop := ∀ (Q : α → Nat → Prop) (R : XV → Nat → Prop) (b : Nat), Q v b → m.run Q R b
theorem M.ge_pure {α : Type} {v : α} : M.ge (pure v) v := fun _ _ _ h => h
theorem M.ge_of {α : Type} {m : M α} {v : α} (h : m = pure v) : m.ge v := by subst h; exact M.ge_pure
theorem M.ge_bind {α β : Type} {m : M α} {v : α} {f : α → M β} {w : β} (h : m.ge v) (g : (f v).ge w) : (m >>= f).ge w := fun Q R b q => h _ _ _ (g Q R b q)
/-- a def by its run -/
theorem dFn_ge {np n : Nat} {body : Ss} {ds : List D} {v : D} (hl : ds.length = np) (h : ∀ (Q : Rz → Nat → Prop) (R : XV → Nat → Prop) (b : Nat), Q (.rt v) b → (dSs body (ds.map (fun d => some (d, false)) ++ List.replicate (n - ds.length) none)).run Q R b) : (dFn np n body ds).ge v := fun Q R b q => ⟨hl, h _ R b q⟩
theorem lc_ge {α : Type} {own : List Nat} {tg : Tg} {it tst elt : E} {ρ : Ev} (xs : List α) (enc : α → D) (keep : α → Bool) (val : α → D) (hit : (dE it ρ >>= walked).ge (xs.map enc)) (hn : noOwn ρ own = true) (hf : xs.length ≤ 16777216)
    (h : ∀ x, x ∈ xs → ∃ ρ1, bindT (wipeE ρ own) tg (enc x) = pure ρ1 ∧ dE tst ρ1 = pure (.bool (keep x)) ∧ (keep x = true → dE elt ρ1 = pure (val x))) :
    (dE (.lc own tg it tst elt) ρ).ge (.list ((xs.filter keep).map val)) := by
  have e : dE (.lc own tg it tst elt) ρ = (dE it ρ >>= walked) >>= fun xs => (do
    M.grd (noOwn ρ own = true ∧ fitsD xs)
    let ys ← M.quiet (lcE (fun d => do
      let ρ1 ← bindT (wipeE ρ own) tg d
      let t ← dE tst ρ1
      let b ← asBool t
      if b then (do let y ← dE elt ρ1; pure (some y)) else pure none) xs)
    pure (.list ys)) := rfl
  rw [e]
  refine M.ge_bind hit (M.ge_of ?_)
  rw [M.grd_bind ⟨hn, by unfold fitsD; rw [List.length_map, sizeLine_eq]; exact hf⟩]
  rw [lcE_filter (keep := keep) (val := val) fun x hx => by
    obtain ⟨ρ1, h1, h2, h3⟩ := h x hx
    rw [h1, M.pb, h2, M.pb]
    cases hk : keep x with
    | true =>
      show (dE elt ρ1 >>= fun y => (pure (some y) : M (Option D))) = pure (some (val x))
      rw [h3 hk]
      rfl
    | false => rfl]
  rfl
theorem range_replicate (n : Nat) (x : D) : (List.range n).map (fun _ => x) = List.replicate n x := by
  rw [List.map_const', List.length_range]
/-! ### what an expression comes to -/
theorem ge_v {ρ : Ev} {i : Nat} {d : D} (h : ρ[i]? = some (some (d, false))) : (dE (.v i) ρ).ge d := M.ge_of (look_some h)
theorem ge_nil {ρ : Ev} : (dEs .nil ρ).ge [] := M.ge_pure
theorem ge_cons {ρ : Ev} {e : E} {es : Es} {d : D} {ds : List D} (h : (dE e ρ).ge d) (g : (dEs es ρ).ge ds) : (dEs (.cons e es) ρ).ge (d :: ds) := M.ge_bind h (M.ge_bind g M.ge_pure)
theorem ge_call {ρ : Ev} {nm : Str} {f : List D → M D} {es : Es} {ds : List D} {d : D} (h : (dEs es ρ).ge ds) (g : (f ds).ge d) : (dE (.call nm f es) ρ).ge d := M.ge_bind h g
theorem ge_bi {ρ : Ev} {b : Bi} {es : Es} {ds : List D} {d : D} (h : (dEs es ρ).ge ds) (g : biD b ds = pure d) : (dE (.bi b es) ρ).ge d := M.ge_bind h (M.ge_of g)
theorem ge_lst {ρ : Ev} {es : Es} {ds : List D} (h : (dEs es ρ).ge ds) : (dE (.lst es) ρ).ge (.list ds) := M.ge_bind h M.ge_pure
theorem ge_tup {ρ : Ev} {es : Es} {ds : List D} (h : (dEs es ρ).ge ds) : (dE (.tup es) ρ).ge (.tuple ds) := M.ge_bind h M.ge_pure
theorem ge_bin {ρ : Ev} {op : Operator} {a b : E} {x y z : D} (h : (dE a ρ).ge x) (g : (dE b ρ).ge y) (k : binD op x y = pure z) : (dE (.bin op a b) ρ).ge z := M.ge_bind h (M.ge_bind g (M.ge_of k))
theorem ge_cmp {ρ : Ev} {op : CmpOp} {a b : E} {x y : D} {r : Bool} (h : (dE a ρ).ge x) (g : (dE b ρ).ge y) (k : cmpD op x y = pure r) : (dE (.cmp op a b) ρ).ge (.bool r) := M.ge_bind h (M.ge_bind g (M.ge_bind (M.ge_of k) M.ge_pure))
theorem run_asg {i : Nat} {e : E} {ss : Ss} {ρ : Ev} {d : D} {Q : Rz → Nat → Prop} {R : XV → Nat → Prop} {b : Nat} (h : (dE e ρ).ge d) (hq : (dSs ss (ρ.set i (some (d, false)))).run Q R b) : (dSs (.cons (.asg i e) ss) ρ).run Q R b := h _ R b hq
theorem run_ite {c : E} {x y ss : Ss} {ρ : Ev} {t : Bool} {Q : Rz → Nat → Prop} {R : XV → Nat → Prop} {b : Nat} (h : (dE c ρ).ge (.bool t)) (hq : (dSs (if t then x else y) ρ).run (fun r b => (Rz.sq (fun ρ => dSs ss ρ) r).run Q R b) R b) : (dSs (.cons (.ite c x y) ss) ρ).run Q R b := h _ R b (by
  show ((if t then dSs x ρ else dSs y ρ) >>= _).run Q R b
  cases t with
  | true => exact hq
  | false => exact hq)
theorem run_ret {e : E} {ss : Ss} {ρ : Ev} {d : D} {Q : Rz → Nat → Prop} {R : XV → Nat → Prop} {b : Nat} (h : (dE e ρ).ge d) (hq : Q (.rt d) b) : (dSs (.cons (.ret e) ss) ρ).run Q R b := h _ R b hq

/-! ### texts of values -/
theorem depthAll_le {k : Nat} : ∀ {xs : List D}, (∀ x, x ∈ xs → x.depth ≤ k) → PyData.depthAll xs ≤ k
  | [], _ => Nat.zero_le _
  | x :: xs, h => by
    show max (PyData.depth x) (PyData.depthAll xs) ≤ k
    have := h x List.mem_cons_self
    have := depthAll_le fun y hy => h y (List.mem_cons_of_mem _ hy)
    omega
theorem fineAll_of : ∀ {xs : List D}, (∀ x, x ∈ xs → fine x = true) → fineAll xs = true
  | [], _ => rfl
  | x :: xs, h => by
    show (fine x && fineAll xs) = true
    rw [h x List.mem_cons_self, fineAll_of fun y hy => h y (List.mem_cons_of_mem _ hy)]
    rfl
theorem szAll_le {k : Nat} : ∀ {xs : List D}, (∀ x, x ∈ xs → sz x ≤ k) → szAll xs ≤ xs.length * (k + 2)
  | [], _ => Nat.zero_le _
  | x :: xs, h => by
    show sz x + 2 + szAll xs ≤ (xs.length + 1) * (k + 2)
    have := h x List.mem_cons_self
    have := szAll_le fun y hy => h y (List.mem_cons_of_mem _ hy)
    rw [Nat.succ_mul]
    omega
/-- what can be shown: so deep, so long -/
structure Shw (d : D) (k n : Nat) : Prop where
  fine : fine d = true
  dep : d.depth ≤ k
  len : sz d ≤ n
theorem Shw.repr {d : D} {k n : Nat} (h : Shw d k n) (hk : k ≤ 40) (hn : n ≤ 16777216) : biD .repr [d] = pure (.str d.shown) := repr_eq h.fine (Nat.le_trans h.dep hk) (Nat.le_trans h.len hn)
theorem Shw.list {xs : List D} {k n m : Nat} (h : ∀ x, x ∈ xs → Shw x k n) (hl : xs.length ≤ m) : Shw (.list xs) (k + 1) (m * (n + 2) + 4) := ⟨fineAll_of fun x hx => (h x hx).fine, Nat.succ_le_succ (depthAll_le fun x hx => (h x hx).dep), Nat.add_le_add_right (Nat.le_trans (szAll_le fun x hx => (h x hx).len) (Nat.mul_le_mul_right _ hl)) 4⟩
theorem Shw.tuple {xs : List D} {k n m : Nat} (h : ∀ x, x ∈ xs → Shw x k n) (hl : xs.length ≤ m) : Shw (.tuple xs) (k + 1) (m * (n + 2) + 4) := ⟨fineAll_of fun x hx => (h x hx).fine, Nat.succ_le_succ (depthAll_le fun x hx => (h x hx).dep), Nat.add_le_add_right (Nat.le_trans (szAll_le fun x hx => (h x hx).len) (Nat.mul_le_mul_right _ hl)) 4⟩
theorem Shw.nat {n : Nat} (h : n ≤ 1000) : Shw (.int n) 0 12 := by
  have h1 : n.log2 < 10 := by
    by_cases z : n = 0
    · subst z
      decide
    · exact (Nat.log2_lt z).mpr (by omega)
  refine ⟨decide_eq_true ?_, Nat.le_refl _, ?_⟩
  · show (n : Int).natAbs.log2 < 1000
    rw [Int.natAbs_natCast]
    omega
  · show (n : Int).natAbs.log2 + 2 ≤ 12
    rw [Int.natAbs_natCast]
    omega
theorem Shw.bool (b : Bool) : Shw (.bool b) 0 12 := ⟨rfl, Nat.le_refl _, show 5 ≤ 12 by decide⟩
theorem Shw.mono {d : D} {k n k' n' : Nat} (h : Shw d k n) (hk : k ≤ k') (hn : n ≤ n') : Shw d k' n' := ⟨h.fine, Nat.le_trans h.dep hk, Nat.le_trans h.len hn⟩
theorem ne_str (s : Str) : cmpD .NotEq (.str s) (.str s) = pure false := by
  show (eqD (.str s) (.str s) >>= fun r => (pure (!r) : M Bool)) = _
  rw [eq_str, M.pb]
  simp
theorem is_str (s : Str) : cmpD .Eq (.str s) (.str s) = pure true := by
  show eqD (.str s) (.str s) = _
  rw [eq_str]
  simp
/-! ### what is drawn -/
theorem draw_run {n b : Nat} {Q : D → Nat → Prop} {R : XV → Nat → Prop} (h0 : 0 < n) (h1 : n < 1073741824) (hb : 0 < b) (h : ∀ k, k < n → Q (.int (k : Nat)) (b - 1)) : (drawF [deckD, .int n]).run Q R b := by
  refine ⟨⟨rfl, by omega, by omega⟩, hb, fun k hk => ?_⟩
  rw [Int.toNat_natCast] at hk
  exact h k hk
theorem ix_list {xs : List D} {k : Nat} {x : D} (h : xs[k]? = some x) : ixD (.list xs) (.int (k : Nat)) = pure x := by
  show oget (L2.atI xs k) = _
  rw [L2.atI_nat h]
  rfl
theorem ix_tuple {xs : List D} {k : Nat} {x : D} (h : xs[k]? = some x) : ixD (.tuple xs) (.int (k : Nat)) = pure x := by
  show oget (L2.atI xs k) = _
  rw [L2.atI_nat h]
  rfl

theorem run_asgO {i : Nat} {e : E} {ss : Ss} {ρ : Ev} {xs : List D} {Q : Rz → Nat → Prop} {R : XV → Nat → Prop} {b : Nat} (h : (dE e ρ).ge (.list xs)) (hq : (dSs ss (setO ρ i xs)).run Q R b) : (dSs (.cons (.asgO i e) ss) ρ).run Q R b := h _ R b hq
/-- a for: I i holds ahead of the i-th turn -/
theorem run_for {tg : Tg} {it : E} {body ss : Ss} {ρ : Ev} {xs : List D} {I : Nat → Ev → Nat → Prop} {Q : Rz → Nat → Prop} {R : XV → Nat → Prop} {b : Nat} (h : (dE it ρ >>= walked).ge xs) (h0 : I 0 ρ b)
    (hs : ∀ i x, xs[i]? = some x → ∀ ρ b, I i ρ b → (bindT ρ tg x >>= fun ρ1 => dSs body ρ1).run (fun r b' => match r with | .nx ρ' => I (i + 1) ρ' b' | .rt d => Q (.rt d) b' | .bk ρ' => (dSs ss ρ').run Q R b') R b)
    (hq : ∀ ρ b, I xs.length ρ b → (dSs ss ρ).run Q R b) : (dSs (.cons (.for tg it body) ss) ρ).run Q R b :=
  h _ R b (forE_run (f := fun d ρ => bindT ρ tg d >>= fun ρ1 => dSs body ρ1) (Q := fun r b => (Rz.sq (fun ρ => dSs ss ρ) r).run Q R b) h0 hs hq)
/-- a for over the first numbers -/
theorem run_forN {v n : Nat} {it : E} {body ss : Ss} {ρ : Ev} {I : Nat → Ev → Nat → Prop} {Q : Rz → Nat → Prop} {R : XV → Nat → Prop} {b : Nat} (h : (dE it ρ >>= walked).ge ((List.range n).map iD)) (h0 : I 0 ρ b)
    (hs : ∀ i, i < n → ∀ ρ b, I i ρ b → (dSs body (ρ.set v (some (iD i, false)))).run (fun r b' => match r with | .nx ρ' => I (i + 1) ρ' b' | .rt d => Q (.rt d) b' | .bk ρ' => (dSs ss ρ').run Q R b') R b)
    (hq : ∀ ρ b, I n ρ b → (dSs ss ρ).run Q R b) : (dSs (.cons (.for (.n v) it body) ss) ρ).run Q R b := by
  refine run_for (I := I) h h0 (fun i x hx ρ b hI => ?_) fun ρ b hI => ?_
  · rw [List.getElem?_map] at hx
    obtain ⟨k, hk, rfl⟩ := Option.map_eq_some_iff.mp hx
    obtain ⟨hk1, hk⟩ := List.getElem?_eq_some_iff.mp hk
    rw [List.getElem_range] at hk
    subst hk
    rw [List.length_range] at hk1
    exact hs i hk1 ρ b hI
  · rw [List.length_map, List.length_range] at hI
    exact hq ρ b hI
theorem range_ge {e : E} {ρ : Ev} {n : Nat} (h : (dE e ρ).ge (.int n)) (hn : n ≤ 16777216) : (dE (.bi .range1 (.cons e .nil)) ρ >>= walked).ge ((List.range n).map iD) := by
  have e1 : (dE (.bi .range1 (.cons e .nil)) ρ >>= walked) = (dE e ρ >>= fun x => (do
    let j ← asInt x
    M.grd (j ≤ 2 ^ 24 ∧ -(2 ^ 62) ≤ j)
    pure (.list (rangeD 0 j))) >>= walked) := rfl
  rw [e1]
  refine M.ge_bind h (M.ge_of ?_)
  show (M.grd ((n : Int) ≤ 2 ^ 24 ∧ -(2 ^ 62) ≤ (n : Int)) >>= fun _ => pure (.list (rangeD 0 n))) >>= walked = _
  rw [M.grd_bind ⟨by omega, by omega⟩, rangeD_nat]
  rfl
end Ad
namespace Ad
open PySem

/-! ### what an expression comes to, further -/
theorem ge_k {ρ : Ev} {d : D} : (dE (.k d) ρ).ge d := M.ge_pure
theorem ge_g {ρ : Ev} {nm : Str} {d : D} : (dE (.g nm d) ρ).ge d := M.ge_pure
theorem ge_w {ρ : Ev} {i : Nat} {d : D} {o : Bool} (h : ρ[i]? = some (some (d, o))) : (dE (.w i) ρ).ge d := M.ge_of (lookB_some h)
theorem ge_not {ρ : Ev} {a : E} {x y : Bool} (h : (dE a ρ).ge (.bool x)) (e : (!x) = y) : (dE (.not a) ρ).ge (.bool y) := by
  subst e
  exact M.ge_bind h M.ge_pure
theorem ge_neg {ρ : Ev} {a : E} {i : Int} (h : (dE a ρ).ge (.int i)) : (dE (.neg a) ρ).ge (.int (-i)) := M.ge_bind h M.ge_pure
theorem ge_and {ρ : Ev} {a b : E} {x y : Bool} (h : (dE a ρ).ge (.bool x)) (g : x = true → (dE b ρ).ge (.bool y)) : (dE (.and a b) ρ).ge (.bool (x && y)) := M.ge_bind h (by
  cases x with
  | true =>
    show (dE b ρ >>= fun y => asBool y >>= fun d => (pure (.bool d) : M D)).ge _
    exact M.ge_bind (g rfl) M.ge_pure
  | false => exact M.ge_pure)
theorem ge_or {ρ : Ev} {a b : E} {x y : Bool} (h : (dE a ρ).ge (.bool x)) (g : x = false → (dE b ρ).ge (.bool y)) : (dE (.or a b) ρ).ge (.bool (x || y)) := M.ge_bind h (by
  cases x with
  | true => exact M.ge_pure
  | false =>
    show (dE b ρ >>= fun y => asBool y >>= fun d => (pure (.bool d) : M D)).ge _
    exact M.ge_bind (g rfl) M.ge_pure)
theorem ge_cmp2 {ρ : Ev} {p q : CmpOp} {a b c : E} {x y z : D} {r t : Bool} (h : (dE a ρ).ge x) (g : (dE b ρ).ge y) (k : cmpD p x y = pure r) (h2 : r = true → (dE c ρ).ge z ∧ cmpD q y z = pure t) : (dE (.cmp2 p q a b c) ρ).ge (.bool (r && t)) := M.ge_bind h (M.ge_bind g (M.ge_bind (M.ge_of k) (by
  cases r with
  | true =>
    obtain ⟨l, m⟩ := h2 rfl
    exact M.ge_bind l (M.ge_bind (M.ge_of m) M.ge_pure)
  | false => exact M.ge_pure)))
theorem ge_ife {ρ : Ev} {c a b : E} {t : Bool} {d : D} (h : (dE c ρ).ge (.bool t)) (g : (dE (if t then a else b) ρ).ge d) : (dE (.ife c a b) ρ).ge d := M.ge_bind h (by
  cases t with
  | true => exact g
  | false => exact g)
theorem ge_ix {ρ : Ev} {a i : E} {x y z : D} (h : (dE a ρ).ge x) (g : (dE i ρ).ge y) (k : ixD x y = pure z) : (dE (.ix a i) ρ).ge z := M.ge_bind h (M.ge_bind g (M.ge_of k))
theorem ge_slF {ρ : Ev} {a i : E} {x z : D} {j : Int} (h : (dE a ρ).ge x) (g : (dE i ρ).ge (.int j)) (k : slP x none (some j) = pure z) : (dE (.sl false a i) ρ).ge z := M.ge_bind h (M.ge_bind g (M.ge_of k))
theorem ge_slT {ρ : Ev} {a i : E} {x z : D} {j : Int} (h : (dE a ρ).ge x) (g : (dE i ρ).ge (.int j)) (k : slP x (some j) none = pure z) : (dE (.sl true a i) ρ).ge z := M.ge_bind h (M.ge_bind g (M.ge_of k))
theorem ge_rev {ρ : Ev} {a : E} {x z : D} (h : (dE a ρ).ge x) (k : revD x = pure z) : (dE (.rev a) ρ).ge z := M.ge_bind h (M.ge_of k)
theorem ge_len {ρ : Ev} {e : E} {d : D} {n : Nat} (h : (dE e ρ).ge d) (k : lenD d = pure (n : Int)) : (dE (.bi .len (.cons e .nil)) ρ).ge (.int n) := ge_bi (ge_cons h ge_nil) (by
  show (lenD d >>= fun n => (pure (.int n) : M D)) = _
  rw [k]
  rfl)
theorem ge_isTuple {ρ : Ev} {e : E} {d : D} {t : Bool} (h : (dE e ρ).ge d) (k : okD d = true) (q : d.isTuple = t) : (dE (.bi .isTuple (.cons e .nil)) ρ).ge (.bool t) := by
  subst q
  exact ge_bi (ge_cons h ge_nil) (M.grd_bind k _)
theorem ge_isInt {ρ : Ev} {e : E} {d : D} {t : Bool} (h : (dE e ρ).ge d) (k : okD d = true) (q : d.isInt = t) : (dE (.bi .isInt (.cons e .nil)) ρ).ge (.bool t) := by
  subst q
  exact ge_bi (ge_cons h ge_nil) (M.grd_bind k _)
theorem ge_isBool {ρ : Ev} {e : E} {d : D} {t : Bool} (h : (dE e ρ).ge d) (k : okD d = true) (q : d.isBool = t) : (dE (.bi .isBool (.cons e .nil)) ρ).ge (.bool t) := by
  subst q
  exact ge_bi (ge_cons h ge_nil) (M.grd_bind k _)
theorem run_ifF {c : E} {x ss : Ss} {ρ : Ev} {Q : Rz → Nat → Prop} {R : XV → Nat → Prop} {b : Nat} (h : (dE c ρ).ge (.bool false)) (hq : (dSs ss ρ).run Q R b) : (dSs (.cons (.ite c x .nil) ss) ρ).run Q R b := run_ite h hq
theorem run_ifR {c e : E} {y ss : Ss} {ρ : Ev} {d : D} {Q : Rz → Nat → Prop} {R : XV → Nat → Prop} {b : Nat} (h : (dE c ρ).ge (.bool true)) (g : (dE e ρ).ge d) (hq : Q (.rt d) b) : (dSs (.cons (.ite c (.cons (.ret e) .nil) y) ss) ρ).run Q R b := run_ite h (run_ret g hq)
theorem cmp_int_le (i j : Int) : cmpD .LtE (.int i) (.int j) = pure (decide (i ≤ j)) := rfl
theorem cmp_int_lt (i j : Int) : cmpD .Lt (.int i) (.int j) = pure (decide (i < j)) := rfl
theorem cmp_int_eq (i j : Int) : cmpD .Eq (.int i) (.int j) = pure (decide (i = j)) := eq_int i j
theorem cmp_int_ne (i j : Int) : cmpD .NotEq (.int i) (.int j) = pure (!decide (i = j)) := by
  show (eqD (.int i) (.int j) >>= fun r => (pure (!r) : M Bool)) = _
  rw [eq_int]
  rfl
theorem int_sub (i j : Int) : binD .Sub (.int i) (.int j) = pure (.int (i - j)) := M.grd_bind trivial _
theorem int_add (i j : Int) : binD .Add (.int i) (.int j) = pure (.int (i + j)) := rfl
/-- lists of ints, as they stand in code -/
theorem M.ge_quiet {α : Type} {m : M α} {v : α} (h : m.ge v) : (M.quiet m).ge v := fun Q R b q => h Q _ b q
theorem lcE_ge {α : Type} {f : D → M (Option D)} {enc : α → D} {keep : α → Bool} {val : α → D} : ∀ {xs : List α}, (∀ x, x ∈ xs → (f (enc x)).ge (if keep x then some (val x) else none)) → (lcE f (xs.map enc)).ge ((xs.filter keep).map val)
  | [], _ => M.ge_pure
  | x :: xs, h => by
    rw [List.map_cons, List.filter_cons]
    unfold lcE
    refine M.ge_bind (h x List.mem_cons_self) (M.ge_bind (lcE_ge fun y hy => h y (List.mem_cons_of_mem _ hy)) ?_)
    cases keep x <;> exact M.ge_pure
/-- a comprehension -/
theorem lc_get {α : Type} {own : List Nat} {tg : Tg} {it tst elt : E} {ρ : Ev} (xs : List α) (enc : α → D) (keep : α → Bool) (val : α → D) (hit : (dE it ρ >>= walked).ge (xs.map enc)) (hn : noOwn ρ own = true) (hf : xs.length ≤ 16777216)
    (h : ∀ x, x ∈ xs → ∃ ρ1, bindT (wipeE ρ own) tg (enc x) = pure ρ1 ∧ (dE tst ρ1).ge (.bool (keep x)) ∧ (keep x = true → (dE elt ρ1).ge (val x))) :
    (dE (.lc own tg it tst elt) ρ).ge (.list ((xs.filter keep).map val)) := by
  have e : dE (.lc own tg it tst elt) ρ = (dE it ρ >>= walked) >>= fun xs => (do
    M.grd (noOwn ρ own = true ∧ fitsD xs)
    let ys ← M.quiet (lcE (fun d => do
      let ρ1 ← bindT (wipeE ρ own) tg d
      let t ← dE tst ρ1
      let b ← asBool t
      if b then (do let y ← dE elt ρ1; pure (some y)) else pure none) xs)
    pure (.list ys)) := rfl
  rw [e]
  refine M.ge_bind hit ?_
  rw [M.grd_bind ⟨hn, by unfold fitsD; rw [List.length_map, sizeLine_eq]; exact hf⟩]
  refine M.ge_bind (M.ge_quiet (lcE_ge (keep := keep) (val := val) fun x hx => ?_)) M.ge_pure
  obtain ⟨ρ1, h1, h2, h3⟩ := h x hx
  rw [h1, M.pb]
  refine M.ge_bind h2 ?_
  cases hk : keep x with
  | true =>
    show (dE elt ρ1 >>= fun y => (pure (some y) : M (Option D))).ge _
    exact M.ge_bind (h3 hk) M.ge_pure
  | false => exact M.ge_pure
/-- a comprehension that draws: P holds of all that it makes -/
theorem lcE_run {α β : Type} {f : α → M (Option β)} {P : β → Prop} {R : XV → Nat → Prop} {c : Nat} : ∀ {xs : List α} {b : Nat} {Q : List β → Nat → Prop}, (∀ x, x ∈ xs → ∀ b (Q : Option β → Nat → Prop), c ≤ b → (∀ o b', (∀ y, o = some y → P y) → b ≤ b' + c → Q o b') → (f x).run Q R b) → c * xs.length ≤ b →
    (∀ ys b', (∀ y, y ∈ ys → P y) → ys.length ≤ xs.length → b ≤ b' + c * xs.length → Q ys b') → (lcE f xs).run Q R b
  | [], b, Q, _, _, hq => hq [] b (fun y h => absurd h List.not_mem_nil) (Nat.le_refl _) (Nat.le_add_right _ _)
  | x :: xs, b, Q, h, hb, hq => by
    have e : c * (x :: xs).length = c * xs.length + c := Nat.mul_succ c xs.length
    rw [e] at hb hq
    refine h x List.mem_cons_self b _ (by omega) fun o b1 ho hb1 => ?_
    refine lcE_run (fun y hy => h y (List.mem_cons_of_mem _ hy)) (by omega) fun ys b2 hys hl hb2 => ?_
    refine hq (addO o ys) b2 (fun y hy => ?_) ?_ (by omega)
    · cases o with
      | none => exact hys y hy
      | some z =>
        rcases List.mem_cons.mp hy with rfl | hy
        · exact ho _ rfl
        · exact hys y hy
    · cases o with
      | none => exact Nat.le_succ_of_le hl
      | some z => exact Nat.succ_le_succ hl
theorem lc_run {own : List Nat} {tg : Tg} {it elt : E} {ρ : Ev} {xs : List D} {P : D → Prop} {c b : Nat} {Q : D → Nat → Prop} {R : XV → Nat → Prop} (hit : (dE it ρ >>= walked).ge xs) (hn : noOwn ρ own = true) (hf : xs.length ≤ 16777216)
    (h : ∀ x, x ∈ xs → ∃ ρ1, bindT (wipeE ρ own) tg x = pure ρ1 ∧ ∀ b (Q : D → Nat → Prop), c ≤ b → (∀ y b', P y → b ≤ b' + c → Q y b') → (dE elt ρ1).run Q (fun _ _ => False) b) (hb : c * xs.length ≤ b)
    (hq : ∀ ys b', (∀ y, y ∈ ys → P y) → ys.length ≤ xs.length → b ≤ b' + c * xs.length → Q (.list ys) b') :
    (dE (.lc own tg it (.k (.bool true)) elt) ρ).run Q R b := by
  have e : dE (.lc own tg it (.k (.bool true)) elt) ρ = (dE it ρ >>= walked) >>= fun xs => (do
    M.grd (noOwn ρ own = true ∧ fitsD xs)
    let ys ← M.quiet (lcE (fun d => do
      let ρ1 ← bindT (wipeE ρ own) tg d
      let t ← dE (.k (.bool true)) ρ1
      let b ← asBool t
      if b then (do let y ← dE elt ρ1; pure (some y)) else pure none) xs)
    pure (.list ys)) := rfl
  rw [e]
  refine hit _ R b ⟨⟨hn, by unfold fitsD; rw [sizeLine_eq]; exact hf⟩, ?_⟩
  refine lcE_run (P := P) (R := fun _ _ => False) (c := c) (fun x hx b Q h1 h2 => ?_) hb hq
  obtain ⟨ρ1, e1, e2⟩ := h x hx
  rw [e1]
  exact e2 b _ h1 fun y b' hy hb' => h2 (some y) b' (fun z hz => by cases hz; exact hy) hb'
/-- statements and expressions that draw -/
theorem run_asgr {i : Nat} {e : E} {ss : Ss} {ρ : Ev} {Q : Rz → Nat → Prop} {R : XV → Nat → Prop} {b : Nat} (h : (dE e ρ).run (fun d b => (dSs ss (ρ.set i (some (d, false)))).run Q R b) R b) : (dSs (.cons (.asg i e) ss) ρ).run Q R b := h
theorem run_asgOr {i : Nat} {e : E} {ss : Ss} {ρ : Ev} {Q : Rz → Nat → Prop} {R : XV → Nat → Prop} {b : Nat} (h : (dE e ρ).run (fun d b => ∃ xs, d = .list xs ∧ (dSs ss (setO ρ i xs)).run Q R b) R b) : (dSs (.cons (.asgO i e) ss) ρ).run Q R b := by
  have e1 : dS (.asgO i e) ρ = dE e ρ >>= fun d => asList d >>= fun xs => (pure (.nx (setO ρ i xs)) : M Rz) := rfl
  show (dS (.asgO i e) ρ).run (fun r b => (Rz.sq (fun ρ => dSs ss ρ) r).run Q R b) R b
  rw [e1]
  refine (dE e ρ).mono (fun d b' q => ?_) (fun _ _ z => z) h
  obtain ⟨xs, rfl, q⟩ := q
  exact q
theorem run_binr {op : Operator} {x y : E} {ρ : Ev} {d : D} {Q : D → Nat → Prop} {R : XV → Nat → Prop} {b : Nat} (g : (dE x ρ).ge d) (h : (dE y ρ).run (fun c b => (binD op d c).run Q R b) R b) : (dE (.bin op x y) ρ).run Q R b := g _ R b h
theorem run_callr {nm : Str} {f : List D → M D} {es : Es} {ρ : Ev} {ds : List D} {Q : D → Nat → Prop} {R : XV → Nat → Prop} {b : Nat} (g : (dEs es ρ).ge ds) (h : (f ds).run Q R b) : (dE (.call nm f es) ρ).run Q R b := g _ R b h
/-- two at once -/
theorem run_par2m {i j : Nat} {e1 e2 : E} {ss : Ss} {ρ : Ev} {Q : Rz → Nat → Prop} {R : XV → Nat → Prop} {b : Nat} (hq : (dE e1 ρ).run (fun d b => (dE e2 ρ).run (fun x b => (dSs ss ((ρ.set j (some (x, false))).set i (some (d, false)))).run Q R b) R b) R b) : (dSs (.cons (.par [(i, false), (j, false)] (.cons e1 (.cons e2 .nil))) ss) ρ).run Q R b := by
  have e : dPar [(i, false), (j, false)] (.cons e1 (.cons e2 .nil)) ρ = dE e1 ρ >>= fun d => dE e2 ρ >>= fun x => pure [d, x] := rfl
  show (dPar [(i, false), (j, false)] (.cons e1 (.cons e2 .nil)) ρ >>= fun ds => (pure (.nx (setAll ρ [(i, false), (j, false)] ds)) : M Rz)).run _ R b
  rw [e]
  exact hq
/-- a range from one on -/
theorem range1_ge {e : E} {ρ : Ev} {n : Nat} (h : (dE e ρ).ge (.int n)) (hn : n ≤ 16777216) : (dE (.bi .range2 (.cons (.k (.int 1)) (.cons e .nil))) ρ >>= walked).ge ((List.range (n - 1)).map fun k => iD (1 + k)) := by
  have e1 : (dE (.bi .range2 (.cons (.k (.int 1)) (.cons e .nil))) ρ >>= walked) = (dE e ρ >>= fun x => asInt x >>= fun j => M.grd (L2.RgOk 1 j) >>= fun _ => (pure (.list (rangeD 1 j)) : M D)) >>= walked := rfl
  rw [e1]
  refine M.ge_bind (v := .list (rangeD 1 n)) (M.ge_bind h (M.ge_of ((show _ = (M.grd (L2.RgOk 1 n) >>= fun _ => (pure (.list (rangeD 1 n)) : M D)) from rfl).trans (M.grd_bind (show L2.RgOk 1 n by unfold L2.RgOk; omega) _)))) (M.ge_of ?_)
  show (pure (rangeD 1 n) : M (List D)) = _
  unfold rangeD
  rw [show ((n : Int) - 1).toNat = n - 1 by omega]
  congr 1
end Ad
namespace Ad
open PySem

/-! ### draws that all laws share -/
def InW (n : Nat) (a : List (Nat × Nat)) : Prop := ∀ p, p ∈ a → p.1 < n ∧ p.2 < n
def oneB : Ss := .cons (.ret (.ix (.v 1) (.call "_law_draw" drawF (.cons (.v 0) (.cons (.bi .len (.cons (.v 1) .nil)) .nil))))) .nil
def oneF : List D → M D := dFn 2 2 oneB
/-- one of some things -/
theorem one_run {xs : List D} {b : Nat} {Q : D → Nat → Prop} {R : XV → Nat → Prop} (h0 : 0 < xs.length) (h1 : xs.length ≤ 1000) (hb : 0 < b) (h : ∀ x, x ∈ xs → Q x (b - 1)) : (oneF [deckD, .list xs]).run Q R b := by
  refine ⟨rfl, ?_⟩
  show (drawF [deckD, .int (xs.length : Nat)]).run (fun y b => (ixD (.list xs) y).run (fun d b => Q d b) R b) R b
  refine draw_run h0 (by omega) hb fun k hk => ?_
  rw [ix_list (List.getElem?_eq_getElem hk)]
  exact h _ (List.getElem_mem hk)
def webInnerB : Ss := .cons (.ite (.cmp .Eq (.call "_law_draw" drawF (.cons (.v 0) (.cons (.ife (.cmp .Eq (.v 3) (.v 7)) (.v 6) (.v 5)) .nil))) (.k (.int 0))) (.cons (.app 2 (.tup (.cons (.v 3) (.cons (.v 7) .nil)))) .nil) .nil) .nil
def webRestB : Ss := (.cons (.asgO 2 (.lst .nil)) (.cons (.for (.n 3) (.bi .range1 (.cons (.v 4) .nil)) (.cons (.for (.n 7) (.bi .range1 (.cons (.v 4) .nil)) webInnerB) .nil)) (.cons (.ret (.tup (.cons (.v 4) (.cons (.bi .tuple (.cons (.w 2) .nil)) .nil)))) .nil)))
def webEv (t n r s : Nat) (a : List (Nat × Nat)) (x y : Option (D × Bool)) : Ev := [some (deckD, false), some (.int t, false), some (.list (a.map pairD), true), x, some (.int n, false), some (.int r, false), some (.int s, false), y]
/-- one pair of sayings -/
theorem pair_run {t n r s i j b : Nat} {a : List (Nat × Nat)} {Q : Rz → Nat → Prop} {R : XV → Nat → Prop} (hr : 0 < r ∧ r < 1000) (hs : 0 < s ∧ s < 1000) (hb : 0 < b) (ha : a.length ≤ 1000)
    (hq : ∀ a', a' = a ∨ a' = a ++ [(i, j)] → Q (.nx (webEv t n r s a' (some (iD i, false)) (some (iD j, false)))) (b - 1)) : (dSs webInnerB (webEv t n r s a (some (iD i, false)) (some (iD j, false)))).run Q R b := by
  have fin : ∀ k : Nat, (dSs (.cons (.ite (.cmp .Eq (.k (.int k)) (.k (.int 0))) (.cons (.app 2 (.tup (.cons (.v 3) (.cons (.v 7) .nil)))) .nil) .nil) .nil) (webEv t n r s a (some (iD i, false)) (some (iD j, false)))).run Q R (b - 1) := fun k => by
    show (((eqD (.int k) (.int 0) >>= fun c => (pure (.bool c) : M D)) >>= fun x => asBool x >>= fun r => if r then dSs _ _ else dSs _ _) >>= _).run Q R (b - 1)
    rw [eq_int]
    by_cases h : k = 0
    · subst h
      show ((((M.grd ((a.map pairD).length < sizeLine) >>= fun _ => (pure (Rz.nx (setO (webEv t n r s a (some (iD i, false)) (some (iD j, false))) 2 (a.map pairD ++ [.tuple [iD i, iD j]]))) : M Rz))) >>= _) >>= _).run Q R (b - 1)
      rw [M.grd_bind (by rw [List.length_map, sizeLine_eq]; omega)]
      have e : setO (webEv t n r s a (some (iD i, false)) (some (iD j, false))) 2 (a.map pairD ++ [.tuple [iD i, iD j]]) = webEv t n r s (a ++ [(i, j)]) (some (iD i, false)) (some (iD j, false)) := by
        unfold webEv
        rw [List.map_append]
        rfl
      rw [e]
      exact hq _ (.inr rfl)
    · show ((if decide ((k : Int) = 0) = true then _ else dSs .nil _) >>= _).run Q R (b - 1)
      rw [if_neg (fun z => h (by have := of_decide_eq_true z; omega))]
      exact hq _ (.inl rfl)
  have step : ∀ q : Nat, 0 < q → q < 1000 → (drawF [deckD, .int (q : Nat)]).run (fun y b => ((((eqD y (.int 0) >>= fun c => (pure (.bool c) : M D)) >>= fun x => asBool x >>= fun r' => if r' then dSs (.cons (.app 2 (.tup (.cons (.v 3) (.cons (.v 7) .nil)))) .nil) (webEv t n r s a (some (iD i, false)) (some (iD j, false))) else dSs .nil (webEv t n r s a (some (iD i, false)) (some (iD j, false)))) >>= Rz.sq fun ρ => pure (.nx ρ))).run Q R b) R b := fun q h1 h2 => draw_run h1 (by omega) hb fun k _ => fin k
  show ((((((eqD (iD i) (iD j) >>= fun c => (pure (.bool c) : M D)) >>= fun x => asBool x >>= fun c => if c then (pure (.int s) : M D) else pure (.int r)) >>= fun z => (pure [deckD, z] : M (List D))) >>= fun ds => drawF ds) >>= fun y => (((eqD y (.int 0) >>= fun c => (pure (.bool c) : M D)) >>= fun x => asBool x >>= fun r' => if r' then dSs (.cons (.app 2 (.tup (.cons (.v 3) (.cons (.v 7) .nil)))) .nil) (webEv t n r s a (some (iD i, false)) (some (iD j, false))) else dSs .nil (webEv t n r s a (some (iD i, false)) (some (iD j, false)))) >>= Rz.sq fun ρ => pure (.nx ρ)))).run Q R b
  show (((((eqD (.int i) (.int j) >>= fun c => (pure (.bool c) : M D)) >>= fun x => asBool x >>= fun c => if c then (pure (.int s) : M D) else pure (.int r)) >>= fun z => (pure [deckD, z] : M (List D))) >>= fun ds => drawF ds) >>= _).run Q R b
  rw [eq_int, M.pb, M.pb]
  show (((if decide ((i : Int) = j) = true then (pure (.int s) : M D) else pure (.int r)) >>= fun z => drawF [deckD, z]) >>= _).run Q R b
  split
  · exact step s hs.1 hs.2
  · exact step r hr.1 hr.2
def webB : Ss := .cons (.par [(4, false), (5, false), (6, false)] (.cons (.call "_law_draw" drawF (.cons (.v 0) (.cons (.bin .Add (.v 1) (.k (.int 1))) .nil))) (.cons (.call "_law_one" oneF (.cons (.v 0) (.cons (.lst (.cons (.k (.int 2)) (.cons (.k (.int 3)) (.cons (.k (.int 5)) (.cons (.k (.int 9)) .nil))))) .nil))) (.cons (.call "_law_one" oneF (.cons (.v 0) (.cons (.lst (.cons (.k (.int 2)) (.cons (.k (.int 5)) (.cons (.k (.int 9)) .nil)))) .nil))) .nil)))) webRestB
def webF : List D → M D := dFn 2 8 webB
theorem web_run {t b : Nat} {Q : D → Nat → Prop} {R : XV → Nat → Prop} (ht : t ≤ 10) (hb : 200 ≤ b) (hq : ∀ n a b', n ≤ t → InW n a → a.length ≤ n * n → b ≤ b' + 200 → Q (webD n a) b') : (webF [deckD, .int t]).run Q R b := by
  refine ⟨rfl, ?_⟩
  show (dSs webB [some (deckD, false), some (.int t, false), none, none, none, none, none, none]).run (fun r b => (Rz.out r).run Q R b) R b
  refine run_cons' ?_
  show (drawF [deckD, .int ((t : Int) + 1)]).run (fun x b => (oneF [deckD, .list [.int 2, .int 3, .int 5, .int 9]]).run (fun y b => (oneF [deckD, .list [.int 2, .int 5, .int 9]]).run (fun z b => _) R b) R b) R b
  rw [show (t : Int) + 1 = ((t + 1 : Nat) : Int) by omega]
  refine draw_run (by omega) (by omega) (by omega) fun n hn => ?_
  refine one_run (by decide) (by decide) (by omega) fun x hx => ?_
  refine one_run (by decide) (by decide) (by omega) fun y hy => ?_
  obtain ⟨r, hr, rfl⟩ : ∃ r : Nat, (0 < r ∧ r < 1000) ∧ x = .int r := by
    simp at hx
    rcases hx with rfl | rfl | rfl | rfl
    · exact ⟨2, by decide, rfl⟩
    · exact ⟨3, by decide, rfl⟩
    · exact ⟨5, by decide, rfl⟩
    · exact ⟨9, by decide, rfl⟩
  obtain ⟨s, hs, rfl⟩ : ∃ r : Nat, (0 < r ∧ r < 1000) ∧ y = .int r := by
    simp at hy
    rcases hy with rfl | rfl | rfl
    · exact ⟨2, by decide, rfl⟩
    · exact ⟨5, by decide, rfl⟩
    · exact ⟨9, by decide, rfl⟩
  show (dSs webRestB [some (deckD, false), some (.int t, false), none, none, some (.int n, false), some (.int r, false), some (.int s, false), none]).run (fun r b => (Rz.out r).run Q R b) R (b - 1 - 1 - 1)
  refine run_cons (ρ' := webEv t n r s [] none none) rfl ?_
  have er : ∀ a x y, (dE (.bi .range1 (.cons (.v 4) .nil)) (webEv t n r s a x y) >>= fun s => walked s).ge ((List.range n).map iD) := fun a x y => range_ge (ge_v rfl) (by omega)
  refine run_forN (I := fun i ρ b' => ∃ a x y, ρ = webEv t n r s a x y ∧ (∀ p, p ∈ a → p.1 < n ∧ p.2 < n) ∧ a.length ≤ i * n ∧ b ≤ b' + 3 + i * n) (er _ _ _) ⟨[], none, none, rfl, (fun p h => absurd h List.not_mem_nil), Nat.zero_le _, by omega⟩ ?_ ?_
  · intro i hk1 ρ b1 ⟨a, x', y', e, hp, hl, hb1⟩
    subst e
    have hin : i * n ≤ 90 := Nat.le_trans (Nat.mul_le_mul (show i ≤ 9 by omega) (show n ≤ 10 by omega)) (by decide)
    show (dSs (.cons (.for (.n 7) (.bi .range1 (.cons (.v 4) .nil)) webInnerB) .nil) (webEv t n r s a (some (iD i, false)) y')).run _ R b1
    refine run_forN (I := fun j ρ b' => ∃ a' y, ρ = webEv t n r s a' (some (iD i, false)) y ∧ (∀ p, p ∈ a' → p.1 < n ∧ p.2 < n) ∧ a'.length ≤ i * n + j ∧ b1 ≤ b' + j) (er _ _ _) ⟨a, y', rfl, hp, by omega, by omega⟩ ?_ ?_
    · intro j hk2 ρ b2 ⟨a', y, e, hp', hl', hb2⟩
      subst e
      show (dSs webInnerB (webEv t n r s a' (some (iD i, false)) (some (iD j, false)))).run _ R b2
      refine pair_run hr hs (by omega) (by omega) fun a'' h => ?_
      refine ⟨a'', _, rfl, ?_, ?_, by omega⟩
      · rcases h with rfl | rfl
        · exact hp'
        · intro p hp
          rcases List.mem_append.mp hp with h | h
          · exact hp' p h
          · rw [List.mem_singleton.mp h]
            exact ⟨hk1, hk2⟩
      · rcases h with rfl | rfl
        · omega
        · rw [List.length_append]
          show a'.length + 1 ≤ _
          omega
    · intro ρ b2 ⟨a', y, e, hp', hl', hb2⟩
      subst e
      have e1 : (i + 1) * n = i * n + n := Nat.succ_mul i n
      exact ⟨a', _, y, rfl, hp', by omega, by omega⟩
  · intro ρ b' ⟨a, x, y, e, hp, hl, hb1⟩
    subst e
    have : n * n ≤ 100 := Nat.le_trans (Nat.mul_le_mul (show n ≤ 10 by omega) (show n ≤ 10 by omega)) (by decide)
    show Q (webD n a) b'
    exact hq n a b' (by omega) hp hl (by omega)
theorem erase_map {α β : Type} (f : α → β) : ∀ (l : List α) (k : Nat), (l.map f).eraseIdx k = (l.eraseIdx k).map f
  | [], _ => rfl
  | _ :: _, 0 => rfl
  | x :: l, k + 1 => congrArg (f x :: ·) (erase_map f l k)
theorem erase_perm {α : Type} : ∀ (l : List α) (k : Nat) (h : k < l.length), (l[k] :: l.eraseIdx k).Perm l
  | [], _, h => absurd h (Nat.not_lt_zero _)
  | _ :: _, 0, _ => List.Perm.refl _
  | x :: l, k + 1, h => (List.Perm.swap x _ _).trans ((erase_perm l k (Nat.lt_of_succ_lt_succ h)).cons x)
end Ad
namespace Ad
open PySem

/-! ### lists in order, each once -/
theorem pw_ext {α : Type} {r : α → α → Prop} (asym : ∀ a b, r a b → ¬ r b a) : ∀ {l m : List α}, l.Pairwise r → m.Pairwise r → (∀ x, x ∈ l ↔ x ∈ m) → l = m
  | [], [], _, _, _ => rfl
  | [], y :: m, _, _, h => absurd ((h y).mpr List.mem_cons_self) List.not_mem_nil
  | x :: l, [], _, _, h => absurd ((h x).mp List.mem_cons_self) List.not_mem_nil
  | x :: l, y :: m, hl, hm, h => by
    obtain ⟨l1, l2⟩ := List.pairwise_cons.mp hl
    obtain ⟨m1, m2⟩ := List.pairwise_cons.mp hm
    have e : x = y := by
      rcases List.mem_cons.mp ((h x).mp List.mem_cons_self) with e | hx
      · exact e
      · rcases List.mem_cons.mp ((h y).mpr List.mem_cons_self) with e | hy
        · exact e.symm
        · exact absurd (l1 y hy) (asym _ _ (m1 x hx))
    subst e
    have irr : ¬ r x x := fun z => asym x x z z
    refine congrArg (x :: ·) (pw_ext asym l2 m2 fun z => ⟨fun hz => ?_, fun hz => ?_⟩)
    · rcases List.mem_cons.mp ((h z).mp (List.mem_cons_of_mem _ hz)) with e | g
      · exact absurd (l1 z hz) (e ▸ irr)
      · exact g
    · rcases List.mem_cons.mp ((h z).mpr (List.mem_cons_of_mem _ hz)) with e | g
      · exact absurd (m1 z hz) (e ▸ irr)
      · exact g
/-! pairs, by the first and then by the second -/
def ltP (p q : Nat × Nat) : Prop := p.1 < q.1 ∨ (p.1 = q.1 ∧ p.2 < q.2)
def leP (p q : Nat × Nat) : Bool := decide (p.1 < q.1 ∨ (p.1 = q.1 ∧ p.2 ≤ q.2))
def Srt (a : List (Nat × Nat)) : Prop := a.Pairwise ltP
theorem ltP_asym (p q : Nat × Nat) (h : ltP p q) : ¬ ltP q p := by
  unfold ltP at *
  omega
theorem Srt.ext {a b : List (Nat × Nat)} (ha : Srt a) (hb : Srt b) (h : ∀ p, p ∈ a ↔ p ∈ b) : a = b := pw_ext ltP_asym ha hb h
theorem Srt.nodup {a : List (Nat × Nat)} (h : Srt a) : a.Nodup := h.imp fun {p q} z e => by
  subst e
  exact ltP_asym p p z z
theorem Srt.filter {a : List (Nat × Nat)} (h : Srt a) (f : Nat × Nat → Bool) : Srt (a.filter f) := List.Pairwise.filter f h
def Inc (l : List Nat) : Prop := l.Pairwise (· < ·)
theorem Inc.ext {a b : List Nat} (ha : Inc a) (hb : Inc b) (h : ∀ p, p ∈ a ↔ p ∈ b) : a = b := pw_ext (fun _ _ z => Nat.lt_asymm z) ha hb h
theorem inc_range (n : Nat) : Inc (List.range n) := List.pairwise_lt_range
theorem Inc.filter {a : List Nat} (h : Inc a) (f : Nat → Bool) : Inc (a.filter f) := List.Pairwise.filter f h
/-- these pairs in order, each once -/
def sortP (c : List (Nat × Nat)) : List (Nat × Nat) := (once c).mergeSort leP
theorem leP_trans (a b c : Nat × Nat) (h : leP a b = true) (k : leP b c = true) : leP a c = true := by
  unfold leP at *
  rw [decide_eq_true_eq] at *
  omega
theorem leP_total (a b : Nat × Nat) : (leP a b || leP b a) = true := by
  unfold leP
  rw [Bool.or_eq_true, decide_eq_true_eq, decide_eq_true_eq]
  omega
theorem srt_merge {l : List (Nat × Nat)} (h : l.Nodup) : Srt (l.mergeSort leP) := by
  have p := List.pairwise_mergeSort leP_trans leP_total l
  have n : (l.mergeSort leP).Nodup := (List.mergeSort_perm l leP).nodup_iff.mpr h
  refine (p.and n).imp fun {a b} ⟨h1, h2⟩ => ?_
  unfold leP at h1
  rw [decide_eq_true_eq] at h1
  unfold ltP
  have : a.1 = b.1 → a.2 ≠ b.2 := fun e1 e2 => h2 (Prod.ext e1 e2)
  omega
theorem mem_sortP (c : List (Nat × Nat)) (p : Nat × Nat) : p ∈ sortP c ↔ p ∈ c := by
  unfold sortP
  rw [(List.mergeSort_perm (once c) leP).mem_iff, mem_once]
theorem srt_sortP (c : List (Nat × Nat)) : Srt (sortP c) := srt_merge (nodup_once c)
theorem sortP_eq {a c : List (Nat × Nat)} (h : Srt a) (m : ∀ p, p ∈ a ↔ p ∈ c) : sortP c = a := (srt_sortP c).ext h fun p => (mem_sortP c p).trans (m p).symm
theorem dataLe_pair : W.dataLe false pairD = leP := by
  have e := W.dataLe_ii (fun p : Nat × Nat => (p.1 : Int)) (fun p : Nat × Nat => (p.2 : Int))
  refine Eq.trans (show W.dataLe false pairD = _ from e) ?_
  funext p q
  unfold leP
  exact decide_eq_decide.mpr (by omega)
theorem sort_pairs_map (l : List (Nat × Nat)) : sortD (l.map pairD) = (l.mergeSort leP).map pairD := by
  unfold sortD
  refine (List.map_mergeSort (r := leP) (s := W.dataLe false id) (f := pairD) fun a _ b _ => ?_).symm
  rw [← dataLe_pair]
  rfl
theorem pairD_tup (p : Nat × Nat) : pairD p = tupD [(p.1 : Int), (p.2 : Int)] := rfl
theorem eqv_pair (p q : Nat × Nat) : PyData.eqv (pairD p) (pairD q) = decide (p = q) := by
  rw [pairD_tup, pairD_tup, eqv_tup]
  refine decide_eq_decide.mpr ⟨fun h => ?_, fun h => by rw [h]⟩
  injection h with h1 h2
  injection h2 with h2 _
  exact Prod.ext (by omega) (by omega)
theorem pairs_ok (c : List (Nat × Nat)) : sortable (c.map pairD) := by
  refine ⟨W.AllAlike.of fun _ _ => by simp [W.alike, W.alikeAll, pairD], fun x hx => ?_, .inl fun x hx => ?_⟩
  · obtain ⟨p, _, rfl⟩ := List.mem_map.mp hx
    exact ⟨(by intro h; cases h), show 0 + 1 ≤ 40 by decide, rfl⟩
  · obtain ⟨p, _, rfl⟩ := List.mem_map.mp hx
    exact ⟨_, rfl⟩
theorem back_map {α : Type} {enc : α → D} : ∀ {ds : List D} {c : List α}, (∀ d, d ∈ ds → d ∈ c.map enc) → ∃ a : List α, ds = a.map enc
  | [], _, _ => ⟨[], rfl⟩
  | d :: ds, c, h => by
    obtain ⟨p, _, rfl⟩ := List.mem_map.mp (h d List.mem_cons_self)
    obtain ⟨a, e⟩ := back_map fun x hx => h x (List.mem_cons_of_mem _ hx)
    exact ⟨p :: a, by rw [e]; rfl⟩
theorem pairD_inj {p q : Nat × Nat} (h : pairD p = pairD q) : p = q := by
  unfold pairD at h
  injection h with h
  injection h with h1 h2
  injection h2 with h2 _
  injection h1 with h1
  injection h2 with h2
  exact Prod.ext (by omega) (by omega)
def unP : D → Nat × Nat
  | .tuple [.int i, .int j] => (i.toNat, j.toNat)
  | _ => (0, 0)
theorem unP_pair (p : Nat × Nat) : unP (pairD p) = p := by
  show ((p.1 : Int).toNat, (p.2 : Int).toNat) = p
  rw [Int.toNat_natCast, Int.toNat_natCast]
theorem unP_map (l : List (Nat × Nat)) : (l.map pairD).map unP = l := by
  rw [List.map_map]
  exact (List.map_congr_left fun p _ => unP_pair p).trans (List.map_id l)
theorem perm_back {c : List (Nat × Nat)} {zs : List D} (h : zs.Perm (c.map pairD)) : ∃ l : List (Nat × Nat), zs = l.map pairD ∧ l.Perm c := by
  obtain ⟨l, e⟩ := back_map fun d hd => h.mem_iff.mp hd
  subst e
  have k := h.map unP
  rw [unP_map, unP_map] at k
  exact ⟨l, rfl, k⟩
/-- sorted(set(pairs)) -/
theorem sortedSet_ge {d : D} {c : List (Nat × Nat)} (hd : d = .list (c.map pairD) ∨ d = .tuple (c.map pairD)) (few : (once c).length ≤ 305) : (biD .sortedSet [d]).ge (.list ((sortP c).map pairD)) := by
  have oe : onceD (c.map pairD) = (once c).map pairD := once_enc eqv_pair c
  have g : (biD .sortedSet [.list (c.map pairD)]).ge (.list ((sortP c).map pairD)) := fun Q R b q => by
    refine ⟨⟨pairs_ok c, .inr ⟨fun x hx => ?_, by rw [oe, List.length_map]; exact few⟩⟩, fun ys hys => ?_⟩
    · obtain ⟨p, _, rfl⟩ := List.mem_map.mp hx
      exact ⟨_, pairD_tup p⟩
    · rw [oe] at hys
      obtain ⟨l, rfl, pl⟩ := perm_back hys
      show Q (.list (sortD (l.map pairD))) b
      rw [sort_pairs_map, show l.mergeSort leP = sortP c from (srt_merge (pl.nodup_iff.mpr (nodup_once c))).ext (srt_sortP c) fun p => by
        rw [mem_sortP, (List.mergeSort_perm l leP).mem_iff, pl.mem_iff, mem_once]]
      exact q
  rcases hd with rfl | rfl
  · exact g
  · exact g
/-- how many pairs there may be -/
theorem few_pairs {n : Nat} (hn : n ≤ 17) {c : List (Nat × Nat)} (h : ∀ p, p ∈ c → p.1 < n ∧ p.2 < n) : (once c).length ≤ 305 := by
  have := nodup_le (once c) ((List.range n).flatMap fun i => (List.range n).map fun j => (i, j)) (nodup_once c) fun p hp => by
    have := h p ((mem_once c p).mp hp)
    exact List.mem_flatMap.mpr ⟨p.1, List.mem_range.mpr this.1, List.mem_map.mpr ⟨p.2, List.mem_range.mpr this.2, rfl⟩⟩
  have e : ((List.range n).flatMap fun i => (List.range n).map fun j => (i, j)).length = n * n := by
    rw [List.length_flatMap]
    simp only [List.length_map, List.length_range, List.map_const', List.sum_replicate_nat]
  rw [e] at this
  have : n * n ≤ 289 := Nat.le_trans (Nat.mul_le_mul hn hn) (by decide)
  omega
/-! pairs among pairs -/
theorem pairs_plain : ∀ a : List (Nat × Nat), PyData.plainAll (a.map pairD) = true ∧ PyData.depthAll (a.map pairD) ≤ 1
  | [] => ⟨rfl, Nat.zero_le _⟩
  | p :: a => by
    obtain ⟨h1, h2⟩ := pairs_plain a
    refine ⟨?_, ?_⟩
    · show (PyData.plain (pairD p) && PyData.plainAll (a.map pairD)) = true
      rw [h1]
      rfl
    · show max (PyData.depth (pairD p)) (PyData.depthAll (a.map pairD)) ≤ 1
      exact Nat.max_le.mpr ⟨Nat.le_refl 1, h2⟩
theorem eqOk_pair (p : Nat × Nat) : eqOk (pairD p) := ⟨rfl, show 1 ≤ 64 by decide⟩
theorem eqOk_pairsT (a : List (Nat × Nat)) : eqOk (.tuple (a.map pairD)) := ⟨(pairs_plain a).1, by
  have := (pairs_plain a).2
  show PyData.depthAll (a.map pairD) + 1 ≤ 64
  omega⟩
theorem any_pairs (p : Nat × Nat) : ∀ a : List (Nat × Nat), ((a.map pairD).any fun z => PyData.eqv z (pairD p)) = decide (p ∈ a)
  | [] => rfl
  | q :: a => by
    rw [List.map_cons, List.any_cons, any_pairs p a, eqv_pair]
    by_cases h : q = p
    · subst h
      simp
    · have h' : ¬ p = q := fun e => h e.symm
      simp [h, h']
theorem in_pairs (p : Nat × Nat) (a : List (Nat × Nat)) : cmpD .In (pairD p) (.tuple (a.map pairD)) = pure (decide (p ∈ a)) := by
  show (M.grd _ >>= fun _ => (pure ((a.map pairD).any fun z => PyData.eqv z (pairD p)) : M Bool)) = _
  rw [M.grd_bind ⟨eqOk_pair p, eqOk_pairsT a⟩, any_pairs]
/-! what is shown of webs -/
theorem nat_shw {n : Nat} (h : n ≤ 1000000) : Shw (.int n) 0 22 := by
  have h1 : n.log2 < 20 := by
    by_cases z : n = 0
    · subst z
      decide
    · exact (Nat.log2_lt z).mpr (by omega)
  refine ⟨decide_eq_true ?_, Nat.le_refl _, ?_⟩
  · show (n : Int).natAbs.log2 < 1000
    rw [Int.natAbs_natCast]
    omega
  · show (n : Int).natAbs.log2 + 2 ≤ 22
    rw [Int.natAbs_natCast]
    omega
theorem pairs_shw {p : Nat × Nat} (h : p.1 ≤ 1000 ∧ p.2 ≤ 1000) : Shw (pairD p) 1 60 := (Shw.tuple (xs := [.int p.1, .int p.2]) (k := 0) (n := 22) (m := 2) (fun x hx => by
  rcases List.mem_cons.mp hx with rfl | hx
  · exact nat_shw (by omega)
  · rw [List.mem_singleton.mp hx]
    exact nat_shw (by omega)) (Nat.le_refl 2)).mono (Nat.le_refl _) (by decide)
theorem web_shw {n : Nat} {a : List (Nat × Nat)} (hn : n ≤ 17) (hl : a.length ≤ 400) (h : InW n a) : Shw (webD n a) 3 50000 := (Shw.tuple (xs := [.int n, .tuple (a.map pairD)]) (k := 2) (n := 24900) (m := 2) (fun x hx => by
  rcases List.mem_cons.mp hx with rfl | hx
  · exact (nat_shw (by omega)).mono (by decide) (by decide)
  · rw [List.mem_singleton.mp hx]
    exact (Shw.tuple (xs := a.map pairD) (k := 1) (n := 60) (m := 400) (fun x hx => by
      obtain ⟨p, hp, rfl⟩ := List.mem_map.mp hx
      have := h p hp
      exact pairs_shw (by omega)) (by rw [List.length_map]; exact hl)).mono (by decide) (by decide)) (Nat.le_refl 2)).mono (Nat.le_refl _) (by decide)
theorem ints_shw {l : List Nat} {m : Nat} (h : ∀ x, x ∈ l → x ≤ 1000) (hl : l.length ≤ m) : Shw (.tuple (l.map iD)) 1 (m * 24 + 4) := Shw.tuple (k := 0) (n := 22) (fun x hx => by
  obtain ⟨k, hk, rfl⟩ := List.mem_map.mp hx
  exact nat_shw (Nat.le_trans (h k hk) (by decide))) (by rw [List.length_map]; exact hl)
/-- so many pairs in order -/
theorem srt_len {n : Nat} {a : List (Nat × Nat)} (hn : n ≤ 17) (h : Srt a) (hw : InW n a) : a.length ≤ 305 := by
  have := few_pairs hn (c := a) fun p hp => hw p hp
  have e : once a = a ∨ True := .inr trivial
  have l : a.length ≤ (once a).length := nodup_le a (once a) h.nodup fun x hx => (mem_once a x).mpr hx
  omega
end Ad
namespace Ad
open PySem

theorem web_runS {t b : Nat} {Q : D → Nat → Prop} {R : XV → Nat → Prop} (ht : t ≤ 10) (hb : 200 ≤ b) (hq : ∀ n a b', n ≤ t → InW n a → Srt a → b ≤ b' + 200 → Q (webD n a) b') : (webF [deckD, .int t]).run Q R b := by
  refine ⟨rfl, ?_⟩
  show (dSs webB [some (deckD, false), some (.int t, false), none, none, none, none, none, none]).run (fun r b => (Rz.out r).run Q R b) R b
  refine run_cons' ?_
  show (drawF [deckD, .int ((t : Int) + 1)]).run (fun x b => (oneF [deckD, .list [.int 2, .int 3, .int 5, .int 9]]).run (fun y b => (oneF [deckD, .list [.int 2, .int 5, .int 9]]).run (fun z b => _) R b) R b) R b
  rw [show (t : Int) + 1 = ((t + 1 : Nat) : Int) by omega]
  refine draw_run (by omega) (by omega) (by omega) fun n hn => ?_
  refine one_run (by decide) (by decide) (by omega) fun x hx => ?_
  refine one_run (by decide) (by decide) (by omega) fun y hy => ?_
  obtain ⟨r, hr, rfl⟩ : ∃ r : Nat, (0 < r ∧ r < 1000) ∧ x = .int r := by
    simp at hx
    rcases hx with rfl | rfl | rfl | rfl
    · exact ⟨2, by decide, rfl⟩
    · exact ⟨3, by decide, rfl⟩
    · exact ⟨5, by decide, rfl⟩
    · exact ⟨9, by decide, rfl⟩
  obtain ⟨s, hs, rfl⟩ : ∃ r : Nat, (0 < r ∧ r < 1000) ∧ y = .int r := by
    simp at hy
    rcases hy with rfl | rfl | rfl
    · exact ⟨2, by decide, rfl⟩
    · exact ⟨5, by decide, rfl⟩
    · exact ⟨9, by decide, rfl⟩
  show (dSs webRestB [some (deckD, false), some (.int t, false), none, none, some (.int n, false), some (.int r, false), some (.int s, false), none]).run (fun r b => (Rz.out r).run Q R b) R (b - 1 - 1 - 1)
  refine run_cons (ρ' := webEv t n r s [] none none) rfl ?_
  have er : ∀ a x y, (dE (.bi .range1 (.cons (.v 4) .nil)) (webEv t n r s a x y) >>= fun s => walked s).ge ((List.range n).map iD) := fun a x y => range_ge (ge_v rfl) (by omega)
  refine run_forN (I := fun i ρ b' => ∃ a x y, ρ = webEv t n r s a x y ∧ (∀ p, p ∈ a → p.1 < i ∧ p.1 < n ∧ p.2 < n) ∧ (Srt a ∧ a.length ≤ i * n) ∧ b ≤ b' + 3 + i * n) (er _ _ _) ⟨[], none, none, rfl, (fun p h => absurd h List.not_mem_nil), ⟨List.Pairwise.nil, Nat.zero_le _⟩, by omega⟩ ?_ ?_
  · intro i hk1 ρ b1 ⟨a, x', y', e, hp, ⟨hs0, hl⟩, hb1⟩
    subst e
    have hin : i * n ≤ 90 := Nat.le_trans (Nat.mul_le_mul (show i ≤ 9 by omega) (show n ≤ 10 by omega)) (by decide)
    show (dSs (.cons (.for (.n 7) (.bi .range1 (.cons (.v 4) .nil)) webInnerB) .nil) (webEv t n r s a (some (iD i, false)) y')).run _ R b1
    refine run_forN (I := fun j ρ b' => ∃ a' y, ρ = webEv t n r s a' (some (iD i, false)) y ∧ (∀ p, p ∈ a' → ltP p (i, j) ∧ p.1 < n ∧ p.2 < n) ∧ (Srt a' ∧ a'.length ≤ i * n + j) ∧ b1 ≤ b' + j) (er _ _ _) ⟨a, y', rfl, fun p h => ⟨Or.inl (hp p h).1, (hp p h).2⟩, ⟨hs0, by omega⟩, by omega⟩ ?_ ?_
    · intro j hk2 ρ b2 ⟨a', y, e, hp', ⟨hs', hl'⟩, hb2⟩
      subst e
      show (dSs webInnerB (webEv t n r s a' (some (iD i, false)) (some (iD j, false)))).run _ R b2
      refine pair_run hr hs (by omega) (by omega) fun a'' h => ?_
      have next : ∀ p, ltP p (i, j) → ltP p (i, j + 1) := fun p h => by
        unfold ltP at *
        simp only at *
        omega
      refine ⟨a'', _, rfl, ?_, ⟨?_, ?_⟩, by omega⟩
      · rcases h with rfl | rfl
        · exact fun p h => ⟨next p (hp' p h).1, (hp' p h).2⟩
        · intro p hp
          rcases List.mem_append.mp hp with h | h
          · exact ⟨next p (hp' p h).1, (hp' p h).2⟩
          · rw [List.mem_singleton.mp h]
            exact ⟨Or.inr ⟨rfl, Nat.lt_succ_self j⟩, hk1, hk2⟩
      · rcases h with rfl | rfl
        · exact hs'
        · refine List.pairwise_append.mpr ⟨hs', List.pairwise_singleton _ _, fun p hp q hq => ?_⟩
          rw [List.mem_singleton.mp hq]
          exact (hp' p hp).1
      · rcases h with rfl | rfl
        · omega
        · rw [List.length_append]
          show a'.length + 1 ≤ _
          omega
    · intro ρ b2 ⟨a', y, e, hp', ⟨hs', hl'⟩, hb2⟩
      subst e
      have e1 : (i + 1) * n = i * n + n := Nat.succ_mul i n
      exact ⟨a', _, y, rfl, fun p h => ⟨by have := (hp' p h).1; unfold ltP at this; simp only at this; omega, (hp' p h).2⟩, ⟨hs', by omega⟩, by omega⟩
  · intro ρ b' ⟨a, x, y, e, hp, ⟨hs0, hl⟩, hb1⟩
    subst e
    have : n * n ≤ 100 := Nat.le_trans (Nat.mul_le_mul (show n ≤ 10 by omega) (show n ≤ 10 by omega)) (by decide)
    show Q (webD n a) b'
    exact hq n a b' (by omega) (fun p h => (hp p h).2) hs0 (by omega)
end Ad
set_option maxHeartbeats 0
namespace Ad
open PySem PySem.Calls PySem.W PySem.SeqAt PySem.Spec PyProof.Rows L2
def top (i : Nat) : Stmt := PySem.Challenge.pw_addedattacks_k03_parts_and_other_names.main.body.getD i (.Pass ⟨0, 0, 0, 0⟩)
abbrev f_law_draw : List D → M D := drawF
abbrev s_of_some : Stmt := top 1
def N_of_some : List Str := ["sayings", "some"]
def b_of_some : Ss := (.cons (.ret (.tup (.cons (.v 0) (.cons (.bi .tuple (.cons (.bi .sortedSet (.cons (.v 1) .nil)) .nil)) .nil)))) .nil)
def fof_some : List D → M D := dFn 2 2 b_of_some
theorem sc_of_some : FnScope N_of_some ["sayings", "some"] (defScope s_of_some) := ⟨rfl, rfl, rfl, by decide +kernel, rfl, by decide +kernel, by decide +kernel⟩
theorem m_of_some : mSs ⟨N_of_some, (defScope s_of_some).names, (defScope s_of_some).names.map (·.1)⟩ b_of_some (defBody s_of_some) = true := by decide +kernel
abbrev s_part : Stmt := top 2
def N_part : List Str := ["web", "lot", "kept", "attack", "one", "other"]
def b_part : Ss := (.cons (.asg 2 (.lc [3] (.n 3) (.ix (.v 0) (.k (.int 1))) (.and (.cmp .In (.ix (.v 3) (.k (.int 0))) (.v 1)) (.cmp .In (.ix (.v 3) (.k (.int 1))) (.v 1))) (.v 3))) (.cons (.ret (.tup (.cons (.bi .len (.cons (.v 1) .nil)) (.cons (.bi .tuple (.cons (.lc [4, 5] (.t [4, 5]) (.v 2) (.k (.bool true)) (.tup (.cons (.mt .tindex (.v 1) (.cons (.v 4) .nil)) (.cons (.mt .tindex (.v 1) (.cons (.v 5) .nil)) .nil)))) .nil)) .nil)))) .nil))
def fpart : List D → M D := dFn 2 6 b_part
theorem sc_part : FnScope N_part ["web", "lot"] (defScope s_part) := ⟨rfl, rfl, rfl, by decide +kernel, rfl, by decide +kernel, by decide +kernel⟩
theorem m_part : mSs ⟨N_part, (defScope s_part).names, (defScope s_part).names.map (·.1)⟩ b_part (defBody s_part) = true := by decide +kernel
abbrev s_renamed : Stmt := top 3
def N_renamed : List Str := ["web", "order", "one", "other"]
def b_renamed : Ss := (.cons (.ret (.call "of_some" fof_some (.cons (.ix (.v 0) (.k (.int 0))) (.cons (.lc [2, 3] (.t [2, 3]) (.ix (.v 0) (.k (.int 1))) (.k (.bool true)) (.tup (.cons (.ix (.v 1) (.v 2)) (.cons (.ix (.v 1) (.v 3)) .nil)))) .nil)))) .nil)
def frenamed : List D → M D := dFn 2 4 b_renamed
theorem sc_renamed : FnScope N_renamed ["web", "order"] (defScope s_renamed) := ⟨rfl, rfl, rfl, by decide +kernel, rfl, by decide +kernel, by decide +kernel⟩
theorem m_renamed : mSs ⟨N_renamed, (defScope s_renamed).names, (defScope s_renamed).names.map (·.1)⟩ b_renamed (defBody s_renamed) = true := by decide +kernel
abbrev s_law_deck : Stmt := top 5
abbrev s_law_draw : Stmt := top 6
def N_law_draw : List Str := ["_law_deck_here", "_law_below", "_law_cells", "_law_turn", "_law_rests", "_law_at", "_law_digit", "_law_mixed", "_law_again"]
theorem sc_law_draw : FnScope N_law_draw ["_law_deck_here", "_law_below"] (defScope s_law_draw) := ⟨rfl, rfl, rfl, by decide +kernel, rfl, by decide +kernel, by decide +kernel⟩
abbrev s_law_one : Stmt := top 7
def N_law_one : List Str := ["_law_deck_here", "_law_items"]
def b_law_one : Ss := (.cons (.ret (.ix (.v 1) (.call "_law_draw" f_law_draw (.cons (.v 0) (.cons (.bi .len (.cons (.v 1) .nil)) .nil))))) .nil)
def f_law_one : List D → M D := dFn 2 2 b_law_one
theorem sc_law_one : FnScope N_law_one ["_law_deck_here", "_law_items"] (defScope s_law_one) := ⟨rfl, rfl, rfl, by decide +kernel, rfl, by decide +kernel, by decide +kernel⟩
theorem m_law_one : mSs ⟨N_law_one, (defScope s_law_one).names, (defScope s_law_one).names.map (·.1)⟩ b_law_one (defBody s_law_one) = true := by decide +kernel
abbrev s_law_row : Stmt := top 8
def N_law_row : List Str := ["_law_deck_here", "_law_size", "_law_rate", "_law_own"]
def b_law_row : Ss := (.cons (.asg 2 (.call "_law_one" f_law_one (.cons (.v 0) (.cons (.lst (.cons (.k (.int 2)) (.cons (.k (.int 2)) (.cons (.k (.int 3)) (.cons (.k (.int 4)) .nil))))) .nil)))) (.cons (.ret (.bi .tuple (.cons (.lc [3] (.n 3) (.bi .range1 (.cons (.v 1) .nil)) (.cmp .Eq (.call "_law_draw" f_law_draw (.cons (.v 0) (.cons (.v 2) .nil))) (.k (.int 0))) (.v 3)) .nil))) .nil))
def f_law_row : List D → M D := dFn 2 4 b_law_row
theorem sc_law_row : FnScope N_law_row ["_law_deck_here", "_law_size"] (defScope s_law_row) := ⟨rfl, rfl, rfl, by decide +kernel, rfl, by decide +kernel, by decide +kernel⟩
theorem m_law_row : mSs ⟨N_law_row, (defScope s_law_row).names, (defScope s_law_row).names.map (·.1)⟩ b_law_row (defBody s_law_row) = true := by decide +kernel
abbrev s_law_web : Stmt := top 9
def N_law_web : List Str := ["_law_deck_here", "_law_most", "_law_found", "_law_one_here", "_law_size", "_law_rate", "_law_self_rate", "_law_other"]
def b_law_web : Ss := (.cons (.par [(4, false), (5, false), (6, false)] (.cons (.call "_law_draw" f_law_draw (.cons (.v 0) (.cons (.bin .Add (.v 1) (.k (.int 1))) .nil))) (.cons (.call "_law_one" f_law_one (.cons (.v 0) (.cons (.lst (.cons (.k (.int 2)) (.cons (.k (.int 3)) (.cons (.k (.int 5)) (.cons (.k (.int 9)) .nil))))) .nil))) (.cons (.call "_law_one" f_law_one (.cons (.v 0) (.cons (.lst (.cons (.k (.int 2)) (.cons (.k (.int 5)) (.cons (.k (.int 9)) .nil)))) .nil))) .nil)))) (.cons (.asgO 2 (.lst .nil)) (.cons (.for (.n 3) (.bi .range1 (.cons (.v 4) .nil)) (.cons (.for (.n 7) (.bi .range1 (.cons (.v 4) .nil)) (.cons (.ite (.cmp .Eq (.call "_law_draw" f_law_draw (.cons (.v 0) (.cons (.ife (.cmp .Eq (.v 3) (.v 7)) (.v 6) (.v 5)) .nil))) (.k (.int 0))) (.cons (.app 2 (.tup (.cons (.v 3) (.cons (.v 7) .nil)))) .nil) .nil) .nil)) .nil)) (.cons (.ret (.tup (.cons (.v 4) (.cons (.bi .tuple (.cons (.w 2) .nil)) .nil)))) .nil))))
def f_law_web : List D → M D := dFn 2 8 b_law_web
theorem sc_law_web : FnScope N_law_web ["_law_deck_here", "_law_most"] (defScope s_law_web) := ⟨rfl, rfl, rfl, by decide +kernel, rfl, by decide +kernel, by decide +kernel⟩
theorem m_law_web : mSs ⟨N_law_web, (defScope s_law_web).names, (defScope s_law_web).names.map (·.1)⟩ b_law_web (defBody s_law_web) = true := by decide +kernel
abbrev s_law_order : Stmt := top 10
def N_law_order : List Str := ["_law_deck_here", "_law_size", "_law_k", "_law_left", "_law_found"]
def b_law_order : Ss := (.cons (.par [(3, true), (4, true)] (.cons (.bi .listRange (.cons (.v 1) .nil)) (.cons (.lst .nil) .nil))) (.cons (.for (.n 2) (.bi .range1 (.cons (.v 1) .nil)) (.cons (.appPop 4 3 (.call "_law_draw" f_law_draw (.cons (.v 0) (.cons (.bi .len (.cons (.w 3) .nil)) .nil)))) .nil)) (.cons (.ret (.bi .tuple (.cons (.w 4) .nil))) .nil)))
def f_law_order : List D → M D := dFn 2 5 b_law_order
theorem sc_law_order : FnScope N_law_order ["_law_deck_here", "_law_size"] (defScope s_law_order) := ⟨rfl, rfl, rfl, by decide +kernel, rfl, by decide +kernel, by decide +kernel⟩
theorem m_law_order : mSs ⟨N_law_order, (defScope s_law_order).names, (defScope s_law_order).names.map (·.1)⟩ b_law_order (defBody s_law_order) = true := by decide +kernel
abbrev s_law : Stmt := top 11
def N_law : List Str := ["_law_script", "_law_deck_here", "_law_turn", "_law_web_here", "_law_again", "_law_order_here", "_law_due", "_law_lot", "_law_k", "_law_j", "_law_one_here", "_law_other"]
def b_law : Ss := (.cons (.for (.n 2) (.bi .range1 (.cons (.k (.int 8)) .nil)) (.cons (.asg 3 (.call "_law_web" f_law_web (.cons (.v 1) (.cons (.k (.int 8)) .nil)))) (.cons (.for (.n 4) (.bi .range1 (.cons (.k (.int 4)) .nil)) (.cons (.asg 7 (.call "_law_row" f_law_row (.cons (.v 1) (.cons (.ix (.v 3) (.k (.int 0))) .nil)))) (.cons (.asgO 6 (.lst .nil)) (.cons (.for (.n 8) (.bi .range1 (.cons (.bi .len (.cons (.v 7) .nil)) .nil)) (.cons (.ext 6 (.lc [9] (.n 9) (.bi .range1 (.cons (.bi .len (.cons (.v 7) .nil)) .nil)) (.cmp .In (.tup (.cons (.ix (.v 7) (.v 8)) (.cons (.ix (.v 7) (.v 9)) .nil))) (.ix (.v 3) (.k (.int 1)))) (.tup (.cons (.v 8) (.cons (.v 9) .nil))))) .nil)) (.cons (.ite (.cmp .NotEq (.bi .repr (.cons (.call "part" fpart (.cons (.v 3) (.cons (.v 7) .nil))) .nil)) (.bi .repr (.cons (.tup (.cons (.bi .len (.cons (.v 7) .nil)) (.cons (.bi .tuple (.cons (.w 6) .nil)) .nil))) .nil))) (.cons (.ret (.k (.bool false))) .nil) .nil) .nil))))) (.cons (.asg 5 (.call "_law_order" f_law_order (.cons (.v 1) (.cons (.ix (.v 3) (.k (.int 0))) .nil)))) (.cons (.asg 6 (.tup (.cons (.ix (.v 3) (.k (.int 0))) (.cons (.bi .tuple (.cons (.bi .sorted (.cons (.lc [10, 11] (.t [10, 11]) (.ix (.v 3) (.k (.int 1))) (.k (.bool true)) (.tup (.cons (.ix (.v 5) (.v 10)) (.cons (.ix (.v 5) (.v 11)) .nil)))) .nil)) .nil)) .nil)))) (.cons (.ite (.or (.cmp .NotEq (.bi .repr (.cons (.call "renamed" frenamed (.cons (.v 3) (.cons (.v 5) .nil))) .nil)) (.bi .repr (.cons (.w 6) .nil))) (.cmp .NotEq (.bi .repr (.cons (.call "part" fpart (.cons (.v 3) (.cons (.bi .tupRange1 (.cons (.ix (.v 3) (.k (.int 0))) .nil)) .nil))) .nil)) (.bi .repr (.cons (.v 3) .nil)))) (.cons (.ret (.k (.bool false))) .nil) .nil) .nil)))))) (.cons (.ret (.k (.bool true))) .nil))
def flaw : List D → M D := dFn 1 12 b_law
theorem sc_law : FnScope N_law ["_law_script"] (defScope s_law) := ⟨rfl, rfl, rfl, by decide +kernel, rfl, by decide +kernel, by decide +kernel⟩
def first_law : First := (.one 1)
theorem m0_law : mFirst ⟨N_law, (defScope s_law).names, (defScope s_law).names.map (·.1)⟩ first_law ((defBody s_law).headD (.Pass ⟨0, 0, 0, 0⟩)) = true := by decide +kernel
theorem m_law : mSs ⟨N_law, (defScope s_law).names, (defScope s_law).names.map (·.1)⟩ b_law ((defBody s_law).tail) = true := by decide +kernel
def consts : List (Str × D) := []
section
variable {Pr : Program} {w : World} {K : PySem.W.Frag} {mg : Str → Option Value} {base : Heap}
structure Tops (K : PySem.W.Frag) (mg : Str → Option Value) : Prop where
  d_of_some : Defd K mg "of_some" (defArgs s_of_some) (defBody s_of_some) (defScope s_of_some) ["sayings", "some"]
  d_part : Defd K mg "part" (defArgs s_part) (defBody s_part) (defScope s_part) ["web", "lot"]
  d_renamed : Defd K mg "renamed" (defArgs s_renamed) (defBody s_renamed) (defScope s_renamed) ["web", "order"]
  d_law_deck : Defd K mg "_law_deck" (defArgs s_law_deck) (defBody s_law_deck) (defScope s_law_deck) ["_law_script"]
  d_law_draw : Defd K mg "_law_draw" (defArgs s_law_draw) (defBody s_law_draw) (defScope s_law_draw) ["_law_deck_here", "_law_below"]
  d_law_one : Defd K mg "_law_one" (defArgs s_law_one) (defBody s_law_one) (defScope s_law_one) ["_law_deck_here", "_law_items"]
  d_law_row : Defd K mg "_law_row" (defArgs s_law_row) (defBody s_law_row) (defScope s_law_row) ["_law_deck_here", "_law_size"]
  d_law_web : Defd K mg "_law_web" (defArgs s_law_web) (defBody s_law_web) (defScope s_law_web) ["_law_deck_here", "_law_most"]
  d_law_order : Defd K mg "_law_order" (defArgs s_law_order) (defBody s_law_order) (defScope s_law_order) ["_law_deck_here", "_law_size"]
  consts : ∀ nm d, InG consts nm d → ∃ u v, mg nm = some u ∧ RelV v u ∧ Stat K v d
theorem ok_of_some {k : Nat} (o : Tops K mg) (T : Top K mg base)  : CallP Pr w K mg base (k + 1) "of_some" fof_some := by
  exact call_of (l := []) (cs := consts) o.d_of_some T sc_of_some rfl rfl m_of_some o.consts lib_nil ⟨⟨trivial, ⟨⟨⟨trivial, trivial⟩, trivial⟩, trivial⟩⟩, trivial⟩
theorem ok_part {k : Nat} (o : Tops K mg) (T : Top K mg base)  : CallP Pr w K mg base (k + 1) "part" fpart := by
  exact call_of (l := []) (cs := consts) o.d_part T sc_part rfl rfl m_part o.consts lib_nil ⟨⟨⟨trivial, trivial⟩, ⟨⟨⟨trivial, trivial⟩, trivial⟩, ⟨⟨trivial, trivial⟩, trivial⟩⟩, trivial⟩, ⟨⟨⟨trivial, trivial⟩, ⟨⟨⟨trivial, trivial, ⟨⟨trivial, ⟨trivial, trivial⟩⟩, ⟨⟨trivial, ⟨trivial, trivial⟩⟩, trivial⟩⟩⟩, trivial⟩, trivial⟩⟩, trivial⟩⟩
theorem ok_renamed {k : Nat} (o : Tops K mg) (T : Top K mg base) (c_of_some : CallP Pr w K mg base k "of_some" fof_some) : CallP Pr w K mg base (k + 1) "renamed" frenamed := by
  have pof_some : InL (("of_some", fof_some) :: []) "of_some" fof_some := .head _
  exact call_of (l := ("of_some", fof_some) :: []) (cs := consts) o.d_renamed T sc_renamed rfl rfl m_renamed o.consts (lib_cons c_of_some (Nat.le_refl _) lib_nil) ⟨⟨pof_some, ⟨⟨trivial, trivial⟩, ⟨⟨⟨trivial, trivial⟩, trivial, ⟨⟨trivial, trivial⟩, ⟨⟨trivial, trivial⟩, trivial⟩⟩⟩, trivial⟩⟩⟩, trivial⟩
theorem ok_law_deck {k : Nat} (o : Tops K mg) (T : Top K mg base) : CallD Pr w K mg base (k + 1) := call_deck (l := 10) (by kernel_rfl) (by kernel_rfl) o.d_law_deck T
theorem ok_law_draw {k : Nat} (o : Tops K mg) (T : Top K mg base) : CallP Pr w K mg base (k + 1) "_law_draw" drawF := call_draw (c1 := 2147483269) (c2 := 48611) (c3 := 1301) (c4 := 2147483249) (c5 := 15013) (c6 := 59) (c7 := 2147483237) (c8 := 2147483179) (c9 := 4611686018427387709) o.d_law_draw T sc_law_draw rfl rfl (by decide +kernel) (by unfold Small; omega)
theorem ok_law_one {k : Nat} (o : Tops K mg) (T : Top K mg base) (c_law_draw : CallP Pr w K mg base k "_law_draw" f_law_draw) : CallP Pr w K mg base (k + 1) "_law_one" f_law_one := by
  have p_law_draw : InL (("_law_draw", f_law_draw) :: []) "_law_draw" f_law_draw := .head _
  exact call_of (l := ("_law_draw", f_law_draw) :: []) (cs := consts) o.d_law_one T sc_law_one rfl rfl m_law_one o.consts (lib_cons c_law_draw (Nat.le_refl _) lib_nil) ⟨⟨trivial, ⟨p_law_draw, ⟨trivial, ⟨⟨trivial, trivial⟩, trivial⟩⟩⟩⟩, trivial⟩
theorem ok_law_row {k : Nat} (o : Tops K mg) (T : Top K mg base) (c_law_one : CallP Pr w K mg base k "_law_one" f_law_one) (c_law_draw : CallP Pr w K mg base k "_law_draw" f_law_draw) : CallP Pr w K mg base (k + 1) "_law_row" f_law_row := by
  have p_law_one : InL (("_law_one", f_law_one) :: ("_law_draw", f_law_draw) :: []) "_law_one" f_law_one := .head _
  have p_law_draw : InL (("_law_one", f_law_one) :: ("_law_draw", f_law_draw) :: []) "_law_draw" f_law_draw := .tail _ (.head _)
  exact call_of (l := ("_law_one", f_law_one) :: ("_law_draw", f_law_draw) :: []) (cs := consts) o.d_law_row T sc_law_row rfl rfl m_law_row o.consts (lib_cons c_law_one (Nat.le_refl _) (lib_cons c_law_draw (Nat.le_refl _) lib_nil)) ⟨⟨p_law_one, ⟨trivial, ⟨⟨trivial, ⟨trivial, ⟨trivial, ⟨trivial, trivial⟩⟩⟩⟩, trivial⟩⟩⟩, ⟨⟨⟨⟨trivial, trivial⟩, ⟨⟨p_law_draw, ⟨trivial, ⟨trivial, trivial⟩⟩⟩, trivial⟩, trivial⟩, trivial⟩, trivial⟩⟩
theorem ok_law_web {k : Nat} (o : Tops K mg) (T : Top K mg base) (c_law_draw : CallP Pr w K mg base k "_law_draw" f_law_draw) (c_law_one : CallP Pr w K mg base k "_law_one" f_law_one) : CallP Pr w K mg base (k + 1) "_law_web" f_law_web := by
  have p_law_draw : InL (("_law_draw", f_law_draw) :: ("_law_one", f_law_one) :: []) "_law_draw" f_law_draw := .head _
  have p_law_one : InL (("_law_draw", f_law_draw) :: ("_law_one", f_law_one) :: []) "_law_one" f_law_one := .tail _ (.head _)
  exact call_of (l := ("_law_draw", f_law_draw) :: ("_law_one", f_law_one) :: []) (cs := consts) o.d_law_web T sc_law_web rfl rfl m_law_web o.consts (lib_cons c_law_draw (Nat.le_refl _) (lib_cons c_law_one (Nat.le_refl _) lib_nil)) ⟨⟨⟨p_law_draw, ⟨trivial, ⟨⟨trivial, trivial⟩, trivial⟩⟩⟩, ⟨⟨p_law_one, ⟨trivial, ⟨⟨trivial, ⟨trivial, ⟨trivial, ⟨trivial, trivial⟩⟩⟩⟩, trivial⟩⟩⟩, ⟨⟨p_law_one, ⟨trivial, ⟨⟨trivial, ⟨trivial, ⟨trivial, trivial⟩⟩⟩, trivial⟩⟩⟩, trivial⟩⟩⟩, ⟨trivial, ⟨⟨⟨trivial, trivial⟩, ⟨⟨⟨trivial, trivial⟩, ⟨⟨⟨⟨p_law_draw, ⟨trivial, ⟨⟨⟨trivial, trivial⟩, trivial, trivial⟩, trivial⟩⟩⟩, trivial⟩, ⟨⟨trivial, ⟨trivial, trivial⟩⟩, trivial⟩, trivial⟩, trivial⟩⟩, trivial⟩⟩, ⟨⟨trivial, ⟨⟨trivial, trivial⟩, trivial⟩⟩, trivial⟩⟩⟩⟩
theorem ok_law_order {k : Nat} (o : Tops K mg) (T : Top K mg base) (c_law_draw : CallP Pr w K mg base k "_law_draw" f_law_draw) : CallP Pr w K mg base (k + 1) "_law_order" f_law_order := by
  have p_law_draw : InL (("_law_draw", f_law_draw) :: []) "_law_draw" f_law_draw := .head _
  exact call_of (l := ("_law_draw", f_law_draw) :: []) (cs := consts) o.d_law_order T sc_law_order rfl rfl m_law_order o.consts (lib_cons c_law_draw (Nat.le_refl _) lib_nil) ⟨⟨⟨trivial, trivial⟩, ⟨trivial, trivial⟩⟩, ⟨⟨⟨trivial, trivial⟩, ⟨⟨p_law_draw, ⟨trivial, ⟨⟨trivial, trivial⟩, trivial⟩⟩⟩, trivial⟩⟩, ⟨⟨trivial, trivial⟩, trivial⟩⟩⟩
theorem ok_law_ {k : Nat} {f : Addr} {fd : FuncData} (o : Tops K mg) (T : Top K mg base) (c_law_web : CallP Pr w K mg base k "_law_web" f_law_web) (c_law_order : CallP Pr w K mg base k "_law_order" f_law_order) (c_law_row : CallP Pr w K mg base k "_law_row" f_law_row) (c_part : CallP Pr w K mg base k "part" fpart) (c_renamed : CallP Pr w K mg base k "renamed" frenamed) (F : FunD K "law" "law" (defArgs s_law) (defBody s_law) (defScope s_law) [] [] f fd) (hD : CallD Pr w K mg base k) (hrun : (runLaw 12 first_law b_law).run (fun r _ => r = .rt (.bool true)) (fun _ _ => False) 4294967296) : FnG Pr w K mg base (k + 1) f fd ["_law_script"] (spLaw K) := by
  have p_law_web : InL (("_law_web", f_law_web) :: ("_law_order", f_law_order) :: ("_law_row", f_law_row) :: ("part", fpart) :: ("renamed", frenamed) :: []) "_law_web" f_law_web := .head _
  have p_law_order : InL (("_law_web", f_law_web) :: ("_law_order", f_law_order) :: ("_law_row", f_law_row) :: ("part", fpart) :: ("renamed", frenamed) :: []) "_law_order" f_law_order := .tail _ (.head _)
  have p_law_row : InL (("_law_web", f_law_web) :: ("_law_order", f_law_order) :: ("_law_row", f_law_row) :: ("part", fpart) :: ("renamed", frenamed) :: []) "_law_row" f_law_row := .tail _ (.tail _ (.head _))
  have ppart : InL (("_law_web", f_law_web) :: ("_law_order", f_law_order) :: ("_law_row", f_law_row) :: ("part", fpart) :: ("renamed", frenamed) :: []) "part" fpart := .tail _ (.tail _ (.tail _ (.head _)))
  have prenamed : InL (("_law_web", f_law_web) :: ("_law_order", f_law_order) :: ("_law_row", f_law_row) :: ("part", fpart) :: ("renamed", frenamed) :: []) "renamed" frenamed := .tail _ (.tail _ (.tail _ (.tail _ (.head _))))
  have e : defBody s_law = (defBody s_law).headD (.Pass ⟨0, 0, 0, 0⟩) :: (defBody s_law).tail := by kernel_rfl
  rw [e] at F
  exact law_of (n := 12) (fst := first_law) (b := b_law) (l := ("_law_web", f_law_web) :: ("_law_order", f_law_order) :: ("_law_row", f_law_row) :: ("part", fpart) :: ("renamed", frenamed) :: []) (cs := consts) F T sc_law rfl m0_law m_law o.consts (lib_cons c_law_web (Nat.le_refl _) (lib_cons c_law_order (Nat.le_refl _) (lib_cons c_law_row (Nat.le_refl _) (lib_cons c_part (Nat.le_refl _) (lib_cons c_renamed (Nat.le_refl _) lib_nil))))) hD ⟨⟨⟨trivial, trivial⟩, ⟨⟨p_law_web, ⟨trivial, ⟨trivial, trivial⟩⟩⟩, ⟨⟨⟨trivial, trivial⟩, ⟨⟨p_law_row, ⟨trivial, ⟨⟨trivial, trivial⟩, trivial⟩⟩⟩, ⟨trivial, ⟨⟨⟨⟨trivial, trivial⟩, trivial⟩, ⟨⟨⟨⟨trivial, trivial⟩, trivial⟩, ⟨⟨⟨trivial, trivial⟩, ⟨⟨trivial, trivial⟩, trivial⟩⟩, ⟨trivial, trivial⟩⟩, ⟨trivial, ⟨trivial, trivial⟩⟩⟩, trivial⟩⟩, ⟨⟨⟨⟨⟨ppart, ⟨trivial, ⟨trivial, trivial⟩⟩⟩, trivial⟩, ⟨⟨⟨trivial, trivial⟩, ⟨⟨trivial, trivial⟩, trivial⟩⟩, trivial⟩⟩, ⟨trivial, trivial⟩, trivial⟩, trivial⟩⟩⟩⟩⟩, ⟨⟨p_law_order, ⟨trivial, ⟨⟨trivial, trivial⟩, trivial⟩⟩⟩, ⟨⟨⟨trivial, trivial⟩, ⟨⟨⟨⟨⟨trivial, trivial⟩, trivial, ⟨⟨trivial, trivial⟩, ⟨⟨trivial, trivial⟩, trivial⟩⟩⟩, trivial⟩, trivial⟩, trivial⟩⟩, ⟨⟨⟨⟨⟨⟨prenamed, ⟨trivial, ⟨trivial, trivial⟩⟩⟩, trivial⟩, ⟨trivial, trivial⟩⟩, ⟨⟨⟨ppart, ⟨trivial, ⟨⟨⟨trivial, trivial⟩, trivial⟩, trivial⟩⟩⟩, trivial⟩, ⟨trivial, trivial⟩⟩⟩, ⟨trivial, trivial⟩, trivial⟩, trivial⟩⟩⟩⟩⟩⟩, ⟨trivial, trivial⟩⟩ (fun i j a e h => by cases h) hrun
theorem walk {f : Addr} {fd : FuncData} (o : Tops K mg) (T : Top K mg base) (F : FunD K "law" "law" (defArgs s_law) (defBody s_law) (defScope s_law) [] [] f fd) (hrun : (runLaw 12 first_law b_law).run (fun r _ => r = .rt (.bool true)) (fun _ _ => False) 4294967296) : FnG Pr w K mg base 9 f fd ["_law_script"] (spLaw K) := by
  have c_of_some : CallP Pr w K mg base 1 "of_some" fof_some := ok_of_some o T 
  have c_part : CallP Pr w K mg base 2 "part" fpart := ok_part o T 
  have c_renamed : CallP Pr w K mg base 3 "renamed" frenamed := ok_renamed o T (c_of_some.mono (by decide))
  have c_law_draw : CallP Pr w K mg base 4 "_law_draw" drawF := ok_law_draw o T
  have c_law_one : CallP Pr w K mg base 5 "_law_one" f_law_one := ok_law_one o T (c_law_draw.mono (by decide))
  have c_law_row : CallP Pr w K mg base 6 "_law_row" f_law_row := ok_law_row o T (c_law_one.mono (by decide)) (c_law_draw.mono (by decide))
  have c_law_web : CallP Pr w K mg base 7 "_law_web" f_law_web := ok_law_web o T (c_law_draw.mono (by decide)) (c_law_one.mono (by decide))
  have c_law_order : CallP Pr w K mg base 8 "_law_order" f_law_order := ok_law_order o T (c_law_draw.mono (by decide))
  exact ok_law_ o T (c_law_web.mono (by decide)) (c_law_order.mono (by decide)) (c_law_row.mono (by decide)) (c_part.mono (by decide)) (c_renamed.mono (by decide)) F (ok_law_deck o T) hrun
end
def D_of_some : He.DefD := ⟨("of_some", none), "of_some", "of_some", defArgs s_of_some, defBody s_of_some, defScope s_of_some, [], []⟩
def D_part : He.DefD := ⟨("part", none), "part", "part", defArgs s_part, defBody s_part, defScope s_part, [], []⟩
def D_renamed : He.DefD := ⟨("renamed", none), "renamed", "renamed", defArgs s_renamed, defBody s_renamed, defScope s_renamed, [], []⟩
def D_law_deck : He.DefD := ⟨("_law_deck", none), "_law_deck", "_law_deck", defArgs s_law_deck, defBody s_law_deck, defScope s_law_deck, [], []⟩
def D_law_draw : He.DefD := ⟨("_law_draw", none), "_law_draw", "_law_draw", defArgs s_law_draw, defBody s_law_draw, defScope s_law_draw, [], []⟩
def D_law_one : He.DefD := ⟨("_law_one", none), "_law_one", "_law_one", defArgs s_law_one, defBody s_law_one, defScope s_law_one, [], []⟩
def D_law_row : He.DefD := ⟨("_law_row", none), "_law_row", "_law_row", defArgs s_law_row, defBody s_law_row, defScope s_law_row, [], []⟩
def D_law_web : He.DefD := ⟨("_law_web", none), "_law_web", "_law_web", defArgs s_law_web, defBody s_law_web, defScope s_law_web, [], []⟩
def D_law_order : He.DefD := ⟨("_law_order", none), "_law_order", "_law_order", defArgs s_law_order, defBody s_law_order, defScope s_law_order, [], []⟩
def D_law : He.DefD := ⟨("law", none), "law", "law", defArgs s_law, defBody s_law, defScope s_law, [], []⟩
def fn : List He.DefD := [D_of_some, D_part, D_renamed, D_law_deck, D_law_draw, D_law_one, D_law_row, D_law_web, D_law_order, D_law]
def fa : List He.Fa := [.glo "of_some", .glo "part", .glo "renamed", .glo "_law_deck", .glo "_law_draw", .glo "_law_one", .glo "_law_row", .glo "_law_web", .glo "_law_order", .glo "law"] ++ bltNames.map .free
abbrev R : PySem.W.OpenRow := PySem.W.OpenLaw.row PySem.Challenge.rw_addedattacks_k03_parts_and_other_names
abbrev hk : PySem.W.Hook := hookE 4 fa fn consts
def ob (s : PySem.W.SharedT) : AlE := obsE 4 fa fn consts (HandSHeadRun.getT s)
theorem ob_eq (s : PySem.W.SharedT) : ob s = hk.obs s.abs := obsE_eq (HandSHeadRun.getT_eq s)
theorem run (w : World) : HandSHeadRun.RunEq R (PySem.W.view R.prog [11]) hk ob 4000 ["of_some", "part", "renamed", "_law_deck", "_law_draw", "_law_one", "_law_row", "_law_web", "_law_order"] w := by
  intro os
  kernel_rfl
theorem fact_of {K : PySem.W.Frag} (c : He.SaysD fa fn K) {f : He.Fa} (h : f ∈ fa) : f.ok K = true := by
  obtain ⟨i, hi⟩ := List.getElem?_of_mem h
  exact c.fact i hi
theorem tops_of {K : PySem.W.Frag} {h : Heap} {mg : Str → Option Value} (X : K.In h) (G : h.Ns mainGlobals mg) (c : He.SaysD fa fn K) (cc : ∀ c, c ∈ consts → constB K c = true) : Tops K mg where
  d_of_some := by
    obtain ⟨fd, F⟩ := c.def_ 0 (d := D_of_some) rfl
    exact ⟨_, fd, F, He.glo_ok X G (c.fact 0 (f := .glo "of_some") rfl), F.bindsN fun _ _ _ _ _ _ us hl => match us, hl with | [_, _], _ => rfl⟩
  d_part := by
    obtain ⟨fd, F⟩ := c.def_ 1 (d := D_part) rfl
    exact ⟨_, fd, F, He.glo_ok X G (c.fact 1 (f := .glo "part") rfl), F.bindsN fun _ _ _ _ _ _ us hl => match us, hl with | [_, _], _ => rfl⟩
  d_renamed := by
    obtain ⟨fd, F⟩ := c.def_ 2 (d := D_renamed) rfl
    exact ⟨_, fd, F, He.glo_ok X G (c.fact 2 (f := .glo "renamed") rfl), F.bindsN fun _ _ _ _ _ _ us hl => match us, hl with | [_, _], _ => rfl⟩
  d_law_deck := by
    obtain ⟨fd, F⟩ := c.def_ 3 (d := D_law_deck) rfl
    exact ⟨_, fd, F, He.glo_ok X G (c.fact 3 (f := .glo "_law_deck") rfl), F.bindsN fun _ _ _ _ _ _ us hl => match us, hl with | [_], _ => rfl⟩
  d_law_draw := by
    obtain ⟨fd, F⟩ := c.def_ 4 (d := D_law_draw) rfl
    exact ⟨_, fd, F, He.glo_ok X G (c.fact 4 (f := .glo "_law_draw") rfl), F.bindsN fun _ _ _ _ _ _ us hl => match us, hl with | [_, _], _ => rfl⟩
  d_law_one := by
    obtain ⟨fd, F⟩ := c.def_ 5 (d := D_law_one) rfl
    exact ⟨_, fd, F, He.glo_ok X G (c.fact 5 (f := .glo "_law_one") rfl), F.bindsN fun _ _ _ _ _ _ us hl => match us, hl with | [_, _], _ => rfl⟩
  d_law_row := by
    obtain ⟨fd, F⟩ := c.def_ 6 (d := D_law_row) rfl
    exact ⟨_, fd, F, He.glo_ok X G (c.fact 6 (f := .glo "_law_row") rfl), F.bindsN fun _ _ _ _ _ _ us hl => match us, hl with | [_, _], _ => rfl⟩
  d_law_web := by
    obtain ⟨fd, F⟩ := c.def_ 7 (d := D_law_web) rfl
    exact ⟨_, fd, F, He.glo_ok X G (c.fact 7 (f := .glo "_law_web") rfl), F.bindsN fun _ _ _ _ _ _ us hl => match us, hl with | [_, _], _ => rfl⟩
  d_law_order := by
    obtain ⟨fd, F⟩ := c.def_ 8 (d := D_law_order) rfl
    exact ⟨_, fd, F, He.glo_ok X G (c.fact 8 (f := .glo "_law_order") rfl), F.bindsN fun _ _ _ _ _ _ us hl => match us, hl with | [_, _], _ => rfl⟩
  consts := fun nm d h => constB_ok X G (cc _ h)
theorem free_of {K : PySem.W.Frag} {h : Heap} {mg : Str → Option Value} (X : K.In h) (G : h.Ns mainGlobals mg) (c : He.SaysD fa fn K) : ∀ b, b ∈ bltNames → mg b = none := fun b hb => He.free_ok X G (fact_of c (List.mem_append_right _ (List.mem_map_of_mem hb)))
theorem facts {P : Program} {w : World} {h : Heap} {mg : Str → Option Value} {f : Addr} (hrun : (runLaw 12 first_law b_law).run (fun r _ => r = .rt (.bool true)) (fun _ _ => False) 4294967296) (Y : hk.says w h) (G : h.Ns mainGlobals mg) (hfa : mg ("law" : Str) = some (.ref f)) :
    ∃ (K : PySem.W.Frag) (fd : FuncData), K.In h ∧ (∃ o es n, h.get? sysModules = some o ∧ o.data = .dict es n) ∧ (∀ (s : Shared) (v : Value), BindsTo s fd ⟨[v], []⟩ [("_law_script", v)]) ∧ ∀ base : Heap, K.In base → base.Ns mainGlobals mg → (∃ o, base.get? sysModules = some o) → FnG P w K mg base 9 f fd ["_law_script"] (spLaw K) := by
  obtain ⟨⟨K, X, c, cc⟩, hs⟩ := Y
  obtain ⟨fd, F⟩ := c.def_ 9 (d := D_law) rfl
  have e := hfa.symm.trans (He.glo_ok X G (c.fact 9 (f := .glo "law") rfl))
  cases e
  have b := FunD.bindsA (ps := ["_law_script"]) F fun _ _ _ _ _ _ us hl => match us, hl with | [_], _ => rfl
  exact ⟨K, fd, X, hs, fun s v => b s [v] rfl, fun base _ _ hb => walk (tops_of X G c cc) ⟨free_of X G c, hb⟩ F hrun⟩
end Ad
namespace Ad
open PySem

/-! ### further rules -/
theorem cmp_str_eq (a b : Str) : cmpD .Eq (.str a) (.str b) = pure (a == b) := eq_str a b
theorem in_nats (k : Nat) (l : List Nat) : cmpD .In (iD k) (.tuple (l.map iD)) = pure (decide (k ∈ l)) := by
  show (M.grd _ >>= fun _ => (pure ((l.map iD).any fun z => PyData.eqv z (iD k)) : M Bool)) = _
  rw [M.grd_bind ⟨eqOk_int k, eqOk_ints l⟩, any_ints]
theorem in_natsL (k : Nat) (l : List Nat) : cmpD .In (iD k) (.list (l.map iD)) = pure (decide (k ∈ l)) := in_ints k l
theorem run_parO {i j : Nat} {e1 e2 : E} {ss : Ss} {ρ : Ev} {d : D} {xs : List D} {Q : Rz → Nat → Prop} {R : XV → Nat → Prop} {b : Nat} (h : (dE e1 ρ).ge d) (g : (dE e2 ρ).ge (.list xs)) (hq : (dSs ss ((ρ.set j (some (.list xs, true))).set i (some (d, false)))).run Q R b) : (dSs (.cons (.par [(i, false), (j, true)] (.cons e1 (.cons e2 .nil))) ss) ρ).run Q R b := by
  have e : dPar [(i, false), (j, true)] (.cons e1 (.cons e2 .nil)) ρ = dE e1 ρ >>= fun d => dE e2 ρ >>= fun x => asList x >>= fun xs => pure [d, .list xs] := rfl
  show (dPar [(i, false), (j, true)] (.cons e1 (.cons e2 .nil)) ρ >>= fun ds => (pure (.nx (setAll ρ [(i, false), (j, true)] ds)) : M Rz)).run _ R b
  rw [e]
  exact h _ R b (g _ R b hq)
theorem run_par3 {i j k : Nat} {e1 e2 e3 : E} {ss : Ss} {ρ : Ev} {d1 d2 d3 : D} {Q : Rz → Nat → Prop} {R : XV → Nat → Prop} {b : Nat} (h1 : (dE e1 ρ).ge d1) (h2 : (dE e2 ρ).ge d2) (h3 : (dE e3 ρ).ge d3) (hq : (dSs ss (((ρ.set k (some (d3, false))).set j (some (d2, false))).set i (some (d1, false)))).run Q R b) : (dSs (.cons (.par [(i, false), (j, false), (k, false)] (.cons e1 (.cons e2 (.cons e3 .nil)))) ss) ρ).run Q R b := by
  have e : dPar [(i, false), (j, false), (k, false)] (.cons e1 (.cons e2 (.cons e3 .nil))) ρ = dE e1 ρ >>= fun d => dE e2 ρ >>= fun x => dE e3 ρ >>= fun y => pure [d, x, y] := rfl
  show (dPar [(i, false), (j, false), (k, false)] (.cons e1 (.cons e2 (.cons e3 .nil))) ρ >>= fun ds => (pure (.nx (setAll ρ [(i, false), (j, false), (k, false)] ds)) : M Rz)).run _ R b
  rw [e]
  exact h1 _ R b (h2 _ R b (h3 _ R b hq))
theorem run_par2g {i j : Nat} {e1 e2 : E} {ss : Ss} {ρ : Ev} {d1 d2 : D} {Q : Rz → Nat → Prop} {R : XV → Nat → Prop} {b : Nat} (h1 : (dE e1 ρ).ge d1) (h2 : (dE e2 ρ).ge d2) (hq : (dSs ss ((ρ.set j (some (d2, false))).set i (some (d1, false)))).run Q R b) : (dSs (.cons (.par [(i, false), (j, false)] (.cons e1 (.cons e2 .nil))) ss) ρ).run Q R b := run_par2m (h1 _ R b (h2 _ R b hq))
theorem run_app {w : Nat} {e : E} {ss : Ss} {ρ : Ev} {xs : List D} {d : D} {Q : Rz → Nat → Prop} {R : XV → Nat → Prop} {b : Nat} (hw : ρ[w]? = some (some (.list xs, true))) (h : (dE e ρ).ge d) (hl : xs.length < 16777216) (hq : (dSs ss (setO ρ w (xs ++ [d]))).run Q R b) : (dSs (.cons (.app w e) ss) ρ).run Q R b := by
  have e1 : dS (.app w e) ρ = lookO ρ w >>= fun xs => dE e ρ >>= fun d => M.grd (xs.length < sizeLine) >>= fun _ => (pure (.nx (setO ρ w (xs ++ [d]))) : M Rz) := rfl
  have e2 : lookO ρ w = pure xs := by
    unfold lookO
    rw [hw]
  show (dS (.app w e) ρ).run _ R b
  rw [e1, e2]
  exact h _ R b ⟨by rw [sizeLine_eq]; exact hl, hq⟩
theorem run_ext {w : Nat} {e : E} {ss : Ss} {ρ : Ev} {xs ys : List D} {Q : Rz → Nat → Prop} {R : XV → Nat → Prop} {b : Nat} (hw : ρ[w]? = some (some (.list xs, true))) (h : (dE e ρ).ge (.list ys)) (hl : xs.length + ys.length ≤ 16777216) (hq : (dSs ss (setO ρ w (xs ++ ys))).run Q R b) : (dSs (.cons (.ext w e) ss) ρ).run Q R b := by
  have e1 : dS (.ext w e) ρ = lookO ρ w >>= fun xs => dE e ρ >>= fun d => asList d >>= fun ys => M.grd (xs.length + ys.length ≤ sizeLine) >>= fun _ => (pure (.nx (setO ρ w (xs ++ ys))) : M Rz) := rfl
  have e2 : lookO ρ w = pure xs := by
    unfold lookO
    rw [hw]
  show (dS (.ext w e) ρ).run _ R b
  rw [e1, e2]
  exact h _ R b ⟨by rw [sizeLine_eq]; exact hl, hq⟩
theorem asgT2 {i j : Nat} {e : E} {ss : Ss} {ρ : Ev} {x y : D} {Q : Rz → Nat → Prop} {R : XV → Nat → Prop} {b : Nat} (h : (dE e ρ).ge (.tuple [x, y])) (hq : (dSs ss ((ρ.set i (some (x, false))).set j (some (y, false)))).run Q R b) : (dSs (.cons (.asgT [i, j] e) ss) ρ).run Q R b := by
  have e1 : dS (.asgT [i, j] e) ρ = dE e ρ >>= fun d => bindT ρ (.t [i, j]) d >>= fun ρ' => (pure (.nx ρ') : M Rz) := rfl
  show (dS (.asgT [i, j] e) ρ).run _ R b
  rw [e1]
  refine h _ R b ?_
  show (bindT ρ (.t [i, j]) (.tuple [x, y]) >>= fun ρ' => (pure (.nx ρ') : M Rz)).run _ R b
  rw [bind_pair]
  exact hq
theorem ge_addL {ρ : Ev} {a b : E} {xs ys : List D} (h : (dE a ρ).ge (.list xs)) (g : (dE b ρ).ge (.list ys)) (hl : xs.length + ys.length ≤ 16777216) : (dE (.bin .Add a b) ρ).ge (.list (xs ++ ys)) := ge_bin h g (M.grd_bind (by rw [sizeLine_eq]; exact hl) _)
theorem ge_addT {ρ : Ev} {a b : E} {xs ys : List D} (h : (dE a ρ).ge (.tuple xs)) (g : (dE b ρ).ge (.tuple ys)) (hl : xs.length + ys.length ≤ 16777216) : (dE (.bin .Add a b) ρ).ge (.tuple (xs ++ ys)) := ge_bin h g (M.grd_bind (by rw [sizeLine_eq]; exact hl) _)
/-- all pairs below n -/
def upTo (n i : Nat) : List (Nat × Nat) := (List.range i).flatMap fun k => (List.range n).map fun j => (k, j)
def allP (n : Nat) : List (Nat × Nat) := upTo n n
theorem mem_upTo (n i : Nat) (p : Nat × Nat) : p ∈ upTo n i ↔ p.1 < i ∧ p.2 < n := by
  unfold upTo
  rw [List.mem_flatMap]
  constructor
  · rintro ⟨k, hk, hp⟩
    obtain ⟨j, hj, rfl⟩ := List.mem_map.mp hp
    exact ⟨List.mem_range.mp hk, List.mem_range.mp hj⟩
  · intro ⟨h1, h2⟩
    exact ⟨p.1, List.mem_range.mpr h1, List.mem_map.mpr ⟨p.2, List.mem_range.mpr h2, rfl⟩⟩
theorem upTo_succ (n i : Nat) : upTo n (i + 1) = upTo n i ++ (List.range n).map fun j => (i, j) := by
  unfold upTo
  rw [List.range_succ, List.flatMap_append]
  simp
theorem srt_upTo (n : Nat) : ∀ i, Srt (upTo n i)
  | 0 => List.Pairwise.nil
  | i + 1 => by
    rw [upTo_succ]
    refine List.pairwise_append.mpr ⟨srt_upTo n i, ?_, fun p hp q hq => ?_⟩
    · rw [List.pairwise_map]
      exact List.pairwise_lt_range.imp fun h => Or.inr ⟨rfl, h⟩
    · obtain ⟨j, _, rfl⟩ := List.mem_map.mp hq
      exact Or.inl ((mem_upTo n i p).mp hp).1
theorem mem_allP (n : Nat) (p : Nat × Nat) : p ∈ allP n ↔ p.1 < n ∧ p.2 < n := mem_upTo n n p
theorem len_upTo (n i : Nat) : (upTo n i).length = i * n := by
  unfold upTo
  rw [List.length_flatMap]
  simp only [List.length_map, List.length_range, List.map_const', List.sum_replicate_nat]
end Ad
namespace Ad
open PySem

def mx (n m : Nat) : Nat := if n < m then m else n
theorem max_eq (n m : Nat) : biD .max2 [.int n, .int m] = pure (.int (mx n m)) := by
  show (pure (.int (if (m : Int) > n then (m : Int) else n)) : M D) = _
  unfold mx
  by_cases h : n < m
  · rw [if_pos h, if_pos (by omega)]
  · rw [if_neg h, if_neg (by omega)]
/-! ### tests that draw -/
theorem run_andr {x y : E} {ρ : Ev} {Q : D → Nat → Prop} {R : XV → Nat → Prop} {b : Nat} (h : (dE x ρ).run (fun d b => ∃ t, d = .bool t ∧ (t = false → Q (.bool false) b) ∧ (t = true → (dE y ρ).run (fun e b => ∃ u, e = .bool u ∧ Q (.bool u) b) R b)) R b) : (dE (.and x y) ρ).run Q R b := by
  have e : dE (.and x y) ρ = dE x ρ >>= fun d => asBool d >>= fun c => if c then (dE y ρ >>= fun e => asBool e >>= fun u => (pure (.bool u) : M D)) else pure (.bool false) := rfl
  rw [e]
  refine (dE x ρ).mono (fun d b' q => ?_) (fun _ _ z => z) h
  obtain ⟨t, rfl, q1, q2⟩ := q
  cases t with
  | false => exact q1 rfl
  | true =>
    refine (dE y ρ).mono (fun e b2 q => ?_) (fun _ _ z => z) (q2 rfl)
    obtain ⟨u, rfl, q⟩ := q
    exact q
theorem run_orr {x y : E} {ρ : Ev} {Q : D → Nat → Prop} {R : XV → Nat → Prop} {b : Nat} (h : (dE x ρ).run (fun d b => ∃ t, d = .bool t ∧ (t = true → Q (.bool true) b) ∧ (t = false → (dE y ρ).run (fun e b => ∃ u, e = .bool u ∧ Q (.bool u) b) R b)) R b) : (dE (.or x y) ρ).run Q R b := by
  have e : dE (.or x y) ρ = dE x ρ >>= fun d => asBool d >>= fun c => if c then (pure (.bool true) : M D) else (dE y ρ >>= fun e => asBool e >>= fun u => pure (.bool u)) := rfl
  rw [e]
  refine (dE x ρ).mono (fun d b' q => ?_) (fun _ _ z => z) h
  obtain ⟨t, rfl, q1, q2⟩ := q
  cases t with
  | true => exact q1 rfl
  | false =>
    refine (dE y ρ).mono (fun e b2 q => ?_) (fun _ _ z => z) (q2 rfl)
    obtain ⟨u, rfl, q⟩ := q
    exact q
theorem run_ifer {c x y : E} {ρ : Ev} {t : Bool} {Q : D → Nat → Prop} {R : XV → Nat → Prop} {b : Nat} (h : (dE c ρ).ge (.bool t)) (hq : (dE (if t then x else y) ρ).run Q R b) : (dE (.ife c x y) ρ).run Q R b := h _ R b (by
  show (if t then dE x ρ else dE y ρ).run Q R b
  cases t with
  | true => exact hq
  | false => exact hq)
theorem run_iter {c : E} {x y ss : Ss} {ρ : Ev} {Q : Rz → Nat → Prop} {R : XV → Nat → Prop} {b : Nat} (h : (dE c ρ).run (fun d b => ∃ t, d = .bool t ∧ (dSs (if t then x else y) ρ).run (fun r b => (Rz.sq (fun ρ => dSs ss ρ) r).run Q R b) R b) R b) : (dSs (.cons (.ite c x y) ss) ρ).run Q R b := by
  have e : dS (.ite c x y) ρ = dE c ρ >>= fun d => asBool d >>= fun t => if t then dSs x ρ else dSs y ρ := rfl
  show (dS (.ite c x y) ρ).run (fun r b => (Rz.sq (fun ρ => dSs ss ρ) r).run Q R b) R b
  rw [e]
  refine (dE c ρ).mono (fun d b' q => ?_) (fun _ _ z => z) h
  obtain ⟨t, rfl, q⟩ := q
  cases t with
  | true => exact q
  | false => exact q
/-- a number drawn is 0 -/
theorem run_draw0 {nm : Str} {e : E} {ρ : Ev} {m b : Nat} {Q : D → Nat → Prop} {R : XV → Nat → Prop} (h0 : ρ[0]? = some (some (deckD, false))) (h : (dE e ρ).ge (.int m)) (hm : 0 < m ∧ m ≤ 1000) (hb : 0 < b) (hq : ∀ t, Q (.bool t) (b - 1)) : (dE (.cmp .Eq (.call nm drawF (.cons (.v 0) (.cons e .nil))) (.k (.int 0))) ρ).run Q R b := by
  have e1 : dE (.cmp .Eq (.call nm drawF (.cons (.v 0) (.cons e .nil))) (.k (.int 0))) ρ = (dEs (.cons (.v 0) (.cons e .nil)) ρ >>= fun ds => drawF ds) >>= fun x => eqD x (.int 0) >>= fun r => (pure (.bool r) : M D) := rfl
  rw [e1]
  refine ge_cons (ge_v h0) (ge_cons h ge_nil) _ R b ?_
  refine draw_run hm.1 (by omega) hb fun k _ => ?_
  show (eqD (.int k) (.int 0) >>= fun r => (pure (.bool r) : M D)).run Q R (b - 1)
  rw [eq_int]
  exact hq _
theorem run_draw0' {nm : Str} {i : Nat} {e : E} {ρ : Ev} {m b : Nat} {Q : D → Nat → Prop} {R : XV → Nat → Prop} (h0 : ρ[i]? = some (some (deckD, false))) (h : (dE e ρ).ge (.int m)) (hm : 0 < m ∧ m ≤ 1000) (hb : 0 < b) (hq : ∀ t, Q (.bool t) (b - 1)) : (dE (.cmp .Eq (.call nm drawF (.cons (.v i) (.cons e .nil))) (.k (.int 0))) ρ).run Q R b := by
  have e1 : dE (.cmp .Eq (.call nm drawF (.cons (.v i) (.cons e .nil))) (.k (.int 0))) ρ = (dEs (.cons (.v i) (.cons e .nil)) ρ >>= fun ds => drawF ds) >>= fun x => eqD x (.int 0) >>= fun r => (pure (.bool r) : M D) := rfl
  rw [e1]
  refine ge_cons (ge_v h0) (ge_cons h ge_nil) _ R b ?_
  refine draw_run hm.1 (by omega) hb fun k _ => ?_
  show (eqD (.int k) (.int 0) >>= fun r => (pure (.bool r) : M D)).run Q R (b - 1)
  rw [eq_int]
  exact hq _
theorem bind_trip {ρ : Ev} {i j k : Nat} {x y z : D} : bindT ρ (.t [i, j, k]) (.list [x, y, z]) = pure (((ρ.set i (some (x, false))).set j (some (y, false))).set k (some (z, false))) := M.grd_bind (show ([x, y, z] : List D).length = [i, j, k].length from rfl) _
def o2 (o : Option D) : Option (D × Bool) := o.map fun d => (d, false)
/-- a web in order -/
structure Web (n : Nat) (a : List (Nat × Nat)) : Prop where
  i : InW n a
  s : Srt a
theorem Web.len {n : Nat} {a : List (Nat × Nat)} (h : Web n a) (hn : n ≤ 17) : a.length ≤ 305 := srt_len hn h.s h.i
theorem Web.of {n : Nat} {c : List (Nat × Nat)} (h : ∀ p, p ∈ c → p.1 < n ∧ p.2 < n) : Web n (sortP c) := ⟨fun p hp => h p ((mem_sortP c p).mp hp), srt_sortP c⟩
theorem Web.shw {n : Nat} {a : List (Nat × Nat)} (h : Web n a) (hn : n ≤ 17) : Shw (webD n a) 3 50000 := web_shw hn (Nat.le_trans (h.len hn) (by decide)) h.i
theorem eqv_pairs : ∀ a b : List (Nat × Nat), PyData.eqvAll (a.map pairD) (b.map pairD) = decide (a = b)
  | [], [] => rfl
  | [], _ :: _ => rfl
  | _ :: _, [] => rfl
  | p :: a, q :: b => by
    show (PyData.eqv (pairD p) (pairD q) && PyData.eqvAll (a.map pairD) (b.map pairD)) = _
    rw [eqv_pairs a b, eqv_pair]
    by_cases h : p = q
    · subst h
      simp
    · simp [h]
theorem eqOk_web (n : Nat) (a : List (Nat × Nat)) : eqOk (webD n a) := by
  have h := pairs_plain a
  refine ⟨?_, ?_⟩
  · show (true && (PyData.plainAll (a.map pairD) && true)) = true
    rw [h.1]
    rfl
  · show max 0 (max (PyData.depthAll (a.map pairD) + 1) 0) + 1 ≤ 64
    have := h.2
    omega
theorem web_eqD (n : Nat) (a b : List (Nat × Nat)) : eqD (webD n a) (webD n b) = pure (decide (a = b)) := by
  show (M.grd _ >>= fun _ => (pure (PyData.eqv (webD n a) (webD n b)) : M Bool)) = _
  rw [M.grd_bind (.inl ⟨eqOk_web n a, eqOk_web n b⟩)]
  have e : PyData.eqv (webD n a) (webD n b) = (PyData.eqv (.int n) (.int n) && (PyData.eqvAll (a.map pairD) (b.map pairD) && true)) := rfl
  rw [e, eqv_pairs, eqv_int]
  simp
theorem web_eq (n : Nat) (a b : List (Nat × Nat)) : cmpD .Eq (webD n a) (webD n b) = pure (decide (a = b)) := web_eqD n a b
theorem web_ne (n : Nat) (a b : List (Nat × Nat)) : cmpD .NotEq (webD n a) (webD n b) = pure (!decide (a = b)) := by
  show (eqD (webD n a) (webD n b) >>= fun r => (pure (!r) : M Bool)) = _
  rw [web_eqD]
  rfl
theorem pair_ne (p q : Nat × Nat) : cmpD .NotEq (pairD q) (pairD p) = pure (!decide (q = p)) := by
  show ((M.grd _ >>= fun _ => (pure (PyData.eqv (pairD q) (pairD p)) : M Bool)) >>= fun r => (pure (!r) : M Bool)) = _
  rw [M.grd_bind (.inl ⟨eqOk_pair q, eqOk_pair p⟩), eqv_pair]
  rfl
theorem notin_pairs (p : Nat × Nat) (a : List (Nat × Nat)) : cmpD .NotIn (pairD p) (.tuple (a.map pairD)) = pure (!decide (p ∈ a)) := by
  show (inD (pairD p) (.tuple (a.map pairD)) >>= fun r => (pure (!r) : M Bool)) = _
  rw [show inD (pairD p) (.tuple (a.map pairD)) = pure (decide (p ∈ a)) from in_pairs p a]
  rfl
theorem sorted_geL {ρ : Ev} {e : E} {c : List (Nat × Nat)} {d : D} (hd : d = .list (c.map pairD) ∨ d = .tuple (c.map pairD)) (h : (dE e ρ).ge d) : (dE (.bi .sorted (.cons e .nil)) ρ).ge (.list ((c.mergeSort leP).map pairD)) := ge_bi (ge_cons h ge_nil) (by
  have g : biD .sorted [.list (c.map pairD)] = pure (.list ((c.mergeSort leP).map pairD)) := by
    show (M.grd (sortable (c.map pairD)) >>= fun _ => (pure (.list (sortD (c.map pairD))) : M D)) = _
    rw [M.grd_bind (pairs_ok c), sort_pairs_map]
  rcases hd with rfl | rfl
  · exact g
  · exact g)
end Ad
namespace Ad
open PySem

/-! ### lots, and how they are sorted -/
def lotD (l : List Nat) : D := .tuple (l.map iD)
def ltL : List Nat → List Nat → Bool
  | [], [] => false
  | [], _ :: _ => true
  | _ :: _, [] => false
  | x :: xs, y :: ys => if x = y then ltL xs ys else decide (x < y)
def leL (a b : List Nat) : Bool := !ltL b a
theorem ltL_tri : ∀ a b, ltL a b = false → ltL b a = false → a = b
  | [], [], _, _ => rfl
  | [], _ :: _, h, _ => by cases h
  | _ :: _, [], _, h => by cases h
  | x :: xs, y :: ys, h, k => by
    unfold ltL at h k
    by_cases e : x = y
    · subst e
      rw [if_pos rfl] at h k
      rw [ltL_tri xs ys h k]
    · rw [if_neg e] at h
      rw [if_neg (fun z => e z.symm)] at k
      have h := of_decide_eq_false h
      have k := of_decide_eq_false k
      omega
theorem ltL_asym : ∀ a b, ltL a b = true → ltL b a = false
  | [], [], h => by cases h
  | [], _ :: _, _ => rfl
  | _ :: _, [], h => by cases h
  | x :: xs, y :: ys, h => by
    unfold ltL at h ⊢
    by_cases e : x = y
    · subst e
      rw [if_pos rfl] at h ⊢
      exact ltL_asym xs ys h
    · rw [if_neg e] at h
      rw [if_neg (fun z => e z.symm)]
      have h := of_decide_eq_true h
      exact decide_eq_false (by omega)
theorem ltL_trans : ∀ a b c, ltL a b = true → ltL b c = true → ltL a c = true
  | [], [], _, h, _ => by cases h
  | [], _ :: _, [], _, k => by cases k
  | [], _ :: _, _ :: _, _, _ => rfl
  | _ :: _, [], _, h, _ => by cases h
  | _ :: _, _ :: _, [], _, k => by cases k
  | x :: xs, y :: ys, z :: zs, h, k => by
    unfold ltL at h k ⊢
    by_cases e : x = y
    · subst e
      rw [if_pos rfl] at h
      by_cases f : x = z
      · rw [if_pos f] at k ⊢
        exact ltL_trans xs ys zs h k
      · rw [if_neg f] at k ⊢
        exact k
    · rw [if_neg e] at h
      have h := of_decide_eq_true h
      by_cases f : y = z
      · subst f
        rw [if_neg e]
        exact decide_eq_true h
      · rw [if_neg f] at k
        have k := of_decide_eq_true k
        rw [if_neg (by omega)]
        exact decide_eq_true (by omega)
theorem leL_total (a b : List Nat) : (leL a b || leL b a) = true := by
  unfold leL
  cases h : ltL b a with
  | false => rfl
  | true =>
    rw [ltL_asym b a h]
    rfl
theorem leL_anti {a b : List Nat} (h : leL a b = true) (k : leL b a = true) : a = b := by
  unfold leL at h k
  exact ltL_tri a b (by simpa using k) (by simpa using h)
theorem leL_trans (a b c : List Nat) (h : leL a b = true) (k : leL b c = true) : leL a c = true := by
  cases e : ltL c a with
  | false => unfold leL; rw [e]; rfl
  | true =>
    by_cases f : a = b
    · subst f
      exact k
    · have g : ltL a b = true := by
        cases g : ltL a b with
        | true => rfl
        | false => exact absurd (ltL_tri a b g (by unfold leL at h; simpa using h)) f
      have z := ltL_trans c a b e g
      unfold leL at k
      rw [z] at k
      cases k
theorem dataLt_lot (a b : List Nat) : W.dataLt (lotD a) (lotD b) = ltL a b := by
  have e : ∀ l : List Nat, lotD l = W.Datum.toD (α := W.Tup Int) ⟨l.map Int.ofNat⟩ := fun l => by
    show PyData.tuple (l.map iD) = PyData.tuple ((l.map Int.ofNat).map PyData.int)
    rw [List.map_map]
    rfl
  rw [e a, e b, W.DatumOrd.lt_eq]
  show W.listLt (a.map Int.ofNat) (b.map Int.ofNat) = ltL a b
  induction a generalizing b with
  | nil => cases b <;> rfl
  | cons x xs ih =>
    cases b with
    | nil => rfl
    | cons y ys =>
      rw [List.map_cons, List.map_cons]
      unfold W.listLt ltL
      rw [ih ys]
      show (if (x : Int) = (y : Int) then ltL xs ys else decide ((x : Int) < (y : Int))) = _
      by_cases h : x = y
      · subst h
        rw [if_pos rfl, if_pos rfl]
      · rw [if_neg h, if_neg (by omega)]
        exact decide_eq_decide.mpr (by omega)
theorem dataLe_lot : W.dataLe false lotD = leL := by
  funext p q
  show (!W.dataLt (lotD q) (lotD p)) = _
  rw [dataLt_lot]
  rfl
theorem sort_map {α : Type} {enc : α → D} {le : α → α → Bool} (h : W.dataLe false enc = le) (l : List α) : sortD (l.map enc) = (l.mergeSort le).map enc := by
  unfold sortD
  refine (List.map_mergeSort (r := le) (s := W.dataLe false id) (f := enc) fun a _ b _ => ?_).symm
  rw [← h]
  rfl
theorem lotD_tup (l : List Nat) : lotD l = tupD (l.map Int.ofNat) := by
  show PyData.tuple (l.map iD) = PyData.tuple ((l.map Int.ofNat).map PyData.int)
  rw [List.map_map]
  rfl
theorem eqv_lot (a b : List Nat) : PyData.eqv (lotD a) (lotD b) = decide (a = b) := by
  rw [lotD_tup, lotD_tup, eqv_tup]
  refine decide_eq_decide.mpr ⟨fun h => ?_, fun h => by rw [h]⟩
  have := congrArg (List.map Int.toNat) h
  rw [List.map_map, List.map_map] at this
  have e : ∀ l : List Nat, l.map (Int.toNat ∘ Int.ofNat) = l := fun l => (List.map_congr_left fun x _ => rfl).trans (List.map_id l)
  rw [e, e] at this
  exact this
theorem eqv_in {α : Type} [DecidableEq α] {enc : α → D} (he : ∀ p q, PyData.eqv (enc p) (enc q) = decide (p = q)) (p : α) : ∀ a : List α, ((a.map enc).any fun z => PyData.eqv z (enc p)) = decide (p ∈ a)
  | [] => rfl
  | q :: a => by
    rw [List.map_cons, List.any_cons, eqv_in he p a, he]
    by_cases h : q = p
    · subst h
      simp
    · have h' : ¬ p = q := fun e => h e.symm
      simp [h, h']
theorem lot_depth (l : List Nat) : (lotD l).depth = 1 := by
  show PyData.depthAll (l.map iD) + 1 = 1
  rw [(ints_plain l).2]
theorem lots_plain : ∀ a : List (List Nat), PyData.plainAll (a.map lotD) = true ∧ PyData.depthAll (a.map lotD) ≤ 1
  | [] => ⟨rfl, Nat.zero_le _⟩
  | p :: a => by
    obtain ⟨h1, h2⟩ := lots_plain a
    refine ⟨?_, ?_⟩
    · show (PyData.plain (lotD p) && PyData.plainAll (a.map lotD)) = true
      rw [h1, show PyData.plain (lotD p) = true from (ints_plain p).1]
      rfl
    · show max (PyData.depth (lotD p)) (PyData.depthAll (a.map lotD)) ≤ 1
      rw [lot_depth]
      omega
theorem eqOk_lot (l : List Nat) : eqOk (lotD l) := ⟨(ints_plain l).1, by rw [lot_depth]; decide⟩
theorem eqOk_lots (a : List (List Nat)) : eqOk (.list (a.map lotD)) := ⟨(lots_plain a).1, by
  have := (lots_plain a).2
  show PyData.depthAll (a.map lotD) + 1 ≤ 64
  omega⟩
theorem eqOk_lotsT (a : List (List Nat)) : eqOk (.tuple (a.map lotD)) := ⟨(lots_plain a).1, by
  have := (lots_plain a).2
  show PyData.depthAll (a.map lotD) + 1 ≤ 64
  omega⟩
theorem in_lots {d : D} {l : List Nat} {a : List (List Nat)} (hd : d = .list (a.map lotD) ∨ d = .tuple (a.map lotD)) : cmpD .In (lotD l) d = pure (decide (l ∈ a)) := by
  rcases hd with rfl | rfl
  · show (M.grd _ >>= fun _ => (pure ((a.map lotD).any fun z => PyData.eqv z (lotD l)) : M Bool)) = _
    rw [M.grd_bind (.inl ⟨eqOk_lot l, eqOk_lots a⟩), eqv_in eqv_lot]
    exact congrArg pure (decide_eq_decide.mpr Iff.rfl)
  · show (M.grd _ >>= fun _ => (pure ((a.map lotD).any fun z => PyData.eqv z (lotD l)) : M Bool)) = _
    rw [M.grd_bind ⟨eqOk_lot l, eqOk_lotsT a⟩, eqv_in eqv_lot]
    exact congrArg pure (decide_eq_decide.mpr Iff.rfl)
theorem notin_lots {d : D} {l : List Nat} {a : List (List Nat)} (hd : d = .list (a.map lotD) ∨ d = .tuple (a.map lotD)) : cmpD .NotIn (lotD l) d = pure (!decide (l ∈ a)) := by
  show (cmpD .In (lotD l) d >>= fun r => (pure (!r) : M Bool)) = _
  rw [in_lots hd]
  rfl
theorem lot_eq (a b : List Nat) : cmpD .Eq (lotD a) (lotD b) = pure (decide (a = b)) := by
  show (M.grd _ >>= fun _ => (pure (PyData.eqv (lotD a) (lotD b)) : M Bool)) = _
  rw [M.grd_bind (.inl ⟨eqOk_lot a, eqOk_lot b⟩), eqv_lot]
theorem lot_ne (a b : List Nat) : cmpD .NotEq (lotD a) (lotD b) = pure (!decide (a = b)) := by
  show (cmpD .Eq (lotD a) (lotD b) >>= fun r => (pure (!r) : M Bool)) = _
  rw [lot_eq]
  rfl
theorem natsL_eq (a b : List Nat) : cmpD .Eq (.list (a.map iD)) (.list (b.map iD)) = pure (decide (a = b)) := by
  show (M.grd _ >>= fun _ => (pure (PyData.eqv (lotD a) (lotD b)) : M Bool)) = _
  rw [M.grd_bind (.inl ⟨eqOk_ints a, eqOk_ints b⟩), eqv_lot]
theorem lots_ok (c : List (List Nat)) : sortable (c.map lotD) := by
  refine ⟨W.AllAlike.of fun a b => ?_, fun x hx => ?_, .inl fun x hx => ?_⟩
  · rw [lotD_tup, lotD_tup]
    show W.alike (.tuple _) (.tuple _) = true
    simp only [W.alike]
    exact W.alike_ints _ _
  · obtain ⟨p, _, rfl⟩ := List.mem_map.mp hx
    exact ⟨(by intro h; cases h), by rw [lot_depth]; decide, (ints_plain p).1⟩
  · obtain ⟨p, _, rfl⟩ := List.mem_map.mp hx
    exact ⟨_, rfl⟩
theorem sorted_lots {ρ : Ev} {e : E} {c : List (List Nat)} (h : (dE e ρ).ge (.list (c.map lotD))) : (dE (.bi .sorted (.cons e .nil)) ρ).ge (.list ((c.mergeSort leL).map lotD)) := ge_bi (ge_cons h ge_nil) (by
  show (M.grd (sortable (c.map lotD)) >>= fun _ => (pure (.list (sortD (c.map lotD))) : M D)) = _
  rw [M.grd_bind (lots_ok c), sort_map dataLe_lot])
/-! numbers beside lots -/
def nlD (f : List Nat → Int) (l : List Nat) : D := .tuple [.int (f l), lotD l]
def leF (f : List Nat → Int) (a b : List Nat) : Bool := decide (f a < f b) || (decide (f a = f b) && leL a b)
theorem dataLe_nl (f : List Nat → Int) : W.dataLe false (nlD f) = leF f := by
  funext p q
  show (!W.dataLt (.tuple [.int (f q), lotD q]) (.tuple [.int (f p), lotD p])) = _
  rw [W.dataLt_pair (by simp [W.alike]) (by
    rw [lotD_tup, lotD_tup]
    show W.alike (.tuple _) (.tuple _) = true
    simp only [W.alike]
    exact W.alike_ints _ _), eqv_lot, W.dataLt_int, dataLt_lot]
  unfold leF leL
  have e : PyData.eqv (.int (f q)) (.int (f p)) = decide (f q = f p) := eqv_int _ _
  rw [e]
  by_cases h : f q = f p
  · rw [h]
    simp
    intro hh
    have e1 := ltL_asym p p
    cases h2 : ltL p p with
    | false => subst hh; exact h2
    | true => exact absurd (e1 h2) (by rw [h2]; decide)
  · have h' : ¬ f p = f q := fun z => h z.symm
    rw [decide_eq_false h, decide_eq_false h', if_neg (by decide), Bool.false_and, Bool.or_false]
    by_cases g : f q < f p
    · rw [decide_eq_true g, decide_eq_false (by omega)]
      rfl
    · rw [decide_eq_false g, decide_eq_true (by omega)]
      rfl
theorem nl_ok (f : List Nat → Int) (c : List (List Nat)) : sortable (c.map (nlD f)) := by
  refine ⟨W.AllAlike.of fun a b => ?_, fun x hx => ?_, .inl fun x hx => ?_⟩
  · show W.alike (.tuple [.int (f a), lotD a]) (.tuple [.int (f b), lotD b]) = true
    rw [lotD_tup, lotD_tup]
    simp only [tupD, W.alike, W.alikeAll, W.alike_ints, Bool.and_self]
  · obtain ⟨p, _, rfl⟩ := List.mem_map.mp hx
    refine ⟨(by intro h; cases h), ?_, ?_⟩
    · show max 0 (max (PyData.depth (lotD p)) 0) + 1 ≤ 40
      rw [lot_depth]
      decide
    · show (true && (PyData.plain (lotD p) && true)) = true
      rw [show PyData.plain (lotD p) = true from (ints_plain p).1]
      rfl
  · obtain ⟨p, _, rfl⟩ := List.mem_map.mp hx
    exact ⟨_, rfl⟩
theorem sorted_nl {f : List Nat → Int} {ρ : Ev} {e : E} {c : List (List Nat)} (h : (dE e ρ).ge (.list (c.map (nlD f)))) : (dE (.bi .sorted (.cons e .nil)) ρ).ge (.list ((c.mergeSort (leF f)).map (nlD f))) := ge_bi (ge_cons h ge_nil) (by
  show (M.grd (sortable (c.map (nlD f))) >>= fun _ => (pure (.list (sortD (c.map (nlD f)))) : M D)) = _
  rw [M.grd_bind (nl_ok f c), sort_map (dataLe_nl f)])
theorem leF_total (f : List Nat → Int) (a b : List Nat) : (leF f a b || leF f b a) = true := by
  have := leL_total a b
  unfold leF
  by_cases h : f a = f b
  · simp [h]
    simpa using this
  · have h' : ¬ f b = f a := fun z => h z.symm
    simp [h, h']
    omega
theorem leF_trans (f : List Nat → Int) (a b c : List Nat) (h : leF f a b = true) (k : leF f b c = true) : leF f a c = true := by
  unfold leF at h k ⊢
  simp only [Bool.or_eq_true, Bool.and_eq_true, decide_eq_true_eq] at h k ⊢
  rcases h with h | ⟨h1, h2⟩
  · left
    rcases k with k | ⟨k1, _⟩ <;> omega
  · rcases k with k | ⟨k1, k2⟩
    · left
      omega
    · right
      exact ⟨by omega, leL_trans a b c h2 k2⟩
theorem leF_anti {f : List Nat → Int} {a b : List Nat} (h : leF f a b = true) (k : leF f b a = true) : a = b := by
  unfold leF at h k
  simp only [Bool.or_eq_true, Bool.and_eq_true, decide_eq_true_eq] at h k
  rcases h with h | ⟨h1, h2⟩
  · rcases k with k | ⟨k1, _⟩ <;> omega
  · rcases k with k | ⟨_, k2⟩
    · omega
    · exact leL_anti h2 k2
/-! what is sorted stands alone -/
theorem perm_eq {α : Type} {le : α → α → Bool} (anti : ∀ a b, le a b = true → le b a = true → a = b) : ∀ {l m : List α}, l.Perm m → l.Pairwise (fun a b => le a b = true) → m.Pairwise (fun a b => le a b = true) → l = m
  | [], m, p, _, _ => (List.Perm.nil_eq p)
  | a :: l, [], p, _, _ => absurd p.length_eq (by simp)
  | a :: l, b :: m, p, hl, hm => by
    obtain ⟨l1, l2⟩ := List.pairwise_cons.mp hl
    obtain ⟨m1, m2⟩ := List.pairwise_cons.mp hm
    have e : a = b := by
      rcases List.mem_cons.mp (p.mem_iff.mp List.mem_cons_self) with e | ha
      · exact e
      · rcases List.mem_cons.mp (p.mem_iff.mpr List.mem_cons_self) with e | hb
        · exact e.symm
        · exact anti a b (l1 b hb) (m1 a ha)
    subst e
    exact congrArg (a :: ·) (perm_eq anti (List.Perm.cons_inv p) l2 m2)
theorem sort_filter {α : Type} {le : α → α → Bool} (tr : ∀ a b c, le a b = true → le b c = true → le a c = true) (to : ∀ a b, (le a b || le b a) = true) (anti : ∀ a b, le a b = true → le b a = true → a = b) (f : α → Bool) (l : List α) : (l.filter f).mergeSort le = (l.mergeSort le).filter f :=
  perm_eq anti ((List.mergeSort_perm _ le).trans ((List.mergeSort_perm l le).symm.filter f)) (List.pairwise_mergeSort tr to _) ((List.pairwise_mergeSort tr to l).filter f)
theorem sortL_filter (f : List Nat → Bool) (l : List (List Nat)) : (l.filter f).mergeSort leL = (l.mergeSort leL).filter f := sort_filter leL_trans leL_total (fun _ _ => leL_anti) f l
/-! nothing told -/
theorem lst_nilB {xs : List D} (h : eqOk (.list xs)) : cmpD .Eq (.list xs) (.list []) = pure xs.isEmpty := by
  show (M.grd _ >>= fun _ => (pure (PyData.eqv (.list xs) (.list [])) : M Bool)) = _
  rw [M.grd_bind (.inl ⟨h, eqOk_ints []⟩)]
  cases xs <;> rfl
theorem ge_none {α : Type} {l : List α} {f : α → Nat} {ρ : Ev} {e : E} (h : (dE e ρ).ge (.list (l.map fun x => iD (f x)))) : (dE (.cmp .Eq e (.lst .nil)) ρ).ge (.bool l.isEmpty) := by
  rw [show (l.map fun x => iD (f x)) = (l.map f).map iD by rw [List.map_map]; rfl] at h
  refine ge_cmp h (ge_lst ge_nil) ?_
  rw [lst_nilB (eqOk_ints _)]
  cases l <;> rfl
theorem ge_noneL {l : List (List Nat)} {ρ : Ev} {e : E} (h : (dE e ρ).ge (.list (l.map lotD))) : (dE (.cmp .Eq e (.lst .nil)) ρ).ge (.bool l.isEmpty) := by
  refine ge_cmp h (ge_lst ge_nil) ?_
  rw [lst_nilB (eqOk_lots _)]
  cases l <;> rfl
theorem emp_filter {α : Type} (k : α → Bool) : ∀ l : List α, (l.filter k).isEmpty = l.all fun x => !k x
  | [] => rfl
  | x :: l => by
    rw [List.filter_cons, List.all_cons]
    cases h : k x with
    | true => rfl
    | false => exact emp_filter k l
theorem ge_nin {ρ : Ev} {e f : E} {i : Nat} {l : List Nat} (h : (dE e ρ).ge (.int (i : Nat))) (g : (dE f ρ).ge (.tuple (l.map iD)) ∨ (dE f ρ).ge (.list (l.map iD))) : (dE (.cmp .NotIn e f) ρ).ge (.bool (!decide (i ∈ l))) := by
  rcases g with g | g
  · refine ge_cmp h g ?_
    show (cmpD .In (iD i) (.tuple (l.map iD)) >>= fun r => (pure (!r) : M Bool)) = _
    rw [in_nats]
    rfl
  · refine ge_cmp h g ?_
    show (cmpD .In (iD i) (.list (l.map iD)) >>= fun r => (pure (!r) : M Bool)) = _
    rw [in_natsL]
    rfl
theorem ge_in {ρ : Ev} {e f : E} {i : Nat} {l : List Nat} (h : (dE e ρ).ge (.int (i : Nat))) (g : (dE f ρ).ge (.tuple (l.map iD)) ∨ (dE f ρ).ge (.list (l.map iD))) : (dE (.cmp .In e f) ρ).ge (.bool (decide (i ∈ l))) := by
  rcases g with g | g
  · exact ge_cmp h g (in_nats i l)
  · exact ge_cmp h g (in_natsL i l)
/-! sorted(set(numbers)) -/
theorem eqv_iD (a b : Nat) : PyData.eqv (iD a) (iD b) = decide (a = b) := by
  rw [show PyData.eqv (iD a) (iD b) = decide ((a : Int) = (b : Int)) from eqv_int _ _]
  exact decide_eq_decide.mpr (by omega)
theorem nats_ok (c : List Nat) : sortable (c.map iD) := by
  refine ⟨W.AllAlike.of fun a b => by show W.alike (.int _) (.int _) = true; simp only [W.alike], fun x hx => ?_, .inr fun x hx ys z => ?_⟩
  · obtain ⟨p, _, rfl⟩ := List.mem_map.mp hx
    exact ⟨(by intro h; cases h), Nat.zero_le _, rfl⟩
  · obtain ⟨p, _, rfl⟩ := List.mem_map.mp hx
    cases z
theorem sort_back {ys : List D} {c : List Nat} (h : ys.Perm (c.map iD)) : ∃ m : List Nat, sortD ys = m.map iD ∧ ∀ x, x ∈ m ↔ x ∈ c := by
  have p : (sortD ys).Perm (c.map iD) := (List.mergeSort_perm ys _).trans h
  obtain ⟨m, e⟩ := back_map (enc := iD) fun d hd => p.mem_iff.mp hd
  refine ⟨m, e, fun x => ?_⟩
  rw [e] at p
  have j : ∀ l : List Nat, x ∈ l ↔ iD x ∈ l.map iD := fun l => ⟨fun h => List.mem_map.mpr ⟨x, h, rfl⟩, fun h => by
    obtain ⟨y, hy, e⟩ := List.mem_map.mp h
    have e : (y : Int) = (x : Int) := PyData.int.inj e
    have e : y = x := by omega
    exact e ▸ hy⟩
  exact (j m).trans (p.mem_iff.trans (j c).symm)
theorem sortedSet_nats {c : List Nat} (hl : c.length < 4000) {Q : D → Nat → Prop} {R : XV → Nat → Prop} {b : Nat} (q : ∀ m : List Nat, (∀ x, x ∈ m ↔ x ∈ c) → Q (.list (m.map iD)) b) : (biD .sortedSet [.list (c.map iD)]).run Q R b := by
  refine ⟨⟨nats_ok c, .inl ⟨fun x hx => ?_, by rw [List.length_map]; exact hl⟩⟩, fun ys hys => ?_⟩
  · obtain ⟨p, _, rfl⟩ := List.mem_map.mp hx
    exact ⟨_, rfl⟩
  · rw [once_enc eqv_iD] at hys
    obtain ⟨m, e, hm⟩ := sort_back hys
    show Q (.list (sortD ys)) b
    rw [e]
    exact q m fun x => (hm x).trans (mem_once c x)
end Ad
namespace Ad
open PySem

/-! ### lots of sayings, plainly -/
def hits (a : List (Nat × Nat)) (l : List Nat) : List Nat := (a.filter fun p => decide (p.1 ∈ l)).map (·.2)
def hitB (a : List (Nat × Nat)) (l : List Nat) (k : Nat) : Bool := decide (k ∈ hits a l)
theorem hit_iff {a : List (Nat × Nat)} {l : List Nat} {k : Nat} : hitB a l k = true ↔ ∃ p, p ∈ a ∧ p.1 ∈ l ∧ p.2 = k := by
  unfold hitB hits
  rw [decide_eq_true_eq, List.mem_map]
  refine ⟨fun ⟨p, hp, e⟩ => ?_, fun ⟨p, hp, h, e⟩ => ⟨p, List.mem_filter.mpr ⟨hp, decide_eq_true h⟩, e⟩⟩
  obtain ⟨h1, h2⟩ := List.mem_filter.mp hp
  exact ⟨p, h1, of_decide_eq_true h2, e⟩
def freeB (a : List (Nat × Nat)) (l : List Nat) : Bool := a.all fun p => !(decide (p.1 ∈ l) && decide (p.2 ∈ l))
def ansB (a : List (Nat × Nat)) (l : List Nat) (k : Nat) : Bool := a.all fun p => !(decide (p.2 = k) && !hitB a l p.1)
def answL (n : Nat) (a : List (Nat × Nat)) (l : List Nat) : List Nat := (List.range n).filter (ansB a l)
def goodB (n : Nat) (a : List (Nat × Nat)) (l : List Nat) : Bool := freeB a l && l.all fun k => decide (k ∈ answL n a l)
def closB (n : Nat) (a : List (Nat × Nat)) (l : List Nat) : Bool := freeB a l && decide (answL n a l = l)
def ruleB (n : Nat) (a : List (Nat × Nat)) (l : List Nat) : Bool := freeB a l && (List.range n).all fun k => !(!decide (k ∈ l) && !hitB a l k)
theorem clos_good {n : Nat} {a : List (Nat × Nat)} {l : List Nat} (h : closB n a l = true) : goodB n a l = true := by
  unfold closB at h
  unfold goodB
  rw [Bool.and_eq_true, decide_eq_true_eq] at h
  rw [h.1, h.2]
  simp
def sub (l m : List Nat) : Bool := l.all fun x => decide (x ∈ m)
theorem sub_iff {l m : List Nat} : sub l m = true ↔ ∀ x, x ∈ l → x ∈ m := by
  unfold sub
  rw [List.all_eq_true]
  exact ⟨fun h x hx => of_decide_eq_true (h x hx), fun h x hx => decide_eq_true (h x hx)⟩
theorem Inc.nodup {l : List Nat} (h : Inc l) : l.Nodup := h.imp fun {p q} z e => by
  subst e
  omega
theorem sub_lt {l m : List Nat} (hl : Inc l) (hm : Inc m) (h : sub l m = true) (ne : l ≠ m) : l.length < m.length := by
  have h := sub_iff.mp h
  have le := nodup_le l m hl.nodup h
  refine Nat.lt_of_le_of_ne le fun e => ne (hl.ext hm fun x => ⟨h x, fun hx => ?_⟩)
  refine Decidable.byContradiction fun hn => ?_
  have := nodup_le (x :: l) m (List.nodup_cons.mpr ⟨hn, hl.nodup⟩) fun y hy => by
    rcases List.mem_cons.mp hy with rfl | hy
    · exact hx
    · exact h y hy
  rw [List.length_cons] at this
  omega
/-- all lots of numbers below n -/
def lotsN : Nat → List (List Nat)
  | 0 => [[]]
  | n + 1 => lotsN n ++ (lotsN n).map (· ++ [n])
theorem mem_lotsN : ∀ (n : Nat) (l : List Nat), l ∈ lotsN n ↔ Inc l ∧ ∀ x, x ∈ l → x < n
  | 0, l => by
    show l ∈ [[]] ↔ _
    rw [List.mem_singleton]
    refine ⟨fun e => by subst e; exact ⟨List.Pairwise.nil, fun x hx => nomatch hx⟩, fun ⟨_, h⟩ => ?_⟩
    cases l with
    | nil => rfl
    | cons x l => exact absurd (h x List.mem_cons_self) (Nat.not_lt_zero x)
  | n + 1, l => by
    show l ∈ lotsN n ++ (lotsN n).map (· ++ [n]) ↔ _
    rw [List.mem_append, List.mem_map]
    refine ⟨fun h => ?_, fun ⟨h1, h2⟩ => ?_⟩
    · rcases h with h | ⟨m, hm, rfl⟩
      · obtain ⟨h1, h2⟩ := (mem_lotsN n l).mp h
        exact ⟨h1, fun x hx => Nat.lt_succ_of_lt (h2 x hx)⟩
      · obtain ⟨h1, h2⟩ := (mem_lotsN n m).mp hm
        refine ⟨List.pairwise_append.mpr ⟨h1, List.pairwise_singleton _ _, fun x hx y hy => ?_⟩, fun x hx => ?_⟩
        · rw [List.mem_singleton.mp hy]
          exact h2 x hx
        · rcases List.mem_append.mp hx with hx | hx
          · exact Nat.lt_succ_of_lt (h2 x hx)
          · rw [List.mem_singleton.mp hx]
            exact Nat.lt_succ_self n
    · rcases List.eq_nil_or_concat l with rfl | ⟨m, x, e⟩
      · exact .inl ((mem_lotsN n []).mpr ⟨List.Pairwise.nil, fun x hx => nomatch hx⟩)
      · rw [List.concat_eq_append] at e
        subst e
        obtain ⟨g1, _, g3⟩ := List.pairwise_append.mp h1
        have hx := h2 x (List.mem_append.mpr (.inr (List.mem_singleton.mpr rfl)))
        by_cases e : x = n
        · subst e
          exact .inr ⟨m, (mem_lotsN x m).mpr ⟨g1, fun y hy => g3 y hy x (List.mem_singleton.mpr rfl)⟩, rfl⟩
        · refine .inl ((mem_lotsN n _).mpr ⟨h1, fun y hy => ?_⟩)
          rcases List.mem_append.mp hy with hy | hy
          · have := g3 y hy x (List.mem_singleton.mpr rfl)
            omega
          · rw [List.mem_singleton.mp hy]
            omega
theorem nodup_lotsN : ∀ n, (lotsN n).Nodup
  | 0 => List.pairwise_singleton _ _
  | n + 1 => by
    show (lotsN n ++ (lotsN n).map (· ++ [n])).Nodup
    refine List.nodup_append.mpr ⟨nodup_lotsN n, ?_, fun x hx y hy e => ?_⟩
    · refine List.pairwise_map.mpr ((nodup_lotsN n).imp fun {p q} h e => h (List.append_cancel_right e))
    · subst e
      obtain ⟨m, _, rfl⟩ := List.mem_map.mp hy
      exact absurd (((mem_lotsN n _).mp hx).2 n (List.mem_append.mpr (.inr (List.mem_singleton.mpr rfl)))) (Nat.lt_irrefl n)
theorem len_lotsN : ∀ n, (lotsN n).length = 2 ^ n
  | 0 => rfl
  | n + 1 => by
    show (lotsN n ++ (lotsN n).map (· ++ [n])).length = _
    rw [List.length_append, List.length_map, len_lotsN n, Nat.pow_succ]
    omega
theorem len_lots {n : Nat} (hn : n ≤ 10) : (lotsN n).length ≤ 1024 := by
  rw [len_lotsN]
  exact Nat.pow_le_pow_right (by decide) hn
def lotsS (n : Nat) : List (List Nat) := (lotsN n).mergeSort leL
theorem mem_lotsS (n : Nat) (l : List Nat) : l ∈ lotsS n ↔ l ∈ lotsN n := (List.mergeSort_perm _ _).mem_iff
theorem len_lotsS {n : Nat} (hn : n ≤ 10) : (lotsS n).length ≤ 1024 := by
  unfold lotsS
  rw [List.length_mergeSort]
  exact len_lots hn
theorem nodup_lotsS (n : Nat) : (lotsS n).Nodup := (List.mergeSort_perm _ _).nodup_iff.mpr (nodup_lotsN n)
/-! what is widest -/
def mxB (L : List (List Nat)) (x : List Nat) : Bool := L.all fun m => !(!decide (m = x) && sub x m)
theorem mx_iff {L : List (List Nat)} {x : List Nat} : mxB L x = true ↔ ∀ m, m ∈ L → m ≠ x → sub x m = false := by
  unfold mxB
  rw [List.all_eq_true]
  refine ⟨fun h m hm e => ?_, fun h m hm => ?_⟩
  · have := h m hm
    rw [decide_eq_false e] at this
    simpa using this
  · by_cases e : m = x
    · rw [decide_eq_true e]
      rfl
    · rw [decide_eq_false e, h m hm e]
      rfl
theorem mx_top {L : List (List Nat)} (hi : ∀ l, l ∈ L → Inc l) {x : List Nat} (hx : Inc x) {N : Nat} (hN : ∀ l, l ∈ L → l.length ≤ N) (m : List Nat) (hm : m ∈ L) (ne : m ≠ x) (hs : sub x m = true) : ∃ m', m' ∈ L ∧ m' ≠ x ∧ sub x m' = true ∧ mxB L m' = true := by
  cases h : mxB L m with
  | true => exact ⟨m, hm, ne, hs, h⟩
  | false =>
    have : ∃ m2, m2 ∈ L ∧ m2 ≠ m ∧ sub m m2 = true := Decidable.byContradiction fun q => by
      rw [mx_iff.mpr fun m2 h2 h3 => by
        cases h4 : sub m m2 with
        | false => rfl
        | true => exact absurd ⟨m2, h2, h3, h4⟩ q] at h
      cases h
    obtain ⟨m2, h2, h3, h4⟩ := this
    have l1 := sub_lt (hi m hm) (hi m2 h2) h4 (Ne.symm h3)
    have l2 := sub_lt hx (hi m hm) hs (Ne.symm ne)
    have l3 := hN m2 h2
    exact mx_top hi hx hN m2 h2 (fun e => by rw [e] at l1; omega) (sub_iff.mpr fun y hy => sub_iff.mp h4 y (sub_iff.mp hs y hy))
termination_by N - m.length
theorem full_key {L : List (List Nat)} (hs : L.Pairwise fun a b => b.length ≤ a.length) (hn : L.Nodup) (hi : ∀ l, l ∈ L → Inc l) {N : Nat} (hN : ∀ l, l ∈ L → l.length ≤ N) {k : Nat} {x : List Nat} (hx : L[k]? = some x) : (((L.take k).filter (mxB L)).all fun m => !sub x m) = mxB L x := by
  obtain ⟨hk, ex⟩ := List.getElem?_eq_some_iff.mp hx
  have xm : x ∈ L := List.mem_of_getElem? hx
  rw [Bool.eq_iff_iff, List.all_eq_true]
  refine ⟨fun h => ?_, fun h m hm => ?_⟩
  · refine Decidable.byContradiction fun q => ?_
    have : ∃ m, m ∈ L ∧ m ≠ x ∧ sub x m = true := Decidable.byContradiction fun z => q (mx_iff.mpr fun m h1 h2 => by
      cases h3 : sub x m with
      | false => rfl
      | true => exact absurd ⟨m, h1, h2, h3⟩ z)
    obtain ⟨m0, h1, h2, h3⟩ := this
    obtain ⟨m, m1, m2, m3, m4⟩ := mx_top hi (hi x xm) hN m0 h1 h2 h3
    have lt := sub_lt (hi x xm) (hi m m1) m3 (Ne.symm m2)
    obtain ⟨j, hj, ej⟩ := List.getElem_of_mem m1
    have jk : j < k := by
      rcases Nat.lt_trichotomy j k with h | h | h
      · exact h
      · subst h
        exact absurd (ej.symm.trans ex) m2
      · have := List.pairwise_iff_getElem.mp hs k j hk hj h
        rw [ej, ex] at this
        omega
    have mt : m ∈ L.take k := List.mem_take_iff_getElem.mpr ⟨j, by omega, ej⟩
    have := h m (List.mem_filter.mpr ⟨mt, m4⟩)
    rw [m3] at this
    cases this
  · obtain ⟨h1, _⟩ := List.mem_filter.mp hm
    have ne : m ≠ x := fun e => by
      subst e
      obtain ⟨j, hj, ej⟩ := List.mem_take_iff_getElem.mp h1
      have hj2 : j < k := by omega
      exact List.pairwise_iff_getElem.mp hn j k (by omega) hk hj2 (ej.trans ex.symm)
    rw [mx_iff.mp h m (List.mem_of_mem_take h1) ne]
    rfl
theorem all_perm {α : Type} {l m : List α} (p : l.Perm m) (f : α → Bool) : l.all f = m.all f := by
  rw [Bool.eq_iff_iff, List.all_eq_true, List.all_eq_true]
  exact ⟨fun h x hx => h x (p.mem_iff.mpr hx), fun h x hx => h x (p.mem_iff.mp hx)⟩
theorem mx_perm {l m : List (List Nat)} (p : l.Perm m) (x : List Nat) : mxB l x = mxB m x := all_perm p _
theorem sort_perm {l m : List (List Nat)} (p : l.Perm m) : l.mergeSort leL = m.mergeSort leL := perm_eq (fun _ _ => leL_anti) ((List.mergeSort_perm _ _).trans (p.trans (List.mergeSort_perm _ _).symm)) (List.pairwise_mergeSort leL_trans leL_total _) (List.pairwise_mergeSort leL_trans leL_total _)
/-- answering lots -/
def goodN (n : Nat) (a : List (Nat × Nat)) : List (List Nat) := (lotsN n).filter (goodB n a)
def maxB (n : Nat) (a : List (Nat × Nat)) (l : List Nat) : Bool := goodB n a l && mxB (goodN n a) l
def negLen (l : List Nat) : Int := 0 - (l.length : Int)
def fullF (n : Nat) (a : List (Nat × Nat)) : List (List Nat) := ((goodN n a).mergeSort (leF negLen)).filter (mxB (goodN n a))
theorem full_sorted (n : Nat) (a : List (Nat × Nat)) : (fullF n a).mergeSort leL = (lotsS n).filter (maxB n a) := by
  unfold lotsS
  rw [← sortL_filter]
  refine sort_perm ((List.mergeSort_perm (goodN n a) _).filter _ |>.trans ?_)
  unfold goodN
  rw [List.filter_filter]
  refine List.Perm.of_eq (List.filter_congr fun l _ => ?_)
  show (mxB (goodN n a) l && goodB n a l) = _
  rw [Bool.and_comm]
  rfl
theorem full_step {n k : Nat} {a : List (Nat × Nat)} {x : List Nat} (hx : ((goodN n a).mergeSort (leF negLen))[k]? = some x) : (((((goodN n a).mergeSort (leF negLen)).take k).filter (mxB (goodN n a))).all fun m => !sub x m) = mxB (goodN n a) x := by
  have p := List.mergeSort_perm (goodN n a) (leF negLen)
  have i : ∀ l, l ∈ (goodN n a).mergeSort (leF negLen) → l ∈ lotsN n := fun l hl => (List.mem_filter.mp (p.mem_iff.mp hl)).1
  have e : mxB ((goodN n a).mergeSort (leF negLen)) = mxB (goodN n a) := funext fun y => mx_perm p y
  rw [← e]
  refine full_key (N := n) ?_ (p.nodup_iff.mpr ((nodup_lotsN n).filter _)) (fun l hl => ((mem_lotsN n l).mp (i l hl)).1) (fun l hl => ?_) hx
  · refine (List.pairwise_mergeSort (leF_trans negLen) (leF_total negLen) (goodN n a)).imp fun {x y} h => ?_
    unfold leF negLen at h
    simp only [Bool.or_eq_true, Bool.and_eq_true, decide_eq_true_eq] at h
    omega
  · obtain ⟨h1, h2⟩ := (mem_lotsN n l).mp (i l hl)
    have := nodup_le l (List.range n) h1.nodup fun x hx => List.mem_range.mpr (h2 x hx)
    rw [List.length_range] at this
    exact this
end Ad

namespace Ad
open PySem
def attackersL (n : Nat) (a : List (Nat × Nat)) : List D := (List.range n).map fun s => .list ((a.filter fun p => decide (p.2 = s)).map fun p => iD p.1)
/-! ### marks: in which round, granted or fallen -/
def markD (m : Nat × Bool) : D := .list [.int m.1, .bool m.2]
abbrev Marks := List (Nat × Bool)
def mk (m : Marks) (s : Nat) : Nat × Bool := m.getD s (0, false)
theorem ix_mark {m : Marks} {s : Nat} (h : s < m.length) : ixD (.list (m.map markD)) (.int s) = pure (markD (mk m s)) := by
  have e : (m.map markD)[s]? = some (markD (mk m s)) := by
    rw [List.getElem?_map, List.getElem?_eq_getElem h]
    unfold mk
    rw [List.getD_eq_getElem?_getD, List.getElem?_eq_getElem h]
    rfl
  show oget (L2.atI _ _) = _
  rw [L2.atI_nat e]
  rfl
theorem set_mark {m : Marks} {s : Nat} (h : s < m.length) (v : Nat × Bool) : L2.ixN (m.map markD).length s = some s ∧ (m.map markD).set s (markD v) = (m.set s v).map markD := by
  refine ⟨?_, (List.map_set).symm⟩
  unfold L2.ixN
  rw [List.length_map, if_pos (by omega), if_pos (by omega)]
  simp
def fallenB (m : Marks) (s : Nat) : Bool := decide (0 < (mk m s).1) && !(mk m s).2
def fallen (n : Nat) (m : Marks) : List Nat := (List.range n).filter (fallenB m)
def attOf (a : List (Nat × Nat)) (s : Nat) : List Nat := (a.filter fun p => decide (p.2 = s)).map (·.1)
def freshB (a : List (Nat × Nat)) (m : Marks) (fs : List Nat) (s : Nat) : Bool := decide ((mk m s).1 = 0) && ((attOf a s).filter fun x => !decide (x ∈ fs)).isEmpty
def fresh (n : Nat) (a : List (Nat × Nat)) (m : Marks) (fs : List Nat) : List Nat := (List.range n).filter (freshB a m fs)
def grantL (r : Nat) (m : Marks) (l : List Nat) : Marks := l.foldl (fun m s => m.set s (r, true)) m
def fall1 (r : Nat) (m : Marks) (p : Nat × Nat) : Marks := if (mk m p.1).2 && decide ((mk m p.2).1 = 0) then m.set p.2 (r, false) else m
def fallL (r : Nat) (a : List (Nat × Nat)) (m : Marks) : Marks := a.foldl (fall1 r) m
def step (n : Nat) (a : List (Nat × Nat)) (r : Nat) (m : Marks) : Marks := fallL r a (grantL r m (fresh n a m (fallen n m)))
theorem mk_set (m : Marks) (i j : Nat) (v : Nat × Bool) (h : i < m.length) : mk (m.set i v) j = if i = j then v else mk m j := by
  unfold mk
  rw [List.getD_eq_getElem?_getD, List.getD_eq_getElem?_getD, List.getElem?_set]
  split
  · rename_i e
    subst e
    simp [h]
  · rfl
theorem grantL_len (r : Nat) : ∀ (l : List Nat) (m : Marks), (grantL r m l).length = m.length
  | [], _ => rfl
  | s :: l, m => (grantL_len r l (m.set s (r, true))).trans (List.length_set ..)
theorem fall1_len (r : Nat) (m : Marks) (p : Nat × Nat) : (fall1 r m p).length = m.length := by
  unfold fall1
  split
  · exact List.length_set ..
  · rfl
theorem fallL_len (r : Nat) : ∀ (a : List (Nat × Nat)) (m : Marks), (fallL r a m).length = m.length
  | [], _ => rfl
  | p :: a, m => (fallL_len r a (fall1 r m p)).trans (fall1_len r m p)
theorem step_len (n : Nat) (a : List (Nat × Nat)) (r : Nat) (m : Marks) : (step n a r m).length = m.length := (fallL_len ..).trans (grantL_len ..)
theorem e_mark0 {ρ : Ev} {m : Marks} {s w v : Nat} (h1 : lookB ρ w = pure (.list (m.map markD))) (h2 : look ρ v = pure (iD s)) (hs : s < m.length) : dE (.ix (.ix (.w w) (.v v)) (.k (.int 0))) ρ = pure (.int (mk m s).1) := by
  show (lookB ρ w >>= fun x => look ρ v >>= fun y => ixD x y) >>= (fun x => ixD x (.int 0)) = _
  rw [h1, M.pb, h2, M.pb]
  show ixD (.list (m.map markD)) (.int s) >>= _ = _
  rw [ix_mark hs]
  rfl
theorem e_mark1 {ρ : Ev} {m : Marks} {s w v : Nat} (h1 : lookB ρ w = pure (.list (m.map markD))) (h2 : look ρ v = pure (iD s)) (hs : s < m.length) : dE (.ix (.ix (.w w) (.v v)) (.k (.int 1))) ρ = pure (.bool (mk m s).2) := by
  show (lookB ρ w >>= fun x => look ρ v >>= fun y => ixD x y) >>= (fun x => ixD x (.int 1)) = _
  rw [h1, M.pb, h2, M.pb]
  show ixD (.list (m.map markD)) (.int s) >>= _ = _
  rw [ix_mark hs]
  rfl
theorem e_fallen {ρ : Ev} {m : Marks} {s w v : Nat} (h1 : lookB ρ w = pure (.list (m.map markD))) (h2 : look ρ v = pure (iD s)) (hs : s < m.length) :
    dE (.and (.cmp .Gt (.ix (.ix (.w w) (.v v)) (.k (.int 0))) (.k (.int 0))) (.not (.ix (.ix (.w w) (.v v)) (.k (.int 1))))) ρ = pure (.bool (fallenB m s)) := by
  have e : dE (.and (.cmp .Gt (.ix (.ix (.w w) (.v v)) (.k (.int 0))) (.k (.int 0))) (.not (.ix (.ix (.w w) (.v v)) (.k (.int 1))))) ρ = (dE (.ix (.ix (.w w) (.v v)) (.k (.int 0))) ρ >>= fun x => cmpD .Gt x (.int 0)) >>= fun c => if c then (dE (.ix (.ix (.w w) (.v v)) (.k (.int 1))) ρ >>= fun x => asBool x >>= fun b => (pure (.bool (!b)) : M D)) else pure (.bool false) := M.ext (by
    funext Q R b
    exact propext ⟨fun q => q, fun q => q⟩)
  rw [e, e_mark0 h1 h2 hs, e_mark1 h1 h2 hs]
  show (if decide (0 < ((mk m s).1 : Int)) then (pure (.bool (!(mk m s).2)) : M D) else pure (.bool false)) = _
  unfold fallenB
  by_cases h : 0 < (mk m s).1
  · rw [if_pos (decide_eq_true (by omega)), decide_eq_true h]
    rfl
  · rw [if_neg (fun z => h (by have := of_decide_eq_true z; omega)), decide_eq_false h]
    rfl
theorem e_web0 {ρ : Ev} {n : Nat} {a : List (Nat × Nat)} (h : ρ[0]? = some (some (webD n a, false))) : dE (.ix (.v 0) (.k (.int 0))) ρ = pure (.int n) := by
  show look ρ 0 >>= _ = _
  rw [look_some h]
  rfl
theorem e_web1 {ρ : Ev} {n : Nat} {a : List (Nat × Nat)} (h : ρ[0]? = some (some (webD n a, false))) : dE (.ix (.v 0) (.k (.int 1))) ρ = pure (.tuple (a.map pairD)) := by
  show look ρ 0 >>= _ = _
  rw [look_some h]
  rfl

/-- a comprehension over the sayings, into a slot of its own -/
theorem lc_range {ρ : Ev} {n v : Nat} {a : List (Nat × Nat)} {tst : E} (keep : Nat → Bool) (h0 : ρ[0]? = some (some (webD n a, false))) (hv : v < ρ.length) (hv0 : v ≠ 0) (ho : noOwn ρ [v] = true) (hn : n ≤ 1000)
    (h : ∀ s, s < n → ∀ ρ1 : Ev, ρ1.length = ρ.length → ρ1[v]? = some (some (iD s, false)) → (∀ j, j ≠ v → ρ1[j]? = ρ[j]?) → dE tst ρ1 = pure (.bool (keep s))) :
    dE (.lc [v] (.n v) (.bi .range1 (.cons (.ix (.v 0) (.k (.int 0))) .nil)) tst (.v v)) ρ = pure (.list (((List.range n).filter keep).map iD)) := by
  refine lc_eq (List.range n) iD keep _ (range_eq (e_web0 h0) (by omega)) ho (by rw [List.length_range]; omega) fun s hs => ⟨_, rfl, ?_, fun _ => ?_⟩
  · refine h s (List.mem_range.mp hs) _ ?_ ?_ fun j hj => ?_
    · show ((ρ.set v none).set v _).length = _
      rw [List.length_set, List.length_set]
    · exact List.getElem?_set_self (by
        show v < (ρ.set v none).length
        rw [List.length_set]
        exact hv)
    · show ((ρ.set v none).set v _)[j]? = _
      rw [List.getElem?_set_ne (Ne.symm hj), List.getElem?_set_ne (Ne.symm hj)]
  · exact look_some (List.getElem?_set_self (by
        show v < (ρ.set v none).length
        rw [List.length_set]
        exact hv))
theorem lc_fallen {ρ : Ev} {n v w : Nat} {a : List (Nat × Nat)} {m : Marks} {o : Bool} (h0 : ρ[0]? = some (some (webD n a, false))) (hm : ρ[w]? = some (some (.list (m.map markD), o))) (hl : m.length = n) (hv : v < ρ.length) (hv0 : v ≠ 0) (hvw : w ≠ v) (ho : noOwn ρ [v] = true) (hn : n ≤ 1000) :
    dE (.lc [v] (.n v) (.bi .range1 (.cons (.ix (.v 0) (.k (.int 0))) .nil)) (.and (.cmp .Gt (.ix (.ix (.w w) (.v v)) (.k (.int 0))) (.k (.int 0))) (.not (.ix (.ix (.w w) (.v v)) (.k (.int 1))))) (.v v)) ρ = pure (.list ((fallen n m).map iD)) :=
  lc_range (fallenB m) h0 hv hv0 ho hn fun s hs ρ1 _ h1 h2 => e_fallen (lookB_some ((h2 w hvw).trans hm)) (look_some h1) (by omega)
/-- marks kept in slot w, all slots but v's kept -/
structure MkInv (n w : Nat) (vs : List Nat) (ρ0 : Ev) (m : Marks) (ρ : Ev) : Prop where
  len : ρ.length = ρ0.length
  ml : m.length = n
  at_ : ρ[w]? = some (some (.list (m.map markD), true))
  rest : ∀ j, j ≠ w → j ∉ vs → ρ[j]? = ρ0[j]?
  wn : w ∉ vs
  fre : ∀ j, j ∈ vs → ∀ d, ρ[j]? ≠ some (some (d, true))
theorem set_at_eval {n w v : Nat} {vs : List Nat} {ρ0 ρ : Ev} {m : Marks} {s : Nat} {e : E} {x : Nat × Bool} (hI : MkInv n w vs ρ0 m ρ) (hw : w < ρ0.length) (he : dE e ρ = pure (markD x)) (hv : look ρ v = pure (iD s)) (hs : s < n) :
    ∃ ρ', dS (.set w (.v v) e) ρ = pure (.nx ρ') ∧ MkInv n w vs ρ0 (m.set s x) ρ' := by
  refine ⟨setO ρ w ((m.set s x).map markD), ?_, ?_⟩
  · have e1 : dS (.set w (.v v) e) ρ = (dE e ρ >>= fun d => lookO ρ w >>= fun xs => look ρ v >>= fun j => asInt j >>= fun k => oget (L2.ixN xs.length k) >>= fun n => (pure (.nx (setO ρ w (xs.set n d))) : M Rz)) := rfl
    have e2 : lookO ρ w = pure (m.map markD) := by
      unfold lookO
      rw [hI.at_]
    obtain ⟨g1, g2⟩ := set_mark (m := m) (s := s) (by rw [hI.ml]; exact hs) x
    rw [e1, he, M.pb, e2, M.pb, hv, M.pb]
    show oget (L2.ixN (m.map markD).length (s : Int)) >>= _ = _
    rw [g1]
    show (pure (Rz.nx (setO ρ w ((m.map markD).set s (markD x)))) : M Rz) = _
    rw [g2]
  · exact ⟨by unfold setO; rw [List.length_set]; exact hI.len, by rw [List.length_set]; exact hI.ml, by
      unfold setO
      exact List.getElem?_set_self (by rw [hI.len]; exact hw), fun j h1 h2 => by
      unfold setO
      rw [List.getElem?_set_ne (Ne.symm h1)]
      exact hI.rest j h1 h2, hI.wn, fun j hj d => by
      unfold setO
      rw [List.getElem?_set_ne (show w ≠ j from fun e => hI.wn (e ▸ hj))]
      exact hI.fre j hj d⟩
theorem mark_lit {ρ : Ev} {c r : Nat} {t : Bool} (h : look ρ c = pure (.int r)) : dE (.lst (.cons (.v c) (.cons (.k (.bool t)) .nil))) ρ = pure (markD (r, t)) := by
  show (look ρ c >>= fun x => (pure [x, .bool t] : M (List D))) >>= _ = _
  rw [h]
  rfl
/-- the loop that grants what is fresh -/
theorem for_grant {n w v f c r : Nat} {vs : List Nat} {ρ0 ρ : Ev} {m : Marks} {fs : List Nat} {Q : Rz → Nat → Prop} {R : XV → Nat → Prop} {b : Nat} (hI : MkInv n w vs ρ0 m ρ) (hw : w < ρ0.length) (hv : v < ρ0.length) (hvs : v ∈ vs) (hwv : w ≠ v) (hcw : c ≠ w) (hcv : c ∉ vs) (hf : look ρ f = pure (.list (fs.map iD)))
    (hc : ρ0[c]? = some (some (.int r, false))) (hn : ∀ s, s ∈ fs → s < n) (hq : ∀ ρ', MkInv n w vs ρ0 (grantL r m fs) ρ' → Q (.nx ρ') b) :
    (dS (.for (.n v) (.v f) (.cons (.set w (.v v) (.lst (.cons (.v c) (.cons (.k (.bool true)) .nil)))) .nil)) ρ).run Q R b := by
  show ((look ρ f >>= fun s => walked s) >>= fun xs => forE _ xs ρ).run Q R b
  rw [hf]
  refine forE_fold (enc := iD) (α := Nat) (β := Marks) (st := fun m s => m.set s (r, true)) (Inv := MkInv n w vs ρ0) hI (fun s hs z ρ1 h1 => ?_) hq
  have h2 : MkInv n w vs ρ0 z (ρ1.set v (some (iD s, false))) := ⟨by rw [List.length_set]; exact h1.len, h1.ml, by rw [List.getElem?_set_ne (Ne.symm hwv)]; exact h1.at_, fun j g1 g2 => by
    rw [List.getElem?_set_ne (show v ≠ j from fun e => g2 (e ▸ hvs))]
    exact h1.rest j g1 g2, h1.wn, fre_set h1.fre v _⟩
  obtain ⟨ρ', e, h3⟩ := set_at_eval (v := v) (s := s) (x := (r, true)) h2 hw (mark_lit (look_some ((h2.rest c hcw hcv).trans hc))) (look_some (List.getElem?_set_self (by rw [h1.len]; exact hv))) (hn s hs)
  exact ⟨ρ', seq_one e, h3⟩
/-- the loop over the attacks: what granted sayings attack falls -/
theorem for_fall {n w v u c r : Nat} {vs : List Nat} {ρ0 ρ : Ev} {m : Marks} {a : List (Nat × Nat)} {Q : Rz → Nat → Prop} {R : XV → Nat → Prop} {b : Nat} (hI : MkInv n w vs ρ0 m ρ) (hw : w < ρ0.length) (hv : v < ρ0.length) (hu : u < ρ0.length) (hvs : v ∈ vs) (hus : u ∈ vs) (hwv : w ≠ v) (hwu : w ≠ u) (hvu : v ≠ u) (hcw : c ≠ w) (hcv : c ∉ vs)
    (hf : ρ[0]? = some (some (webD n a, false))) (hc : ρ0[c]? = some (some (.int r, false))) (hn : ∀ p, p ∈ a → p.1 < n ∧ p.2 < n) (hq : ∀ ρ', MkInv n w vs ρ0 (fallL r a m) ρ' → Q (.nx ρ') b) :
    (dS (.for (.t [v, u]) (.ix (.v 0) (.k (.int 1))) (.cons (.ite (.and (.ix (.ix (.w w) (.v v)) (.k (.int 1))) (.cmp .Eq (.ix (.ix (.w w) (.v u)) (.k (.int 0))) (.k (.int 0)))) (.cons (.set w (.v u) (.lst (.cons (.v c) (.cons (.k (.bool false)) .nil)))) .nil) .nil) .nil)) ρ).run Q R b := by
  show ((dE (.ix (.v 0) (.k (.int 1))) ρ >>= fun s => walked s) >>= fun xs => forE _ xs ρ).run Q R b
  rw [e_web1 hf]
  refine forE_fold (enc := pairD) (α := Nat × Nat) (β := Marks) (st := fall1 r) (Inv := MkInv n w vs ρ0) hI (fun p hp z ρ1 h1 => ?_) hq
  obtain ⟨hp1, hp2⟩ := hn p hp
  show ∃ ρ', (bindT ρ1 (.t [v, u]) (.tuple [.int p.1, .int p.2]) >>= fun ρ2 => dSs _ ρ2) = pure (.nx ρ') ∧ _
  rw [bind_pair, M.pb]
  have h2 : MkInv n w vs ρ0 z ((ρ1.set v (some (iD p.1, false))).set u (some (iD p.2, false))) := ⟨by rw [List.length_set, List.length_set]; exact h1.len, h1.ml, by
    rw [List.getElem?_set_ne (Ne.symm hwu), List.getElem?_set_ne (Ne.symm hwv)]; exact h1.at_, fun j g1 g2 => by
    rw [List.getElem?_set_ne (show u ≠ j from fun e => g2 (e ▸ hus)), List.getElem?_set_ne (show v ≠ j from fun e => g2 (e ▸ hvs))]
    exact h1.rest j g1 g2, h1.wn, fre_set (fre_set h1.fre v _) u _⟩
  have lv : look ((ρ1.set v (some (iD p.1, false))).set u (some (iD p.2, false))) v = pure (iD p.1) := look_some (by
    rw [List.getElem?_set_ne (Ne.symm hvu)]
    exact List.getElem?_set_self (by rw [h1.len]; exact hv))
  have lu : look ((ρ1.set v (some (iD p.1, false))).set u (some (iD p.2, false))) u = pure (iD p.2) := look_some (List.getElem?_set_self (by
    rw [List.length_set, h1.len]
    exact hu))
  show ∃ ρ', dSs _ ((ρ1.set v (some (iD p.1, false))).set u (some (iD p.2, false))) = pure (.nx ρ') ∧ _
  generalize ((ρ1.set v (some (iD p.1, false))).set u (some (iD p.2, false))) = ρ2 at h2 lv lu ⊢
  have c1 := e_mark1 (lookB_some h2.at_) lv (by rw [h2.ml]; exact hp1)
  have c2 := e_mark0 (lookB_some h2.at_) lu (by rw [h2.ml]; exact hp2)
  have ec : dE (.and (.ix (.ix (.w w) (.v v)) (.k (.int 1))) (.cmp .Eq (.ix (.ix (.w w) (.v u)) (.k (.int 0))) (.k (.int 0)))) ρ2 = pure (.bool ((mk z p.1).2 && decide ((mk z p.2).1 = 0))) := by
    have e : dE (.and (.ix (.ix (.w w) (.v v)) (.k (.int 1))) (.cmp .Eq (.ix (.ix (.w w) (.v u)) (.k (.int 0))) (.k (.int 0)))) ρ2 = (dE (.ix (.ix (.w w) (.v v)) (.k (.int 1))) ρ2 >>= fun x => asBool x >>= fun c => if c then (dE (.ix (.ix (.w w) (.v u)) (.k (.int 0))) ρ2 >>= fun x => eqD x (.int 0) >>= fun b => (pure (.bool b) : M D)) else pure (.bool false)) := M.ext (by
      funext Q R b
      exact propext ⟨fun q => q, fun q => q⟩)
    rw [e, c1, M.pb, c2]
    cases (mk z p.1).2 with
    | false => rfl
    | true =>
      show (eqD (.int (mk z p.2).1) (.int 0) >>= fun b => (pure (.bool b) : M D)) = _
      rw [eq_int]
      have : decide (((mk z p.2).1 : Int) = 0) = decide ((mk z p.2).1 = 0) := decide_eq_decide.mpr (by omega)
      rw [this]
      rfl
  have es : ∀ A B : Ss, dSs (.cons (.ite (.and (.ix (.ix (.w w) (.v v)) (.k (.int 1))) (.cmp .Eq (.ix (.ix (.w w) (.v u)) (.k (.int 0))) (.k (.int 0)))) A B) .nil) ρ2 = (if ((mk z p.1).2 && decide ((mk z p.2).1 = 0)) then dSs A ρ2 else dSs B ρ2) >>= Rz.sq fun ρ => pure (.nx ρ) := fun A B => by
    show (dE _ ρ2 >>= _) >>= _ = _
    rw [ec]
    rfl
  rw [es]
  unfold fall1
  split
  · obtain ⟨ρ', e, h3⟩ := set_at_eval (v := u) (s := p.2) (x := (r, false)) h2 hw (mark_lit (look_some ((h2.rest c hcw hcv).trans hc))) lu hp2
    refine ⟨ρ', ?_, h3⟩
    rw [seq_one e]
    rfl
  · exact ⟨ρ2, rfl, h2⟩
/-- where the program's while stands -/
structure PState (n : Nat) (a : List (Nat × Nat)) (m : Marks) (r : Nat) (g : Bool) (ρ : Ev) : Prop where
  len : ρ.length = 10
  web : ρ[0]? = some (some (webD n a, false))
  mks : ρ[1]? = some (some (.list (m.map markD), true))
  ml : m.length = n
  own : ρ[2]? = some (some (.list (attackersL n a), false))
  num : ρ[3]? = some (some (.int r, false))
  go : ρ[4]? = some (some (.bool g, false))
  fre : ∀ j, j ∈ [5, 6, 7, 8, 9] → ∀ d, ρ[j]? ≠ some (some (d, true))
theorem PState.set {n : Nat} {a : List (Nat × Nat)} {m : Marks} {r : Nat} {g : Bool} {ρ : Ev} (s : PState n a m r g ρ) {i : Nat} (x : D) (hi : i ∈ [5, 6, 7, 8, 9]) : PState n a m r g (ρ.set i (some (x, false))) := by
  have ne : ∀ j, j < 5 → i ≠ j := fun j hj e => by
    subst e
    simp at hi
    omega
  exact ⟨by rw [List.length_set]; exact s.len, by rw [List.getElem?_set_ne (ne 0 (by omega))]; exact s.web, by rw [List.getElem?_set_ne (ne 1 (by omega))]; exact s.mks, s.ml, by rw [List.getElem?_set_ne (ne 2 (by omega))]; exact s.own, by rw [List.getElem?_set_ne (ne 3 (by omega))]; exact s.num, by rw [List.getElem?_set_ne (ne 4 (by omega))]; exact s.go, fre_set s.fre i x⟩
theorem fresh_lt {n : Nat} {a : List (Nat × Nat)} {m : Marks} {fs : List Nat} : ∀ s, s ∈ fresh n a m fs → s < n := fun s h => List.mem_range.mp (List.mem_filter.mp h).1
theorem aug_eq {ρ : Ev} {r : Nat} (h : ρ[3]? = some (some (.int r, false))) : dS (.aug 3 (.k (.int 1))) ρ = pure (.nx (ρ.set 3 (some (.int (r + 1 : Nat), false)))) := by
  show look ρ 3 >>= _ = _
  rw [look_some h]
  rfl
theorem PState.num' {n : Nat} {a : List (Nat × Nat)} {m : Marks} {r k : Nat} {g : Bool} {ρ : Ev} (s : PState n a m r g ρ) : PState n a m k g (ρ.set 3 (some (.int k, false))) :=
  ⟨by rw [List.length_set]; exact s.len, by rw [List.getElem?_set_ne (by decide)]; exact s.web, by rw [List.getElem?_set_ne (by decide)]; exact s.mks, s.ml, by rw [List.getElem?_set_ne (by decide)]; exact s.own, List.getElem?_set_self (by rw [s.len]; decide), by rw [List.getElem?_set_ne (by decide)]; exact s.go, fre_set s.fre 3 _⟩
/-! ### the plain law of the rounds -/
theorem iteCongr {α : Type} {b c : Prop} [Decidable b] [Decidable c] {x y u v : α} (h : b ↔ c) (h1 : x = u) (h2 : y = v) : (if b then x else y) = if c then u else v := by
  subst h1
  subst h2
  by_cases z : c
  · rw [if_pos z, if_pos (h.mpr z)]
  · rw [if_neg z, if_neg fun w => z (h.mp w)]
theorem anyCongr {α : Type} {f g : α → Bool} : ∀ {l : List α}, (∀ x, x ∈ l → f x = g x) → l.any f = l.any g
  | [], _ => rfl
  | x :: l, h => by rw [List.any_cons, List.any_cons, h x List.mem_cons_self, anyCongr fun y hy => h y (List.mem_cons_of_mem _ hy)]
def frP (a : List (Nat × Nat)) (μ : Nat → Nat × Bool) (s : Nat) : Bool := decide ((μ s).1 = 0) && a.all fun p => !decide (p.2 = s) || (decide (0 < (μ p.1).1) && !(μ p.1).2)
def grP (a : List (Nat × Nat)) (r : Nat) (μ : Nat → Nat × Bool) (s : Nat) : Nat × Bool := if frP a μ s then (r, true) else μ s
def stepP (a : List (Nat × Nat)) (r : Nat) (μ : Nat → Nat × Bool) (s : Nat) : Nat × Bool := if decide ((grP a r μ s).1 = 0) && a.any (fun p => decide (p.2 = s) && (grP a r μ p.1).2) then (r, false) else grP a r μ s
/-- what is not marked is not granted -/
def WfM (m : Marks) : Prop := ∀ s, (mk m s).1 = 0 → (mk m s).2 = false
theorem mk_grantL (r : Nat) : ∀ (l : List Nat) (m : Marks) (s : Nat), (∀ x, x ∈ l → x < m.length) → mk (grantL r m l) s = if s ∈ l then (r, true) else mk m s
  | [], m, s, _ => by simp [grantL]
  | x :: l, m, s, h => by
    have ih := mk_grantL r l (m.set x (r, true)) s fun y hy => by
      rw [List.length_set]
      exact h y (List.mem_cons_of_mem _ hy)
    show mk (grantL r (m.set x (r, true)) l) s = _
    rw [ih, mk_set _ _ _ _ (h x List.mem_cons_self)]
    by_cases h1 : s ∈ l
    · simp [h1]
    · by_cases h2 : x = s
      · subst h2; simp
      · have h3 : s ≠ x := fun e => h2 e.symm
        simp [h1, h2, h3]
theorem mk_fall1 {r : Nat} {m : Marks} {p : Nat × Nat} (hp : p.2 < m.length) (s : Nat) : mk (fall1 r m p) s = if decide ((mk m s).1 = 0) && (decide (p.2 = s) && (mk m p.1).2) then (r, false) else mk m s := by
  unfold fall1
  by_cases h : p.2 = s
  · subst h
    by_cases h1 : (mk m p.2).1 = 0
    · by_cases h2 : (mk m p.1).2 = true
      · rw [if_pos (by simp [h1, h2]), if_pos (by simp [h1, h2]), mk_set _ _ _ _ hp, if_pos rfl]
      · rw [if_neg (by simp [h2]), if_neg (by simp [h2])]
    · rw [if_neg (by simp [h1]), if_neg (by simp [h1])]
  · rw [if_neg (c := (decide _ && _) = true) (by simp [h])]
    split
    · rw [mk_set _ _ _ _ hp, if_neg h]
    · rfl
theorem wf_fall1 {r : Nat} (hr : 0 < r) {m : Marks} {p : Nat × Nat} (hp : p.2 < m.length) (hw : WfM m) : WfM (fall1 r m p) ∧ ∀ s, (mk (fall1 r m p) s).2 = (mk m s).2 := by
  have g : ∀ s, (mk (fall1 r m p) s).2 = (mk m s).2 := fun s => by
    rw [mk_fall1 hp]
    split
    · rename_i h
      rw [hw s (by simp at h; exact h.1)]
    · rfl
  refine ⟨fun s h => ?_, g⟩
  rw [g]
  refine hw s ?_
  rw [mk_fall1 hp] at h
  split at h
  · change r = 0 at h
    omega
  · exact h
theorem mk_fallL {r : Nat} (hr : 0 < r) : ∀ (a : List (Nat × Nat)) (m : Marks), (∀ p, p ∈ a → p.2 < m.length) → WfM m → ∀ s, mk (fallL r a m) s = if decide ((mk m s).1 = 0) && a.any (fun p => decide (p.2 = s) && (mk m p.1).2) then (r, false) else mk m s
  | [], m, _, _, s => by simp [fallL]
  | p :: a, m, h, hw, s => by
    have hp := h p List.mem_cons_self
    obtain ⟨w1, g1⟩ := wf_fall1 hr hp hw
    have ih := mk_fallL hr a (fall1 r m p) (fun q hq => by rw [fall1_len]; exact h q (List.mem_cons_of_mem _ hq)) w1 s
    show mk (fallL r a (fall1 r m p)) s = _
    rw [ih]
    simp only [g1, List.any_cons]
    rw [mk_fall1 hp]
    by_cases h0 : (mk m s).1 = 0
    · by_cases h1 : (decide (p.2 = s) && (mk m p.1).2) = true
      · rw [if_pos (c := (decide ((mk m s).1 = 0) && (decide (p.2 = s) && (mk m p.1).2)) = true) (by simp [h0] at h1 ⊢; exact h1)]
        refine Eq.trans ?_ (if_pos (by rw [h1, Bool.true_or, Bool.and_true]; exact decide_eq_true h0)).symm
        split <;> rfl
      · rw [if_neg (c := (decide ((mk m s).1 = 0) && (decide (p.2 = s) && (mk m p.1).2)) = true) (by simp [h0] at h1 ⊢; exact h1)]
        have h1 : (decide (p.2 = s) && (mk m p.1).2) = false := by simpa using h1
        simp only [h1, Bool.false_or]
    · simp [h0]
theorem wf_grantL {r : Nat} (hr : 0 < r) {l : List Nat} {m : Marks} (h : ∀ x, x ∈ l → x < m.length) (hw : WfM m) : WfM (grantL r m l) := fun s q => by
  rw [mk_grantL r l m s h] at q ⊢
  split at q
  · change r = 0 at q
    omega
  · rename_i g
    rw [if_neg g]
    exact hw s q
theorem fresh_bd {n : Nat} {a : List (Nat × Nat)} {m : Marks} {fs : List Nat} : ∀ s, s ∈ fresh n a m fs → s < n := fun s h => List.mem_range.mp (List.mem_filter.mp h).1
theorem fallenB_eq (m : Marks) (s : Nat) : fallenB m s = (decide (0 < (mk m s).1) && !(mk m s).2) := rfl
/-- freshness, told by the attacks -/
theorem mem_fresh {n : Nat} {a : List (Nat × Nat)} {m : Marks} (ha : InW n a) (s : Nat) : s ∈ fresh n a m (fallen n m) ↔ s < n ∧ (decide ((mk m s).1 = 0) && a.all fun p => !decide (p.2 = s) || fallenB m p.1) = true := by
  unfold fresh
  rw [List.mem_filter, List.mem_range]
  refine and_congr_right fun hs => ?_
  unfold freshB attOf
  rw [Bool.and_eq_true, Bool.and_eq_true, List.isEmpty_iff, List.filter_eq_nil_iff, List.all_eq_true]
  refine and_congr_right fun _ => ⟨fun h p hp => ?_, fun h x hx => ?_⟩
  · by_cases e : p.2 = s
    · have := h p.1 (List.mem_map.mpr ⟨p, List.mem_filter.mpr ⟨hp, by simp [e]⟩, rfl⟩)
      simp at this
      have := (List.mem_filter.mp this).2
      simp [this]
    · simp [e]
  · obtain ⟨p, hp, rfl⟩ := List.mem_map.mp hx
    obtain ⟨hp, e⟩ := List.mem_filter.mp hp
    have := h p hp
    simp at e
    simp [e] at this
    simp
    exact List.mem_filter.mpr ⟨List.mem_range.mpr (ha p hp).1, this⟩
theorem mk_step {n r : Nat} {a : List (Nat × Nat)} {m : Marks} (hr : 0 < r) (ha : InW n a) (hl : m.length = n) (hw : WfM m) {s : Nat} (hs : s < n) : mk (step n a r m) s = stepP a r (mk m) s := by
  have b1 : ∀ x, x ∈ fresh n a m (fallen n m) → x < m.length := fun x hx => hl ▸ fresh_bd x hx
  have g : ∀ x, x < n → mk (grantL r m (fresh n a m (fallen n m))) x = grP a r (mk m) x := fun x hx => by
    rw [mk_grantL _ _ _ _ b1]
    refine iteCongr ?_ rfl rfl
    rw [mem_fresh ha]
    exact ⟨fun q => q.2, fun q => ⟨hx, q⟩⟩
  unfold step
  rw [mk_fallL hr a _ (fun p hp => by rw [grantL_len, hl]; exact (ha p hp).2) (wf_grantL hr b1 hw)]
  unfold stepP
  rw [g s hs]
  refine iteCongr ?_ rfl rfl
  rw [anyCongr fun p hp => by rw [g p.1 (ha p hp).1]]
theorem wf_step {n r : Nat} {a : List (Nat × Nat)} {m : Marks} (hr : 0 < r) (ha : InW n a) (hl : m.length = n) (hw : WfM m) : WfM (step n a r m) := fun s q => by
  have b1 : ∀ x, x ∈ fresh n a m (fallen n m) → x < m.length := fun x hx => hl ▸ fresh_bd x hx
  unfold step at q ⊢
  have k := mk_fallL hr a _ (fun p hp => by rw [grantL_len, hl]; exact (ha p hp).2) (wf_grantL hr b1 hw) s
  rw [k] at q ⊢
  split at q
  · rename_i h
    rw [if_pos h]
  · rename_i h
    rw [if_neg h]
    exact wf_grantL hr b1 hw s q
/-- what granted sayings attack is marked -/
def Sat (a : List (Nat × Nat)) (m : Marks) : Prop := ∀ p, p ∈ a → (mk m p.1).2 = true → (mk m p.2).1 ≠ 0
theorem sat_step {n r : Nat} {a : List (Nat × Nat)} {m : Marks} (hr : 0 < r) (ha : InW n a) (hl : m.length = n) (hw : WfM m) : Sat a (step n a r m) := fun p hp h z => by
  have b1 : ∀ x, x ∈ fresh n a m (fallen n m) → x < m.length := fun x hx => hl ▸ fresh_bd x hx
  unfold step at h z
  have k := mk_fallL hr a _ (fun p hp => by rw [grantL_len, hl]; exact (ha p hp).2) (wf_grantL hr b1 hw)
  rw [k] at h z
  split at h
  · cases h
  split at z
  · change r = 0 at z
    omega
  · rename_i q
    exact q (by
      rw [Bool.and_eq_true, List.any_eq_true]
      exact ⟨decide_eq_true z, p, hp, by simp [h]⟩)
theorem mk_ext {m m' : Marks} (hl : m.length = m'.length) (h : ∀ s, s < m.length → mk m s = mk m' s) : m = m' := by
  refine List.ext_getElem hl fun s h1 h2 => ?_
  have := h s h1
  unfold mk at this
  rw [List.getD_eq_getElem?_getD, List.getD_eq_getElem?_getD, List.getElem?_eq_getElem h1, List.getElem?_eq_getElem h2] at this
  exact this
theorem step_id {n r : Nat} {a : List (Nat × Nat)} {m : Marks} (hr : 0 < r) (ha : InW n a) (hl : m.length = n) (hw : WfM m) (hs : Sat a m) (hf : fresh n a m (fallen n m) = []) : step n a r m = m := by
  refine mk_ext ((step_len ..).trans rfl) fun s _ => ?_
  unfold step
  rw [hf]
  show mk (fallL r a m) s = _
  rw [mk_fallL hr a m (fun p hp => by rw [hl]; exact (ha p hp).2) hw, if_neg]
  intro q
  rw [Bool.and_eq_true, List.any_eq_true] at q
  obtain ⟨q0, p, hp, q⟩ := q
  simp at q q0
  obtain ⟨rfl, q⟩ := q
  exact hs p hp q q0
/-- the rounds -/
def rnd (n : Nat) (a : List (Nat × Nat)) : Nat → Marks
  | 0 => List.replicate n (0, false)
  | i + 1 => step n a (i + 1) (rnd n a i)
theorem mk_zero (n s : Nat) : mk (List.replicate n (0, false)) s = (0, false) := by
  unfold mk
  rw [List.getD_eq_getElem?_getD, List.getElem?_replicate]
  split <;> rfl
theorem rnd_len (n : Nat) (a : List (Nat × Nat)) : ∀ i, (rnd n a i).length = n
  | 0 => List.length_replicate
  | i + 1 => (step_len ..).trans (rnd_len n a i)
theorem rnd_wf {n : Nat} {a : List (Nat × Nat)} (ha : InW n a) : ∀ i, WfM (rnd n a i)
  | 0 => fun s _ => by rw [show rnd n a 0 = List.replicate n (0, false) from rfl, mk_zero]
  | i + 1 => wf_step (Nat.succ_pos i) ha (rnd_len n a i) (rnd_wf ha i)
theorem rnd_sat {n : Nat} {a : List (Nat × Nat)} (ha : InW n a) : ∀ i, Sat a (rnd n a i)
  | 0 => fun p _ h => by
    rw [show rnd n a 0 = List.replicate n (0, false) from rfl, mk_zero] at h
    cases h
  | i + 1 => sat_step (Nat.succ_pos i) ha (rnd_len n a i) (rnd_wf ha i)
theorem rnd_stop {n : Nat} {a : List (Nat × Nat)} (ha : InW n a) {i : Nat} (h : fresh n a (rnd n a i) (fallen n (rnd n a i)) = []) : ∀ k, rnd n a (i + k) = rnd n a i
  | 0 => rfl
  | k + 1 => by
    have ih := rnd_stop ha h k
    show step n a (i + k + 1) (rnd n a (i + k)) = _
    rw [ih]
    exact step_id (Nat.succ_pos _) ha (rnd_len n a i) (rnd_wf ha i) (rnd_sat ha i) h
/-- how many are not marked -/
def unm (n : Nat) (m : Marks) : Nat := (List.range n).countP fun s => decide ((mk m s).1 = 0)
theorem countP_lt {p q : Nat → Bool} : ∀ {l : List Nat}, (∀ x, x ∈ l → p x = true → q x = true) → (∃ x, x ∈ l ∧ q x = true ∧ p x = false) → l.countP p < l.countP q
  | [], _, ⟨x, h, _⟩ => nomatch h
  | y :: l, h, ⟨x, hx, h1, h2⟩ => by
    rw [List.countP_cons, List.countP_cons]
    by_cases e : x = y
    · subst e
      rw [if_neg (by rw [h2]; decide), if_pos h1]
      have := List.countP_mono_left (l := l) fun z hz => h z (List.mem_cons_of_mem _ hz)
      omega
    · have := countP_lt (l := l) (fun z hz => h z (List.mem_cons_of_mem _ hz)) ⟨x, (List.mem_cons.mp hx).resolve_left e, h1, h2⟩
      have h3 := h y List.mem_cons_self
      split
      · rename_i z
        rw [if_pos (h3 z)]
        omega
      · omega
theorem unm_lt {n r : Nat} {a : List (Nat × Nat)} {m : Marks} (hr : 0 < r) (ha : InW n a) (hl : m.length = n) (hw : WfM m) (h : fresh n a m (fallen n m) ≠ []) : unm n (step n a r m) < unm n m := by
  obtain ⟨s, hs⟩ := List.exists_mem_of_ne_nil _ h
  obtain ⟨hs, q⟩ := (mem_fresh ha s).mp hs
  refine countP_lt (fun x hx e => ?_) ⟨s, List.mem_range.mpr hs, (Bool.and_eq_true_iff.mp q).1, ?_⟩
  · have e := of_decide_eq_true e
    rw [mk_step hr ha hl hw (List.mem_range.mp hx)] at e
    refine decide_eq_true (Decidable.byContradiction fun h => ?_)
    have : stepP a r (mk m) x = mk m x := by
      unfold stepP grP frP
      simp [h]
    rw [this] at e
    exact h e
  · refine decide_eq_false ?_
    rw [mk_step hr ha hl hw hs]
    have e : grP a r (mk m) s = (r, true) := if_pos q
    unfold stepP
    rw [e]
    split
    · show ¬ r = 0
      omega
    · show ¬ r = 0
      omega
/-- rounds, with the sayings called otherwise -/
theorem rnd_renamed {n : Nat} {a a0 : List (Nat × Nat)} {σ : Nat → Nat} (ha : InW n a) (h0 : InW n a0) (hσ : ∀ k, k < n → σ k < n) (hi : ∀ j k, j < n → k < n → σ j = σ k → j = k) (he : ∀ p, p ∈ a ↔ ∃ q, q ∈ a0 ∧ p = (σ q.1, σ q.2)) : ∀ i k, k < n → mk (rnd n a i) (σ k) = mk (rnd n a0 i) k
  | 0, k, _ => by
    show mk (List.replicate n (0, false)) _ = mk (List.replicate n (0, false)) _
    rw [mk_zero, mk_zero]
  | i + 1, k, hk => by
    have ih := rnd_renamed ha h0 hσ hi he i
    show mk (step n a (i + 1) (rnd n a i)) (σ k) = mk (step n a0 (i + 1) (rnd n a0 i)) k
    rw [mk_step (Nat.succ_pos i) ha (rnd_len n a i) (rnd_wf ha i) (hσ k hk), mk_step (Nat.succ_pos i) h0 (rnd_len n a0 i) (rnd_wf h0 i) hk]
    have c : ∀ (P Q : Nat → Bool) (x : Nat), x < n → (∀ q, q ∈ a0 → P (σ q.1) = Q q.1) → (a.all (fun p => !decide (p.2 = σ x) || P p.1) = a0.all fun p => !decide (p.2 = x) || Q p.1) ∧ (a.any (fun p => decide (p.2 = σ x) && P p.1) = a0.any fun p => decide (p.2 = x) && Q p.1) := fun P Q x hx hPQ => by
      have d : ∀ q, q ∈ a0 → decide (σ q.2 = σ x) = decide (q.2 = x) := fun q hq => decide_eq_decide.mpr ⟨fun e => hi _ _ (h0 q hq).2 hx e, fun e => by rw [e]⟩
      refine ⟨?_, ?_⟩
      · rw [Bool.eq_iff_iff, List.all_eq_true, List.all_eq_true]
        refine ⟨fun h q hq => ?_, fun h p hp => ?_⟩
        · have := h _ ((he _).mpr ⟨q, hq, rfl⟩)
          simp only [d q hq, hPQ q hq] at this
          exact this
        · obtain ⟨q, hq, rfl⟩ := (he p).mp hp
          simp only [d q hq, hPQ q hq]
          exact h q hq
      · rw [Bool.eq_iff_iff, List.any_eq_true, List.any_eq_true]
        refine ⟨fun ⟨p, hp, h⟩ => ?_, fun ⟨q, hq, h⟩ => ?_⟩
        · obtain ⟨q, hq, rfl⟩ := (he p).mp hp
          simp only [d q hq, hPQ q hq] at h
          exact ⟨q, hq, h⟩
        · refine ⟨_, (he _).mpr ⟨q, hq, rfl⟩, ?_⟩
          simp only [d q hq, hPQ q hq]
          exact h
    have f : ∀ x, x < n → frP a (mk (rnd n a i)) (σ x) = frP a0 (mk (rnd n a0 i)) x := fun x hx => by
      unfold frP
      rw [ih x hx, (c (fun y => decide (0 < (mk (rnd n a i) y).1) && !(mk (rnd n a i) y).2) (fun y => decide (0 < (mk (rnd n a0 i) y).1) && !(mk (rnd n a0 i) y).2) x hx fun q hq => by
        show (decide (0 < (mk (rnd n a i) (σ q.1)).1) && !(mk (rnd n a i) (σ q.1)).2) = _
        rw [ih q.1 (h0 q hq).1]).1]
    have g : ∀ x, x < n → grP a (i + 1) (mk (rnd n a i)) (σ x) = grP a0 (i + 1) (mk (rnd n a0 i)) x := fun x hx => by
      unfold grP
      rw [f x hx, ih x hx]
    unfold stepP
    rw [g k hk]
    refine iteCongr ?_ rfl rfl
    rw [(c (fun y => (grP a (i + 1) (mk (rnd n a i)) y).2) (fun y => (grP a0 (i + 1) (mk (rnd n a0 i)) y).2) k hk fun q hq => by
        show (grP a (i + 1) (mk (rnd n a i)) (σ q.1)).2 = _
        rw [g q.1 (h0 q hq).1]).2]
/-- marks ahead of all rounds -/
theorem lc_zero {ρ : Ev} {n v : Nat} {a : List (Nat × Nat)} (h0 : ρ[0]? = some (some (webD n a, false))) (ho : noOwn ρ [v] = true) (hn : n ≤ 1000) :
    dE (.lc [v] (.n v) (.bi .range1 (.cons (.ix (.v 0) (.k (.int 0))) .nil)) (.k (.bool true)) (.lst (.cons (.k (.int 0)) (.cons (.k (.bool false)) .nil)))) ρ = pure (.list ((rnd n a 0).map markD)) := by
  rw [lc_eq (List.range n) iD (fun _ => true) (fun _ => markD (0, false)) (range_eq (e_web0 h0) (by omega)) ho (by rw [List.length_range]; omega) fun s _ => ⟨_, rfl, rfl, fun _ => rfl⟩, filter_all, range_replicate]
  show pure (PyData.list _) = (pure (PyData.list ((List.replicate n (0, false)).map markD)) : M D)
  rw [List.map_replicate]
theorem unm_zero (n : Nat) (a : List (Nat × Nat)) : unm n (rnd n a 0) ≤ n := by
  have := List.countP_le_length (p := fun s => decide ((mk (rnd n a 0) s).1 = 0)) (l := List.range n)
  rw [List.length_range] at this
  exact this
def markT (m : Nat × Bool) : D := .tuple [.int m.1, .bool m.2]
def grantedD (n : Nat) (a : List (Nat × Nat)) : D := .tuple ((rnd n a (n + 1)).map markT)
end Ad
namespace Ad
open PySem

/-! ### what is granted is the least of the closed lots -/
theorem step_marked {a : List (Nat × Nat)} {r s : Nat} {μ : Nat → Nat × Bool} (h : (μ s).1 ≠ 0) : stepP a r μ s = μ s := by
  have f : frP a μ s = false := by
    unfold frP
    rw [decide_eq_false h]
    rfl
  have g : grP a r μ s = μ s := by
    unfold grP
    rw [f]
    rfl
  unfold stepP
  rw [g, decide_eq_false h]
  rfl
theorem step_fresh {a : List (Nat × Nat)} {r s : Nat} {μ : Nat → Nat × Bool} (hr : 0 < r) (h : frP a μ s = true) : stepP a r μ s = (r, true) := by
  have g : grP a r μ s = (r, true) := by
    unfold grP
    rw [h]
    rfl
  unfold stepP
  rw [g, decide_eq_false (show ¬ r = 0 by omega)]
  rfl
theorem step_else {a : List (Nat × Nat)} {r s : Nat} {μ : Nat → Nat × Bool} (h0 : (μ s).1 = 0) (h : frP a μ s = false) : stepP a r μ s = if a.any (fun p => decide (p.2 = s) && (grP a r μ p.1).2) then (r, false) else μ s := by
  have g : grP a r μ s = μ s := by
    unfold grP
    rw [h]
    rfl
  unfold stepP
  rw [g, decide_eq_true h0, Bool.true_and]
theorem gr_step {a : List (Nat × Nat)} {r s : Nat} {μ : Nat → Nat × Bool} (hr : 0 < r) (hw : (μ s).1 = 0 → (μ s).2 = false) (h : (grP a r μ s).2 = true) : (stepP a r μ s).2 = true := by
  cases f : frP a μ s with
  | true => rw [step_fresh hr f]
  | false =>
    unfold grP at h
    rw [f] at h
    have h : (μ s).2 = true := h
    rw [step_marked fun z => by rw [hw z] at h; cases h]
    exact h
theorem fallenB_iff {m : Marks} {s : Nat} : fallenB m s = true ↔ 0 < (mk m s).1 ∧ (mk m s).2 = false := by
  unfold fallenB
  rw [Bool.and_eq_true, decide_eq_true_eq]
  cases (mk m s).2 <;> simp
/-- what is granted has fallen attackers, what fell has a granted one -/
structure Rnd (n : Nat) (a : List (Nat × Nat)) (m : Marks) : Prop where
  gr : ∀ s, s < n → (mk m s).2 = true → ∀ p, p ∈ a → p.2 = s → fallenB m p.1 = true
  fa : ∀ s, s < n → fallenB m s = true → ∃ p, p ∈ a ∧ p.2 = s ∧ (mk m p.1).2 = true
theorem rnd_step {n r : Nat} {a : List (Nat × Nat)} {m : Marks} (hr : 0 < r) (ha : InW n a) (hl : m.length = n) (hw : WfM m) (h : Rnd n a m) : Rnd n a (step n a r m) := by
  have st : ∀ s, s < n → mk (step n a r m) s = stepP a r (mk m) s := fun s hs => mk_step hr ha hl hw hs
  have keepF : ∀ s, s < n → fallenB m s = true → fallenB (step n a r m) s = true := fun s hs f => by
    have z := fallenB_iff.mp f
    rw [fallenB_iff, st s hs, step_marked (by omega)]
    exact z
  have keepG : ∀ s, s < n → (mk m s).2 = true → (mk (step n a r m) s).2 = true := fun s hs f => by
    rw [st s hs, step_marked fun z => by rw [hw s z] at f; cases f]
    exact f
  refine ⟨fun s hs g p hp e => ?_, fun s hs f => ?_⟩
  · rw [st s hs] at g
    by_cases z : (mk m s).1 = 0
    · cases fr : frP a (mk m) s with
      | true =>
        unfold frP at fr
        rw [Bool.and_eq_true, List.all_eq_true] at fr
        have := fr.2 p hp
        rw [decide_eq_true e] at this
        exact keepF _ (ha p hp).1 (fallenB_iff.mpr (by simpa using this))
      | false =>
        rw [step_else z fr] at g
        split at g
        · cases g
        · rw [hw s z] at g
          cases g
    · rw [step_marked z] at g
      exact keepF _ (ha p hp).1 (h.gr s hs g p hp e)
  · by_cases z : (mk m s).1 = 0
    · rw [fallenB_iff, st s hs] at f
      cases fr : frP a (mk m) s with
      | true =>
        rw [step_fresh hr fr] at f
        cases f.2
      | false =>
        rw [step_else z fr] at f
        split at f
        · rename_i q
          obtain ⟨p, hp, q⟩ := List.any_eq_true.mp q
          rw [Bool.and_eq_true, decide_eq_true_eq] at q
          refine ⟨p, hp, q.1, ?_⟩
          rw [st _ (ha p hp).1]
          exact gr_step hr (hw _) q.2
        · rw [z] at f
          exact absurd f.1 (Nat.lt_irrefl 0)
    · have f' : fallenB m s = true := by
        rw [fallenB_iff, st s hs, step_marked z] at f
        exact fallenB_iff.mpr f
      obtain ⟨p, hp, e, g⟩ := h.fa s hs f'
      exact ⟨p, hp, e, keepG _ (ha p hp).1 g⟩
theorem rnd_rnd {n : Nat} {a : List (Nat × Nat)} (ha : InW n a) : ∀ i, Rnd n a (rnd n a i)
  | 0 => ⟨(fun s _ h => by
      rw [show rnd n a 0 = List.replicate n (0, false) from rfl, mk_zero] at h
      cases h), fun s _ h => by
      rw [fallenB_iff, show rnd n a 0 = List.replicate n (0, false) from rfl, mk_zero] at h
      exact absurd h.1 (Nat.lt_irrefl 0)⟩
  | i + 1 => rnd_step (Nat.succ_pos i) ha (rnd_len n a i) (rnd_wf ha i) (rnd_rnd ha i)
/-- what is closed has all that is granted -/
theorem rnd_in {n : Nat} {a : List (Nat × Nat)} {C : List Nat} (ha : InW n a) (hC : ∀ k, k < n → ansB a C k = true → k ∈ C) : ∀ i, (∀ s, s < n → (mk (rnd n a i) s).2 = true → s ∈ C) ∧ ∀ s, s < n → fallenB (rnd n a i) s = true → hitB a C s = true
  | 0 => ⟨(fun s _ h => by
      rw [show rnd n a 0 = List.replicate n (0, false) from rfl, mk_zero] at h
      cases h), fun s _ h => by
      rw [fallenB_iff, show rnd n a 0 = List.replicate n (0, false) from rfl, mk_zero] at h
      exact absurd h.1 (Nat.lt_irrefl 0)⟩
  | i + 1 => by
    obtain ⟨h1, h2⟩ := rnd_in ha hC i
    have hl := rnd_len n a i
    have hw := rnd_wf ha i
    have st : ∀ s, s < n → mk (rnd n a (i + 1)) s = stepP a (i + 1) (mk (rnd n a i)) s := fun s hs => mk_step (Nat.succ_pos i) ha hl hw hs
    have g : ∀ s, s < n → (mk (rnd n a (i + 1)) s).2 = true → s ∈ C := fun s hs q => by
      rw [st s hs] at q
      by_cases z : (mk (rnd n a i) s).1 = 0
      · cases fr : frP a (mk (rnd n a i)) s with
        | true =>
          refine hC s hs ?_
          unfold frP at fr
          rw [Bool.and_eq_true, List.all_eq_true] at fr
          unfold ansB
          rw [List.all_eq_true]
          intro p hp
          by_cases e : p.2 = s
          · have := fr.2 p hp
            rw [decide_eq_true e] at this
            rw [h2 _ (ha p hp).1 (fallenB_iff.mpr (by simpa using this))]
            simp
          · rw [decide_eq_false e]
            rfl
        | false =>
          rw [step_else z fr] at q
          split at q
          · cases q
          · rw [hw s z] at q
            cases q
      · rw [step_marked z] at q
        exact h1 s hs q
    refine ⟨g, fun s hs f => ?_⟩
    by_cases z : (mk (rnd n a i) s).1 = 0
    · rw [fallenB_iff, st s hs] at f
      cases fr : frP a (mk (rnd n a i)) s with
      | true =>
        rw [step_fresh (Nat.succ_pos i) fr] at f
        cases f.2
      | false =>
        rw [step_else z fr] at f
        split at f
        · rename_i q
          obtain ⟨p, hp, q⟩ := List.any_eq_true.mp q
          rw [Bool.and_eq_true, decide_eq_true_eq] at q
          refine hit_iff.mpr ⟨p, hp, g _ (ha p hp).1 ?_, q.1⟩
          rw [st _ (ha p hp).1]
          exact gr_step (Nat.succ_pos i) (hw _) q.2
        · rw [z] at f
          exact absurd f.1 (Nat.lt_irrefl 0)
    · refine h2 s hs ?_
      rw [fallenB_iff, st s hs, step_marked z] at f
      exact fallenB_iff.mpr f
theorem rnd_fix {n : Nat} {a : List (Nat × Nat)} (ha : InW n a) : fresh n a (rnd n a (n + 1)) (fallen n (rnd n a (n + 1))) = [] := by
  have ex : ∃ i, i ≤ n ∧ fresh n a (rnd n a i) (fallen n (rnd n a i)) = [] := Decidable.byContradiction fun q => by
    have h : ∀ i, i ≤ n + 1 → unm n (rnd n a i) + i ≤ n := fun i => by
      induction i with
      | zero => exact fun _ => unm_zero n a
      | succ i ih =>
        intro hi
        have := ih (by omega)
        have := unm_lt (r := i + 1) (Nat.succ_pos i) ha (rnd_len n a i) (rnd_wf ha i) fun z => q ⟨i, by omega, z⟩
        rw [show rnd n a (i + 1) = step n a (i + 1) (rnd n a i) from rfl]
        omega
    have := h (n + 1) (Nat.le_refl _)
    omega
  obtain ⟨i, hi, e⟩ := ex
  have := rnd_stop ha e (n + 1 - i)
  rw [show i + (n + 1 - i) = n + 1 by omega] at this
  rw [this]
  exact e
def grB (n : Nat) (a : List (Nat × Nat)) (k : Nat) : Bool := (mk (rnd n a (n + 1)) k).2
def leastL (n : Nat) (a : List (Nat × Nat)) : List Nat := (List.range n).filter (grB n a)
theorem mem_least {n : Nat} {a : List (Nat × Nat)} {k : Nat} : k ∈ leastL n a ↔ k < n ∧ (mk (rnd n a (n + 1)) k).2 = true := by
  unfold leastL
  rw [List.mem_filter, List.mem_range]
  rfl
theorem least_lot (n : Nat) (a : List (Nat × Nat)) : leastL n a ∈ lotsN n := (mem_lotsN n _).mpr ⟨(inc_range n).filter _, fun x hx => (mem_least.mp hx).1⟩
theorem least_hit {n : Nat} {a : List (Nat × Nat)} (ha : InW n a) {s : Nat} (hs : s < n) : hitB a (leastL n a) s = true ↔ fallenB (rnd n a (n + 1)) s = true := by
  have R := rnd_rnd ha (n + 1)
  rw [hit_iff]
  refine ⟨fun ⟨p, hp, h, e⟩ => ?_, fun f => ?_⟩
  · have g := (mem_least.mp h).2
    have m := rnd_sat ha (n + 1) p hp g
    rw [e] at m
    refine fallenB_iff.mpr ⟨by omega, ?_⟩
    cases z : (mk (rnd n a (n + 1)) s).2 with
    | false => rfl
    | true =>
      have := (fallenB_iff.mp (R.gr s hs z p hp e)).2
      rw [g] at this
      cases this
  · obtain ⟨p, hp, e, g⟩ := R.fa s hs f
    exact ⟨p, hp, mem_least.mpr ⟨(ha p hp).1, g⟩, e⟩
theorem least_ans {n : Nat} {a : List (Nat × Nat)} (ha : InW n a) {s : Nat} (hs : s < n) : ansB a (leastL n a) s = grB n a s := by
  have R := rnd_rnd ha (n + 1)
  rw [Bool.eq_iff_iff]
  unfold ansB
  rw [List.all_eq_true]
  refine ⟨fun h => ?_, fun h p hp => ?_⟩
  · have all : ∀ p, p ∈ a → p.2 = s → fallenB (rnd n a (n + 1)) p.1 = true := fun p hp e => by
      have := h p hp
      rw [decide_eq_true e] at this
      exact (least_hit ha (ha p hp).1).mp (by simpa using this)
    have m : (mk (rnd n a (n + 1)) s).1 ≠ 0 := fun z => by
      have : s ∈ fresh n a (rnd n a (n + 1)) (fallen n (rnd n a (n + 1))) := (mem_fresh ha s).mpr ⟨hs, by
        rw [decide_eq_true z, Bool.true_and, List.all_eq_true]
        intro p hp
        by_cases e : p.2 = s
        · rw [all p hp e]
          simp
        · rw [decide_eq_false e]
          rfl⟩
      rw [rnd_fix ha] at this
      cases this
    unfold grB
    cases z : (mk (rnd n a (n + 1)) s).2 with
    | true => rfl
    | false =>
      obtain ⟨p, hp, e, g⟩ := R.fa s hs (fallenB_iff.mpr ⟨by omega, z⟩)
      have := (fallenB_iff.mp (all p hp e)).2
      rw [g] at this
      cases this
  · by_cases e : p.2 = s
    · rw [(least_hit ha (ha p hp).1).mpr (R.gr s hs h p hp e)]
      simp
    · rw [decide_eq_false e]
      rfl
theorem least_clos {n : Nat} {a : List (Nat × Nat)} (ha : InW n a) : closB n a (leastL n a) = true := by
  have R := rnd_rnd ha (n + 1)
  unfold closB
  rw [Bool.and_eq_true, decide_eq_true_eq]
  refine ⟨?_, ?_⟩
  · unfold freeB
    rw [List.all_eq_true]
    intro p hp
    by_cases h1 : p.1 ∈ leastL n a
    · by_cases h2 : p.2 ∈ leastL n a
      · have := (fallenB_iff.mp (R.gr p.2 (ha p hp).2 (mem_least.mp h2).2 p hp rfl)).2
        rw [(mem_least.mp h1).2] at this
        cases this
      · rw [decide_eq_false h2]
        simp
    · rw [decide_eq_false h1]
      rfl
  · unfold answL leastL
    refine List.filter_congr fun k hk => ?_
    exact least_ans ha (List.mem_range.mp hk)
theorem clos_least {n : Nat} {a : List (Nat × Nat)} {C : List Nat} (ha : InW n a) (h : closB n a C = true) : sub (leastL n a) C = true := by
  unfold closB at h
  rw [Bool.and_eq_true, decide_eq_true_eq] at h
  refine sub_iff.mpr fun x hx => ?_
  obtain ⟨h1, h2⟩ := mem_least.mp hx
  refine (rnd_in ha (C := C) (fun k hk e => ?_) (n + 1)).1 x h1 h2
  rw [← h.2]
  exact List.mem_filter.mpr ⟨List.mem_range.mpr hk, e⟩
/-- which lots stand -/
def standB (r : Str) (n : Nat) (a : List (Nat × Nat)) (l : List Nat) : Bool :=
  if r == ("free" : Str) then freeB a l else if r == ("answering" : Str) then goodB n a l else if r == ("closed" : Str) then closB n a l else if r == ("ruling" : Str) then ruleB n a l else if r == ("full" : Str) then maxB n a l else decide (l = leastL n a)
def lotsP (r : Str) (n : Nat) (a : List (Nat × Nat)) : List (List Nat) := (lotsS n).filter (standB r n a)
theorem filter_one {α : Type} [DecidableEq α] {l : List α} (h : l.Nodup) {x : α} (hx : x ∈ l) : l.filter (fun y => decide (y = x)) = [x] := by
  induction l with
  | nil => cases hx
  | cons y l ih =>
    obtain ⟨h1, h2⟩ := List.nodup_cons.mp h
    rw [List.filter_cons]
    by_cases e : y = x
    · subst e
      rw [if_pos (decide_eq_true rfl)]
      congr 1
      refine List.filter_eq_nil_iff.mpr fun z hz w => h1 ?_
      rw [← of_decide_eq_true w]
      exact hz
    · rw [if_neg (by rw [decide_eq_false e]; decide)]
      rcases List.mem_cons.mp hx with q | q
      · exact absurd q.symm e
      · exact ih h2 q
theorem least_one (n : Nat) (a : List (Nat × Nat)) : (lotsS n).filter (fun l => decide (l = leastL n a)) = [leastL n a] := filter_one (nodup_lotsS n) ((mem_lotsS n _).mpr (least_lot n a))
/-- the closed lots with the fewest sayings -/
theorem least_few {n : Nat} {a : List (Nat × Nat)} (ha : InW n a) : ((lotsS n).filter (closB n a)).filter (fun l => decide (l.length = (leastL n a).length)) = (lotsS n).filter fun l => decide (l = leastL n a) := by
  rw [List.filter_filter]
  refine List.filter_congr fun l hl => ?_
  have hl := (mem_lotsN n l).mp ((mem_lotsS n l).mp hl)
  have hg := (mem_lotsN n _).mp (least_lot n a)
  rw [Bool.eq_iff_iff, Bool.and_eq_true, decide_eq_true_eq, decide_eq_true_eq]
  refine ⟨fun ⟨h1, h2⟩ => ?_, fun e => ?_⟩
  · refine Decidable.byContradiction fun q => ?_
    have := sub_lt hg.1 hl.1 (clos_least ha h2) (Ne.symm q)
    omega
  · subst e
    exact ⟨rfl, least_clos ha⟩
theorem clos_len {n : Nat} {a : List (Nat × Nat)} {C : List Nat} (ha : InW n a) (h : closB n a C = true) : (leastL n a).length ≤ C.length := nodup_le _ _ (((mem_lotsN n _).mp (least_lot n a)).1.nodup) (sub_iff.mp (clos_least ha h))
end Ad
namespace Ad
open PySem

/-! ### lots, as the program tells them -/
theorem lot_len {n : Nat} {l : List Nat} (h : l ∈ lotsN n) : l.length ≤ n := by
  obtain ⟨h1, h2⟩ := (mem_lotsN n l).mp h
  have := nodup_le l (List.range n) h1.nodup fun x hx => List.mem_range.mpr (h2 x hx)
  rw [List.length_range] at this
  exact this
def leN (a b : Nat) : Bool := decide (a ≤ b)
def sortN (c : List Nat) : List Nat := (once c).mergeSort leN
theorem mem_sortN (c : List Nat) (k : Nat) : k ∈ sortN c ↔ k ∈ c := by
  unfold sortN
  rw [(List.mergeSort_perm _ _).mem_iff, mem_once]
theorem dataLe_nat : W.dataLe false iD = leN := by
  refine (W.dataLe_int (fun n : Nat => (n : Int))).trans ?_
  funext a b
  exact decide_eq_decide.mpr (by omega)
def unI : D → Nat
  | .int i => i.toNat
  | _ => 0
theorem unI_map (l : List Nat) : (l.map iD).map unI = l := by
  rw [List.map_map]
  exact (List.map_congr_left fun p _ => (Int.toNat_natCast p : unI (iD p) = p)).trans (List.map_id l)
theorem sortedSet_nat_ge {c : List Nat} (hl : c.length < 4000) : (biD .sortedSet [.list (c.map iD)]).ge (.list ((sortN c).map iD)) := fun Q R b q => by
  refine ⟨⟨nats_ok c, .inl ⟨fun x hx => ?_, by rw [List.length_map]; exact hl⟩⟩, fun ys hys => ?_⟩
  · obtain ⟨p, _, rfl⟩ := List.mem_map.mp hx
    exact ⟨_, rfl⟩
  · rw [once_enc eqv_iD] at hys
    obtain ⟨l, e⟩ := back_map (enc := iD) fun d hd => hys.mem_iff.mp hd
    subst e
    have p := hys.map unI
    rw [unI_map, unI_map] at p
    show Q (.list (sortD (l.map iD))) b
    rw [sort_map dataLe_nat]
    have tr : ∀ a b c, leN a b = true → leN b c = true → leN a c = true := fun a b c h k => by
      unfold leN at *
      rw [decide_eq_true_eq] at *
      omega
    have to : ∀ a b, (leN a b || leN b a) = true := fun a b => by
      unfold leN
      rw [Bool.or_eq_true, decide_eq_true_eq, decide_eq_true_eq]
      omega
    rw [show l.mergeSort leN = sortN c from perm_eq (le := leN) (fun a b h k => by
      unfold leN at *
      rw [decide_eq_true_eq] at *
      omega) ((List.mergeSort_perm _ _).trans (p.trans (List.mergeSort_perm _ _).symm)) (List.pairwise_mergeSort tr to _) (List.pairwise_mergeSort tr to _)]
    exact q
theorem hits_map (a : List (Nat × Nat)) (l : List Nat) : ((a.filter fun p => decide (p.1 ∈ l)).map fun p => iD p.2) = (hits a l).map iD := by
  unfold hits
  rw [List.map_map]
  rfl
theorem hits_len (a : List (Nat × Nat)) (l : List Nat) : (hits a l).length ≤ a.length := by
  unfold hits
  rw [List.length_map]
  exact List.length_filter_le _ _
theorem enum_eq {n : Nat} {xs : List D} {f : Nat → D} (hl : xs.length = n) (h : ∀ s, s < n → xs[s]? = some (f s)) : enumD xs = (List.range n).map fun s => .tuple [iD s, f s] := by
  unfold enumD
  refine List.ext_getElem (by rw [List.length_map, List.length_zipIdx, List.length_map, List.length_range]; exact hl) fun i h1 h2 => ?_
  rw [List.length_map, List.length_range] at h2
  rw [List.getElem_map, List.getElem_map, List.getElem_zipIdx, List.getElem_range]
  have e := h i h2
  rw [List.getElem?_eq_getElem (by omega)] at e
  rw [Option.some.inj e, Nat.zero_add]
  rfl
theorem ge_enum {ρ : Ev} {e : E} {n : Nat} {d : D} {xs : List D} {f : Nat → D} (hd : d = .list xs ∨ d = .tuple xs) (hx : (dE e ρ).ge d) (hl : xs.length = n) (h : ∀ s, s < n → xs[s]? = some (f s)) : (dE (.bi .enum (.cons e .nil)) ρ >>= walked).ge ((List.range n).map fun s => .tuple [iD s, f s]) := by
  refine M.ge_bind (v := .list (enumD xs)) (ge_bi (ge_cons hx ge_nil) (by rcases hd with rfl | rfl <;> rfl)) ?_
  rw [enum_eq hl h]
  exact M.ge_pure
theorem att_all (a : List (Nat × Nat)) (s : Nat) (f : Nat → Bool) : (attOf a s).all f = a.all fun p => !(decide (p.2 = s) && !f p.1) := by
  unfold attOf
  rw [Bool.eq_iff_iff, List.all_eq_true, List.all_eq_true]
  refine ⟨fun h p hp => ?_, fun h x hx => ?_⟩
  · by_cases e : p.2 = s
    · rw [h p.1 (List.mem_map.mpr ⟨p, List.mem_filter.mpr ⟨hp, decide_eq_true e⟩, rfl⟩)]
      simp
    · rw [decide_eq_false e]
      rfl
  · obtain ⟨p, hp, rfl⟩ := List.mem_map.mp hx
    obtain ⟨h1, h2⟩ := List.mem_filter.mp hp
    have := h p h1
    rw [h2] at this
    simpa using this
theorem attackers_get {n s : Nat} {a : List (Nat × Nat)} (hs : s < n) : (attackersL n a)[s]? = some (.list ((attOf a s).map iD)) := by
  unfold attackersL attOf
  rw [List.getElem?_map, List.getElem?_range hs, List.map_map]
  rfl
def loEv (n i : Nat) (x2 : Option (D × Bool)) : Ev := [some (iD n, false), some (.list ((lotsN i).map lotD), false), x2, none]
theorem lots_loop {n b : Nat} {ss : Ss} {Q : Rz → Nat → Prop} {R : XV → Nat → Prop} (hn : n ≤ 10) (hq : ∀ x2, (dSs ss (loEv n n x2)).run Q R b) :
    (dSs (.cons (.asg 1 (.lst (.cons (.tup .nil) .nil))) (.cons (.for (.n 2) (.bi .range1 (.cons (.v 0) .nil)) (.cons (.asg 1 (.bin .Add (.v 1) (.lc [3] (.n 3) (.v 1) (.k (.bool true)) (.bin .Add (.v 3) (.tup (.cons (.v 2) .nil)))))) .nil)) ss)) [some (iD n, false), none, none, none]).run Q R b := by
  refine run_asg (d := .list ((lotsN 0).map lotD)) (ge_lst (ge_cons (ge_tup ge_nil) ge_nil)) ?_
  show (dSs _ (loEv n 0 none)).run Q R b
  refine run_forN (n := n) (I := fun i ρ b' => b' = b ∧ ∃ x2, ρ = loEv n i x2) (range_ge (ge_v rfl) (by omega)) ⟨rfl, none, rfl⟩ ?_ ?_
  · intro i hi ρ b' ⟨e1, x2, e2⟩
    subst e1 e2
    have len := len_lots (n := i) (by omega)
    show (dSs _ (loEv n i (some (iD i, false)))).run _ R b'
    refine run_asg (d := .list ((lotsN (i + 1)).map lotD)) ?_ ⟨rfl, _, rfl⟩
    rw [show (lotsN (i + 1)).map lotD = (lotsN i).map lotD ++ (((lotsN i).filter fun _ => true).map fun l => lotD (l ++ [i])) by
      rw [filter_all]
      show ((lotsN i) ++ (lotsN i).map (· ++ [i])).map lotD = _
      rw [List.map_append, List.map_map]
      rfl]
    refine ge_addL (ge_v rfl) (lc_get (lotsN i) lotD (fun _ => true) (fun l => lotD (l ++ [i])) (M.ge_bind (ge_v rfl) M.ge_pure) rfl (by omega) fun l hl => ⟨_, rfl, ge_k, fun _ => ?_⟩) ?_
    · show (dE _ _).ge (.tuple ((l ++ [i]).map iD))
      rw [List.map_append]
      exact ge_addT (ge_v rfl) (ge_tup (ge_cons (ge_v rfl) ge_nil)) (by
        have := lot_len hl
        rw [List.length_map]
        show l.length + 1 ≤ 16777216
        omega)
    · rw [filter_all, List.length_map, List.length_map]
      omega
  · intro ρ b' ⟨e1, x2, e2⟩
    subst e1 e2
    exact hq x2
theorem sub_emp (l m : List Nat) : sub l m = (l.filter fun x => !decide (x ∈ m)).isEmpty := by
  rw [emp_filter]
  unfold sub
  congr 1
  funext k
  rw [Bool.not_not]
def flEv (n : Nat) (a : List (Nat × Nat)) (F : List (List Nat)) (x2 x3 : Option (D × Bool)) : Ev := [some (webD n a, false), some (.list (F.map lotD), true), x2, x3, none]
theorem str_cmp {ρ : Ev} {i : Nat} {r z : Str} (h : ρ[i]? = some (some (.str r, false))) : (dE (.cmp .Eq (.v i) (.k (.str z))) ρ).ge (.bool (r == z)) := ge_cmp (ge_v h) ge_k (cmp_str_eq _ _)
theorem mem_full {n : Nat} {a : List (Nat × Nat)} {l : List Nat} (hl : l ∈ lotsN n) : decide (l ∈ fullF n a) = maxB n a l := by
  rw [Bool.eq_iff_iff, decide_eq_true_eq]
  unfold fullF maxB
  rw [List.mem_filter, (List.mergeSort_perm _ _).mem_iff]
  unfold goodN
  rw [List.mem_filter, Bool.and_eq_true]
  exact ⟨fun ⟨⟨_, h1⟩, h2⟩ => ⟨h1, h2⟩, fun ⟨h1, h2⟩ => ⟨⟨hl, h1⟩, h2⟩⟩
end Ad
namespace Ad
open PySem

/-! ### lots, what all laws share -/
/-! the least of some numbers -/
theorem min_fold {m : Nat} : ∀ (xs : List Nat) (x : Nat), (m = x ∨ m ∈ xs) → m ≤ x → (∀ y, y ∈ xs → m ≤ y) → (xs.map Int.ofNat).foldl min (x : Int) = m
  | [], x, h, _, _ => by
    rcases h with h | h
    · subst h
      rfl
    · cases h
  | y :: ys, x, h, h1, h2 => by
    have hy := h2 y List.mem_cons_self
    rw [List.map_cons, List.foldl_cons]
    have e : min (x : Int) (Int.ofNat y) = ((min x y : Nat) : Int) := by
      show min (x : Int) (y : Int) = _
      omega
    rw [e]
    refine min_fold ys (min x y) ?_ (by omega) fun z hz => h2 z (List.mem_cons_of_mem _ hz)
    rcases h with h | h
    · left
      omega
    · rcases List.mem_cons.mp h with h | h
      · left
        omega
      · exact .inr h
theorem min_nats {l : List Nat} {m : Nat} (hm : m ∈ l) (h : ∀ x, x ∈ l → m ≤ x) : minOf (l.map iD) = some (iD m) := by
  cases l with
  | nil => cases hm
  | cons x xs =>
    show some (W.minD (.int x) (xs.map iD)) = _
    rw [show xs.map iD = (xs.map Int.ofNat).map PyData.int by
      rw [List.map_map]
      rfl, W.minD_ints, min_fold xs x (List.mem_cons.mp hm) (h x List.mem_cons_self) fun y hy => h y (List.mem_cons_of_mem _ hy)]
    rfl
theorem ge_min {ρ : Ev} {e : E} {l : List Nat} {m : Nat} (g : (dE e ρ).ge (.list (l.map iD))) (hm : m ∈ l) (h : ∀ x, x ∈ l → m ≤ x) : (dE (.bi .min1 (.cons e .nil)) ρ).ge (iD m) := ge_bi (ge_cons g ge_nil) (by
  show (M.grd (sortable (l.map iD)) >>= fun _ => oget (minOf (l.map iD))) = _
  rw [M.grd_bind (nats_ok l), min_nats hm h]
  rfl)
theorem ge_lenSet {ρ : Ev} {e : E} {c : List Nat} (g : (dE e ρ).ge (.list (c.map iD))) (hl : c.length < 4000) : (dE (.bi .lenSet (.cons e .nil)) ρ).ge (iD (once c).length) := ge_bi (ge_cons g ge_nil) (by
  show (M.grd (setOkL (c.map iD)) >>= fun _ => (pure (.int ((onceD (c.map iD)).length : Nat)) : M D)) = _
  rw [M.grd_bind (.inl (.inl ⟨fun x hx => by
    obtain ⟨p, _, rfl⟩ := List.mem_map.mp hx
    exact ⟨_, rfl⟩, by rw [List.length_map]; exact hl⟩)), once_enc eqv_iD, List.length_map]
  rfl)
theorem all_once {n : Nat} {c : List Nat} (h : ∀ x, x ∈ c → x < n) : (once c).length = n ↔ ∀ k, k < n → k ∈ c := by
  have le : (once c).length ≤ n := by
    have := nodup_le (once c) (List.range n) (nodup_once c) fun x hx => List.mem_range.mpr (h x ((mem_once c x).mp hx))
    rw [List.length_range] at this
    exact this
  refine ⟨fun e k hk => Decidable.byContradiction fun q => ?_, fun g => ?_⟩
  · have := nodup_le (k :: once c) (List.range n) (List.nodup_cons.mpr ⟨fun z => q ((mem_once c k).mp z), nodup_once c⟩) fun x hx => by
      rcases List.mem_cons.mp hx with rfl | hx
      · exact List.mem_range.mpr hk
      · exact List.mem_range.mpr (h x ((mem_once c x).mp hx))
    rw [List.length_range, List.length_cons] at this
    omega
  · have := nodup_le (List.range n) (once c) List.nodup_range fun x hx => (mem_once c x).mpr (g x (List.mem_range.mp hx))
    rw [List.length_range] at this
    omega
theorem rule_once {n : Nat} {a : List (Nat × Nat)} {l : List Nat} (ha : InW n a) (hl : l ∈ lotsN n) : decide (((once (l ++ hits a l)).length : Int) = (n : Int)) = (List.range n).all fun k => !(!decide (k ∈ l) && !hitB a l k) := by
  have hx : ∀ x, x ∈ l ++ hits a l → x < n := fun x hx => by
    rcases List.mem_append.mp hx with h | h
    · exact ((mem_lotsN n l).mp hl).2 x h
    · obtain ⟨p, hp, _, e⟩ := hit_iff.mp (show hitB a l x = true from decide_eq_true h)
      rw [← e]
      exact (ha p hp).2
  rw [Bool.eq_iff_iff, decide_eq_true_eq, List.all_eq_true]
  rw [show (((once (l ++ hits a l)).length : Int) = (n : Int)) ↔ (once (l ++ hits a l)).length = n by omega, all_once hx]
  refine ⟨fun h k hk => ?_, fun h k hk => ?_⟩
  · unfold hitB
    rcases List.mem_append.mp (h k (List.mem_range.mp hk)) with g | g
    · rw [decide_eq_true g]
      simp
    · rw [decide_eq_true g]
      simp
  · have := h k (List.mem_range.mpr hk)
    unfold hitB at this
    by_cases g : k ∈ l
    · exact List.mem_append.mpr (.inl g)
    · by_cases g2 : k ∈ hits a l
      · exact List.mem_append.mpr (.inr g2)
      · rw [decide_eq_false g, decide_eq_false g2] at this
        cases this
def freeS (n : Nat) (a : List (Nat × Nat)) : List (List Nat) := (lotsS n).filter (freeB a)
def goodS (n : Nat) (a : List (Nat × Nat)) : List (List Nat) := (lotsS n).filter (goodB n a)
def closS (n : Nat) (a : List (Nat × Nat)) : List (List Nat) := (lotsS n).filter (closB n a)
theorem good_of (n : Nat) (a : List (Nat × Nat)) : (freeS n a).filter (fun l => sub l (answL n a l)) = goodS n a := by
  unfold freeS goodS
  rw [List.filter_filter]
  exact List.filter_congr fun l _ => Bool.and_comm _ _
theorem clos_of (n : Nat) (a : List (Nat × Nat)) : (goodS n a).filter (fun l => decide (l = answL n a l)) = closS n a := by
  unfold goodS closS
  rw [List.filter_filter]
  refine List.filter_congr fun l _ => ?_
  rw [Bool.eq_iff_iff, Bool.and_eq_true, decide_eq_true_eq]
  refine ⟨fun ⟨h1, h2⟩ => ?_, fun h => ⟨?_, clos_good h⟩⟩
  · unfold goodB at h2
    unfold closB
    rw [Bool.and_eq_true] at h2 ⊢
    exact ⟨h2.1, decide_eq_true h1.symm⟩
  · unfold closB at h
    rw [Bool.and_eq_true, decide_eq_true_eq] at h
    exact h.2.symm
theorem full_of (n : Nat) (a : List (Nat × Nat)) : (goodS n a).filter (mxB (goodS n a)) = (lotsS n).filter (maxB n a) := by
  have p : (goodS n a).Perm (goodN n a) := (List.mergeSort_perm _ _).filter _
  rw [show mxB (goodS n a) = mxB (goodN n a) from funext fun x => mx_perm p x]
  unfold goodS
  rw [List.filter_filter]
  exact List.filter_congr fun l _ => Bool.and_comm _ _
theorem few_free (n : Nat) (a : List (Nat × Nat)) (hn : n ≤ 10) : (freeS n a).length ≤ 1024 := Nat.le_trans (List.length_filter_le _ _) (len_lotsS hn)
theorem few_good (n : Nat) (a : List (Nat × Nat)) (hn : n ≤ 10) : (goodS n a).length ≤ 1024 := Nat.le_trans (List.length_filter_le _ _) (len_lotsS hn)
theorem few_clos (n : Nat) (a : List (Nat × Nat)) (hn : n ≤ 10) : (closS n a).length ≤ 1024 := Nat.le_trans (List.length_filter_le _ _) (len_lotsS hn)
theorem of_lotsS {n : Nat} {f : List Nat → Bool} {l : List Nat} (h : l ∈ (lotsS n).filter f) : l ∈ lotsN n := (mem_lotsS n l).mp (List.mem_filter.mp h).1
theorem wk {ρ : Ev} {e : E} {xs : List D} {d : D} (hd : d = .list xs ∨ d = .tuple xs) (h : (dE e ρ).ge d) : (dE e ρ >>= walked).ge xs := M.ge_bind h (by rcases hd with rfl | rfl <;> exact M.ge_pure)
theorem ge_tupL {ρ : Ev} {e : E} {xs : List D} (h : (dE e ρ).ge (.list xs)) : (dE (.bi .tuple (.cons e .nil)) ρ).ge (.tuple xs) := ge_bi (ge_cons h ge_nil) rfl
theorem lotsP_by {r : Str} {n : Nat} {a : List (Nat × Nat)} {f : List Nat → Bool} (h : ∀ l, standB r n a l = f l) : lotsP r n a = (lotsS n).filter f := List.filter_congr fun l _ => h l
end Ad
namespace Ad
open PySem

/-! ### drawn webs of the second kind, all readings, what is shown of lots -/
def readings : List Str := ["free", "answering", "closed", "full", "ruling", "least"]
theorem oneT_run {xs : List D} {b : Nat} {Q : D → Nat → Prop} {R : XV → Nat → Prop} (h0 : 0 < xs.length) (h1 : xs.length ≤ 1000) (hb : 0 < b) (h : ∀ x, x ∈ xs → Q x (b - 1)) : (oneF [deckD, .tuple xs]).run Q R b := by
  refine ⟨rfl, ?_⟩
  show (drawF [deckD, .int (xs.length : Nat)]).run (fun y b => (ixD (.tuple xs) y).run (fun d b => Q d b) R b) R b
  refine draw_run h0 (by omega) hb fun k hk => ?_
  rw [ix_tuple (List.getElem?_eq_getElem hk)]
  exact h _ (List.getElem_mem hk)
theorem run_tup2 {x y : E} {ρ : Ev} {Q : D → Nat → Prop} {R : XV → Nat → Prop} {b : Nat} (h : (dE x ρ).run (fun d b => (dE y ρ).run (fun e b => Q (.tuple [d, e]) b) R b) R b) : (dE (.tup (.cons x (.cons y .nil))) ρ).run Q R b := h
theorem ne_pairsT (a : List (Nat × Nat)) : cmpD .NotEq (.tuple (a.map pairD)) (.tuple []) = pure (!a.isEmpty) := by
  show ((M.grd _ >>= fun _ => (pure (PyData.eqv (.tuple (a.map pairD)) (.tuple [])) : M Bool)) >>= fun r => (pure (!r) : M Bool)) = _
  rw [M.grd_bind (.inl ⟨eqOk_pairsT a, eqOk_pairsT []⟩)]
  cases a <;> rfl
theorem bind_quad {ρ : Ev} {i j k l : Nat} {x y z w : D} : bindT ρ (.t [i, j, k, l]) (.list [x, y, z, w]) = pure ((((ρ.set i (some (x, false))).set j (some (y, false))).set k (some (z, false))).set l (some (w, false))) := M.grd_bind (show ([x, y, z, w] : List D).length = [i, j, k, l].length from rfl) _
theorem bind_quin {ρ : Ev} {i j k l m : Nat} {x y z w v : D} : bindT ρ (.t [i, j, k, l, m]) (.list [x, y, z, w, v]) = pure (((((ρ.set i (some (x, false))).set j (some (y, false))).set k (some (z, false))).set l (some (w, false))).set m (some (v, false))) := M.grd_bind (show ([x, y, z, w, v] : List D).length = [i, j, k, l, m].length from rfl) _
/-- the last comprehension of a law: nothing differs -/
theorem ge_noneF {α : Type} {own : List Nat} {tg : Tg} {it tst : E} {ρ : Ev} (xs : List α) (enc : α → D) (hit : (dE it ρ >>= walked).ge (xs.map enc)) (hn : noOwn ρ own = true) (hf : xs.length ≤ 16777216) (h : ∀ x, x ∈ xs → ∃ ρ1, bindT (wipeE ρ own) tg (enc x) = pure ρ1 ∧ (dE tst ρ1).ge (.bool false)) {elt : E} : (dE (.cmp .Eq (.lc own tg it tst elt) (.lst .nil)) ρ).ge (.bool true) := by
  have hc := lc_get (elt := elt) xs enc (fun _ => false) (fun _ => .int 1) hit hn hf fun x hx => by
    obtain ⟨ρ1, h1, h2⟩ := h x hx
    exact ⟨ρ1, h1, h2, fun z => by cases z⟩
  rw [List.filter_eq_nil_iff.mpr fun _ _ => Bool.false_ne_true] at hc
  exact ge_cmp hc (ge_lst ge_nil) (eq_nil [])
theorem ge_noneN {α : Type} {own : List Nat} {tg : Tg} {it tst : E} {ρ : Ev} (xs : List α) (enc : α → D) (hit : (dE it ρ >>= walked).ge (xs.map enc)) (hn : noOwn ρ own = true) (hf : xs.length ≤ 16777216) (h : ∀ x, x ∈ xs → ∃ ρ1, bindT (wipeE ρ own) tg (enc x) = pure ρ1 ∧ (dE tst ρ1).ge (.bool false)) {elt : E} : (dE (.cmp .NotEq (.lc own tg it tst elt) (.lst .nil)) ρ).ge (.bool false) := by
  have hc := lc_get (elt := elt) xs enc (fun _ => false) (fun _ => .int 1) hit hn hf fun x hx => by
    obtain ⟨ρ1, h1, h2⟩ := h x hx
    exact ⟨ρ1, h1, h2, fun z => by cases z⟩
  rw [List.filter_eq_nil_iff.mpr fun _ _ => Bool.false_ne_true] at hc
  refine ge_cmp hc (ge_lst ge_nil) ?_
  show (eqD (.list (([] : List Nat).map iD)) (.list []) >>= fun r => (pure (!r) : M Bool)) = _
  rw [eq_nil]
  rfl
theorem lot_shw {n : Nat} {l : List Nat} (hn : n ≤ 10) (h : l ∈ lotsN n) : Shw (lotD l) 1 144 := (Shw.tuple (xs := l.map iD) (k := 0) (n := 12) (m := 10) (fun x hx => by
  obtain ⟨k, hk, rfl⟩ := List.mem_map.mp hx
  exact Shw.nat (by have := ((mem_lotsN n l).mp h).2 k hk; omega)) (by
  rw [List.length_map]
  have := lot_len h
  omega)).mono (Nat.le_refl _) (by decide)
theorem lots_shw {n : Nat} {L : List (List Nat)} (hn : n ≤ 10) (h : ∀ l, l ∈ L → l ∈ lotsN n) (hl : L.length ≤ 1024) : Shw (.tuple (L.map lotD)) 2 149508 := (Shw.tuple (xs := L.map lotD) (k := 1) (n := 144) (m := 1024) (fun x hx => by
  obtain ⟨l, hl, rfl⟩ := List.mem_map.mp hx
  exact lot_shw hn (h l hl)) (by
  rw [List.length_map]
  exact hl)).mono (Nat.le_refl _) (by decide)
theorem lotsP_in {r : Str} {n : Nat} {a : List (Nat × Nat)} (l : List Nat) (h : l ∈ lotsP r n a) : l ∈ lotsN n := of_lotsS h
theorem lotsP_len {r : Str} {n : Nat} {a : List (Nat × Nat)} (hn : n ≤ 10) : (lotsP r n a).length ≤ 1024 := Nat.le_trans (List.length_filter_le _ _) (len_lotsS hn)
end Ad
namespace Ad
open PySem

/-! ### lots, as the laws of the first kind tell them -/
theorem ge_eqN {ρ : Ev} {e f : E} {i j : Nat} (h : (dE e ρ).ge (.int (i : Nat))) (g : (dE f ρ).ge (.int (j : Nat))) : (dE (.cmp .Eq e f) ρ).ge (.bool (decide (i = j))) := by
  rw [show decide (i = j) = decide ((i : Int) = (j : Int)) from decide_eq_decide.mpr (by omega)]
  exact ge_cmp h g (cmp_int_eq _ _)
theorem good_ans {n : Nat} {a : List (Nat × Nat)} {l : List Nat} (h : l ∈ lotsN n) : goodB n a l = (freeB a l && l.all (ansB a l)) := by
  unfold goodB
  congr 1
  rw [Bool.eq_iff_iff, List.all_eq_true, List.all_eq_true]
  have e : ∀ k, k ∈ l → (decide (k ∈ answL n a l) = true ↔ ansB a l k = true) := fun k hk => by
    rw [decide_eq_true_eq]
    unfold answL
    rw [List.mem_filter, List.mem_range]
    exact ⟨fun z => z.2, fun z => ⟨((mem_lotsN n l).mp h).2 k hk, z⟩⟩
  exact ⟨fun g k hk => (e k hk).mp (g k hk), fun g k hk => (e k hk).mpr (g k hk)⟩
theorem clos_law {n : Nat} {a : List (Nat × Nat)} {l : List Nat} (h : l ∈ lotsN n) : closB n a l = (goodB n a l && (List.range n).all fun k => !(!decide (k ∈ l) && ansB a l k)) := by
  obtain ⟨h1, h2⟩ := (mem_lotsN n l).mp h
  rw [Bool.eq_iff_iff, Bool.and_eq_true, List.all_eq_true]
  refine ⟨fun g => ⟨clos_good g, fun k hk => ?_⟩, fun ⟨g1, g2⟩ => ?_⟩
  · unfold closB at g
    rw [Bool.and_eq_true, decide_eq_true_eq] at g
    by_cases e : k ∈ l
    · rw [decide_eq_true e]
      rfl
    · cases z : ansB a l k with
      | false => simp
      | true =>
        have : k ∈ answL n a l := List.mem_filter.mpr ⟨hk, z⟩
        rw [g.2] at this
        exact absurd this e
  · unfold goodB at g1
    rw [Bool.and_eq_true, List.all_eq_true] at g1
    unfold closB
    rw [Bool.and_eq_true, decide_eq_true_eq]
    refine ⟨g1.1, Inc.ext ((inc_range n).filter _) h1 fun k => ⟨fun hk => ?_, fun hk => of_decide_eq_true (g1.2 k hk)⟩⟩
    obtain ⟨k1, k2⟩ := List.mem_filter.mp hk
    have := g2 k k1
    rw [k2] at this
    simpa using this
def widB (m l : List Nat) : Bool := decide (l.length < m.length) && sub l m
theorem wid_eq {m l : List Nat} (hm : Inc m) (hl : Inc l) : widB m l = (!decide (m = l) && sub l m) := by
  unfold widB
  cases s : sub l m with
  | false => rw [Bool.and_false, Bool.and_false]
  | true =>
    rw [Bool.and_true, Bool.and_true]
    by_cases e : m = l
    · subst e
      rw [decide_eq_true rfl, decide_eq_false (Nat.lt_irrefl _)]
      rfl
    · rw [decide_eq_false e, decide_eq_true (sub_lt hl hm s fun z => e z.symm)]
      rfl
def l1Ev (n : Nat) (a : List (Nat × Nat)) (r : Str) (x3 x4 : Option (D × Bool)) : Ev := [some (webD n a, false), some (.str r, false), some (.list ((lotsS n).map lotD), false), x3, x4, none, none]
theorem in_two (r x y : Str) : cmpD .In (.str r) (.tuple [.str x, .str y]) = pure (x == r || (y == r || false)) := by
  show (M.grd _ >>= fun _ => (pure (([.str x, .str y] : List D).any fun z => PyData.eqv z (.str r)) : M Bool)) = _
  rw [M.grd_bind ⟨⟨rfl, Nat.zero_le _⟩, ⟨rfl, show 1 ≤ 64 by decide⟩⟩]
  rfl
end Ad
namespace Ad
open PySem

/-- of a comprehension with a drawn test: what it makes is made of its items -/
theorem lcE_some {α : Type} {f : D → M (Option D)} {enc : α → D} {val : α → α} {R : XV → Nat → Prop} {c : Nat} : ∀ {xs : List α} {b : Nat} {Q : List D → Nat → Prop}, (∀ x, x ∈ xs → ∀ b (Q : Option D → Nat → Prop), c ≤ b → (∀ (t : Bool) b', b ≤ b' + c → Q (if t then some (enc (val x)) else none) b') → (f (enc x)).run Q R b) → c * xs.length ≤ b →
    (∀ ys b', List.Sublist ys xs → b ≤ b' + c * xs.length → Q ((ys.map val).map enc) b') → (lcE f (xs.map enc)).run Q R b
  | [], b, Q, _, _, hq => hq [] b (List.Sublist.refl _) (Nat.le_add_right _ _)
  | x :: xs, b, Q, h, hb, hq => by
    have e : c * (x :: xs).length = c * xs.length + c := Nat.mul_succ c xs.length
    rw [e] at hb hq
    refine h x List.mem_cons_self b _ (by omega) fun t b1 hb1 => ?_
    refine lcE_some (xs := xs) (fun y hy => h y (List.mem_cons_of_mem _ hy)) (by omega) fun ys b2 hys hb2 => ?_
    cases t with
    | true => exact hq (x :: ys) b2 (hys.cons_cons x) (by omega)
    | false => exact hq ys b2 (hys.cons x) (by omega)
theorem lc_some {α : Type} {own : List Nat} {tg : Tg} {it tst elt : E} {ρ : Ev} {xs : List α} {enc : α → D} {val : α → α} {c b : Nat} {Q : D → Nat → Prop} {R : XV → Nat → Prop} (hit : (dE it ρ >>= walked).ge (xs.map enc)) (hn : noOwn ρ own = true) (hf : xs.length ≤ 16777216)
    (h : ∀ x, x ∈ xs → ∃ ρ1, bindT (wipeE ρ own) tg (enc x) = pure ρ1 ∧ (∀ b (Q : D → Nat → Prop), c ≤ b → (∀ (t : Bool) b', b ≤ b' + c → Q (.bool t) b') → (dE tst ρ1).run Q (fun _ _ => False) b) ∧ (dE elt ρ1).ge (enc (val x))) (hb : c * xs.length ≤ b)
    (hq : ∀ ys b', List.Sublist ys xs → b ≤ b' + c * xs.length → Q (.list ((ys.map val).map enc)) b') :
    (dE (.lc own tg it tst elt) ρ).run Q R b := by
  have e : dE (.lc own tg it tst elt) ρ = (dE it ρ >>= walked) >>= fun xs => (do
    M.grd (noOwn ρ own = true ∧ fitsD xs)
    let ys ← M.quiet (lcE (fun d => do
      let ρ1 ← bindT (wipeE ρ own) tg d
      let t ← dE tst ρ1
      let b ← asBool t
      if b then (do let y ← dE elt ρ1; pure (some y)) else pure none) xs)
    pure (.list ys)) := rfl
  rw [e]
  refine hit _ R b ⟨⟨hn, by unfold fitsD; rw [List.length_map, sizeLine_eq]; exact hf⟩, ?_⟩
  refine lcE_some (R := fun _ _ => False) (c := c) (val := val) (fun x hx b Q h1 h2 => ?_) hb hq
  obtain ⟨ρ1, e1, e2, e3⟩ := h x hx
  rw [e1]
  refine e2 b _ h1 fun t b' hb' => ?_
  cases t with
  | true => exact e3 _ _ b' (h2 true b' hb')
  | false => exact h2 false b' hb'
end Ad
namespace Ad
open PySem

/-! ### drawn rows; lists of readings -/
def sv (d : D) : Option (D × Bool) := some (d, false)
theorem row_run {n b : Nat} {Q : D → Nat → Prop} {R : XV → Nat → Prop} (hn : n ≤ 10) (hb : 20 ≤ b) (hq : ∀ l b', l ∈ lotsN n → b ≤ b' + 20 → Q (lotD l) b') : (f_law_row [deckD, .int n]).run Q R b := by
  refine ⟨rfl, ?_⟩
  show (dSs b_law_row [some (deckD, false), some (.int n, false), none, none]).run (fun r b => (Rz.out r).run Q R b) R b
  refine run_asgr (run_callr (ds := [deckD, .list [.int 2, .int 2, .int 3, .int 4]]) (ge_cons (ge_v rfl) (ge_cons (ge_lst (ge_cons ge_k (ge_cons ge_k (ge_cons ge_k (ge_cons ge_k ge_nil))))) ge_nil)) ?_)
  refine one_run (xs := [.int 2, .int 2, .int 3, .int 4]) (by decide) (by decide) (by omega) fun x hx => ?_
  obtain ⟨r, hr, rfl⟩ : ∃ r : Nat, (0 < r ∧ r ≤ 1000) ∧ x = .int r := by
    simp at hx
    rcases hx with rfl | rfl | rfl
    · exact ⟨2, by decide, rfl⟩
    · exact ⟨3, by decide, rfl⟩
    · exact ⟨4, by decide, rfl⟩
  show (dE (.bi .tuple (.cons (.lc [3] (.n 3) (.bi .range1 (.cons (.v 1) .nil)) (.cmp .Eq (.call "_law_draw" f_law_draw (.cons (.v 0) (.cons (.v 2) .nil))) (.k (.int 0))) (.v 3)) .nil)) [some (deckD, false), some (.int n, false), some (.int r, false), none]).run Q R (b - 1)
  show (dE (.lc [3] (.n 3) (.bi .range1 (.cons (.v 1) .nil)) (.cmp .Eq (.call "_law_draw" f_law_draw (.cons (.v 0) (.cons (.v 2) .nil))) (.k (.int 0))) (.v 3)) [some (deckD, false), some (.int n, false), some (.int r, false), none]).run (fun d b => (biD .tuple [d]).run Q R b) R (b - 1)
  refine lc_some (xs := List.range n) (enc := iD) (val := fun k => k) (c := 1) (range_ge (ge_v rfl) (by omega)) rfl (by rw [List.length_range]; omega) (fun k _ => ⟨_, rfl, fun b Q h1 h2 => run_draw0 rfl (ge_v rfl) hr h1 fun t => h2 t _ (by omega), ge_v rfl⟩) (by rw [List.length_range]; omega) fun ys b' hys hb' => ?_
  rw [List.length_range] at hb'
  rw [List.map_id']
  exact hq ys b' ((mem_lotsN n ys).mpr ⟨(inc_range n).sublist hys, fun x hx => List.mem_range.mp (hys.subset hx)⟩) (by omega)
theorem lots_back {n : Nat} : ∀ {ys : List D}, (∀ y, y ∈ ys → ∃ l, l ∈ lotsN n ∧ y = lotD l) → ∃ ls : List (List Nat), ys = ls.map lotD ∧ ∀ l, l ∈ ls → l ∈ lotsN n
  | [], _ => ⟨[], rfl, fun l h => nomatch h⟩
  | y :: ys, h => by
    obtain ⟨l, h1, rfl⟩ := h y List.mem_cons_self
    obtain ⟨ls, h2, h3⟩ := lots_back fun z hz => h z (List.mem_cons_of_mem _ hz)
    refine ⟨l :: ls, by rw [h2]; rfl, fun m hm => ?_⟩
    rcases List.mem_cons.mp hm with rfl | hm
    · exact h1
    · exact h3 m hm
theorem run_binl {op : Operator} {x y : E} {ρ : Ev} {Q : D → Nat → Prop} {R : XV → Nat → Prop} {b : Nat} (h : (dE x ρ).run (fun d b => (dE y ρ).run (fun c b => (binD op d c).run Q R b) R b) R b) : (dE (.bin op x y) ρ).run Q R b := h
theorem run_lst1 {x : E} {ρ : Ev} {Q : D → Nat → Prop} {R : XV → Nat → Prop} {b : Nat} (h : (dE x ρ).run (fun d b => Q (.list [d]) b) R b) : (dE (.lst (.cons x .nil)) ρ).run Q R b := h
theorem run_lst2 {x y : E} {ρ : Ev} {d : D} {Q : D → Nat → Prop} {R : XV → Nat → Prop} {b : Nat} (g : (dE x ρ).ge d) (h : (dE y ρ).run (fun e b => Q (.list [d, e]) b) R b) : (dE (.lst (.cons x (.cons y .nil))) ρ).run Q R b := g _ R b h
/-- one list or another, as a test tells -/
theorem mul_list {xs : List D} (h : xs.length ≤ 1000) (t : Bool) : binD .Mult (.list xs) (.int (if t then 1 else 0)) = pure (.list (if t then xs else [])) := by
  cases t with
  | true =>
    show (M.grd _ >>= fun _ => (pure (.list ((List.replicate 1 xs).flatten)) : M D)) = _
    rw [M.grd_bind (by rw [sizeLine_eq]; exact ⟨by decide, by decide, show xs.length * 1 ≤ 16777216 by omega⟩)]
    simp
  | false =>
    show (M.grd _ >>= fun _ => (pure (.list ((List.replicate 0 xs).flatten)) : M D)) = _
    rw [M.grd_bind (by rw [sizeLine_eq]; exact ⟨by decide, by decide, show xs.length * 0 ≤ 16777216 by omega⟩)]
    rfl
def rdD (rs : List Str) : D := .list (rs.map PyData.str)
/-- readings that are known -/
def Rds (rs : List Str) : Prop := (∀ r, r ∈ rs → r ∈ readings) ∧ rs.length ≤ 100
/-- a few more, if the web has many attacks -/
theorem ge_if30 {ρ : Ev} {n i : Nat} {a : List (Nat × Nat)} {es : Es} {xs : List D} (h : ρ[i]? = some (some (webD n a, false))) (g : (dEs es ρ).ge xs) (hl : xs.length ≤ 1000) : ∃ t : Bool, (dE (.bin .Mult (.lst es) (.bi .int1 (.cons (.cmp .Gt (.bi .len (.cons (.ix (.v i) (.k (.int 1))) .nil)) (.k (.int 30))) .nil))) ρ).ge (.list (if t then xs else [])) := by
  refine ⟨decide ((30 : Int) < ((a.length : Nat) : Int)), ge_bin (ge_lst g) (y := .int (if decide ((30 : Int) < ((a.length : Nat) : Int)) then 1 else 0)) (ge_bi (ge_cons (ge_cmp (ge_len (n := a.length) (ge_ix (ge_v h) ge_k rfl) ?_) ge_k rfl) ge_nil) rfl) (mul_list hl _)⟩
  show (pure ((a.map pairD).length : Int) : M Int) = _
  rw [List.length_map]
theorem mem_stand {r : Str} {n : Nat} {a : List (Nat × Nat)} {l : List Nat} (h : l ∈ lotsN n) : decide (l ∈ lotsP r n a) = standB r n a l := by
  rw [Bool.eq_iff_iff, decide_eq_true_eq]
  unfold lotsP
  rw [List.mem_filter]
  exact ⟨fun z => z.2, fun z => ⟨(mem_lotsS n l).mpr h, z⟩⟩
theorem bind_tripT {ρ : Ev} {i j k : Nat} {x y z : D} : bindT ρ (.t [i, j, k]) (.tuple [x, y, z]) = pure (((ρ.set i (some (x, false))).set j (some (y, false))).set k (some (z, false))) := M.grd_bind (show ([x, y, z] : List D).length = [i, j, k].length from rfl) _
end Ad
namespace Ad
open PySem

theorem addT_eq {xs ys : List D} (h : xs.length + ys.length ≤ 16777216) : binD .Add (.tuple xs) (.tuple ys) = pure (.tuple (xs ++ ys)) := M.grd_bind (by rw [sizeLine_eq]; exact h) _
theorem of_some_ge {n : Nat} {c : List (Nat × Nat)} {d : D} (hd : d = .list (c.map pairD) ∨ d = .tuple (c.map pairD)) (hc : ∀ p, p ∈ c → p.1 < 17 ∧ p.2 < 17) : (fof_some [.int n, d]).ge (webD n (sortP c)) := by
  refine dFn_ge rfl fun Q R b q => run_ret (d := webD n (sortP c)) ?_ q
  exact ge_tup (ge_cons (ge_v rfl) (ge_cons (ge_bi (ge_cons (M.ge_bind (ge_cons (ge_v rfl) ge_nil) (sortedSet_ge hd (few_pairs (by decide) hc))) ge_nil) rfl) ge_nil))
end Ad
namespace Ad
open PySem

/-! ### other names: orders drawn, webs renamed -/
/-! names -/
/-- an order of the numbers below n -/
structure Ord (n : Nat) (o : List Nat) : Prop where
  nd : o.Nodup
  len : o.length = n
  lt : ∀ x, x ∈ o → x < n
theorem Ord.get {n : Nat} {o : List Nat} (h : Ord n o) {i : Nat} (hi : i < n) : o[i]? = some (o.getD i 0) := by
  rw [List.getD_eq_getElem?_getD, List.getElem?_eq_getElem (by rw [h.len]; exact hi)]
  rfl
theorem Ord.bd {n : Nat} {o : List Nat} (h : Ord n o) {i : Nat} (hi : i < n) : o.getD i 0 < n := h.lt _ (List.mem_of_getElem? (h.get hi))
theorem Ord.inj {n : Nat} {o : List Nat} (h : Ord n o) {i j : Nat} (hi : i < n) (hj : j < n) (e : o.getD i 0 = o.getD j 0) : i = j := by
  have hi' : i < o.length := by rw [h.len]; exact hi
  have hj' : j < o.length := by rw [h.len]; exact hj
  have e1 : o.getD i 0 = o[i] := by
    rw [List.getD_eq_getElem?_getD, List.getElem?_eq_getElem hi']
    rfl
  have e2 : o.getD j 0 = o[j] := by
    rw [List.getD_eq_getElem?_getD, List.getElem?_eq_getElem hj']
    rfl
  rw [e1, e2] at e
  rcases Nat.lt_trichotomy i j with g | g | g
  · exact absurd e (List.pairwise_iff_getElem.mp h.nd i j hi' hj' g)
  · exact g
  · exact absurd e.symm (List.pairwise_iff_getElem.mp h.nd j i hj' hi' g)
theorem Ord.sur {n : Nat} {o : List Nat} (h : Ord n o) {x : Nat} (hx : x < n) : ∃ i, i < n ∧ o.getD i 0 = x := by
  have m : x ∈ o := Decidable.byContradiction fun q => by
    have := nodup_le (x :: o) (List.range n) (List.nodup_cons.mpr ⟨q, h.nd⟩) fun y hy => by
      rcases List.mem_cons.mp hy with rfl | hy
      · exact List.mem_range.mpr hx
      · exact List.mem_range.mpr (h.lt y hy)
    rw [List.length_range, List.length_cons, h.len] at this
    omega
  obtain ⟨i, hi, e⟩ := List.getElem_of_mem m
  refine ⟨i, by rw [← h.len]; exact hi, ?_⟩
  rw [List.getD_eq_getElem?_getD, List.getElem?_eq_getElem hi]
  exact e
def rn (o : List Nat) (p : Nat × Nat) : Nat × Nat := (o.getD p.1 0, o.getD p.2 0)
def ren (o : List Nat) (a : List (Nat × Nat)) : List (Nat × Nat) := sortP (a.map (rn o))
theorem ren_web {n : Nat} {o : List Nat} {a : List (Nat × Nat)} (h : Ord n o) (ha : InW n a) : Web n (ren o a) := Web.of fun p hp => by
  obtain ⟨q, hq, rfl⟩ := List.mem_map.mp hp
  exact ⟨h.bd (ha q hq).1, h.bd (ha q hq).2⟩
theorem mem_ren {n : Nat} {o : List Nat} {a : List (Nat × Nat)} (h : Ord n o) (ha : InW n a) {i j : Nat} (hi : i < n) (hj : j < n) : rn o (i, j) ∈ ren o a ↔ (i, j) ∈ a := by
  unfold ren
  rw [mem_sortP, List.mem_map]
  refine ⟨fun ⟨q, hq, e⟩ => ?_, fun g => ⟨_, g, rfl⟩⟩
  have b := ha q hq
  have e1 := h.inj b.1 hi (congrArg Prod.fst e)
  have e2 := h.inj b.2 hj (congrArg Prod.snd e)
  rw [show (i, j) = q from Prod.ext e1.symm e2.symm]
  exact hq
theorem run_par2oo {i j : Nat} {e1 e2 : E} {ss : Ss} {ρ : Ev} {xs ys : List D} {Q : Rz → Nat → Prop} {R : XV → Nat → Prop} {b : Nat} (h : (dE e1 ρ).ge (.list xs)) (g : (dE e2 ρ).ge (.list ys)) (hq : (dSs ss ((ρ.set j (some (.list ys, true))).set i (some (.list xs, true)))).run Q R b) : (dSs (.cons (.par [(i, true), (j, true)] (.cons e1 (.cons e2 .nil))) ss) ρ).run Q R b := by
  have e : dPar [(i, true), (j, true)] (.cons e1 (.cons e2 .nil)) ρ = dE e1 ρ >>= fun d => asList d >>= fun xs => dE e2 ρ >>= fun x => asList x >>= fun ys => pure [.list xs, .list ys] := rfl
  show (dPar [(i, true), (j, true)] (.cons e1 (.cons e2 .nil)) ρ >>= fun ds => (pure (.nx (setAll ρ [(i, true), (j, true)] ds)) : M Rz)).run _ R b
  rw [e]
  exact h _ R b (g _ R b hq)
theorem run_appPop {w u : Nat} {e : E} {ss : Ss} {ρ : Ev} {xs ys : List D} {Q : Rz → Nat → Prop} {R : XV → Nat → Prop} {b : Nat} (hw : ρ[w]? = some (some (.list xs, true))) (hu : ρ[u]? = some (some (.list ys, true))) (ne : w ≠ u) (hl : xs.length < 16777216)
    (h : (dE e ρ).run (fun d b => ∃ (i : Nat) (y : D), d = .int i ∧ ys[i]? = some y ∧ (dSs ss (setO (setO ρ u (ys.eraseIdx i)) w (xs ++ [y]))).run Q R b) R b) : (dSs (.cons (.appPop w u e) ss) ρ).run Q R b := by
  have e1 : dS (.appPop w u e) ρ = lookO ρ w >>= fun xs => lookO ρ u >>= fun ys => dE e ρ >>= fun d => asInt d >>= fun i => M.grd (0 ≤ i ∧ i < ys.length ∧ w ≠ u) >>= fun _ => oget ys[i.toNat]? >>= fun y => M.grd (xs.length < sizeLine) >>= fun _ => (pure (.nx (setO (setO ρ u (ys.eraseIdx i.toNat)) w (xs ++ [y]))) : M Rz) := rfl
  have e2 : lookO ρ w = pure xs := by
    unfold lookO
    rw [hw]
  have e3 : lookO ρ u = pure ys := by
    unfold lookO
    rw [hu]
  show (dS (.appPop w u e) ρ).run (fun r b => (Rz.sq (fun ρ => dSs ss ρ) r).run Q R b) R b
  rw [e1, e2, e3]
  refine (dE e ρ).mono (fun d b' z => ?_) (fun _ _ z => z) h
  obtain ⟨i, y, rfl, hy, hz⟩ := z
  have hi := (List.getElem?_eq_some_iff.mp hy).1
  refine ⟨⟨by omega, by omega, ne⟩, ?_⟩
  show (oget ys[(i : Int).toNat]? >>= fun y => M.grd (xs.length < sizeLine) >>= fun _ => (pure (.nx (setO (setO ρ u (ys.eraseIdx (i : Int).toNat)) w (xs ++ [y]))) : M Rz)).run _ R b'
  rw [Int.toNat_natCast, hy]
  exact ⟨by rw [sizeLine_eq]; exact hl, hz⟩
def orEv (n : Nat) (x2 : Option (D × Bool)) (l f : List Nat) : Ev := [some (deckD, false), some (iD n, false), x2, some (.list (l.map iD), true), some (.list (f.map iD), true)]
theorem or_set {n : Nat} {x2 : Option (D × Bool)} {l f l' f' : List Nat} : setO (setO (orEv n x2 l f) 3 (l'.map iD)) 4 (f'.map iD) = orEv n x2 l' f' := rfl
theorem or_erase : ∀ (l : List Nat) (i x : Nat), l[i]? = some x → l.Perm (x :: l.eraseIdx i)
  | [], i, x, h => by
    simp at h
  | y :: l, 0, x, h => by
    cases h
    exact List.Perm.refl _
  | y :: l, i + 1, x, h => ((or_erase l i x h).cons y).trans (List.Perm.swap x y _)
theorem or_emap : ∀ (l : List Nat) (i : Nat), (l.map iD).eraseIdx i = (l.eraseIdx i).map iD
  | [], _ => rfl
  | _ :: _, 0 => rfl
  | x :: l, i + 1 => congrArg (iD x :: ·) (or_emap l i)
theorem order_run {n b : Nat} {Q : D → Nat → Prop} {R : XV → Nat → Prop} (hn : n ≤ 10) (hb : 10 ≤ b) (hq : ∀ o b', Ord n o → b ≤ b' + 10 → Q (.tuple (o.map iD)) b') : (f_law_order [deckD, .int n]).run Q R b := by
  refine ⟨rfl, ?_⟩
  show (dSs b_law_order [some (deckD, false), some (.int n, false), none, none, none]).run (fun r b => (Rz.out r).run Q R b) R b
  refine run_par2oo (xs := (List.range n).map iD) (ys := ([] : List Nat).map iD) (ge_bi (ge_cons (ge_v rfl) ge_nil) ?_) (ge_lst ge_nil) ?_
  · show (M.grd (L2.RgOk 0 (n : Int)) >>= fun _ => (pure (.list (rangeD 0 (n : Int))) : M D)) = _
    rw [M.grd_bind (show L2.RgOk 0 (n : Int) by unfold L2.RgOk; omega), rangeD_nat]
  show (dSs _ (orEv n none (List.range n) [])).run _ R b
  refine run_forN (n := n) (I := fun k ρ b' => b ≤ b' + k ∧ ∃ x2 l f, ρ = orEv n x2 l f ∧ (f ++ l).Perm (List.range n) ∧ l.length + k = n ∧ f.length ≤ k) (range_ge (ge_v rfl) (by omega)) ⟨by omega, none, List.range n, [], rfl, List.Perm.refl _, by rw [List.length_range]; omega, Nat.le_refl _⟩ ?_ ?_
  · intro k hk ρ b1 ⟨hb1, x2, l, f, e, hp, hl, hf⟩
    subst e
    show (dSs _ (orEv n (some (iD k, false)) l f)).run _ R b1
    refine run_appPop (xs := f.map iD) (ys := l.map iD) rfl rfl (by decide) (by rw [List.length_map]; omega) ?_
    refine run_callr (ds := [deckD, .int l.length]) (ge_cons (ge_v rfl) (ge_cons (ge_len (n := l.length) (ge_w rfl) (by
      show (pure ((l.map iD).length : Int) : M Int) = _
      rw [List.length_map])) ge_nil)) (draw_run (by omega) (by omega) (by omega) fun i hi => ?_)
    refine ⟨i, iD l[i], rfl, by rw [List.getElem?_map, List.getElem?_eq_getElem hi]; rfl, ?_⟩
    rw [show (l.map iD).eraseIdx i = (l.eraseIdx i).map iD from or_emap l i, show f.map iD ++ [iD l[i]] = (f ++ [l[i]]).map iD from (List.map_append (f := iD) (l₁ := f) (l₂ := [l[i]])).symm, or_set]
    refine ⟨by omega, _, l.eraseIdx i, f ++ [l[i]], rfl, ?_, ?_, ?_⟩
    · rw [List.append_assoc]
      exact ((or_erase l i l[i] (List.getElem?_eq_getElem hi)).symm.append_left f).trans hp
    · rw [List.length_eraseIdx_of_lt hi]
      omega
    · rw [List.length_append]
      show f.length + 1 ≤ _
      omega
  · intro ρ b1 ⟨hb1, x2, l, f, e, hp, hl, hf⟩
    subst e
    have l0 : l = [] := List.eq_nil_of_length_eq_zero (by omega)
    subst l0
    rw [List.append_nil] at hp
    refine run_ret (d := .tuple (f.map iD)) (ge_tupL (ge_w rfl)) (hq f b1 ⟨hp.nodup_iff.mpr List.nodup_range, ?_, fun x hx => List.mem_range.mp (hp.mem_iff.mp hx)⟩ (by omega))
    have := hp.length_eq
    rw [List.length_range] at this
    exact this
theorem renamed_ge {n : Nat} {a : List (Nat × Nat)} {o : List Nat} (hn : n ≤ 10) (ha : Web n a) (h : Ord n o) : (frenamed [webD n a, .tuple (o.map iD)]).ge (webD n (ren o a)) := by
  have la := ha.len (show n ≤ 17 by omega)
  have ix : ∀ i, i < n → ixD (.tuple (o.map iD)) (.int (i : Nat)) = pure (iD (o.getD i 0)) := fun i hi => ix_tuple (by
    rw [List.getElem?_map, h.get hi]
    rfl)
  refine dFn_ge rfl fun Q R b q => run_ret (d := webD n (ren o a)) ?_ q
  refine ge_call (ds := [.int n, .list ((a.map (rn o)).map pairD)]) (ge_cons (ge_ix (ge_v rfl) ge_k rfl) (ge_cons ?_ ge_nil)) (of_some_ge (.inl rfl) fun p hp => ?_)
  · have g := lc_get (own := [2, 3]) (tg := .t [2, 3]) (it := .ix (.v 0) (.k (.int 1))) (tst := .k (.bool true)) (elt := .tup (.cons (.ix (.v 1) (.v 2)) (.cons (.ix (.v 1) (.v 3)) .nil))) (ρ := [some (webD n a, false), some (.tuple (o.map iD), false), none, none]) a pairD (fun _ => true) (fun p => pairD (rn o p)) (M.ge_bind (ge_ix (ge_v rfl) ge_k rfl) M.ge_pure) rfl (by omega) fun p hp => ⟨_, bind_pair, ge_k, fun _ => ge_tup (ge_cons (ge_ix (ge_v rfl) (ge_v rfl) (ix p.1 (ha.i p hp).1)) (ge_cons (ge_ix (ge_v rfl) (ge_v rfl) (ix p.2 (ha.i p hp).2)) ge_nil))⟩
    rw [filter_all] at g
    rw [List.map_map]
    exact g
  · obtain ⟨q, hq, rfl⟩ := List.mem_map.mp hp
    have b1 := h.bd (ha.i q hq).1
    have b2 := h.bd (ha.i q hq).2
    show o.getD q.1 0 < 17 ∧ o.getD q.2 0 < 17
    omega
end Ad
namespace Ad
open PySem

/-! ### a part of a web -/
/-- the attacks within a lot, by its places -/
def partP (l : List Nat) (a : List (Nat × Nat)) : List (Nat × Nat) := (a.filter fun p => decide (p.1 ∈ l) && decide (p.2 ∈ l)).map fun p => (l.idxOf p.1, l.idxOf p.2)
theorem inc_idx {l : List Nat} (h : Inc l) {x y : Nat} (hx : x ∈ l) (hy : y ∈ l) : l.idxOf x < l.idxOf y ↔ x < y := by
  have bx := List.idxOf_lt_length_iff.mpr hx
  have bY := List.idxOf_lt_length_iff.mpr hy
  have ex : l[l.idxOf x] = x := List.getElem_idxOf bx
  have ey : l[l.idxOf y] = y := List.getElem_idxOf bY
  constructor
  · intro z
    have := List.pairwise_iff_getElem.mp h _ _ bx bY z
    rw [ex, ey] at this
    exact this
  · intro z
    rcases Nat.lt_trichotomy (l.idxOf x) (l.idxOf y) with g | g | g
    · exact g
    · have : x = y := by
        rw [← ex, ← ey]
        exact getElem_congr rfl g _
      omega
    · have := List.pairwise_iff_getElem.mp h _ _ bY bx g
      rw [ex, ey] at this
      omega
theorem inc_idx_eq {l : List Nat} {x y : Nat} (hx : x ∈ l) (hy : y ∈ l) : l.idxOf x = l.idxOf y ↔ x = y := by
  refine ⟨fun z => ?_, fun z => by rw [z]⟩
  have bx := List.idxOf_lt_length_iff.mpr hx
  have bY := List.idxOf_lt_length_iff.mpr hy
  have ex : l[l.idxOf x] = x := List.getElem_idxOf bx
  have ey : l[l.idxOf y] = y := List.getElem_idxOf bY
  rw [← ex, ← ey]
  exact getElem_congr rfl z _
theorem idx_at {l : List Nat} (h : Inc l) {i : Nat} (hi : i < l.length) : l.idxOf l[i] = i := by
  have m : l[i] ∈ l := List.getElem_mem hi
  have b := List.idxOf_lt_length_iff.mpr m
  have e : l[l.idxOf l[i]] = l[i] := List.getElem_idxOf b
  rcases Nat.lt_trichotomy (l.idxOf l[i]) i with g | g | g
  · have := List.pairwise_iff_getElem.mp h _ _ b hi g
    omega
  · exact g
  · have := List.pairwise_iff_getElem.mp h _ _ hi b g
    omega
theorem srt_part {l : List Nat} {a : List (Nat × Nat)} (h : Inc l) (ha : Srt a) : Srt (partP l a) := by
  unfold partP
  refine List.pairwise_map.mpr ?_
  refine (ha.filter _).imp_of_mem fun {p q} hp hq z => ?_
  have hp' := (List.mem_filter.mp hp).2
  have hq' := (List.mem_filter.mp hq).2
  rw [Bool.and_eq_true, decide_eq_true_eq, decide_eq_true_eq] at hp' hq'
  unfold ltP at z ⊢
  rcases z with z | ⟨z, y⟩
  · exact .inl ((inc_idx h hp'.1 hq'.1).mpr z)
  · exact .inr ⟨by rw [z], (inc_idx h hp'.2 hq'.2).mpr y⟩
theorem mem_part {l : List Nat} {a : List (Nat × Nat)} (h : Inc l) (i j : Nat) : (i, j) ∈ partP l a ↔ i < l.length ∧ j < l.length ∧ (l.getD i 0, l.getD j 0) ∈ a := by
  unfold partP
  rw [List.mem_map]
  constructor
  · rintro ⟨p, hp, e⟩
    obtain ⟨h1, h2⟩ := List.mem_filter.mp hp
    rw [Bool.and_eq_true, decide_eq_true_eq, decide_eq_true_eq] at h2
    have e1 : l.idxOf p.1 = i := congrArg Prod.fst e
    have e2 : l.idxOf p.2 = j := congrArg Prod.snd e
    have b1 := List.idxOf_lt_length_iff.mpr h2.1
    have b2 := List.idxOf_lt_length_iff.mpr h2.2
    subst e1 e2
    refine ⟨b1, b2, ?_⟩
    rw [List.getD_eq_getElem?_getD, List.getD_eq_getElem?_getD, List.getElem?_eq_getElem b1, List.getElem?_eq_getElem b2]
    show (l[l.idxOf p.1], l[l.idxOf p.2]) ∈ a
    rw [List.getElem_idxOf b1, List.getElem_idxOf b2]
    exact h1
  · rintro ⟨b1, b2, m⟩
    rw [List.getD_eq_getElem?_getD, List.getD_eq_getElem?_getD, List.getElem?_eq_getElem b1, List.getElem?_eq_getElem b2] at m
    refine ⟨(l[i], l[j]), List.mem_filter.mpr ⟨m, ?_⟩, Prod.ext (idx_at h b1) (idx_at h b2)⟩
    rw [Bool.and_eq_true, decide_eq_true_eq, decide_eq_true_eq]
    exact ⟨List.getElem_mem b1, List.getElem_mem b2⟩
theorem part_web {l : List Nat} {a : List (Nat × Nat)} (h : Inc l) (ha : Srt a) : Web l.length (partP l a) := ⟨fun p hp => by
  obtain ⟨i, j⟩ := p
  obtain ⟨h1, h2, _⟩ := (mem_part h i j).mp hp
  exact ⟨h1, h2⟩, srt_part h ha⟩
theorem part_all {n : Nat} {a : List (Nat × Nat)} (ha : Web n a) : partP (List.range n) a = a := (srt_part (inc_range n) ha.s).ext ha.s fun p => by
  obtain ⟨i, j⟩ := p
  rw [mem_part (inc_range n), List.length_range]
  have e : ∀ k, k < n → (List.range n).getD k 0 = k := fun k hk => by
    rw [List.getD_eq_getElem?_getD, List.getElem?_range hk]
    rfl
  constructor
  · rintro ⟨h1, h2, h3⟩
    rw [e i h1, e j h2] at h3
    exact h3
  · intro m
    have b := ha.i _ m
    refine ⟨b.1, b.2, ?_⟩
    rw [e i b.1, e j b.2]
    exact m

/-! ### the program's -/
theorem ge_tindex {ρ : Ev} {x y : E} {l : List Nat} {k : Nat} (h : (dE x ρ).ge (lotD l)) (g : (dE y ρ).ge (iD k)) (m : k ∈ l) : (dE (.mt .tindex x (.cons y .nil)) ρ).ge (iD (l.idxOf k)) := by
  refine M.ge_bind h ?_
  refine M.ge_bind (v := ()) (M.ge_pure (v := ())) (M.ge_bind (ge_cons g ge_nil) ?_)
  have e : (l.map iD).map (fun z => PyData.eqv z (iD k)) = l.map fun z => decide (z = k) := by
    rw [List.map_map]
    refine List.map_congr_left fun z _ => ?_
    show decide ((z : Int) = (k : Int)) = _
    exact decide_eq_decide.mpr (by omega)
  have e2 : ∀ t : List Nat, k ∈ t → (t.map fun z => decide (z = k)).idxOf true = t.idxOf k := by
    intro t
    induction t with
    | nil => intro h; exact nomatch h
    | cons z t ih =>
      intro h
      by_cases hz : z = k
      · subst hz
        simp
      · have hk : k ∈ t := by
          rcases List.mem_cons.mp h with r | r
          · exact absurd r.symm hz
          · exact r
        have ih' := ih hk
        rw [List.map_cons, decide_eq_false hz, List.idxOf_cons, List.idxOf_cons, ih']
        have : (z == k) = false := by simpa using hz
        rw [this]
        rfl
  have tr : true ∈ (l.map iD).map fun z => PyData.eqv z (iD k) := by
    rw [e]
    exact List.mem_map.mpr ⟨k, m, decide_eq_true rfl⟩
  intro Q R b q
  refine ⟨⟨eqOk_int _, ⟨(ints_plain l).1, ?_⟩, tr⟩, ?_⟩
  · show PyData.depthAll (l.map iD) + 1 ≤ 64
    rw [(ints_plain l).2]
    decide
  · show Q (.int (((l.map iD).map fun z => PyData.eqv z (iD k)).idxOf true : Nat)) b
    rw [e, e2 l m]
    exact q
/-- the attacks within a lot -/
def keptP (l : List Nat) (a : List (Nat × Nat)) : List (Nat × Nat) := a.filter fun p => decide (p.1 ∈ l) && decide (p.2 ∈ l)
def ptEv (n : Nat) (a : List (Nat × Nat)) (l : List Nat) (x2 : Option (D × Bool)) : Ev := [some (webD n a, false), some (lotD l, false), x2, none, none, none]
theorem kept_ge {n : Nat} {a : List (Nat × Nat)} {l : List Nat} (la : a.length ≤ 1000) : (dE (.lc [3] (.n 3) (.ix (.v 0) (.k (.int 1))) (.and (.cmp .In (.ix (.v 3) (.k (.int 0))) (.v 1)) (.cmp .In (.ix (.v 3) (.k (.int 1))) (.v 1))) (.v 3)) (ptEv n a l none)).ge (.list ((keptP l a).map pairD)) :=
  lc_get a pairD (fun p => decide (p.1 ∈ l) && decide (p.2 ∈ l)) pairD (M.ge_bind (ge_ix (ge_v rfl) ge_k rfl) M.ge_pure) rfl (by omega) fun p hp =>
    ⟨_, rfl, ge_and (ge_cmp (ge_ix (ge_v rfl) ge_k rfl) (ge_v rfl) (in_nats p.1 l)) (fun _ => ge_cmp (ge_ix (ge_v rfl) ge_k rfl) (ge_v rfl) (in_nats p.2 l)), fun _ => ge_v rfl⟩
theorem anew_ge {n : Nat} {a : List (Nat × Nat)} {l : List Nat} (la : a.length ≤ 1000) : (dE (.lc [4, 5] (.t [4, 5]) (.v 2) (.k (.bool true)) (.tup (.cons (.mt .tindex (.v 1) (.cons (.v 4) .nil)) (.cons (.mt .tindex (.v 1) (.cons (.v 5) .nil)) .nil)))) (ptEv n a l (some (.list ((keptP l a).map pairD), false)))).ge (.list ((partP l a).map pairD)) := by
  have fl : (keptP l a).length ≤ a.length := List.length_filter_le _ _
  have g2 := lc_get (own := [4, 5]) (tg := .t [4, 5]) (it := .v 2) (tst := .k (.bool true)) (elt := .tup (.cons (.mt .tindex (.v 1) (.cons (.v 4) .nil)) (.cons (.mt .tindex (.v 1) (.cons (.v 5) .nil)) .nil))) (ρ := ptEv n a l (some (.list ((keptP l a).map pairD), false)))
    (keptP l a) pairD (fun _ => true) (fun p => pairD (l.idxOf p.1, l.idxOf p.2)) (M.ge_bind (ge_v rfl) M.ge_pure) rfl (by omega) fun p hp => by
      have h2 := (List.mem_filter.mp hp).2
      rw [Bool.and_eq_true, decide_eq_true_eq, decide_eq_true_eq] at h2
      exact ⟨_, bind_pair, ge_k, fun _ => ge_tup (ge_cons (ge_tindex (ge_v rfl) (ge_v rfl) h2.1) (ge_cons (ge_tindex (ge_v rfl) (ge_v rfl) h2.2) ge_nil))⟩
  rw [filter_all] at g2
  have e : (partP l a).map pairD = (keptP l a).map fun p => pairD (l.idxOf p.1, l.idxOf p.2) := by
    unfold partP keptP
    rw [List.map_map]
    rfl
  rw [e]
  exact g2
theorem part_ge {n : Nat} {a : List (Nat × Nat)} {l : List Nat} (la : a.length ≤ 1000) : (fpart [webD n a, lotD l]).ge (webD l.length (partP l a)) := by
  refine dFn_ge rfl fun Q R b q => ?_
  refine run_asg (kept_ge la) ?_
  refine run_ret (ge_tup (ge_cons (ge_len (n := l.length) (ge_v rfl) ?_) (ge_cons (ge_tupL (anew_ge la)) ge_nil))) q
  show (pure ((l.map iD).length : Int) : M Int) = _
  rw [List.length_map]
end Ad
namespace Ad
open PySem

/-! ### the law -/
def lEv (x2 x3 x4 x5 x6 x7 x8 : Option (D × Bool)) : Ev := [none, some (deckD, false), x2, x3, x4, x5, x6, x7, x8, none, none, none]
def dueB : Ss := (.cons (.ext 6 (.lc [9] (.n 9) (.bi .range1 (.cons (.bi .len (.cons (.v 7) .nil)) .nil)) (.cmp .In (.tup (.cons (.ix (.v 7) (.v 8)) (.cons (.ix (.v 7) (.v 9)) .nil))) (.ix (.v 3) (.k (.int 1)))) (.tup (.cons (.v 8) (.cons (.v 9) .nil))))) .nil)
def inP (l : List Nat) (a : List (Nat × Nat)) (p : Nat × Nat) : Bool := decide ((l.getD p.1 0, l.getD p.2 0) ∈ a)
def ow (l : List (Nat × Nat)) : Option (D × Bool) := some (.list (l.map pairD), true)
theorem part_filter {l : List Nat} {a : List (Nat × Nat)} (h : Inc l) (ha : Srt a) : (allP l.length).filter (inP l a) = partP l a := ((srt_upTo _ _).filter _).ext (srt_part h ha) fun p => by
  obtain ⟨i, j⟩ := p
  rw [mem_part h, List.mem_filter, mem_upTo]
  unfold inP
  rw [decide_eq_true_eq]
  exact and_assoc
theorem lot_at {l : List Nat} {k : Nat} (h : k < l.length) : ixD (lotD l) (iD k) = pure (iD (l.getD k 0)) := ix_tuple (by
  rw [List.getElem?_map, List.getD_eq_getElem?_getD, List.getElem?_eq_getElem h]
  rfl)
theorem due_run {n b : Nat} {a : List (Nat × Nat)} {l : List Nat} {x2 x4 x5 x8 : Option (D × Bool)} {ss : Ss} {Q : Rz → Nat → Prop} {R : XV → Nat → Prop} (hl : l.length ≤ 10)
    (hq : ∀ x8, (dSs ss (lEv x2 (sv (webD n a)) x4 x5 (ow ((allP l.length).filter (inP l a))) (sv (lotD l)) x8)).run Q R b) :
    (dSs (.cons (.for (.n 8) (.bi .range1 (.cons (.bi .len (.cons (.v 7) .nil)) .nil)) dueB) ss) (lEv x2 (sv (webD n a)) x4 x5 (ow []) (sv (lotD l)) x8)).run Q R b := by
  have len : ∀ {ρ : Ev}, ρ[7]? = some (some (lotD l, false)) → (dE (.bi .len (.cons (.v 7) .nil)) ρ).ge (.int l.length) := fun h => ge_len (n := l.length) (ge_v h) (by
    show (pure ((l.map iD).length : Int) : M Int) = _
    rw [List.length_map])
  refine run_forN (n := l.length) (I := fun k ρ b' => b' = b ∧ ∃ x8, ρ = lEv x2 (sv (webD n a)) x4 x5 (ow ((upTo l.length k).filter (inP l a))) (sv (lotD l)) x8) (range_ge (len rfl) (by omega)) ⟨rfl, x8, rfl⟩ ?_ ?_
  · intro k hk ρ b1 ⟨e0, y8, e⟩
    subst e0 e
    have e : (lEv x2 (sv (webD n a)) x4 x5 (ow ((upTo l.length k).filter (inP l a))) (sv (lotD l)) y8).set 8 (some (iD k, false)) = lEv x2 (sv (webD n a)) x4 x5 (ow ((upTo l.length k).filter (inP l a))) (sv (lotD l)) (sv (iD k)) := rfl
    rw [e]
    have g := lc_get (own := [9]) (tg := .n 9) (it := .bi .range1 (.cons (.bi .len (.cons (.v 7) .nil)) .nil)) (tst := .cmp .In (.tup (.cons (.ix (.v 7) (.v 8)) (.cons (.ix (.v 7) (.v 9)) .nil))) (.ix (.v 3) (.k (.int 1)))) (elt := .tup (.cons (.v 8) (.cons (.v 9) .nil)))
      (ρ := lEv x2 (sv (webD n a)) x4 x5 (ow ((upTo l.length k).filter (inP l a))) (sv (lotD l)) (sv (iD k))) (List.range l.length) iD (fun j => inP l a (k, j)) (fun j => pairD (k, j)) (range_ge (len rfl) (by omega)) rfl (by rw [List.length_range]; omega) fun j hj =>
        ⟨_, rfl, ge_cmp (ge_tup (ge_cons (ge_ix (ge_v rfl) (ge_v rfl) (lot_at hk)) (ge_cons (ge_ix (ge_v rfl) (ge_v rfl) (lot_at (List.mem_range.mp hj))) ge_nil))) (ge_ix (ge_v rfl) ge_k rfl) (in_pairs (l.getD k 0, l.getD j 0) a), fun _ => ge_tup (ge_cons (ge_v rfl) (ge_cons (ge_v rfl) ge_nil))⟩
    have eq : ((upTo l.length k).filter (inP l a)).map pairD ++ ((List.range l.length).filter fun j => inP l a (k, j)).map (fun j => pairD (k, j)) = ((upTo l.length (k + 1)).filter (inP l a)).map pairD := by
      rw [upTo_succ, List.filter_append, List.map_append, List.filter_map, List.map_map]
      rfl
    have lu : ((upTo l.length k).filter (inP l a)).length ≤ 100 := Nat.le_trans (List.length_filter_le _ _) (by
      rw [len_upTo]
      exact Nat.le_trans (Nat.mul_le_mul (Nat.le_of_lt hk) (Nat.le_refl _)) (Nat.le_trans (Nat.mul_le_mul hl hl) (Nat.le_refl _)))
    have lv : ((List.range l.length).filter fun j => inP l a (k, j)).length ≤ 10 := Nat.le_trans (List.length_filter_le _ _) (by rw [List.length_range]; exact hl)
    refine run_ext (xs := ((upTo l.length k).filter (inP l a)).map pairD) rfl g (by rw [List.length_map, List.length_map]; omega) ?_
    rw [eq]
    exact ⟨rfl, _, rfl⟩
  · intro ρ b1 ⟨e0, y8, e⟩
    subst e0 e
    exact hq y8
def lotB : Ss := (.cons (.asg 7 (.call "_law_row" f_law_row (.cons (.v 1) (.cons (.ix (.v 3) (.k (.int 0))) .nil)))) (.cons (.asgO 6 (.lst .nil)) (.cons (.for (.n 8) (.bi .range1 (.cons (.bi .len (.cons (.v 7) .nil)) .nil)) dueB) (.cons (.ite (.cmp .NotEq (.bi .repr (.cons (.call "part" fpart (.cons (.v 3) (.cons (.v 7) .nil))) .nil)) (.bi .repr (.cons (.tup (.cons (.bi .len (.cons (.v 7) .nil)) (.cons (.bi .tuple (.cons (.w 6) .nil)) .nil))) .nil))) (.cons (.ret (.k (.bool false))) .nil) .nil) .nil))))
theorem web_ne0 {n : Nat} {a : List (Nat × Nat)} {e1 e2 : E} {ρ : Ev} (h : Web n a) (hn : n ≤ 10) (g1 : (dE e1 ρ).ge (webD n a)) (g2 : (dE e2 ρ).ge (webD n a)) : (dE (.cmp .NotEq (.bi .repr (.cons e1 .nil)) (.bi .repr (.cons e2 .nil))) ρ).ge (.bool false) := by
  have sh := (h.shw (show n ≤ 17 by omega)).repr (by decide) (by decide)
  exact ge_cmp (ge_bi (ge_cons g1 ge_nil) sh) (ge_bi (ge_cons g2 ge_nil) sh) (ne_str _)
theorem lot_run {n b : Nat} {a : List (Nat × Nat)} {x2 x4 x5 x6 x7 x8 : Option (D × Bool)} {Q : Rz → Nat → Prop} {R : XV → Nat → Prop} (hn : n ≤ 10) (ha : Web n a) (hb : 20 ≤ b)
    (hq : ∀ x6 x7 x8 b', b ≤ b' + 20 → Q (.nx (lEv x2 (sv (webD n a)) x4 x5 x6 x7 x8)) b') : (dSs lotB (lEv x2 (sv (webD n a)) x4 x5 x6 x7 x8)).run Q R b := by
  have la := ha.len (show n ≤ 17 by omega)
  refine run_asgr (run_callr (ds := [deckD, .int n]) (ge_cons (ge_v rfl) (ge_cons (ge_ix (ge_v rfl) ge_k rfl) ge_nil)) (row_run hn hb fun l b' hl hb' => ?_))
  obtain ⟨hi, hlt⟩ := (mem_lotsN n l).mp hl
  have ll : l.length ≤ 10 := by
    have := nodup_le l (List.range n) (hi.imp fun z => Nat.ne_of_lt z) fun x hx => List.mem_range.mpr (hlt x hx)
    rw [List.length_range] at this
    omega
  refine run_asgO (xs := []) (ge_lst ge_nil) ?_
  show (dSs _ (lEv x2 (sv (webD n a)) x4 x5 (ow []) (sv (lotD l)) x8)).run Q R b'
  refine due_run ll fun y8 => ?_
  rw [part_filter hi ha.s]
  have pw := part_web hi ha.s
  refine run_ifF (web_ne0 pw ll (ge_call (ge_cons (ge_v rfl) (ge_cons (ge_v rfl) ge_nil)) (part_ge (show a.length ≤ 1000 by omega))) (ge_tup (ge_cons (ge_len (n := l.length) (ge_v rfl) ?_) (ge_cons (ge_tupL (ge_w rfl)) ge_nil)))) (hq _ _ _ b' hb')
  show (pure ((l.map iD).length : Int) : M Int) = _
  rw [List.length_map]
theorem ren_merge {n : Nat} {o : List Nat} {a : List (Nat × Nat)} (h : Ord n o) (ha : Web n a) : (a.map (rn o)).mergeSort leP = ren o a := by
  have nd : (a.map (rn o)).Nodup := by
    refine List.pairwise_map.mpr (ha.s.nodup.imp_of_mem fun {p q} hp hq ne e => ne ?_)
    exact Prod.ext (h.inj (ha.i p hp).1 (ha.i q hq).1 (congrArg Prod.fst e)) (h.inj (ha.i p hp).2 (ha.i q hq).2 (congrArg Prod.snd e))
  exact (srt_merge nd).ext (srt_sortP _) fun p => by
    rw [(List.mergeSort_perm _ _).mem_iff]
    exact (mem_sortP _ p).symm
def endB : Ss := (.cons (.asg 5 (.call "_law_order" f_law_order (.cons (.v 1) (.cons (.ix (.v 3) (.k (.int 0))) .nil)))) (.cons (.asg 6 (.tup (.cons (.ix (.v 3) (.k (.int 0))) (.cons (.bi .tuple (.cons (.bi .sorted (.cons (.lc [10, 11] (.t [10, 11]) (.ix (.v 3) (.k (.int 1))) (.k (.bool true)) (.tup (.cons (.ix (.v 5) (.v 10)) (.cons (.ix (.v 5) (.v 11)) .nil)))) .nil)) .nil)) .nil)))) (.cons (.ite (.or (.cmp .NotEq (.bi .repr (.cons (.call "renamed" frenamed (.cons (.v 3) (.cons (.v 5) .nil))) .nil)) (.bi .repr (.cons (.w 6) .nil))) (.cmp .NotEq (.bi .repr (.cons (.call "part" fpart (.cons (.v 3) (.cons (.bi .tupRange1 (.cons (.ix (.v 3) (.k (.int 0))) .nil)) .nil))) .nil)) (.bi .repr (.cons (.v 3) .nil)))) (.cons (.ret (.k (.bool false))) .nil) .nil) .nil)))
theorem end_run {n b : Nat} {a : List (Nat × Nat)} {x2 x4 x5 x6 x7 x8 : Option (D × Bool)} {Q : Rz → Nat → Prop} {R : XV → Nat → Prop} (hn : n ≤ 10) (ha : Web n a) (hb : 10 ≤ b)
    (hq : ∀ x5 x6 b', b ≤ b' + 10 → Q (.nx (lEv x2 (sv (webD n a)) x4 x5 x6 x7 x8)) b') : (dSs endB (lEv x2 (sv (webD n a)) x4 x5 x6 x7 x8)).run Q R b := by
  have la := ha.len (show n ≤ 17 by omega)
  refine run_asgr (run_callr (ds := [deckD, .int n]) (ge_cons (ge_v rfl) (ge_cons (ge_ix (ge_v rfl) ge_k rfl) ge_nil)) (order_run hn hb fun o b' ho hb' => ?_))
  have ix : ∀ i, i < n → ixD (.tuple (o.map iD)) (.int (i : Nat)) = pure (iD (o.getD i 0)) := fun i hi => ix_tuple (by
    rw [List.getElem?_map, ho.get hi]
    rfl)
  have e : (lEv x2 (sv (webD n a)) x4 x5 x6 x7 x8).set 5 (some (.tuple (o.map iD), false)) = lEv x2 (sv (webD n a)) x4 (sv (.tuple (o.map iD))) x6 x7 x8 := rfl
  rw [e]
  have g := lc_get (own := [10, 11]) (tg := .t [10, 11]) (it := .ix (.v 3) (.k (.int 1))) (tst := .k (.bool true)) (elt := .tup (.cons (.ix (.v 5) (.v 10)) (.cons (.ix (.v 5) (.v 11)) .nil))) (ρ := lEv x2 (sv (webD n a)) x4 (sv (.tuple (o.map iD))) x6 x7 x8) a pairD (fun _ => true) (fun p => pairD (rn o p)) (M.ge_bind (ge_ix (ge_v rfl) ge_k rfl) M.ge_pure) rfl (by omega) fun p hp => ⟨_, bind_pair, ge_k, fun _ => ge_tup (ge_cons (ge_ix (ge_v rfl) (ge_v rfl) (ix p.1 (ha.i p hp).1)) (ge_cons (ge_ix (ge_v rfl) (ge_v rfl) (ix p.2 (ha.i p hp).2)) ge_nil))⟩
  rw [filter_all, show a.map (fun p => pairD (rn o p)) = (a.map (rn o)).map pairD by rw [List.map_map]; rfl] at g
  have g2 := sorted_geL (.inl rfl) g
  rw [ren_merge ho ha] at g2
  refine run_asg (d := webD n (ren o a)) (ge_tup (ge_cons (ge_ix (ge_v rfl) ge_k rfl) (ge_cons (ge_tupL g2) ge_nil))) ?_
  have e : (lEv x2 (sv (webD n a)) x4 (sv (.tuple (o.map iD))) x6 x7 x8).set 6 (some (webD n (ren o a), false)) = lEv x2 (sv (webD n a)) x4 (sv (.tuple (o.map iD))) (sv (webD n (ren o a))) x7 x8 := rfl
  rw [e]
  refine run_ifF (ge_or (x := false) (y := false) (web_ne0 (ren_web ho ha.i) hn (ge_call (ge_cons (ge_v rfl) (ge_cons (ge_v rfl) ge_nil)) (renamed_ge hn ha ho)) (ge_w rfl)) fun _ => web_ne0 ha hn ?_ (ge_v rfl)) (hq _ _ b' hb')
  have p := part_ge (n := n) (a := a) (l := List.range n) (show a.length ≤ 1000 by omega)
  rw [part_all ha, List.length_range] at p
  refine ge_call (ge_cons (ge_v rfl) (ge_cons (d := lotD (List.range n)) (ge_bi (ge_cons (ge_ix (ge_v rfl) ge_k rfl) ge_nil) ?_) ge_nil)) p
  show (M.grd (L2.RgOk 0 (n : Int)) >>= fun _ => (pure (.tuple (rangeD 0 (n : Int))) : M D)) = _
  rw [M.grd_bind (show L2.RgOk 0 (n : Int) by unfold L2.RgOk; omega), rangeD_nat]
  rfl
def turnB : Ss := (.cons (.asg 3 (.call "_law_web" f_law_web (.cons (.v 1) (.cons (.k (.int 8)) .nil)))) (.cons (.for (.n 4) (.bi .range1 (.cons (.k (.int 4)) .nil)) lotB) endB))
theorem turn_run {b : Nat} {x2 x3 x4 x5 x6 x7 x8 : Option (D × Bool)} {Q : Rz → Nat → Prop} {R : XV → Nat → Prop} (hb : 400 ≤ b)
    (hq : ∀ x3 x4 x5 x6 x7 x8 b', b ≤ b' + 400 → Q (.nx (lEv x2 x3 x4 x5 x6 x7 x8)) b') : (dSs turnB (lEv x2 x3 x4 x5 x6 x7 x8)).run Q R b := by
  refine run_asgr (run_callr (ds := [deckD, .int (8 : Nat)]) (ge_cons (ge_v rfl) (ge_cons ge_k ge_nil)) (web_runS (by omega) (by omega) fun n a b1 hn hi hs hb1 => ?_))
  have ha : Web n a := ⟨hi, hs⟩
  have e : (lEv x2 x3 x4 x5 x6 x7 x8).set 3 (some (webD n a, false)) = lEv x2 (sv (webD n a)) x4 x5 x6 x7 x8 := rfl
  rw [e]
  refine run_forN (n := 4) (I := fun k ρ b' => b1 ≤ b' + k * 20 ∧ ∃ x4 x5 x6 x7 x8, ρ = lEv x2 (sv (webD n a)) x4 x5 x6 x7 x8) (range_ge M.ge_pure (by decide)) ⟨by omega, x4, x5, x6, x7, x8, rfl⟩ ?_ ?_
  · intro k hk ρ b2 ⟨h2, y4, y5, y6, y7, y8, e⟩
    subst e
    show (dSs lotB (lEv x2 (sv (webD n a)) (sv (iD k)) y5 y6 y7 y8)).run _ R b2
    exact lot_run (by omega) ha (by omega) fun z6 z7 z8 b' h => ⟨by omega, sv (iD k), y5, z6, z7, z8, rfl⟩
  · intro ρ b2 ⟨h2, y4, y5, y6, y7, y8, e⟩
    subst e
    exact end_run (by omega) ha (by omega) fun z5 z6 b' h => hq _ y4 z5 z6 y7 y8 b' (by omega)
theorem run_law : (runLaw 12 first_law b_law).run (fun r _ => r = .rt (.bool true)) (fun _ _ => False) 4294967296 := by
  show (dSs (.cons (.for (.n 2) (.bi .range1 (.cons (.k (.int 8)) .nil)) turnB) (.cons (.ret (.k (.bool true))) .nil)) (lEv none none none none none none none)).run (fun r _ => r = .rt (.bool true)) (fun _ _ => False) 4294967296
  refine run_forN (n := 8) (I := fun i ρ b' => ∃ x2 x3 x4 x5 x6 x7 x8, ρ = lEv x2 x3 x4 x5 x6 x7 x8 ∧ 4294967296 ≤ b' + i * 400) (range_ge M.ge_pure (by decide)) ⟨_, _, _, _, _, _, _, rfl, by decide⟩ ?_ ?_
  · intro i hi ρ b1 ⟨x2, x3, x4, x5, x6, x7, x8, e, h⟩
    subst e
    show (dSs turnB (lEv (sv (iD i)) x3 x4 x5 x6 x7 x8)).run _ _ b1
    exact turn_run (by omega) fun y3 y4 y5 y6 y7 y8 b' g => ⟨_, y3, y4, y5, y6, y7, y8, rfl, by omega⟩
  · intro ρ b1 ⟨x2, x3, x4, x5, x6, x7, x8, e, h⟩
    subst e
    exact run_ret ge_k rfl
end Ad
open PySem PySem.W PySem.Calls PyProof.Rows
set_option maxHeartbeats 0
theorem PySem.Challenge.cw_addedattacks_k03_parts_and_other_names_holds : PySem.Challenge.rw_addedattacks_k03_parts_and_other_names.Holds := by
  w_on; o_law
  refine HandSHeadRun.head_any (r := PySem.W.OpenLaw.row PySem.Challenge.rw_addedattacks_k03_parts_and_other_names) (q := PySem.W.view Ad.R.prog [11]) (H := Ad.hk) (ob := Ad.ob) (M := 4000) (loose := ["of_some", "part", "renamed", "_law_deck", "_law_draw", "_law_one", "_law_row", "_law_web", "_law_order"]) (d := HandSHeadRun.topDef Ad.R.prog 11) (kwd := []) Ad.ob_eq
    (by kernel_rfl) (fun s => by kernel_rfl) Ad.run (by kernel_rfl) (by kernel_rfl) (by kernel_rfl) (by rfl) (by first | assumption | decide +kernel) (by decide +kernel) ⟨rfl, rfl, rfl, rfl, rfl, by decide +kernel⟩ ?hw ?hc
  case hw => w_witness2
  case hc =>
    refine Ad.walk_ofG (l := PySem.Challenge.rw_addedattacks_k03_parts_and_other_names) (n := 63) (k := 9) (x := "_law_script") rfl (by decide) (by kernel_rfl) ⟨by decide, by decide, by decide⟩ ?F
    intro w mg fa h Y G hmg0
    have hmg : mg ("law" : PySem.Str) = some (.ref fa) := by
      have e : (HandSHeadRun.topDef Ad.R.prog 11).name = ("law" : PySem.Str) := by kernel_rfl
      rw [← e]
      exact hmg0
    exact Ad.facts Ad.run_law Y G hmg
