import PyProof.Rows.All
import Wide.All
import OpenK.AllK
import Wide.FinOn
import HandS.ForMost
import HandS.ForExc
import HandS.New0
import HandS.WordsExc
import HandS.IsInst
import KE.DatumOrd
import HandS.SortKw
import HandS.More
import HandS.Ends
import HandS.ExcInit
import HandS.ExcField
import KE.IntTextLaws
import KE.GoesEnum
import KE.GoesMore
import HandS.TryMany
import HandS.ExcIs
import PyProof.Rows.CountFlat
import KE.KEqNest
import PyProof.NeKinds
import KE.RegKIsAll
import KE.RegKTryMore
import PySem.Challenge.RW_runmarks_k68_rows_and_sums
set_option linter.all false
/-! # Mi: a small world of values, owned cells and stores, in plain Lean -/
namespace Mi
noncomputable section

abbrev Tx := List Nat

/-- a key of a dict -/
inductive Ky where
  | i (n : Int) | s (x : Tx)
  deriving DecidableEq

/-- a value: data as trees that never change; ref: an object of the store -/
inductive D where
  | non | bl (b : Bool) | int (i : Int) | str (x : Tx)
  | lst (xs : List D) | tup (xs : List D) | dct (kvs : List (Ky × D)) | obj (c : String) (fs : List (String × D)) | ref (i : Nat)
  | scr (xs : List D)

/-- what an owned place holds: a list, a dict (lkd: while it is walked), a dict with tuple keys -/
inductive Cl where
  | lst (xs : List D) | dct (kvs : List (Ky × D)) | lkd (kvs : List (Ky × D)) | dcT (kvs : List (List Ky × D))

/-- a slot, a field: a value, an owned cell, a cell that is lent -/
inductive FV where
  | v (d : D) | o (c : Cl) | lent

/-- a cell of the store: an instance, a lent list or dict -/
inductive SC where
  | ins (c : String) (fs : List (String × FV)) | c (x : Cl)

abbrev Env := List (Option FV)
structure Me where
  σ : Env
  S : List SC

/-- an exception: its class, its fields -/
structure Xc where
  c : String
  fs : List (String × D)

inductive Res (α : Type) where
  | ok (a : α) (m : Me) | ex (x : Xc) (m : Me) | bad

def Res.bind {α β : Type} (r : Res α) (k : α → Me → Res β) : Res β :=
  match r with
  | .ok a m => k a m
  | .ex x m => .ex x m
  | .bad => .bad
@[simp] theorem Res.bind_ok {α β : Type} (a : α) (m : Me) (k : α → Me → Res β) : (Res.ok a m).bind k = k a m := rfl
@[simp] theorem Res.bind_ex {α β : Type} (x : Xc) (m : Me) (k : α → Me → Res β) : (Res.ex x m : Res α).bind k = .ex x m := rfl
@[simp] theorem Res.bind_bad {α β : Type} (k : α → Me → Res β) : (Res.bad : Res α).bind k = .bad := rfl
/-- a partial answer -/
def Res.opt {α : Type} (o : Option α) (m : Me) : Res α := match o with | some a => .ok a m | none => .bad
@[simp] theorem Res.opt_some {α : Type} (a : α) (m : Me) : Res.opt (some a) m = .ok a m := rfl
@[simp] theorem Res.opt_none {α : Type} (m : Me) : Res.opt (none : Option α) m = .bad := rfl

/-- what an expression gives: a value, a slot that owns a cell -/
inductive PV where
  | v (d : D) | sl (i : Nat)

abbrev Ev := Me → Res PV
abbrev Tv := Me → Res Bool
abbrev Av := Me → Res (List PV)
/-- a new list, a new dict -/
abbrev Lv := Me → Res (List D)
abbrev Iv := Me → Res (List D)

/-- what a place or a value holds as a cell -/
def Me.slot (m : Me) (i : Nat) : Option Cl := match m.σ[i]? with | some (some (.o c)) => some c | _ => none
def Me.field (m : Me) (n : Nat) (f : String) : Option Cl := match m.S[n]? with
  | some (.ins _ fs) => (match fs.lookup f with | some (.o c) => some c | _ => none)
  | _ => none
def Me.glob (m : Me) (n : Nat) : Option Cl := match m.S[n]? with | some (.c x) => some x | _ => none
def Me.cl (m : Me) : PV → Option Cl
  | .v (.lst xs) => some (.lst xs)
  | .v (.dct kvs) => some (.dct kvs)
  | .v (.ref n) => m.glob n
  | .v _ => none
  | .sl i => m.slot i
/-- the value, where it is one -/
def PV.d : PV → Option D | .v d => some d | _ => none
@[simp] theorem PV.d_v (d : D) : (PV.v d).d = some d := rfl
@[simp] theorem PV.d_sl (i : Nat) : (PV.sl i).d = none := rfl
def PV.ds : List PV → Option (List D)
  | [] => some []
  | p :: ps => match p.d, PV.ds ps with | some d, some r => some (d :: r) | _, _ => none
@[simp] theorem PV.ds_nil : PV.ds [] = some [] := rfl
@[simp] theorem PV.ds_cons (p : PV) (ps : List PV) : PV.ds (p :: ps) = (match p.d, PV.ds ps with | some d, some r => some (d :: r) | _, _ => none) := rfl

/-- the longest list, text -/
def big : Nat := Classical.choose (⟨16777216, rfl⟩ : ∃ n : Nat, n = 16777216)
theorem big_is : big = 16777216 := Classical.choose_spec (⟨16777216, rfl⟩ : ∃ n : Nat, n = 16777216)

/-! ### expressions -/
def eVar (i : Nat) : Ev := fun m => match m.σ[i]? with
  | some (some (.v d)) => .ok (.v d) m
  | some (some (.o _)) => .ok (.sl i) m
  | _ => .bad
def eC (d : D) : Ev := fun m => .ok (.v d) m
/-- two values in, one out -/
def e2 (g : PV → PV → Me → Option D) (a b : Ev) : Ev := fun m => (a m).bind fun x m1 => (b m1).bind fun y m2 => (Res.opt (g x y m2) m2).bind fun d m3 => .ok (.v d) m3
def e1 (g : PV → Me → Option D) (a : Ev) : Ev := fun m => (a m).bind fun x m1 => (Res.opt (g x m1) m1).bind fun d m3 => .ok (.v d) m3

def gI (p : Int → Int → Bool) (g : Int → Int → Int) : PV → PV → Me → Option D := fun x y _ => match x, y with
  | .v (.int i), .v (.int j) => if p i j then some (.int (g i j)) else none
  | _, _ => none
def lim30 : Nat := Classical.choose (⟨1073741824, rfl⟩ : ∃ n : Nat, n = 1073741824)
theorem lim30_is : lim30 = 1073741824 := Classical.choose_spec (⟨1073741824, rfl⟩ : ∃ n : Nat, n = 1073741824)
def lim64 : Int := Classical.choose (⟨2 ^ 64, rfl⟩ : ∃ n : Int, n = 2 ^ 64)
theorem lim64_is : lim64 = 2 ^ 64 := Classical.choose_spec (⟨2 ^ 64, rfl⟩ : ∃ n : Int, n = 2 ^ 64)
def lim64N : Nat := Classical.choose (⟨2 ^ 64, rfl⟩ : ∃ n : Nat, n = 2 ^ 64)
theorem lim64N_is : lim64N = 2 ^ 64 := Classical.choose_spec (⟨2 ^ 64, rfl⟩ : ∃ n : Nat, n = 2 ^ 64)
def limE : Int := Classical.choose (⟨1000000, rfl⟩ : ∃ n : Int, n = 1000000)
theorem limE_is : limE = 1000000 := Classical.choose_spec (⟨1000000, rfl⟩ : ∃ n : Int, n = 1000000)
def lim62 : Int := Classical.choose (⟨2 ^ 62, rfl⟩ : ∃ n : Int, n = 2 ^ 62)
theorem lim62_is : lim62 = 2 ^ 62 := Classical.choose_spec (⟨2 ^ 62, rfl⟩ : ∃ n : Int, n = 2 ^ 62)
def lim63 : Int := Classical.choose (⟨2 ^ 63, rfl⟩ : ∃ n : Int, n = 2 ^ 63)
theorem lim63_is : lim63 = 2 ^ 63 := Classical.choose_spec (⟨2 ^ 63, rfl⟩ : ∃ n : Int, n = 2 ^ 63)
def small64 (i : Int) : Bool := decide (-lim64 < i ∧ i < lim64)
/-- +: intsL, texts -/
def gAdd : PV → PV → Me → Option D := fun x y _ => match x, y with
  | .v (.int i), .v (.int j) => some (.int (i + j))
  | .v (.str a), .v (.str b) => if a.length + b.length ≤ big then some (.str (a ++ b)) else none
  | _, _ => none
def gSub := gI (fun _ _ => true) fun i j => i - j
def gMul := gI (fun i j => small64 i || small64 j) fun i j => i * j
def gMod := gI (fun _ j => j != 0) fun i j => i.fmod j
def gDiv := gI (fun _ j => j != 0 && decide (j.natAbs < lim30)) fun i j => i.fdiv j
def gPow := gI (fun i j => decide (0 ≤ j ∧ j ≤ limE ∧ i.natAbs < lim64N)) fun i j => i ^ j.toNat
def gShl := gI (fun i j => decide (0 ≤ j ∧ j ≤ limE ∧ i.natAbs < lim64N)) fun i j => i * 2 ^ j.toNat
def gShr := gI (fun _ j => decide (0 ≤ j)) fun i j => i / 2 ^ j.toNat
def gNeg : PV → Me → Option D := fun x _ => match x with | .v (.int i) => some (.int (-i)) | _ => none
/-- comparisons of intsL -/
def gCmp (p : Int → Int → Bool) : PV → PV → Me → Option D := fun x y _ => match x, y with
  | .v (.int i), .v (.int j) => some (.bl (p i j))
  | _, _ => none
-- == of data
mutual
def eqv : D → D → Bool
  | .non, .non => true
  | .bl a, .bl b => a == b
  | .bl a, .int j => (if a then 1 else 0) == j
  | .int i, .bl b => i == (if b then 1 else 0)
  | .int i, .int j => i == j
  | .str x, .str y => x == y
  | .lst xs, .lst ys => eqvs xs ys
  | .tup xs, .tup ys => eqvs xs ys
  | _, _ => false
def eqvs : List D → List D → Bool
  | [], [] => true
  | x :: xs, y :: ys => eqv x y && eqvs xs ys
  | _, _ => false
end
mutual
-- plain data: its depth, if it is so
def dep : D → Option Nat
  | .non => some 0 | .bl _ => some 0 | .int _ => some 0
  | .str x => if x.all (fun c => decide (c < 1114112)) then some 0 else none
  | .lst xs => (deps xs).map fun k => k + 1
  | .tup xs => (deps xs).map fun k => k + 1
  | _ => none
def deps : List D → Option Nat
  | [] => some 0
  | x :: xs => match dep x, deps xs with | some a, some b => some (max a b) | _, _ => none
end
def datum (d : D) : Bool := match dep d with | some k => decide (k ≤ 60) | none => false
/-- the data that a value or a place holds -/
def Me.dat (m : Me) (x : PV) : Option D := match m.cl x with
  | some (.lst xs) => some (.lst xs)
  | some _ => none
  | none => x.d
/-- scalars whose == is told at once -/
def scl : D → D → Bool
  | .non, .non => true | .non, .int _ => true | .int _, .non => true | .non, .bl _ => true | .bl _, .non => true | .non, .str _ => true | .str _, .non => true
  | .int _, .int _ => true | .bl _, .bl _ => true | .str _, .str _ => true
  | .int _, .str _ => true | .str _, .int _ => true | .bl _, .str _ => true | .str _, .bl _ => true
  | _, _ => false
def gEq : PV → PV → Me → Option D := fun x y m => match m.dat x, m.dat y with
  | some a, some b => if scl a b || (datum a && datum b) then some (.bl (eqv a b)) else none
  | _, _ => none
def gNe : PV → PV → Me → Option D := fun x y m => match m.dat x, m.dat y with
  | some a, some b => if scl a b || (datum a && datum b) then some (.bl (!eqv a b)) else none
  | _, _ => none
/-- x is None -/
def isN : D → Bool | .non => true | _ => false
def gIsN : PV → PV → Me → Option D := fun x y _ => match x, y with
  | .v d, .v .non => some (.bl (isN d))
  | _, _ => none
def gNotN : PV → PV → Me → Option D := fun x y _ => match x, y with
  | .v d, .v .non => some (.bl (!isN d))
  | _, _ => none
/-- flat values -/
def flat : D → Bool | .non => true | .bl _ => true | .int _ => true | .str _ => true | _ => false
/-- the items of a list or tuple -/
def Me.items (m : Me) (x : PV) : Option (List D) := match x with
  | .v (.tup xs) => some xs
  | .v (.scr xs) => some xs
  | _ => match m.cl x with | some (.lst xs) => some xs | _ => none
/-- the items of a list -/
def Me.ls (m : Me) (x : PV) : Option (List D) := match x with
  | .v (.scr xs) => some xs
  | _ => match m.cl x with | some (.lst xs) => some xs | _ => none
/-- x in xs of flat things -/
def gIn : PV → PV → Me → Option D := fun x y m => match x, m.items y with
  | .v a, some xs => if flat a && xs.all flat then some (.bl (xs.any fun y => eqv y a)) else none
  | _, _ => none
def gNotIn : PV → PV → Me → Option D := fun x y m => match x, m.items y with
  | .v a, some xs => if flat a && xs.all flat then some (.bl (!xs.any fun y => eqv y a)) else none
  | _, _ => none
/-- one sign in a text -/
def gInT : PV → PV → Me → Option D := fun x y _ => match x, y with
  | .v (.str [c]), .v (.str z) => some (.bl (decide (c ∈ z)))
  | _, _ => none
def gNotInT : PV → PV → Me → Option D := fun x y _ => match x, y with
  | .v (.str [c]), .v (.str z) => some (.bl (!decide (c ∈ z)))
  | _, _ => none
/-- a key of a dict -/
def kyOf : D → Option Ky | .int i => some (.i i) | .str x => some (.s x) | _ => none
def ky : PV → Option Ky | .v d => kyOf d | _ => none
def kyD : Ky → D | .i n => .int n | .s x => .str x
/-- dicts -/
def look (kvs : List (Ky × D)) (k : Ky) : Option D := (kvs.find? fun kv => decide (kv.1 = k)).map (·.2)
def putKv (kvs : List (Ky × D)) (k : Ky) (v : D) : List (Ky × D) :=
  if (kvs.any fun kv => decide (kv.1 = k)) = true then kvs.map (fun kv => if kv.1 = k then (kv.1, v) else kv) else kvs ++ [(k, v)]
def dropKv (kvs : List (Ky × D)) (k : Ky) : List (Ky × D) := kvs.filter fun kv => decide (kv.1 ≠ k)
def Me.kvs (m : Me) (x : PV) : Option (List (Ky × D)) := match m.cl x with
  | some (.dct kvs) => some kvs
  | some (.lkd kvs) => some kvs
  | _ => none
def gInK : PV → PV → Me → Option D := fun x y m => match ky x, m.kvs y with
  | some k, some kvs => some (.bl (look kvs k).isSome)
  | _, _ => none
def gNotInK : PV → PV → Me → Option D := fun x y m => match ky x, m.kvs y with
  | some k, some kvs => some (.bl (!(look kvs k).isSome))
  | _, _ => none
/-- d[k] -/
def gKey : PV → PV → Me → Option D := fun x y m => match m.kvs x, ky y with
  | some kvs, some k => look kvs k
  | _, _ => none
/-- the place of an index of any sign -/
def ixN (n : Nat) (i : Int) : Option Nat := if 0 ≤ i then (if i < n then some i.toNat else none) else if -(n : Int) ≤ i then some (i + n).toNat else none
def atI {α : Type} (xs : List α) (i : Int) : Option α := (ixN xs.length i).bind fun j => xs[j]?
/-- xs[i] of a list or tuple -/
def gIx : PV → PV → Me → Option D := fun x y m => match m.items x, y with
  | some xs, .v (.int i) => atI xs i
  | _, _ => none
/-- s[i] of a text -/
def gIxT : PV → PV → Me → Option D := fun x y _ => match x, y with
  | .v (.str z), .v (.int i) => if z.length ≤ big then (atI z i).map fun c => .str [c] else none
  | _, _ => none
/-- a slice -/
def sIx (n d : Nat) : Option Int → Nat
  | none => d
  | some v => if v < 0 then (v + (n : Int)).toNat else min v.toNat n
def cut {α : Type} (xs : List α) (lo hi : Option Int) : List α := (xs.drop (sIx xs.length 0 lo)).take (sIx xs.length xs.length hi - sIx xs.length 0 lo)
/-- len -/
def gLen : PV → Me → Option D := fun x m => match x with
  | .v (.str z) => if z.length ≤ big then some (.int z.length) else none
  | _ => match m.items x with
    | some xs => some (.int xs.length)
    | none => none
/-- len of a dict -/
def gLenK : PV → Me → Option D := fun x m => (m.kvs x).map fun kvs => .int kvs.length
/-- int(x) -/
def gInt : PV → Me → Option D := fun x _ => match x with
  | .v (.int i) => some (.int i)
  | .v (.bl b) => some (.int (if b then 1 else 0))
  | _ => none
def gMin2 : PV → PV → Me → Option D := fun x y _ => match x, y with | .v (.int i), .v (.int j) => some (.int (if j < i then j else i)) | _, _ => none
def gMax2 : PV → PV → Me → Option D := fun x y _ => match x, y with | .v (.int i), .v (.int j) => some (.int (if j > i then j else i)) | _, _ => none

/-- a built-in with arguments: one value; a new list -/
def eA (g : List PV → Me → Option D) (a : Av) : Ev := fun m => (a m).bind fun ps m1 => (Res.opt (g ps m1) m1).bind fun d m2 => .ok (.v d) m2
def lA (g : List PV → Me → Option (List D)) (a : Av) : Lv := fun m => (a m).bind fun ps m1 => Res.opt (g ps m1) m1
def asInts : List D → Option (List Int)
  | [] => some []
  | .int i :: r => (asInts r).map fun l => i :: l
  | _ => none
def asBls : List D → Option (List Bool)
  | [] => some []
  | .bl i :: r => (asBls r).map fun l => i :: l
  | _ => none
def aLen : List PV → Me → Option D := fun ps m => match ps with | [x] => gLen x m | _ => none
def aInt : List PV → Me → Option D := fun ps m => match ps with | [x] => gInt x m | _ => none
def aMin : List PV → Me → Option D := fun ps m => match ps with | [x, y] => gMin2 x y m | _ => none
def aMax : List PV → Me → Option D := fun ps m => match ps with | [x, y] => gMax2 x y m | _ => none
def aSum : List PV → Me → Option D := fun ps m => match ps with | [x] => ((m.ls x).bind asInts).map fun l => .int l.sum | _ => none
def aAny : List PV → Me → Option D := fun ps m => match ps with | [x] => ((m.ls x).bind asBls).map fun l => .bl (l.any id) | _ => none
def aAll : List PV → Me → Option D := fun ps m => match ps with | [x] => ((m.ls x).bind asBls).map fun l => .bl (l.all id) | _ => none
def aOf : List PV → Me → Option (List D) := fun ps m => match ps with | [x] => m.items x | _ => none
/-- a and b as values (bools) -/
def eAnd (a b : Ev) : Ev := fun m => (a m).bind fun x m1 => match x with
  | .v (.bl true) => b m1
  | .v (.bl false) => .ok (.v (.bl false)) m1
  | _ => .bad
def eOr (a b : Ev) : Ev := fun m => (a m).bind fun x m1 => match x with
  | .v (.bl true) => .ok (.v (.bl true)) m1
  | .v (.bl false) => b m1
  | _ => .bad
def gNot : PV → Me → Option D := fun x _ => match x with | .v (.bl b) => some (.bl (!b)) | _ => none
/-- a <= b <= c -/
def eChain (p q : Int → Int → Bool) (a b c : Ev) : Ev := fun m => (a m).bind fun x m1 => (b m1).bind fun y m2 => match x, y with
  | .v (.int i), .v (.int j) => if p i j then (c m2).bind fun z m3 => (match z with
      | .v (.int k) => .ok (.v (.bl (q j k))) m3
      | _ => .bad) else .ok (.v (.bl false)) m2
  | _, _ => .bad
/-- tests -/
def tV (e : Ev) : Tv := fun m => (e m).bind fun x m1 => match x with | .v (.bl b) => .ok b m1 | _ => .bad
def tAnd (a b : Tv) : Tv := fun m => (a m).bind fun x m1 => if x then b m1 else .ok false m1
def tOr (a b : Tv) : Tv := fun m => (a m).bind fun x m1 => if x then .ok true m1 else b m1
def tNot (a : Tv) : Tv := fun m => (a m).bind fun x m1 => .ok (!x) m1
/-- truth of a bool, an int, None, a list -/
def tTru (e : Ev) : Tv := fun m => (e m).bind fun x m1 => match x with
  | .v (.bl b) => .ok b m1
  | .v (.int i) => .ok (i != 0) m1
  | .v .non => .ok false m1
  | _ => match m1.items x with | some xs => .ok (!xs.isEmpty) m1 | none => .bad
def eIf (t : Tv) (a b : Ev) : Ev := fun m => (t m).bind fun x m1 => if x then a m1 else b m1

/-! ### arguments, displays -/
def aNil : Av := fun m => .ok [] m
def aCons (a : Ev) (r : Av) : Av := fun m => (a m).bind fun x m1 => (r m1).bind fun xs m2 => .ok (x :: xs) m2
def vals (a : Av) : Lv := fun m => (a m).bind fun xs m1 => Res.opt (PV.ds xs) m1
def eTup (a : Av) : Ev := fun m => (a m).bind fun ps m1 => match PV.ds ps with | some xs => if xs.length ≤ big then .ok (.v (.tup xs)) m1 else .bad | none => .bad
/-- [a, b] -/
def lDisp (a : Av) : Lv := fun m => (a m).bind fun ps m1 => match PV.ds ps with | some xs => if xs.length ≤ big then .ok xs m1 else .bad | none => .bad
/-- xs + ys -/
def lCat (a b : Ev) : Lv := fun m => (a m).bind fun x m1 => (b m1).bind fun y m2 => match m2.cl x, m2.cl y with
  | some (.lst xs), some (.lst ys) => if xs.length + ys.length ≤ big then .ok (xs ++ ys) m2 else .bad
  | _, _ => .bad
/-- xs * k -/
def lRep (a b : Ev) : Lv := fun m => (a m).bind fun x m1 => (b m1).bind fun y m2 => match m2.cl x, y with
  | some (.lst xs), .v (.int k) => if -lim63 ≤ k ∧ k < lim63 ∧ xs.length * k.toNat ≤ big then .ok ((List.replicate k.toNat xs).flatten) m2 else .bad
  | _, _ => .bad
abbrev Ov := Me → Res (Option Int)
def oNone : Ov := fun m => .ok none m
def oSome (e : Ev) : Ov := fun m => (e m).bind fun x m1 => match x with | .v (.int i) => .ok (some i) m1 | _ => .bad
/-- xs[a:b] of a list -/
def lCut (a : Ev) (lo hi : Ov) : Lv := fun m => (a m).bind fun x m1 => (lo m1).bind fun l m2 => (hi m2).bind fun h m3 => match x, m3.cl x with
  | .v (.scr xs), _ => .ok (cut xs l h) m3
  | _, some (.lst xs) => .ok (cut xs l h) m3
  | _, _ => .bad
/-- s[a:b] of a text -/
def eCutT (a : Ev) (lo hi : Ov) : Ev := fun m => (a m).bind fun x m1 => (lo m1).bind fun l m2 => (hi m2).bind fun h m3 => match x with
  | .v (.str z) => if z.length ≤ big then .ok (.v (.str (cut z l h))) m3 else .bad
  | _ => .bad
/-- a new list as a value -/
def eL (l : Lv) : Ev := fun m => (l m).bind fun xs m1 => .ok (.v (.lst xs)) m1

/-! ### comprehensions -/
/-- what a loop's item is given to: the name in slot i; names -/
inductive Bd where
  | n (i : Nat) | t (is : List Nat)
def bTs : List Nat → List D → Env → Option Env
  | [], [], σ => some σ
  | i :: is, d :: ds, σ => if i < σ.length then bTs is ds (σ.set i (some (.v d))) else none
  | _, _, _ => none
def Bd.set (b : Bd) (d : D) (σ : Env) : Option Env := match b, d with
  | .n i, d => if i < σ.length then some (σ.set i (some (.v d))) else none
  | .t is, .tup xs => bTs is xs σ
  | .t _, _ => none
def Bd.ix : Bd → List Nat | .n i => [i] | .t is => is
def wipe (σ : Env) : List Nat → Env
  | [] => σ
  | v :: vs => (wipe σ vs).set v none
open Classical in
/-- the elements of the items that pass; nothing may change but the store -/
def comp (b : Bd) (t : Tv) (e : Ev) (σ : Env) : List D → List SC → List D → Res (List D)
  | [], S, acc => .ok acc ⟨σ, S⟩
  | x :: xs, S, acc => match b.set x σ with
    | none => .bad
    | some σ1 => match t ⟨σ1, S⟩ with
      | .ok true m => if m.σ = σ1 then (match e m with
          | .ok (.v d) m2 => if m2.σ = σ1 ∧ acc.length < big then comp b t e σ xs m2.S (acc ++ [d]) else .bad
          | _ => .bad) else .bad
      | .ok false m => if m.σ = σ1 then comp b t e σ xs m.S acc else .bad
      | _ => .bad
def tYes : Tv := fun m => .ok true m
def lComp (own : List Nat) (b : Bd) (it : Iv) (t : Tv) (e : Ev) : Lv := fun m => (it m).bind fun xs m1 =>
  if own.all (fun j => (m1.slot j).isNone) then (match comp b t e (wipe m1.σ own) xs m1.S [] with
  | .ok ys m2 => .ok ys ⟨m1.σ, m2.S⟩
  | _ => .bad) else .bad

/-! ### what is walked -/
def iLst (e : Ev) : Iv := fun m => (e m).bind fun x m1 => match x with | .v (.lst xs) => .ok xs m1 | .v (.scr xs) => .ok xs m1 | _ => .bad
def iTup (e : Ev) : Iv := fun m => (e m).bind fun x m1 => match x with | .v (.tup xs) => .ok xs m1 | _ => .bad
def intsL (lo : Int) (n : Nat) : List D := (List.range n).map fun (k : Nat) => .int (lo + k)
def in62 (i : Int) : Bool := decide (-lim62 ≤ i ∧ i < lim62)
def iRg1 (a : Ev) : Iv := fun m => (a m).bind fun x m1 => match x with | .v (.int j) => if in62 j then .ok (intsL 0 j.toNat) m1 else .bad | _ => .bad
def iRg2 (a b : Ev) : Iv := fun m => (a m).bind fun x m1 => (b m1).bind fun y m2 => match x, y with
  | .v (.int i), .v (.int j) => if in62 i && in62 j then .ok (intsL i (j - i).toNat) m2 else .bad
  | _, _ => .bad
/-- the signs of a text -/
def iStr (e : Ev) : Iv := fun m => (e m).bind fun x m1 => match x with | .v (.str z) => .ok (z.map fun c => .str [c]) m1 | _ => .bad
/-- enumerate of a list: the pairs -/
def enum (xs : List D) : List D := (xs.zipIdx).map fun p => .tup [.int (p.2 : Nat), p.1]
def iEnum (e : Ev) : Iv := fun m => (e m).bind fun x m1 => match x with | .v (.lst xs) => .ok (enum xs) m1 | _ => .bad
def zipD (xs ys : List D) : List D := (xs.zip ys).map fun p => .tup [p.1, p.2]
def iZip (a b : Ev) : Iv := fun m => (a m).bind fun x m1 => (b m1).bind fun y m2 => match x, y with
  | .v (.lst xs), .v (.lst ys) => .ok (zipD xs ys) m2
  | _, _ => .bad

/-! ### calls -/
/-- a function's answer -/
inductive RG where
  | ok (d : D) (S : List SC) | ex (x : Xc) (S : List SC) | bad
abbrev Cal := String → List D → List SC → RG
def RG.res (r : RG) (σ : Env) : Res PV := match r with
  | .ok d S => .ok (.v d) ⟨σ, S⟩
  | .ex x S => .ex x ⟨σ, S⟩
  | .bad => .bad
@[simp] theorem RG.res_ok (d : D) (S : List SC) (σ : Env) : (RG.ok d S).res σ = .ok (.v d) ⟨σ, S⟩ := rfl
@[simp] theorem RG.res_ex (x : Xc) (S : List SC) (σ : Env) : (RG.ex x S).res σ = .ex x ⟨σ, S⟩ := rfl
@[simp] theorem RG.res_bad (σ : Env) : RG.bad.res σ = .bad := rfl
/-- f(a, ..) -/
def eCall (C : Cal) (f : String) (a : Av) : Ev := fun m => (a m).bind fun ps m1 => match PV.ds ps with
  | some ds => (C f ds m1.S).res m1.σ
  | none => .bad
-- all references lie below n
mutual
def D.blw (n : Nat) : D → Bool
  | .lst xs => D.blws n xs | .tup xs => D.blws n xs | .scr xs => D.blws n xs
  | .dct kvs => D.blwk n kvs | .obj _ fs => D.blwf n fs
  | .ref i => decide (i < n)
  | _ => true
def D.blws (n : Nat) : List D → Bool
  | [] => true | x :: xs => D.blw n x && D.blws n xs
def D.blwk (n : Nat) : List (Ky × D) → Bool
  | [] => true | (_, x) :: xs => D.blw n x && D.blwk n xs
def D.blwf (n : Nat) : List (String × D) → Bool
  | [] => true | (_, x) :: xs => D.blw n x && D.blwf n xs
end
def Cl.blw (n : Nat) : Cl → Bool
  | .lst xs => D.blws n xs | .dct kvs => D.blwk n kvs | .lkd kvs => D.blwk n kvs | .dcT _ => false
open Classical in
/-- e, while slot i's cell lies in the store (slot i holds its reference) -/
def eLend (i : Nat) (e : Ev) : Ev := fun m => match m.slot i with
  | some c => (match e ⟨m.σ.set i (some (.v (.ref m.S.length))), m.S ++ [.c c]⟩ with
    | .ok (.v d) m2 => (match m2.S.drop m.S.length with
      | [.c c'] => if m2.σ = m.σ.set i (some (.v (.ref m.S.length))) ∧ m2.S.take m.S.length = m.S ∧ d.blw m.S.length = true ∧ c'.blw m.S.length = true then .ok (.v d) ⟨m.σ.set i (some (.o c')), m.S⟩ else .bad
      | _ => .bad)
    | _ => .bad)
  | none => .bad
/-- what a program's classes are: their methods, their __init__, their fields -/
structure Tb where
  mt : String → String → Option String
  ini : String → Option String
  fl : String → String → Bool
/-- the class and the fields of an object -/
def Me.obj (m : Me) : PV → Option (String × List (String × FV))
  | .v (.obj c fs) => some (c, fs.map fun p => (p.1, .v p.2))
  | .v (.ref n) => (match m.S[n]? with | some (.ins c fs) => some (c, fs) | _ => none)
  | _ => none
/-- o.m(a, ..) -/
def eMeth (C : Cal) (T : Tb) (f : String) (o : Ev) (a : Av) : Ev := fun m => match o m with
  | .ok x m1 => (match m1.obj x, x.d with
    | some (c, fs), some d => (match T.mt c f, fs.lookup f with
      | some key, none => (a m1).bind fun ps m2 => (match PV.ds ps with
        | some ds => (C key (d :: ds) m2.S).res m2.σ
        | none => .bad)
      | _, _ => .bad)
    | _, _ => .bad)
  | _ => .bad
/-- o.f -/
def eFld (T : Tb) (f : String) (o : Ev) : Ev := fun m => (o m).bind fun x m1 => match m1.obj x with
  | some (c, fs) => if T.fl c f then (match fs.lookup f with | some (.v d) => .ok (.v d) m1 | _ => .bad) else .bad
  | none => .bad
/-- C(a, ..): an object that changes later -/
def eMake (C : Cal) (T : Tb) (c : String) (a : Av) : Ev := fun m => (a m).bind fun ps m1 => match PV.ds ps, T.ini c with
  | some ds, some key => (match C key (.ref m1.S.length :: ds) (m1.S ++ [.ins c []]) with
    | .ok .non S' => .ok (.v (.ref m1.S.length)) ⟨m1.σ, S'⟩
    | .ex x S' => .ex x ⟨m1.σ, S'⟩
    | _ => .bad)
  | _, _ => .bad
def plainF : List (String × FV) → Option (List (String × D))
  | [] => some []
  | (k, .v d) :: r => (plainF r).map fun l => (k, d) :: l
  | _ => none
open Classical in
/-- C(a, ..): an object that does not change any more -/
def eMakeF (C : Cal) (T : Tb) (c : String) (a : Av) : Ev := fun m => (a m).bind fun ps m1 => match PV.ds ps, T.ini c with
  | some ds, some key => (match C key (.ref m1.S.length :: ds) (m1.S ++ [.ins c []]) with
    | .ok .non S' => (match S'.drop m1.S.length with
      | [.ins c' fs] => (match plainF fs with
        | some l => if c' = c ∧ D.blwf m1.S.length l = true ∧ S'.take m1.S.length = m1.S then .ok (.v (.obj c l)) m1 else .bad
        | none => .bad)
      | _ => .bad)
    | _ => .bad)
  | _, _ => .bad
/-- C() of a class without __init__ -/
def eMake0 (T : Tb) (c : String) : Ev := fun m => if T.ini c = some "" then .ok (.v (.obj c [])) m else .bad

/-! ### statements -/
inductive Out where
  | nx (m : Me) | rt (d : D) (m : Me) | bk (m : Me) | ct (m : Me) | ex (x : Xc) (m : Me) | bad
abbrev Sv := Me → Out
/-- an expression, then a statement's end -/
def Res.so {α : Type} (r : Res α) (k : α → Me → Out) : Out :=
  match r with
  | .ok a m => k a m
  | .ex x m => .ex x m
  | .bad => .bad
@[simp] theorem Res.so_ok {α : Type} (a : α) (m : Me) (k : α → Me → Out) : (Res.ok a m).so k = k a m := rfl
@[simp] theorem Res.so_ex {α : Type} (x : Xc) (m : Me) (k : α → Me → Out) : (Res.ex x m : Res α).so k = .ex x m := rfl
@[simp] theorem Res.so_bad {α : Type} (k : α → Me → Out) : (Res.bad : Res α).so k = .bad := rfl
def sNil : Sv := fun m => .nx m
def Out.seq (r : Out) (t : Sv) : Out := match r with
  | .nx m => t m
  | o => o
@[simp] theorem Out.seq_nx (m : Me) (t : Sv) : (Out.nx m).seq t = t m := rfl
@[simp] theorem Out.seq_rt (d : D) (m : Me) (t : Sv) : (Out.rt d m).seq t = .rt d m := rfl
@[simp] theorem Out.seq_bk (m : Me) (t : Sv) : (Out.bk m).seq t = .bk m := rfl
@[simp] theorem Out.seq_ct (m : Me) (t : Sv) : (Out.ct m).seq t = .ct m := rfl
@[simp] theorem Out.seq_ex (x : Xc) (m : Me) (t : Sv) : (Out.ex x m).seq t = .ex x m := rfl
@[simp] theorem Out.seq_bad (t : Sv) : (Out.bad).seq t = .bad := rfl
def sSeq (s t : Sv) : Sv := fun m => (s m).seq t
/-- x = e -/
def sSet (i : Nat) (e : Ev) : Sv := fun m => (e m).so fun x m1 => match x with
  | .v d => if i < m1.σ.length then .nx ⟨m1.σ.set i (some (.v d)), m1.S⟩ else .bad
  | _ => .bad
/-- x = a new list that x owns -/
def sOwn (i : Nat) (l : Lv) : Sv := fun m => (l m).so fun xs m1 => if i < m1.σ.length then .nx ⟨m1.σ.set i (some (.o (.lst xs))), m1.S⟩ else .bad
/-- x = {}, owned -/
def sOwnD (i : Nat) : Sv := fun m => if i < m.σ.length then .nx ⟨m.σ.set i (some (.o (.dct []))), m.S⟩ else .bad
/-- a, b = e -/
def sBd (b : Bd) (e : Ev) : Sv := fun m => (e m).so fun x m1 => match x with
  | .v d => (match b.set d m1.σ with | some σ => .nx ⟨σ, m1.S⟩ | none => .bad)
  | _ => .bad
def sEx (e : Ev) : Sv := fun m => (e m).so fun _ m1 => .nx m1
/-- return e -/
def sRet (e : Ev) : Sv := fun m => (e m).so fun x m1 => match x with | .v d => .rt d m1 | _ => .bad
def sRetN : Sv := fun m => .rt .non m
def sIf (t : Tv) (a b : Sv) : Sv := fun m => (t m).so fun x m1 => if x then a m1 else b m1
def sBk : Sv := fun m => .bk m
def sCt : Sv := fun m => .ct m
def forL (b : Bd) (body : Sv) : List D → Sv
  | [], m => .nx m
  | x :: xs, m => match b.set x m.σ with
    | none => .bad
    | some σ1 => match body ⟨σ1, m.S⟩ with
      | .nx m2 => forL b body xs m2
      | .ct m2 => forL b body xs m2
      | .bk m2 => .nx m2
      | o => o
def sFor (b : Bd) (it : Iv) (body : Sv) : Sv := fun m => (it m).so fun xs m1 => forL b body xs m1
def whileN (t : Tv) (body : Sv) : Nat → Sv
  | 0, _ => .bad
  | n + 1, m => match t m with
    | .ok true m1 => (match body m1 with
      | .nx m2 => whileN t body n m2
      | .ct m2 => whileN t body n m2
      | .bk m2 => .nx m2
      | o => o)
    | .ok false m1 => .nx m1
    | .ex x m1 => .ex x m1
    | .bad => .bad
/-- more turns than any loop here -/
def wlim : Nat := Classical.choose (⟨1000000, rfl⟩ : ∃ n : Nat, n = 1000000)
theorem wlim_is : wlim = 1000000 := Classical.choose_spec (⟨1000000, rfl⟩ : ∃ n : Nat, n = 1000000)
def sWhile (t : Tv) (body : Sv) : Sv := fun m => whileN t body wlim m

/-- a function: its number of parameters, of names, its body -/
def runF (ar n : Nat) (body : Sv) (ds : List D) (S : List SC) : RG :=
  if ds.length = ar then (match body ⟨ds.map (fun d => some (.v d)) ++ List.replicate (n - ds.length) none, S⟩ with
  | .nx m => .ok .non m.S
  | .rt d m => .ok d m.S
  | .ex x m => .ex x m.S
  | _ => .bad) else .bad

/-! ### owned cells changed -/
/-- the cell at a place is put anew -/
def putF (fs : List (String × FV)) (f : String) (v : FV) : List (String × FV) := match fs with
  | [] => [(f, v)]
  | (g, x) :: r => if g = f then (g, v) :: r else (g, x) :: putF r f v
/-- o.f = e, o an object of the store -/
def sFld (T : Tb) (f : String) (o e : Ev) : Sv := fun m => (e m).so fun y m1 => (o m1).so fun x m2 => match x, y with
  | .v (.ref n), .v d => (match m2.S[n]? with
    | some (.ins c fs) => if T.fl c f ∧ fs.length < 1000 ∧ (fs.all fun p => match p.2 with | .v _ => true | _ => false) then .nx ⟨m2.σ, m2.S.set n (.ins c (putF fs f (.v d)))⟩ else .bad
    | _ => .bad)
  | _, _ => .bad
def Me.put (m : Me) (p : PV) (c : Cl) : Me := match p with
  | .sl i => ⟨m.σ.set i (some (.o c)), m.S⟩
  | .v (.ref n) => ⟨m.σ, m.S.set n (.c c)⟩
  | .v _ => m
/-- it is a place that can be changed -/
def Me.own (m : Me) (p : PV) : Option Cl := match p with
  | .sl i => m.slot i
  | .v (.ref n) => m.glob n
  | .v _ => none
def isL : Option Cl → Bool | some (.lst _) => true | _ => false
/-- a method that changes a list: its answer and what the list holds then -/
def eMut (g : List D → List D → Option (D × List D)) (a : Ev) (as : Av) : Ev := fun m => (a m).bind fun x m1 => if isL (m1.own x) then (as m1).bind fun ps m2 => (match m2.own x, PV.ds ps with
  | some (.lst xs), some ds => (match g xs ds with | some (d, ys) => .ok (.v d) (m2.put x (.lst ys)) | none => .bad)
  | _, _ => .bad) else .bad
def mApp : List D → List D → Option (D × List D) := fun xs ds => match ds with | [d] => if xs.length < big then some (.non, xs ++ [d]) else none | _ => none
def mExt : List D → List D → Option (D × List D) := fun xs ds => match ds with | [.lst ys] => if xs.length + ys.length ≤ big then some (.non, xs ++ ys) else none | _ => none
def mPop : List D → List D → Option (D × List D) := fun xs ds => match ds with | [] => (xs[xs.length - 1]?).map fun d => (d, xs.dropLast) | _ => none
def mClr : List D → List D → Option (D × List D) := fun xs ds => match ds with | [] => some (.non, []) | _ => none
/-- xs[i] = e -/
def sSetIx (a i e : Ev) : Sv := fun m => (e m).so fun v m1 => (a m1).so fun x m2 => (i m2).so fun y m3 => match m3.own x, y, v with
  | some (.lst xs), .v (.int k), .v d => (match ixN xs.length k with | some j => .nx (m3.put x (.lst (xs.set j d))) | none => .bad)
  | _, _, _ => .bad
/-- d[k] = e -/
def sPutK (a i e : Ev) : Sv := fun m => (e m).so fun v m1 => (a m1).so fun x m2 => (i m2).so fun y m3 => match m3.own x, ky y, v with
  | some (.dct kvs), some k, .v d => if kvs.length < big then .nx (m3.put x (.dct (putKv kvs k d))) else .bad
  | _, _, _ => .bad
/-- the cell of slot i is not changed any more: its value -/
def eFrz (i : Nat) : Ev := fun m => match m.σ[i]? with
  | some (some (.o (.lst xs))) => .ok (.v (.lst xs)) ⟨m.σ.set i (some (.v (.lst xs))), m.S⟩
  | some (some (.o (.dct kvs))) => .ok (.v (.dct kvs)) ⟨m.σ.set i (some (.v (.dct kvs))), m.S⟩
  | _ => .bad

/-! ### more built-ins -/
/-- a built-in with keywords -/
def eAK (g : List PV → List PV → Me → Option D) (a k : Av) : Ev := fun m => (a m).bind fun ps m1 => (k m1).bind fun zs m2 => (Res.opt (g ps zs m2) m2).bind fun d m3 => .ok (.v d) m3
def maxI (x : Int) (xs : List Int) : Int := xs.foldl (fun a y => if a < y then y else a) x
/-- max(xs, default=d) -/
def aMaxD : List PV → List PV → Me → Option D := fun ps zs m => match ps, zs with
  | [x], [.v d] => (match (m.ls x).bind asInts with
    | some [] => some d
    | some (y :: ys) => some (.int (maxI y ys))
    | none => none)
  | _, _ => none
/-- dict(d) -/
def aDict : List PV → Me → Option D := fun ps m => match ps with | [x] => (m.kvs x).map .dct | _ => none
/-- the same scalar -/
def eqF : D → D → Bool
  | .non, .non => true | .bl a, .bl b => a == b | .int a, .int b => a == b | .str a, .str b => a == b | _, _ => false
/-- the same dict -/
def sameKv (ks ls : List (Ky × D)) : Bool := ks.length == ls.length && ks.all fun p => match look ls p.1 with | some d => eqF d p.2 | none => false
/-- == of dicts that are the same -/
def gEqK : PV → PV → Me → Option D := fun x y m => match m.kvs x, m.kvs y with
  | some ks, some ls => if sameKv ks ls then some (.bl true) else none
  | _, _ => none
def gNeK : PV → PV → Me → Option D := fun x y m => match m.kvs x, m.kvs y with
  | some ks, some ls => if sameKv ks ls then some (.bl false) else none
  | _, _ => none
/-- isinstance(x, bool) -/
def gIsB : PV → Me → Option D := fun x _ => match x with
  | .v (.bl _) => some (.bl true)
  | .v .non => some (.bl false) | .v (.int _) => some (.bl false) | .v (.str _) => some (.bl false)
  | _ => none

/-! ### either of two readings -/
def orG (g h : PV → PV → Me → Option D) : PV → PV → Me → Option D := fun x y m => match g x y m with | some d => some d | none => h x y m
/-- xs + ys as a value -/
def gCat : PV → PV → Me → Option D := fun x y m => match m.cl x, m.cl y with
  | some (.lst xs), some (.lst ys) => if xs.length + ys.length ≤ big then some (.lst (xs ++ ys)) else none
  | _, _ => none
def gAddU := orG gAdd gCat
def gIxU := orG gIx (orG gIxT gKey)
def gInU := orG gIn (orG gInT gInK)
def gNotInU := orG gNotIn (orG gNotInT gNotInK)
def gEqU := orG gEq gEqK
def gNeU := orG gNe gNeK
/-- what is walked: a list, a tuple, a text -/
def iAny (e : Ev) : Iv := fun m => (e m).bind fun x m1 => match x with
  | .v (.lst xs) => .ok xs m1
  | .v (.scr xs) => .ok xs m1
  | .v (.tup xs) => .ok xs m1
  | .v (.str z) => .ok (z.map fun c => .str [c]) m1
  | _ => .bad

/-- the classes by lists -/
def tbOf (M : List (String × String × String)) (I F : List (String × String)) : Tb :=
  ⟨fun c f => (M.find? fun p => p.1 == c && p.2.1 == f).map (·.2.2), fun c => (I.find? fun p => p.1 == c).map (·.2), fun c f => F.any fun p => p.1 == c && p.2 == f⟩
/-! ### isinstance with built-in types -/
def tyD : D → Option String
  | .non => some "NoneType" | .bl _ => some "bool" | .int _ => some "int" | .str _ => some "str"
  | .lst _ => some "list" | .tup _ => some "tuple" | .dct _ => some "dict"
  | _ => none
def isTy (t T : String) : Bool := t == T || (t == "bool" && T == "int")
/-- isinstance(x, T) -/
def gIsT (T : String) : PV → Me → Option D := fun x m => match x with
  | .v (.ref n) => (match m.glob n with | some (.lst _) => some (.bl (isTy "list" T)) | some (.dct _) => some (.bl (isTy "dict" T)) | _ => none)
  | .v d => (tyD d).map fun t => .bl (isTy t T)
  | .sl i => (match m.slot i with | some (.lst _) => some (.bl (isTy "list" T)) | some (.dct _) => some (.bl (isTy "dict" T)) | _ => none)
/-! ### sorted, min, max of ints -/
theorem sort_uniq : ∀ {a b : List Int}, a.Perm b → a.Pairwise (· ≤ ·) → b.Pairwise (· ≤ ·) → a = b
  | [], b, h, _, _ => (List.nil_perm.mp h).symm
  | x :: xs, [], h, _, _ => absurd h.length_eq (by simp)
  | x :: xs, y :: ys, h, ha, hb => by
    rw [List.pairwise_cons] at ha hb
    have hx : x ∈ y :: ys := h.subset List.mem_cons_self
    have hy : y ∈ x :: xs := h.symm.subset List.mem_cons_self
    have e : x = y := by
      rcases List.mem_cons.mp hx with h1 | h1
      · exact h1
      · rcases List.mem_cons.mp hy with h2 | h2
        · exact h2.symm
        · exact Int.le_antisymm (ha.1 y h2) (hb.1 x h1)
    subst e
    rw [sort_uniq (List.Perm.cons_inv h) ha.2 hb.2]
def sortI (xs : List Int) : List Int := xs.mergeSort (fun a b => decide (a ≤ b))
theorem sortI_perm (xs : List Int) : (sortI xs).Perm xs := List.mergeSort_perm xs _
theorem sortI_le (xs : List Int) : (sortI xs).Pairwise (· ≤ ·) := by
  have := List.pairwise_mergeSort (le := fun a b : Int => decide (a ≤ b)) (fun a b c h1 h2 => by simp at *; omega) (fun a b => by simp; omega) xs
  exact this.imp fun h => by simpa using h
/-- the ints of a list, the int keys of a dict -/
def keyInts : List (Ky × D) → Option (List Int)
  | [] => some []
  | (.i n, _) :: r => (keyInts r).map fun l => n :: l
  | _ => none
/-- sorted(xs) of fewer than 64 ints -/
def aSort : List PV → Me → Option (List D) := fun ps m => match ps with
  | [x] => (match m.kvs x with
    | some kvs => (match keyInts kvs with | some ns => if ns.length < 64 then some ((sortI ns).map .int) else none | none => none)
    | none => (match (m.ls x).bind asInts with | some ns => if ns.length < 64 then some ((sortI ns).map .int) else none | none => none))
  | _ => none
def minI (x : Int) (xs : List Int) : Int := xs.foldl (fun a y => if y < a then y else a) x
/-- max(xs), min(xs) of ints -/
def aMax1 : List PV → Me → Option D := fun ps m => match ps with
  | [x] => (match (m.ls x).bind asInts with | some (y :: ys) => some (.int (maxI y ys)) | _ => none)
  | _ => none
def aMin1 : List PV → Me → Option D := fun ps m => match ps with
  | [x] => (match (m.ls x).bind asInts with | some (y :: ys) => some (.int (minI y ys)) | _ => none)
  | _ => none
theorem maxI_top (y : Int) (ys : List Int) : maxI y ys ∈ y :: ys ∧ ∀ z ∈ y :: ys, z ≤ maxI y ys := by
  unfold maxI
  induction ys generalizing y with
  | nil => simp
  | cons a r ih =>
    rw [List.foldl_cons]
    obtain ⟨h1, h2⟩ := ih (if y < a then a else y)
    refine ⟨?_, fun z hz => ?_⟩
    · rcases List.mem_cons.mp h1 with h | h
      · rw [h]; split <;> simp
      · exact List.mem_cons_of_mem _ (List.mem_cons_of_mem _ h)
    · have h3 := h2 _ List.mem_cons_self
      rcases List.mem_cons.mp hz with rfl | hz
      · split at h3 <;> split <;> omega
      · rcases List.mem_cons.mp hz with rfl | hz
        · split at h3 <;> split <;> omega
        · exact h2 z (List.mem_cons_of_mem _ hz)
theorem minI_top (y : Int) (ys : List Int) : minI y ys ∈ y :: ys ∧ ∀ z ∈ y :: ys, minI y ys ≤ z := by
  unfold minI
  induction ys generalizing y with
  | nil => simp
  | cons a r ih =>
    rw [List.foldl_cons]
    obtain ⟨h1, h2⟩ := ih (if a < y then a else y)
    refine ⟨?_, fun z hz => ?_⟩
    · rcases List.mem_cons.mp h1 with h | h
      · rw [h]; split <;> simp
      · exact List.mem_cons_of_mem _ (List.mem_cons_of_mem _ h)
    · have h3 := h2 _ List.mem_cons_self
      rcases List.mem_cons.mp hz with rfl | hz
      · split at h3 <;> split <;> omega
      · rcases List.mem_cons.mp hz with rfl | hz
        · split at h3 <;> split <;> omega
        · exact h2 z (List.mem_cons_of_mem _ hz)
/-! ### lists and dicts in the store -/
/-- a new list that changes later: its reference -/
def eNewL (l : Lv) : Ev := fun m => (l m).bind fun xs m1 => .ok (.v (.ref m1.S.length)) ⟨m1.σ, m1.S ++ [.c (.lst xs)]⟩
/-- {} that changes later -/
def eNewD : Ev := fun m => .ok (.v (.ref m.S.length)) ⟨m.σ, m.S ++ [.c (.dct [])]⟩
/-- xs.extend(ys), ys a list anywhere -/
def eExtL (a b : Ev) : Ev := fun m => (a m).bind fun x m1 => if isL (m1.own x) then (b m1).bind fun y m2 => (match m2.own x, m2.cl y with
  | some (.lst xs), some (.lst ys) => if xs.length + ys.length ≤ big then .ok (.v .non) (m2.put x (.lst (xs ++ ys))) else .bad
  | _, _ => .bad) else .bad
def isK : Option Cl → Bool | some (.dct _) => true | _ => false
/-- d.pop(k) -/
def eDPop (a i : Ev) : Ev := fun m => (a m).bind fun x m1 => if isK (m1.own x) then (i m1).bind fun y m2 => (match m2.own x, ky y with
  | some (.dct kvs), some k => (match look kvs k with | some d => .ok (.v d) (m2.put x (.dct (dropKv kvs k))) | none => .bad)
  | _, _ => .bad) else .bad
end
end Mi

set_option Elab.async false
set_option linter.all false
set_option maxRecDepth 100000
set_option maxHeartbeats 4000000
/-! # So: the small world over the layer -/
namespace So
open PySem PySem.Spec PyProof.Rows L2
open Mi (D Cl FV SC Me Xc Res PV Ky Ev Tv Av Lv Iv Ov Sv Bd Out Env Tx)

def tx (x : Tx) : Str := ⟨x.toArray⟩
theorem tx_inj {a b : Tx} (h : tx a = tx b) : a = b := by
  have h1 := congrArg Str.cps h
  simpa [tx] using h1
theorem tx_iff {a b : Tx} : tx a = tx b ↔ a = b := ⟨tx_inj, fun h => by rw [h]⟩
def nm (s : String) : Str := ⟨(s.toList.map Char.toNat).toArray⟩
theorem nm_inj {a b : String} (h : nm a = nm b) : a = b := by
  have h1 : a.toList.map Char.toNat = b.toList.map Char.toNat := by
    have := congrArg Str.cps h
    simpa [nm] using this
  have h2 : a.toList = b.toList := List.map_inj_right (fun x y e => Char.toNat_inj.mp e) |>.mp h1
  exact String.toList_inj.mp h2
def kyR : Ky → Key
  | .i n => .inl n
  | .s x => .inr (tx x)
theorem kyR_inj {a b : Ky} (h : kyR a = kyR b) : a = b := by
  cases a <;> cases b <;> simp [kyR] at h
  · rw [h]
  · rw [tx_inj h]

/-- owned places -/
inductive Pl where
  | g (i : Nat) | f (i : Nat) (s : String) | s (i : Nat)
structure Wd where
  α : Pl → Addr
  O : Addr → Prop
def cellAt (m : Me) : Pl → Option SC
  | .g i => m.S[i]?
  | .f i f => (m.field i f).map .c
  | .s i => (m.slot i).map .c
def lkC : SC → Bool
  | .c (.lkd _) => true
  | _ => false
def MutA (α : Pl → Addr) (m : Me) (a : Addr) : Prop := ∃ p c, cellAt m p = some c ∧ α p = a ∧ lkC c = false
/-- an owned place, changed or not -/
def CelA (α : Pl → Addr) (m : Me) (a : Addr) : Prop := ∃ p c, cellAt m p = some c ∧ α p = a
theorem MutA.cel {α : Pl → Addr} {m : Me} {a : Addr} : MutA α m a → CelA α m a := fun ⟨p, c, h, e, _⟩ => ⟨p, c, h, e⟩
def Bad (w : Wd) (m : Me) (a : Addr) : Prop := w.O a ∨ CelA w.α m a
def norm : HO → HO
  | .frz _ (.dK k) => .dK k
  | .frz _ (.dT k) => .dT k
  | o => o
/-- what is to be read at a -/
def Nd (H : Hp) (a : Addr) (u : HO) : Prop := ∃ o, H a = some o ∧ norm o = u
theorem Nd.lst {H : Hp} {a : Addr} {xs : List V} (h : Nd H a (.lst xs)) : H a = some (.lst xs) := by
  obtain ⟨o, h1, h2⟩ := h
  unfold norm at h2
  split at h2 <;> first | (cases h2; exact h1) | (cases h2)
theorem Nd.frzL {H : Hp} {a : Addr} {ob : Obj} {xs : List V} (h : Nd H a (.frz ob (.lst xs))) : H a = some (.frz ob (.lst xs)) := by
  obtain ⟨o, h1, h2⟩ := h
  unfold norm at h2
  split at h2 <;> first | (cases h2; exact h1) | (cases h2)
/-- a list that is tracked, or the script's -/
def NdL (H : Hp) (a : Addr) (xs : List V) : Prop := ∃ u, Nd H a u ∧ (u = .lst xs ∨ ∃ o, u = .frz o (.lst xs))
theorem NdL.rd {H : Hp} {a : Addr} {xs : List V} (h : NdL H a xs) : Rd H a (.lst xs) := by
  obtain ⟨u, h1, rfl | ⟨o, rfl⟩⟩ := h
  · exact .inl h1.lst
  · exact .inr ⟨o, h1.frzL⟩
theorem Nd.dK {H : Hp} {a : Addr} {xs : List (Key × V)} (h : Nd H a (.dK xs)) : Rd H a (.dK xs) := by
  obtain ⟨o, h1, h2⟩ := h
  unfold norm at h2
  split at h2 <;> first | (cases h2; exact .inr ⟨_, h1⟩) | (cases h2; exact .inl h1) | (cases h2)
theorem Nd.tup {H : Hp} {a : Addr} {xs : List V} (h : Nd H a (.tup xs)) : H a = some (.tup xs) := by
  obtain ⟨o, h1, h2⟩ := h
  unfold norm at h2
  split at h2 <;> first | (cases h2; exact h1) | (cases h2)
theorem Nd.ins {H : Hp} {a C dx : Addr} {fs : List (Str × V)} (h : Nd H a (.ins C dx fs)) : H a = some (.ins C dx fs) := by
  obtain ⟨o, h1, h2⟩ := h
  unfold norm at h2
  split at h2 <;> first | (cases h2; exact h1) | (cases h2)
/-- a list of the written part -/
def Wr (K : PySem.W.Frag) (a : Addr) (xs : List V) : Prop :=
  ∃ (o : Obj) (its : Array Value) (n : Nat), K.lookup a = some o ∧ o.cls = .type "list" ∧ o.dict = none ∧ o.data = .seq its n ∧ its.size ≤ sizeLine ∧ Vals xs its.toList

section
variable (K : PySem.W.Frag) (ct : String → Option Addr) (w : Wd) (m : Me) (H : Hp)
mutual
inductive RepD : D → V → Prop
  | non : RepD .non .non
  | bl (b : Bool) : RepD (.bl b) (.bl b)
  | int (i : Int) : RepD (.int i) (.int i)
  | str (x : Tx) : RepD (.str x) (.str (tx x))
  | lst {a : Addr} {xs : List D} {vs : List V} : ¬ Bad w m a → Nd H a (.lst vs) → RepL xs vs → RepD (.lst xs) (.ref a)
  | scr {a : Addr} {xs : List D} {vs : List V} : (¬ Bad w m a ∧ NdL H a vs) ∨ Wr K a vs → RepL xs vs → RepD (.scr xs) (.ref a)
  | tup {a : Addr} {xs : List D} {vs : List V} : ¬ Bad w m a → Nd H a (.tup vs) → RepL xs vs → RepD (.tup xs) (.ref a)
  | dct {a : Addr} {xs : List (Ky × D)} {vs : List (Key × V)} : ¬ Bad w m a → Nd H a (.dK vs) → RepK xs vs → RepD (.dct xs) (.ref a)
  | obj {a C dx : Addr} {c : String} {fs : List (String × D)} {vs : List (Str × V)} : ct c = some C → ¬ Bad w m a → Nd H a (.ins C dx vs) → RepF fs vs → RepD (.obj c fs) (.ref a)
  | ref {i : Nat} {c : SC} : m.S[i]? = some c → RepD (.ref i) (.ref (w.α (.g i)))
inductive RepL : List D → List V → Prop
  | nil : RepL [] []
  | cons {d : D} {v : V} {ds : List D} {vs : List V} : RepD d v → RepL ds vs → RepL (d :: ds) (v :: vs)
inductive RepK : List (Ky × D) → List (Key × V) → Prop
  | nil : RepK [] []
  | cons {k : Ky} {d : D} {v : V} {ds : List (Ky × D)} {vs : List (Key × V)} : RepD d v → RepK ds vs → RepK ((k, d) :: ds) ((kyR k, v) :: vs)
inductive RepF : List (String × D) → List (Str × V) → Prop
  | nil : RepF [] []
  | cons {k : String} {d : D} {v : V} {ds : List (String × D)} {vs : List (Str × V)} : RepD d v → RepF ds vs → RepF ((k, d) :: ds) ((nm k, v) :: vs)
end
/-- the fields of a store's object -/
inductive RepG (i : Nat) : List (String × FV) → List (Str × V) → Prop
  | nil : RepG i [] []
  | v {k : String} {d : D} {v : V} {ds : List (String × FV)} {vs : List (Str × V)} : RepD K ct w m H d v → RepG i ds vs → RepG i ((k, .v d) :: ds) ((nm k, v) :: vs)
  | o {k : String} {c : Cl} {ds : List (String × FV)} {vs : List (Str × V)} : RepG i ds vs → RepG i ((k, .o c) :: ds) ((nm k, .ref (w.α (.f i k))) :: vs)
  | l {k : String} {ds : List (String × FV)} {vs : List (Str × V)} : RepG i ds vs → RepG i ((k, .lent) :: ds) ((nm k, .ref (w.α (.f i k))) :: vs)
/-- what stands at an owned place -/
def CellR (p : Pl) (a : Addr) : SC → Prop
  | .c (.lst xs) => ∃ vs, H a = some (.lst vs) ∧ RepL K ct w m H xs vs
  | .c (.dct xs) => ∃ vs, H a = some (.dK vs) ∧ RepK K ct w m H xs vs
  | .c (.lkd xs) => ∃ vs o, H a = some (.frz o (.dK vs)) ∧ RepK K ct w m H xs vs
  | .c (.dcT xs) => ∃ vs : List (List Key × V), H a = some (.dT vs) ∧ False
  | .ins c fs => ∃ (C dx : Addr) (vs : List (Str × V)) (i : Nat), p = .g i ∧ ct c = some C ∧ H a = some (.ins C dx vs) ∧ RepG K ct w m H i fs vs
/-- the state stands so -/
structure MRel : Prop where
  inj : ∀ p q c c', cellAt m p = some c → cellAt m q = some c' → w.α p = w.α q → p = q
  cells : ∀ p c, cellAt m p = some c → CellR K ct w m H p (w.α p) c
  out : ∀ a, w.O a → ∃ o, H a = some o
  nout : ∀ p c, cellAt m p = some c → ¬ w.O (w.α p)
/-- a slot -/
def SlotR (i : Nat) : Option FV → Option V → Prop
  | some (.v d), v => ∃ u, v = some u ∧ RepD K ct w m H d u
  | some (.o _), v => v = some (.ref (w.α (.s i)))
  | some .lent, _ => True
  | none, _ => True
structure ERel (σ : L2.St) : Prop where
  len : m.σ.length = σ.length
  at_ : ∀ i x y, m.σ[i]? = some x → σ[i]? = some y → SlotR K ct w m H i x y
end

/-- the state has gone on -/
structure Ext (w : Wd) (m : Me) (H : Hp) (w' : Wd) (m' : Me) (H' : Hp) : Prop where
  Om : ∀ a, w.O a → w'.O a
  Oa : ∀ a o, H a = some o → ¬ MutA w.α m a → w'.O a → w.O a
  gl : ∀ i c, m.S[i]? = some c → (∃ c', m'.S[i]? = some c') ∧ w'.α (.g i) = w.α (.g i)
  keep : ∀ a o, H a = some o → ¬ MutA w.α m a → H' a = some o ∧ ¬ MutA w'.α m' a
  nc : ∀ a o, H a = some o → ¬ CelA w.α m a → ¬ CelA w'.α m' a
theorem Ext.refl (w : Wd) (m : Me) (H : Hp) : Ext w m H w m H := ⟨fun _ h => h, fun _ _ _ _ h => h, fun i c h => ⟨⟨c, h⟩, rfl⟩, fun a o h n => ⟨h, n⟩, fun _ _ _ n => n⟩
theorem Ext.trans {w w1 w2 : Wd} {m m1 m2 : Me} {H H1 H2 : Hp} (a : Ext w m H w1 m1 H1) (b : Ext w1 m1 H1 w2 m2 H2) : Ext w m H w2 m2 H2 := by
  refine ⟨fun x h => b.Om x (a.Om x h), fun x o h n z => ?_, fun i c h => ?_, fun x o h n => ?_, fun x o h n => b.nc x o (a.keep x o h fun z => n z.cel).1 (a.nc x o h n)⟩
  · obtain ⟨h1, n1⟩ := a.keep x o h n
    exact a.Oa x o h n (b.Oa x o h1 n1 z)
  · obtain ⟨⟨c', h1⟩, e1⟩ := a.gl i c h
    obtain ⟨⟨c2, h2⟩, e2⟩ := b.gl i c' h1
    exact ⟨⟨c2, h2⟩, e2.trans e1⟩
  · obtain ⟨h1, n1⟩ := a.keep x o h n
    exact b.keep x o h1 n1
section
variable {K : PySem.W.Frag} {ct : String → Option Addr} {w w' : Wd} {m m' : Me} {H H' : Hp}
theorem Ext.nd (e : Ext w m H w' m' H') {a : Addr} {u : HO} (n : ¬ Bad w m a) (h : Nd H a u) : ¬ Bad w' m' a ∧ Nd H' a u := by
  obtain ⟨o, h1, h2⟩ := h
  obtain ⟨h3, _⟩ := e.keep a o h1 (fun z => n (.inr z.cel))
  have n' := e.nc a o h1 (fun z => n (.inr z))
  refine ⟨fun z => ?_, ⟨o, h3, h2⟩⟩
  rcases z with z | z
  · exact n (.inl (e.Oa a o h1 (fun z => n (.inr z.cel)) z))
  · exact n' z
theorem Ext.ndL (e : Ext w m H w' m' H') {a : Addr} {xs : List V} (n : ¬ Bad w m a) (h : NdL H a xs) : ¬ Bad w' m' a ∧ NdL H' a xs := by
  obtain ⟨u, h1, h2⟩ := h
  exact ⟨(e.nd n h1).1, u, (e.nd n h1).2, h2⟩
mutual
theorem RepD.ext (e : Ext w m H w' m' H') : ∀ {d : D} {v : V}, RepD K ct w m H d v → RepD K ct w' m' H' d v
  | _, _, .non => .non
  | _, _, .bl b => .bl b
  | _, _, .int i => .int i
  | _, _, .str x => .str x
  | _, _, .lst n h r => .lst (e.nd n h).1 (e.nd n h).2 (RepL.ext e r)
  | _, _, .scr h r => .scr (h.imp (fun z => e.ndL z.1 z.2) id) (RepL.ext e r)
  | _, _, .tup n h r => .tup (e.nd n h).1 (e.nd n h).2 (RepL.ext e r)
  | _, _, .dct n h r => .dct (e.nd n h).1 (e.nd n h).2 (RepK.ext e r)
  | _, _, .obj c n h r => .obj c (e.nd n h).1 (e.nd n h).2 (RepF.ext e r)
  | _, _, .ref (i := i) h => by
    obtain ⟨⟨c', h1⟩, e1⟩ := e.gl i _ h
    rw [← e1]
    exact .ref h1
theorem RepL.ext (e : Ext w m H w' m' H') : ∀ {d : List D} {v : List V}, RepL K ct w m H d v → RepL K ct w' m' H' d v
  | _, _, .nil => .nil
  | _, _, .cons h r => .cons (RepD.ext e h) (RepL.ext e r)
theorem RepK.ext (e : Ext w m H w' m' H') : ∀ {d : List (Ky × D)} {v : List (Key × V)}, RepK K ct w m H d v → RepK K ct w' m' H' d v
  | _, _, .nil => .nil
  | _, _, .cons h r => .cons (RepD.ext e h) (RepK.ext e r)
theorem RepF.ext (e : Ext w m H w' m' H') : ∀ {d : List (String × D)} {v : List (Str × V)}, RepF K ct w m H d v → RepF K ct w' m' H' d v
  | _, _, .nil => .nil
  | _, _, .cons h r => .cons (RepD.ext e h) (RepF.ext e r)
end
theorem RepL.length : ∀ {d : List D} {v : List V}, RepL K ct w m H d v → d.length = v.length
  | _, _, .nil => rfl
  | _, _, .cons _ r => by simp [RepL.length r]
theorem RepK.length : ∀ {d : List (Ky × D)} {v : List (Key × V)}, RepK K ct w m H d v → d.length = v.length
  | _, _, .nil => rfl
  | _, _, .cons _ r => by simp [RepK.length r]
theorem RepL.get : ∀ {d : List D} {v : List V} {i : Nat} {x : D}, RepL K ct w m H d v → d[i]? = some x → ∃ y, v[i]? = some y ∧ RepD K ct w m H x y
  | _, _, _, _, .nil, h => by simp at h
  | _, _, 0, _, .cons r _, h => by simp at h; subst h; exact ⟨_, by simp, r⟩
  | _, _, i + 1, _, .cons _ r, h => by
    obtain ⟨y, h1, h2⟩ := RepL.get (i := i) r (by simpa using h)
    exact ⟨y, by simpa using h1, h2⟩
theorem RepL.append : ∀ {d e : List D} {v u : List V}, RepL K ct w m H d v → RepL K ct w m H e u → RepL K ct w m H (d ++ e) (v ++ u)
  | _, _, _, _, .nil, s => s
  | _, _, _, _, .cons r t, s => .cons r (RepL.append t s)
theorem RepL.take : ∀ {d : List D} {v : List V} (n : Nat), RepL K ct w m H d v → RepL K ct w m H (d.take n) (v.take n)
  | _, _, 0, _ => by simp; exact .nil
  | _, _, _ + 1, .nil => by simp; exact .nil
  | _, _, n + 1, .cons r t => by simp; exact .cons r (RepL.take n t)
theorem RepL.drop : ∀ {d : List D} {v : List V} (n : Nat), RepL K ct w m H d v → RepL K ct w m H (d.drop n) (v.drop n)
  | _, _, 0, h => by simpa using h
  | _, _, _ + 1, .nil => by simp; exact .nil
  | _, _, n + 1, .cons r t => by simp; exact RepL.drop n t
theorem RepL.set {x : D} {y : V} (h : RepD K ct w m H x y) : ∀ {d : List D} {v : List V} (i : Nat), RepL K ct w m H d v → RepL K ct w m H (d.set i x) (v.set i y)
  | _, _, _, .nil => .nil
  | _, _, 0, .cons r t => .cons h t
  | _, _, i + 1, .cons r t => .cons r (RepL.set h i t)
theorem RepL.ints : ∀ (ns : List Int), RepL K ct w m H (ns.map D.int) (ns.map V.int)
  | [] => .nil
  | n :: ns => .cons (.int n) (RepL.ints ns)
/-- a cell goes on, where its own object stands -/
theorem RepG.ext (e : Ext w m H w' m' H') {i : Nat} (hf : ∀ f, w'.α (.f i f) = w.α (.f i f)) : ∀ {d : List (String × FV)} {v : List (Str × V)}, RepG K ct w m H i d v → RepG K ct w' m' H' i d v
  | _, _, .nil => .nil
  | _, _, .v h r => .v (RepD.ext e h) (RepG.ext e hf r)
  | _, _, .o (k := k) r => by rw [← hf k]; exact .o (RepG.ext e hf r)
  | _, _, .l (k := k) r => by rw [← hf k]; exact .l (RepG.ext e hf r)
theorem CellR.ext (e : Ext w m H w' m' H') {p : Pl} {a : Addr} {c : SC} (hf : ∀ i f, p = .g i → w'.α (.f i f) = w.α (.f i f)) (hH : H' a = H a) (h : CellR K ct w m H p a c) : CellR K ct w' m' H' p a c := by
  cases c with
  | ins c fs =>
    obtain ⟨C, dx, vs, i, hp, h1, h2, h3⟩ := h
    exact ⟨C, dx, vs, i, hp, h1, by rw [hH]; exact h2, h3.ext e (fun f => hf i f hp)⟩
  | c x =>
    cases x with
    | lst xs => obtain ⟨vs, h1, h2⟩ := h; exact ⟨vs, by rw [hH]; exact h1, h2.ext e⟩
    | dct xs => obtain ⟨vs, h1, h2⟩ := h; exact ⟨vs, by rw [hH]; exact h1, h2.ext e⟩
    | lkd xs => obtain ⟨vs, o, h1, h2⟩ := h; exact ⟨vs, o, by rw [hH]; exact h1, h2.ext e⟩
    | dcT xs => obtain ⟨vs, h1, h2⟩ := h; exact h2.elim
theorem ERel.ext {σ : L2.St} (e : Ext w m H w' m' H') (hs : m'.σ = m.σ) (ha : ∀ i, w'.α (.s i) = w.α (.s i)) (h : ERel K ct w m H σ) : ERel K ct w' m' H' σ := by
  refine ⟨by rw [hs]; exact h.len, fun i x y h1 h2 => ?_⟩
  rw [hs] at h1
  have z := h.at_ i x y h1 h2
  cases x with
  | none => trivial
  | some f =>
    cases f with
    | v d => obtain ⟨u, e1, r⟩ := z; exact ⟨u, e1, r.ext e⟩
    | o c => show y = _; rw [ha]; exact z
    | lent => trivial
/-- nothing changed but the heap, by a new object that no place owns -/
theorem Ext.fresh {p : Addr} {o : HO} (hp : H p = none) : Ext w m H w m (upd H p o) :=
  ⟨fun _ h => h, fun _ _ _ _ h => h, fun i c h => ⟨⟨c, h⟩, rfl⟩, fun a u h n => ⟨by rw [upd_ne (ne_of_none h hp)]; exact h, n⟩, fun _ _ _ n => n⟩
theorem CellR.some_ {p : Pl} {a : Addr} {c : SC} (h : CellR K ct w m H p a c) : ∃ o, H a = some o := by
  cases c with
  | ins c fs => obtain ⟨C, dx, vs, i, hp, h1, h2, h3⟩ := h; exact ⟨_, h2⟩
  | c x =>
    cases x with
    | lst xs => obtain ⟨vs, h1, h2⟩ := h; exact ⟨_, h1⟩
    | dct xs => obtain ⟨vs, h1, h2⟩ := h; exact ⟨_, h1⟩
    | lkd xs => obtain ⟨vs, o, h1, h2⟩ := h; exact ⟨_, h1⟩
    | dcT xs => obtain ⟨vs, h1, h2⟩ := h; exact h2.elim
theorem MRel.there (M : MRel K ct w m H) {p : Pl} {c : SC} (h : cellAt m p = some c) : ∃ o, H (w.α p) = some o := (M.cells p c h).some_
theorem MRel.notBad (M : MRel K ct w m H) {p : Addr} (hp : H p = none) : ¬ Bad w m p := by
  rintro (z | ⟨q, c, h1, h2⟩)
  · obtain ⟨o, e⟩ := M.out p z
    rw [hp] at e; cases e
  · obtain ⟨o, e⟩ := M.there h1
    rw [h2, hp] at e; cases e
theorem MRel.fresh (M : MRel K ct w m H) {p : Addr} {o : HO} (hp : H p = none) : MRel K ct w m (upd H p o) := by
  refine ⟨M.inj, fun q c h => ?_, fun a h => ?_, M.nout⟩
  · obtain ⟨u, e⟩ := M.there h
    exact (M.cells q c h).ext (Ext.fresh hp) (fun _ _ _ => rfl) (upd_ne (ne_of_none e hp))
  · obtain ⟨u, e⟩ := M.out a h
    exact ⟨u, by rw [upd_ne (ne_of_none e hp)]; exact e⟩
theorem ndL_same {p : Addr} {xs : List V} : NdL (upd H p (.lst xs)) p xs := ⟨_, ⟨_, upd_same, rfl⟩, .inl rfl⟩
theorem nd_same {p : Addr} {o : HO} (h : norm o = o) : Nd (upd H p o) p o := ⟨o, upd_same, h⟩
end
end So

set_option Elab.async false
set_option linter.all false
set_option maxRecDepth 100000
set_option maxHeartbeats 4000000
namespace So
open PySem PySem.Spec PyProof.Rows L2
open Mi (D Cl FV SC Me Xc Res PV Ky Ev Tv Av Lv Iv Ov Sv Bd Out Env Tx)

theorem big_eq : Mi.big = sizeLine := Mi.big_is.trans sizeLine_eq.symm

section
variable (K : PySem.W.Frag) (ct : String → Option Addr)
def PVR (w : Wd) (m : Me) (H : Hp) (σ : L2.St) : PV → V → Prop
  | .v d, v => RepD K ct w m H d v
  | .sl i, v => σ[i]? = some (some v)
inductive PVRs (w : Wd) (m : Me) (H : Hp) (σ : L2.St) : List PV → List V → Prop
  | nil : PVRs w m H σ [] []
  | cons {p : PV} {v : V} {ps : List PV} {vs : List V} : PVR K ct w m H σ p v → PVRs w m H σ ps vs → PVRs w m H σ (p :: ps) (v :: vs)
/-- an exception -/
def ExR (w : Wd) (m : Me) (H : Hp) (x : Xc) (cls : Value) (dx : Option Addr) : Prop :=
  ∃ C, ct x.c = some C ∧ cls = .ref C ∧ (x.fs = [] → dx = none) ∧ (x.fs ≠ [] → ∃ d vs, dx = some d ∧ ¬ Bad w m d ∧ Nd H d (.xd vs) ∧ RepF K ct w m H x.fs vs)
/-- the state -/
structure SR (w : Wd) (m : Me) (H : Hp) (σ : L2.St) : Prop where
  M : MRel K ct w m H
  E : ERel K ct w m H σ
/-- what is wanted of an answer -/
def RE {α : Type} (σ : L2.St) (w : Wd) (m : Me) (H : Hp) (r : Res α) (P : α → Wd → Me → Hp → Prop) (Px : Xc → Wd → Me → Hp → Prop) : Prop :=
  match r with
  | .ok a m' => ∀ w' H', SR K ct w' m' H' σ → Ext w m H w' m' H' → P a w' m' H'
  | .ex x m' => ∀ w' H', SR K ct w' m' H' σ → Ext w m H w' m' H' → Px x w' m' H'
  | .bad => False
end
section
variable {K : PySem.W.Frag} {ct : String → Option Addr} {w w' : Wd} {m m' : Me} {H H' : Hp} {σ : L2.St}
theorem PVR.ext (e : Ext w m H w' m' H') {x : PV} {v : V} (h : PVR K ct w m H σ x v) : PVR K ct w' m' H' σ x v := by
  cases x with
  | v d => exact RepD.ext e h
  | sl i => exact h
theorem PVRs.ext (e : Ext w m H w' m' H') {x : List PV} {v : List V} (h : PVRs K ct w m H σ x v) : PVRs K ct w' m' H' σ x v := by
  induction h with
  | nil => exact .nil
  | cons h _ ih => exact .cons (h.ext e) ih
theorem ExR.ext (e : Ext w m H w' m' H') {x : Xc} {cls : Value} {dx : Option Addr} (h : ExR K ct w m H x cls dx) : ExR K ct w' m' H' x cls dx := by
  obtain ⟨C, h1, h2, h0, h3⟩ := h
  refine ⟨C, h1, h2, h0, fun n => ?_⟩
  obtain ⟨d, vs, e1, n1, n2, r⟩ := h3 n
  exact ⟨d, vs, e1, (e.nd n1 n2).1, (e.nd n1 n2).2, RepF.ext e r⟩
theorem RE.bind {α β : Type} {r : Res α} {k : α → Me → Res β} {P : β → Wd → Me → Hp → Prop} {Px : Xc → Wd → Me → Hp → Prop} (h : RE K ct σ w m H (r.bind k) P Px) :
    RE K ct σ w m H r (fun a w' m' H' => RE K ct σ w' m' H' (k a m') P Px) Px := by
  cases r with
  | ok a m' =>
    intro w' H' S e
    have h : RE K ct σ w m H (k a m') P Px := h
    show RE K ct σ w' m' H' (k a m') P Px
    cases q : k a m' with
    | ok b m2 => rw [q] at h; intro w2 H2 S2 e2; exact h w2 H2 S2 (e.trans e2)
    | ex x m2 => rw [q] at h; intro w2 H2 S2 e2; exact h w2 H2 S2 (e.trans e2)
    | bad => rw [q] at h; exact h
  | ex x m' => exact h
  | bad => exact h
theorem RE.imp {α : Type} {r : Res α} {P P' : α → Wd → Me → Hp → Prop} {Px Px' : Xc → Wd → Me → Hp → Prop} (h : RE K ct σ w m H r P Px)
    (hP : ∀ a w' m' H', SR K ct w' m' H' σ → Ext w m H w' m' H' → P a w' m' H' → P' a w' m' H') (hX : ∀ a w' m' H', SR K ct w' m' H' σ → Ext w m H w' m' H' → Px a w' m' H' → Px' a w' m' H') : RE K ct σ w m H r P' Px' := by
  cases r with
  | ok a m' => intro w' H' S e; exact hP _ _ _ _ S e (h w' H' S e)
  | ex x m' => intro w' H' S e; exact hX _ _ _ _ S e (h w' H' S e)
  | bad => exact h
theorem RE.ok {α : Type} {a : α} {P : α → Wd → Me → Hp → Prop} {Px : Xc → Wd → Me → Hp → Prop} (h : RE K ct σ w m H (.ok a m') P Px) (S : SR K ct w' m' H' σ) (e : Ext w m H w' m' H') : P a w' m' H' := h w' H' S e
/-- a partial answer is there -/
theorem RE.opt {α β : Type} {o : Option α} {k : α → Me → Res β} {P : β → Wd → Me → Hp → Prop} {Px : Xc → Wd → Me → Hp → Prop} (h : RE K ct σ w m H ((Res.opt o m).bind k) P Px) : ∃ a, o = some a ∧ RE K ct σ w m H (k a m) P Px := by
  cases o with
  | none => exact h.elim
  | some a => exact ⟨a, rfl, h⟩
end

/-! ### the judgements -/
section
variable (K : PySem.W.Frag) (ct : String → Option Addr) (W : WX)
/-- what is wanted of an exception -/
abbrev PxW (σ : L2.St) : Xc → Wd → Me → Hp → Prop := fun x w' m' H' => ∀ cls dx, ExR K ct w' m' H' x cls dx → W cls dx σ H'
def tE (f : Ev) : TE := fun σ H Q => ∃ w m, SR K ct w m H σ ∧ RE K ct σ w m H (f m) (fun x w' m' H' => ∀ v, PVR K ct w' m' H' σ x v → Q v H') (PxW K ct W σ)
def tT (f : Tv) : TT := fun σ H Q => ∃ w m, SR K ct w m H σ ∧ RE K ct σ w m H (f m) (fun b w' m' H' => Q b H') (PxW K ct W σ)
def tA (f : Av) : TA := fun σ H Q => ∃ w m, SR K ct w m H σ ∧ RE K ct σ w m H (f m) (fun xs w' m' H' => ∀ vs, PVRs K ct w' m' H' σ xs vs → Q vs H') (PxW K ct W σ)
def tL (f : Lv) : TE := fun σ H Q => ∃ w m, SR K ct w m H σ ∧ RE K ct σ w m H (f m) (fun xs w' m' H' => ∀ vs p, RepL K ct w' m' H' xs vs → H' p = none → Q (.ref p) (upd H' p (.lst vs))) (PxW K ct W σ)
def tO (f : Ov) : TO := fun σ H Q => ∃ w m, SR K ct w m H σ ∧ RE K ct σ w m H (f m) (fun b w' m' H' => Q b H') (PxW K ct W σ)
end
structure DE (X : Cx) (ct : String → Option Addr) (e : Expr) (f : Ev) : Prop where
  run : ∀ W, L2.Takes X W → PE X e (tE X.K ct W f)
structure DT (X : Cx) (ct : String → Option Addr) (e : Expr) (f : Tv) : Prop where
  run : ∀ W, L2.Takes X W → PT X e (tT X.K ct W f)
structure DW (X : Cx) (ct : String → Option Addr) (e : Expr) (f : Tv) : Prop where
  run : ∀ W, L2.Takes X W → PW X e (tT X.K ct W f)
structure DA (X : Cx) (ct : String → Option Addr) (es : List Expr) (f : Av) : Prop where
  run : ∀ W, L2.Takes X W → PA X es (tA X.K ct W f)
structure DL (X : Cx) (ct : String → Option Addr) (e : Expr) (f : Lv) : Prop where
  run : ∀ W, L2.Takes X W → PE X e (tL X.K ct W f)
structure DO (X : Cx) (ct : String → Option Addr) (e : Option Expr) (f : Ov) : Prop where
  run : ∀ W, L2.Takes X W → PO X e (tO X.K ct W f)

section
variable {X : Cx} {ct : String → Option Addr} {e a b : Expr} {pos : Pos}
theorem PE.imp {t t' : TE} (h : PE X e t) (i : ∀ σ H Q, t' σ H Q → t σ H Q) : PE X e t' := ⟨fun pins s σ H Q I q => h.run pins s σ H Q I (i _ _ _ q)⟩
theorem PT.imp {t t' : TT} (h : PT X e t) (i : ∀ σ H Q, t' σ H Q → t σ H Q) : PT X e t' := ⟨fun pins s σ H Q I q => h.run pins s σ H Q I (i _ _ _ q)⟩
theorem PW.imp {t t' : TT} (h : PW X e t) (i : ∀ σ H Q, t' σ H Q → t σ H Q) : PW X e t' := ⟨fun wh pins s σ H Q I q => h.run wh pins s σ H Q I (i _ _ _ q)⟩
theorem PA.imp {es : List Expr} {t t' : TA} (h : PA X es t) (i : ∀ σ H Q, t' σ H Q → t σ H Q) : PA X es t' := ⟨fun p pins s σ H Q I q => h.run p pins s σ H Q I (i _ _ _ q)⟩
theorem PO.imp {e : Option Expr} {t t' : TO} (h : PO X e t) (i : ∀ σ H Q, t' σ H Q → t σ H Q) : PO X e t' := ⟨fun pins s σ H Q I q => h.run pins s σ H Q I (i _ _ _ q)⟩

/-- an expression's part -/
theorem tE.part {K : PySem.W.Frag} {W : WX} {β : Type} {f : Ev} {k : PV → Me → Res β} {P : β → Wd → Me → Hp → Prop} {w : Wd} {m : Me} {H : Hp} {σ : L2.St} {Q : VK} (S : SR K ct w m H σ) (h : RE K ct σ w m H ((f m).bind k) P (PxW K ct W σ))
    (g : ∀ x w1 m1 H1 v, SR K ct w1 m1 H1 σ → Ext w m H w1 m1 H1 → PVR K ct w1 m1 H1 σ x v → RE K ct σ w1 m1 H1 (k x m1) P (PxW K ct W σ) → Q v H1) : tE K ct W f σ H Q :=
  ⟨w, m, S, h.bind.imp (fun x w1 m1 H1 S1 e1 h1 v pv => g x w1 m1 H1 v S1 e1 pv h1) fun _ _ _ _ _ _ z => z⟩
theorem tT.part {K : PySem.W.Frag} {W : WX} {β : Type} {f : Tv} {k : Bool → Me → Res β} {P : β → Wd → Me → Hp → Prop} {w : Wd} {m : Me} {H : Hp} {σ : L2.St} {Q : Bool → Hp → Prop} (S : SR K ct w m H σ) (h : RE K ct σ w m H ((f m).bind k) P (PxW K ct W σ))
    (g : ∀ x w1 m1 H1, SR K ct w1 m1 H1 σ → Ext w m H w1 m1 H1 → RE K ct σ w1 m1 H1 (k x m1) P (PxW K ct W σ) → Q x H1) : tT K ct W f σ H Q :=
  ⟨w, m, S, h.bind.imp (fun x w1 m1 H1 S1 e1 h1 => g x w1 m1 H1 S1 e1 h1) fun _ _ _ _ _ _ z => z⟩
theorem tA.part {K : PySem.W.Frag} {W : WX} {β : Type} {f : Av} {k : List PV → Me → Res β} {P : β → Wd → Me → Hp → Prop} {w : Wd} {m : Me} {H : Hp} {σ : L2.St} {Q : List V → Hp → Prop} (S : SR K ct w m H σ) (h : RE K ct σ w m H ((f m).bind k) P (PxW K ct W σ))
    (g : ∀ x w1 m1 H1 v, SR K ct w1 m1 H1 σ → Ext w m H w1 m1 H1 → PVRs K ct w1 m1 H1 σ x v → RE K ct σ w1 m1 H1 (k x m1) P (PxW K ct W σ) → Q v H1) : tA K ct W f σ H Q :=
  ⟨w, m, S, h.bind.imp (fun x w1 m1 H1 S1 e1 h1 v pv => g x w1 m1 H1 v S1 e1 pv h1) fun _ _ _ _ _ _ z => z⟩
theorem tO.part {K : PySem.W.Frag} {W : WX} {β : Type} {f : Ov} {k : Option Int → Me → Res β} {P : β → Wd → Me → Hp → Prop} {w : Wd} {m : Me} {H : Hp} {σ : L2.St} {Q : Option Int → Hp → Prop} (S : SR K ct w m H σ) (h : RE K ct σ w m H ((f m).bind k) P (PxW K ct W σ))
    (g : ∀ x w1 m1 H1, SR K ct w1 m1 H1 σ → Ext w m H w1 m1 H1 → RE K ct σ w1 m1 H1 (k x m1) P (PxW K ct W σ) → Q x H1) : tO K ct W f σ H Q :=
  ⟨w, m, S, h.bind.imp (fun x w1 m1 H1 S1 e1 h1 => g x w1 m1 H1 S1 e1 h1) fun _ _ _ _ _ _ z => z⟩

/-! ### names, constants -/
theorem de_var (i : Nat) {x : Str} (h : PE X (.Name x pos) (tVar i)) : DE X ct (.Name x pos) (Mi.eVar i) := ⟨fun W tk => PE.imp h fun σ H Q ⟨w, m, S, q⟩ => by
  have hl := S.E.len
  have ha := S.E.at_ i
  unfold Mi.eVar at q
  cases e1 : m.σ[i]? with
  | none => rw [e1] at q; exact q.elim
  | some o =>
    have hi : i < σ.length := by rw [← hl]; exact (List.getElem?_eq_some_iff.mp e1).1
    have e2 : σ[i]? = some σ[i] := List.getElem?_eq_some_iff.mpr ⟨hi, rfl⟩
    have z := ha o _ e1 e2
    rw [e1] at q
    cases o with
    | none => exact q.elim
    | some f =>
      cases f with
      | lent => exact q.elim
      | v d =>
        obtain ⟨u, e3, r⟩ := z
        exact ⟨u, by rw [e2, e3], RE.ok q S (Ext.refl ..) u r⟩
      | o c =>
        have z' : σ[i] = some (.ref (w.α (.s i))) := z
        exact ⟨_, by rw [e2, z'], RE.ok q S (Ext.refl ..) _ (by show σ[i]? = _; rw [e2, z'])⟩⟩
theorem de_c {d : D} {v : V} (h : PE X e (tC v)) (r : ∀ w m H, RepD X.K ct w m H d v) : DE X ct e (Mi.eC d) := ⟨fun W tk => PE.imp h fun σ H Q ⟨w, m, S, q⟩ => RE.ok q S (Ext.refl ..) v (r w m H)⟩
theorem de_int {i : Int} {j : Nat} : DE X ct (.Constant (.int i) j pos) (Mi.eC (.int i)) := de_c pe_int fun _ _ _ => .int i
theorem de_bl {i : Bool} {j : Nat} : DE X ct (.Constant (.bool i) j pos) (Mi.eC (.bl i)) := de_c pe_bl fun _ _ _ => .bl i
theorem de_non {j : Nat} : DE X ct (.Constant .none j pos) (Mi.eC .non) := de_c pe_non fun _ _ _ => .non
theorem de_str (x : Tx) {s : Str} {j : Nat} (h : tx x = s := by rfl) : DE X ct (.Constant (.str s) j pos) (Mi.eC (.str x)) := by
  subst h
  exact de_c pe_str fun _ _ _ => .str x

/-! ### operators -/
/-- a two-place operation of mine is one of the layer's -/
def OpOk (X : Cx) (ct : String → Option Addr) (g : PV → PV → Me → Option D) (r : R2) : Prop :=
  ∀ (w : Wd) (m : Me) (H : Hp) (σ : L2.St) (x y : PV) (v u : V) (d : D) (Q : VK), SR X.K ct w m H σ → PVR X.K ct w m H σ x v → PVR X.K ct w m H σ y u → g x y m = some d →
    (∀ v' H', SR X.K ct w m H' σ → Ext w m H w m H' → RepD X.K ct w m H' d v' → Q v' H') → r v u H Q
def UnOk (X : Cx) (ct : String → Option Addr) (g : PV → Me → Option D) (r : V → Hp → VK → Prop) : Prop :=
  ∀ (w : Wd) (m : Me) (H : Hp) (σ : L2.St) (x : PV) (v : V) (d : D) (Q : VK), SR X.K ct w m H σ → PVR X.K ct w m H σ x v → g x m = some d →
    (∀ v' H', SR X.K ct w m H' σ → Ext w m H w m H' → RepD X.K ct w m H' d v' → Q v' H') → r v H Q
/-- two expressions in a row, then the operation -/
theorem e2_read {W : WX} {g : PV → PV → Me → Option D} {r : R2} (hg : OpOk X ct g r) {fa fb : Ev} {σ : L2.St} {H : Hp} {Q : VK} (h : tE X.K ct W (Mi.e2 g fa fb) σ H Q) : tOp r (tE X.K ct W fa) (tE X.K ct W fb) σ H Q := by
  obtain ⟨w, m, S, h⟩ := h
  refine tE.part S h fun x w1 m1 H1 v S1 e1 pv h1 => ?_
  refine tE.part S1 h1 fun y w2 m2 H2 u S2 e2 pu h2 => ?_
  obtain ⟨d, hd, h3⟩ := h2.opt
  exact hg w2 m2 H2 σ x y v u d Q S2 (pv.ext e2) pu hd fun v' H' S' e' r' => RE.ok h3 S' e' v' r'
theorem e1_read {W : WX} {g : PV → Me → Option D} {r : V → Hp → VK → Prop} (hg : UnOk X ct g r) {fa : Ev} {σ : L2.St} {H : Hp} {Q : VK} (h : tE X.K ct W (Mi.e1 g fa) σ H Q) : tUn r (tE X.K ct W fa) σ H Q := by
  obtain ⟨w, m, S, h⟩ := h
  refine tE.part S h fun x w1 m1 H1 v S1 e1 pv h1 => ?_
  obtain ⟨d, hd, h3⟩ := h1.opt
  exact hg w1 m1 H1 σ x v d Q S1 pv hd fun v' H' S' e' r' => RE.ok h3 S' e' v' r'
theorem de_op {op : Operator} {g : PV → PV → Me → Option D} {r : R2} (ho : OpR X (binaryOp op) r) (hg : OpOk X ct g r) {fa fb : Ev} (ha : DE X ct a fa) (hb : DE X ct b fb) : DE X ct (.BinOp a op b pos) (Mi.e2 g fa fb) :=
  ⟨fun W tk => PE.imp (pe_op ho (ha.run W tk) (hb.run W tk)) fun _ _ _ h => e2_read hg h⟩
theorem de_cmp {op : CmpOp} {g : PV → PV → Me → Option D} {r : R2} (ho : OpR X (compareOp op) r) (hg : OpOk X ct g r) {fa fb : Ev} (ha : DE X ct a fa) (hb : DE X ct b fb) (hm : behindInMarks op b = false) : DE X ct (.Compare a [op] [b] pos) (Mi.e2 g fa fb) :=
  ⟨fun W tk => PE.imp (pe_cmpR ho (ha.run W tk) (hb.run W tk) hm) fun _ _ _ h => e2_read hg h⟩
theorem tv_read {W : WX} {f : Ev} {t : TE} (ht : ∀ σ H Q, tE X.K ct W f σ H Q → t σ H Q) {σ : L2.St} {H : Hp} {Q : Bool → Hp → Prop} (h : tT X.K ct W (Mi.tV f) σ H Q) : tTest t σ H Q := by
  obtain ⟨w, m, S, h⟩ := h
  refine ht σ H _ (tE.part S h fun x w1 m1 H1 v S1 e1 pv h1 => ?_)
  cases x with
  | sl i => exact h1.elim
  | v d =>
    cases d <;> first | exact h1.elim | skip
    cases pv
    exact ⟨_, rfl, RE.ok h1 S1 (Ext.refl ..)⟩
theorem dt_cmp {op : CmpOp} {g : PV → PV → Me → Option D} {r : R2} (ho : OpR X (compareOp op) r) (hg : OpOk X ct g r) {fa fb : Ev} (ha : DE X ct a fa) (hb : DE X ct b fb) (hm : behindInMarks op b = false) : DT X ct (.Compare a [op] [b] pos) (Mi.tV (Mi.e2 g fa fb)) :=
  ⟨fun W tk => PT.imp (pt_cmpR ho (ha.run W tk) (hb.run W tk) hm) fun _ _ _ h => tv_read (fun _ _ _ q => e2_read hg q) h⟩
theorem dt_val {f : Ev} (h : DE X ct e f) (he : ∀ whole, isTrue e X.env whole = (do let v ← whole; standAt e.pos; holding [v] (truthy v)) := by intro _; rfl) : DT X ct e (Mi.tV f) :=
  ⟨fun W tk => PT.imp (pt_val (h.run W tk) he) fun _ _ _ h => tv_read (t := tE X.K ct W f) (fun _ _ _ q => q) h⟩
theorem de_un {op : UnaryOp} {g : PV → Me → Option D} {r : V → Hp → VK → Prop} (ho : UnR X (unaryOp op) r) (hg : UnOk X ct g r) {fa : Ev} (ha : DE X ct a fa) : DE X ct (.UnaryOp op a pos) (Mi.e1 g fa) :=
  ⟨fun W tk => PE.imp (pe_un ho (ha.run W tk)) fun _ _ _ h => e1_read hg h⟩

/-! ints -/
theorem ok_int {p : Int → Int → Bool} {g : Int → Int → Int} {C : Int → Int → Prop} (hc : ∀ i j, p i j = true → C i j) : OpOk X ct (Mi.gI p g) (rI C fun i j => .int (g i j)) := by
  intro w m H σ x y v u d Q S rx ry hg k
  unfold Mi.gI at hg
  split at hg
  · rename_i i j
    cases rx; cases ry
    split at hg
    · rename_i hp
      cases hg
      exact ⟨i, j, rfl, rfl, hc i j hp, k _ H S (Ext.refl ..) (.int _)⟩
    · cases hg
  · cases hg
theorem ok_int0 {g : Int → Int → Int} : OpOk X ct (Mi.gI (fun _ _ => true) g) (rI0 fun i j => .int (g i j)) := by
  intro w m H σ x y v u d Q S rx ry hg k
  unfold Mi.gI at hg
  split at hg
  · rename_i i j
    cases rx; cases ry
    rw [if_pos rfl] at hg
    cases hg
    exact ⟨i, j, rfl, rfl, k _ H S (Ext.refl ..) (.int _)⟩
  · cases hg
theorem ok_cmp {g : Int → Int → Bool} : OpOk X ct (Mi.gCmp g) (rI0 fun i j => .bl (g i j)) := by
  intro w m H σ x y v u d Q S rx ry hg k
  unfold Mi.gCmp at hg
  split at hg
  · rename_i i j
    cases rx; cases ry
    cases hg
    exact ⟨i, j, rfl, rfl, k _ H S (Ext.refl ..) (.bl _)⟩
  · cases hg
theorem tx_length (x : Tx) : (tx x).length = x.length := by show x.toArray.size = x.length; simp
theorem tx_append (x y : Tx) : tx x ++ tx y = tx (x ++ y) := by
  show Str.mk (x.toArray ++ y.toArray) = Str.mk (x ++ y).toArray
  simp
def rAddU : R2 := fun x y H Q => rI0 (fun i j => .int (i + j)) x y H Q ∨ ∃ i j, x = .str i ∧ y = .str j ∧ i.length + j.length ≤ sizeLine ∧ Q (.str (i ++ j)) H
theorem ok_add : OpOk X ct Mi.gAdd rAddU := by
  intro w m H σ x y v u d Q S rx ry hg k
  unfold Mi.gAdd at hg
  split at hg
  · cases rx; cases ry; cases hg
    exact .inl ⟨_, _, rfl, rfl, k _ H S (Ext.refl ..) (.int _)⟩
  · cases rx; cases ry
    split at hg
    · rename_i hl
      cases hg
      refine .inr ⟨_, _, rfl, rfl, by rw [tx_length, tx_length, ← big_eq]; exact hl, k _ H S (Ext.refl ..) ?_⟩
      rw [tx_append]
      exact .str _
    · cases hg
  · cases hg
theorem de_add {fa fb : Ev} (ha : DE X ct a fa) (hb : DE X ct b fb) : DE X ct (.BinOp a .Add b pos) (Mi.e2 Mi.gAdd fa fb) := de_op (OpR.or op_add op_add_str) ok_add ha hb
theorem de_sub {fa fb : Ev} (ha : DE X ct a fa) (hb : DE X ct b fb) : DE X ct (.BinOp a .Sub b pos) (Mi.e2 Mi.gSub fa fb) := de_op op_sub ok_int0 ha hb
theorem small_is {i : Int} (h : Mi.small64 i = true) : -(2 ^ 64) < i ∧ i < 2 ^ 64 := by
  have h := of_decide_eq_true (show decide (-Mi.lim64 < i ∧ i < Mi.lim64) = true from h)
  rwa [Mi.lim64_is] at h
theorem de_mul {fa fb : Ev} (ha : DE X ct a fa) (hb : DE X ct b fb) : DE X ct (.BinOp a .Mult b pos) (Mi.e2 Mi.gMul fa fb) := de_op op_mul (ok_int fun i j h => by
  rcases Bool.or_eq_true _ _ ▸ h with h | h
  · exact .inl (small_is h)
  · exact .inr (small_is h)) ha hb
theorem de_mod {fa fb : Ev} (ha : DE X ct a fa) (hb : DE X ct b fb) : DE X ct (.BinOp a .Mod b pos) (Mi.e2 Mi.gMod fa fb) := de_op op_modN (ok_int fun i j h => by simpa using h) ha hb
theorem de_div {fa fb : Ev} (ha : DE X ct a fa) (hb : DE X ct b fb) : DE X ct (.BinOp a .FloorDiv b pos) (Mi.e2 Mi.gDiv fa fb) := de_op op_fdivN (ok_int fun i j h => by simpa [CDivN, Mi.lim30_is] using h) ha hb
theorem de_pow {fa fb : Ev} (ha : DE X ct a fa) (hb : DE X ct b fb) : DE X ct (.BinOp a .Pow b pos) (Mi.e2 Mi.gPow fa fb) := de_op op_pow (ok_int fun i j h => by simpa [CPow, Mi.limE_is, Mi.lim64N_is] using h) ha hb
theorem de_shl {fa fb : Ev} (ha : DE X ct a fa) (hb : DE X ct b fb) : DE X ct (.BinOp a .LShift b pos) (Mi.e2 Mi.gShl fa fb) := de_op op_shl (ok_int fun i j h => by simpa [CPow, Mi.limE_is, Mi.lim64N_is] using h) ha hb
theorem de_shr {fa fb : Ev} (ha : DE X ct a fa) (hb : DE X ct b fb) : DE X ct (.BinOp a .RShift b pos) (Mi.e2 Mi.gShr fa fb) := de_op op_shr (ok_int fun i j h => by simpa using h) ha hb
theorem de_neg {fa : Ev} (ha : DE X ct a fa) : DE X ct (.UnaryOp .USub a pos) (Mi.e1 Mi.gNeg fa) := de_un un_neg (fun w m H σ x v d Q S rx hg k => by
  unfold Mi.gNeg at hg
  split at hg
  · cases rx; cases hg
    exact ⟨_, rfl, k _ H S (Ext.refl ..) (.int _)⟩
  · cases hg) ha
end
end So

set_option Elab.async false
set_option linter.all false
set_option maxRecDepth 100000
set_option maxHeartbeats 4000000
namespace So
open PySem PySem.Spec PyProof.Rows L2
open Mi (D Cl FV SC Me Xc Res PV Ky Ev Tv Av Lv Iv Ov Sv Bd Out Env Tx)

/-! ### what stands behind a value or a slot -/
section
variable {K : PySem.W.Frag} {ct : String → Option Addr} {w : Wd} {m : Me} {H : Hp} {σ : L2.St}
theorem SR.slot (S : SR K ct w m H σ) {i : Nat} {c : Cl} (h : m.slot i = some c) : m.σ[i]? = some (some (.o c)) ∧ σ[i]? = some (some (.ref (w.α (.s i)))) ∧ cellAt m (.s i) = some (.c c) := by
  have h1 : m.σ[i]? = some (some (.o c)) := by
    unfold Mi.Me.slot at h
    split at h
    · rename_i q; cases h; exact q
    · cases h
  refine ⟨h1, ?_, by show (m.slot i).map SC.c = _; rw [h]; rfl⟩
  have hi : i < σ.length := by rw [← S.E.len]; exact (List.getElem?_eq_some_iff.mp h1).1
  have e2 : σ[i]? = some σ[i] := List.getElem?_eq_some_iff.mpr ⟨hi, rfl⟩
  have z : σ[i] = some (.ref (w.α (.s i))) := S.E.at_ i _ _ h1 e2
  rw [e2, z]
/-- a place that can be changed: its address, its cell -/
theorem SR.own (S : SR K ct w m H σ) {x : PV} {v : V} {c : Cl} (r : PVR K ct w m H σ x v) (h : m.own x = some c) :
    ∃ p, v = .ref (w.α p) ∧ cellAt m p = some (.c c) ∧ CellR K ct w m H p (w.α p) (.c c) ∧ ((∃ i, x = .sl i ∧ p = .s i) ∨ ∃ n, x = .v (.ref n) ∧ p = .g n) := by
  cases x with
  | sl i =>
    obtain ⟨h1, h2, h3⟩ := S.slot (i := i) h
    have r' : σ[i]? = some (some v) := r
    rw [h2] at r'
    cases r'
    exact ⟨.s i, rfl, h3, S.M.cells _ _ h3, .inl ⟨i, rfl, rfl⟩⟩
  | v d =>
    cases d with
    | ref n =>
      cases r with
      | ref hc =>
        have h1 : cellAt m (.g n) = some (.c c) := by
          have h : m.glob n = some c := h
          unfold Mi.Me.glob at h
          split at h
          · rename_i q; cases h; exact q
          · cases h
        exact ⟨.g n, rfl, h1, S.M.cells _ _ h1, .inr ⟨n, rfl, rfl⟩⟩
    | _ => cases h
theorem sqL_of {a : Addr} {vs : List V} (h : (¬ Bad w m a ∧ NdL H a vs) ∨ Wr K a vs) : SqL K H a vs := h.imp (fun z => z.2.rd) id
theorem SR.lst (S : SR K ct w m H σ) {x : PV} {v : V} {xs : List D} (r : PVR K ct w m H σ x v) (h : m.cl x = some (.lst xs)) :
    ∃ a vs, v = .ref a ∧ H a = some (.lst vs) ∧ RepL K ct w m H xs vs := by
  have viaOwn : m.own x = some (.lst xs) → ∃ a vs, v = .ref a ∧ H a = some (.lst vs) ∧ RepL K ct w m H xs vs := fun ho => by
    obtain ⟨p, e, h1, ⟨vs, h2, h3⟩, _⟩ := S.own r ho
    exact ⟨_, vs, e, h2, h3⟩
  cases x with
  | sl i => exact viaOwn h
  | v d =>
    cases d with
    | lst ys =>
      cases h
      cases r with
      | lst n h1 h2 => exact ⟨_, _, rfl, h1.lst, h2⟩
    | ref n => exact viaOwn h
    | _ => cases h
theorem SR.items (S : SR K ct w m H σ) {x : PV} {v : V} {xs : List D} (r : PVR K ct w m H σ x v) (h : m.items x = some xs) :
    ∃ a vs, v = .ref a ∧ (SqL K H a vs ∨ SqT K H a vs) ∧ RepL K ct w m H xs vs := by
  have viaL : m.cl x = some (.lst xs) → ∃ a vs, v = .ref a ∧ (SqL K H a vs ∨ SqT K H a vs) ∧ RepL K ct w m H xs vs := fun hc => by
    obtain ⟨a, vs, e, h1, h2⟩ := S.lst r hc
    exact ⟨a, vs, e, .inl (SqL.of h1), h2⟩
  unfold Mi.Me.items at h
  split at h
  · cases h
    cases r with
    | tup n h1 h2 => exact ⟨_, _, rfl, .inr (SqT.of h1.tup), h2⟩
  · cases h
    cases r with
    | scr h1 h2 => exact ⟨_, _, rfl, .inl (sqL_of h1), h2⟩
  · split at h
    · rename_i q; cases h; exact viaL q
    · cases h
theorem SR.kvs (S : SR K ct w m H σ) {x : PV} {v : V} {xs : List (Ky × D)} (r : PVR K ct w m H σ x v) (h : m.kvs x = some xs) :
    ∃ a vs, v = .ref a ∧ Rd H a (.dK vs) ∧ RepK K ct w m H xs vs := by
  unfold Mi.Me.kvs at h
  have viaOwn : ∀ c, (c = .dct xs ∨ c = .lkd xs) → m.own x = some c → ∃ a vs, v = .ref a ∧ Rd H a (.dK vs) ∧ RepK K ct w m H xs vs := fun c hc ho => by
    obtain ⟨p, e, h1, h2, _⟩ := S.own r ho
    rcases hc with rfl | rfl
    · obtain ⟨vs, h3, h4⟩ := h2; exact ⟨_, vs, e, .inl h3, h4⟩
    · obtain ⟨vs, o, h3, h4⟩ := h2; exact ⟨_, vs, e, .inr ⟨o, h3⟩, h4⟩
  have main : ∀ c, m.cl x = some c → (c = .dct xs ∨ c = .lkd xs) → ∃ a vs, v = .ref a ∧ Rd H a (.dK vs) ∧ RepK K ct w m H xs vs := fun c hq hc => by
    cases x with
    | sl i => exact viaOwn c hc hq
    | v d =>
      cases d with
      | dct ys =>
        have hq : some (Cl.dct ys) = some c := hq
        cases hq
        rcases hc with hc | hc
        · cases hc
          cases r with
          | dct n h1 h2 => exact ⟨_, _, rfl, h1.dK, h2⟩
        · cases hc
      | ref n => exact viaOwn c hc hq
      | lst ys =>
        have hq : some (Cl.lst ys) = some c := hq
        cases hq
        rcases hc with hc | hc <;> cases hc
      | _ => cases hq
  split at h
  · rename_i kvs q; cases h; exact main _ q (.inl rfl)
  · rename_i kvs q; cases h; exact main _ q (.inr rfl)
  · cases h
end

/-! ### == -/
mutual
def toP : D → PyData
  | .non => .none | .bl b => .bool b | .int i => .int i | .str x => .str (tx x)
  | .lst xs => .list (toPs xs) | .tup xs => .tuple (toPs xs)
  | .dct _ => .dict [] | .obj _ _ => .dict [] | .ref _ => .dict [] | .scr _ => .dict []
def toPs : List D → List PyData
  | [] => [] | x :: xs => toP x :: toPs xs
end
theorem dep_map {o : Option Nat} {k : Nat} (h : o.map (fun k => k + 1) = some k) : ∃ j, o = some j ∧ k = j + 1 := by
  cases o with
  | none => cases h
  | some j => exact ⟨j, rfl, (Option.some.inj h).symm⟩
theorem dep_ok (x : Tx) (h : x.all (fun c => decide (c < 1114112)) = true) : PyData.canLay0 (.str (tx x)) = true := by
  show PyData.strOk (tx x) = true
  show (x.toArray.all fun c => decide (c < 0x110000)) = true
  simpa using h
mutual
theorem dep_lay : ∀ {d : D} {k : Nat}, Mi.dep d = some k → (toP d).canLay0 = true ∧ (toP d).depth = k
  | .non, k, h => by cases h; exact ⟨rfl, rfl⟩
  | .bl b, k, h => by cases h; exact ⟨rfl, rfl⟩
  | .int i, k, h => by cases h; exact ⟨rfl, rfl⟩
  | .str x, k, h => by
    unfold Mi.dep at h
    split at h
    · rename_i q; cases h; exact ⟨dep_ok x q, rfl⟩
    · cases h
  | .lst xs, k, h => by
    unfold Mi.dep at h
    obtain ⟨j, e1, rfl⟩ := dep_map h
    obtain ⟨h1, h2⟩ := deps_lay e1
    exact ⟨h1, congrArg (· + 1) h2⟩
  | .tup xs, k, h => by
    unfold Mi.dep at h
    obtain ⟨j, e1, rfl⟩ := dep_map h
    obtain ⟨h1, h2⟩ := deps_lay e1
    exact ⟨h1, congrArg (· + 1) h2⟩
  | .dct _, k, h => by unfold Mi.dep at h; cases h
  | .obj _ _, k, h => by unfold Mi.dep at h; cases h
  | .ref _, k, h => by unfold Mi.dep at h; cases h
  | .scr _, k, h => by unfold Mi.dep at h; cases h
theorem deps_lay : ∀ {d : List D} {k : Nat}, Mi.deps d = some k → PyData.canLayAll0 (toPs d) = true ∧ PyData.depthAll (toPs d) = k
  | [], k, h => by cases h; exact ⟨rfl, rfl⟩
  | x :: xs, k, h => by
    unfold Mi.deps at h
    split at h
    · rename_i a b q1 q2
      cases h
      obtain ⟨h1, h2⟩ := dep_lay q1
      obtain ⟨h3, h4⟩ := deps_lay q2
      refine ⟨by show (PyData.canLay0 (toP x) && PyData.canLayAll0 (toPs xs)) = true; rw [h1, h3]; rfl, ?_⟩
      show max (PyData.depth (toP x)) (PyData.depthAll (toPs xs)) = max a b
      rw [h2, h4]
    · cases h
end
theorem datum_shaped {d : D} (h : Mi.datum d = true) : SeqAt.shaped (toP d) = true := by
  unfold Mi.datum at h
  split at h
  · rename_i k q
    obtain ⟨h1, h2⟩ := dep_lay q
    unfold SeqAt.shaped
    rw [h1, h2]
    simp at h ⊢
    omega
  · cases h
theorem beq_tx (x y : Tx) : (tx x == tx y) = (x == y) := by
  by_cases h : x = y
  · subst h; simp
  · have h' : ¬ tx x = tx y := fun z => h (tx_inj z)
    have e1 : (tx x == tx y) = false := by simpa using h'
    have e2 : (x == y) = false := by simpa using h
    rw [e1, e2]
mutual
theorem eqv_eq : ∀ (d e : D) (j k : Nat), Mi.dep d = some j → Mi.dep e = some k → PyData.eqv (toP d) (toP e) = Mi.eqv d e
  | .lst xs, .lst ys, j, k, h1, h2 => by
    unfold Mi.dep at h1 h2
    obtain ⟨j', e1, _⟩ := dep_map h1
    obtain ⟨k', e2, _⟩ := dep_map h2
    unfold toP Mi.eqv PyData.eqv
    exact eqvs_eq xs ys j' k' e1 e2
  | .tup xs, .tup ys, j, k, h1, h2 => by
    unfold Mi.dep at h1 h2
    obtain ⟨j', e1, _⟩ := dep_map h1
    obtain ⟨k', e2, _⟩ := dep_map h2
    unfold toP Mi.eqv PyData.eqv
    exact eqvs_eq xs ys j' k' e1 e2
  | .dct _, _, _, _, h1, _ | .obj _ _, _, _, _, h1, _ | .ref _, _, _, _, h1, _ | .scr _, _, _, _, h1, _ => by unfold Mi.dep at h1; cases h1
  | .non, .dct _, _, _, _, h2 | .non, .obj _ _, _, _, _, h2 | .non, .ref _, _, _, _, h2 | .non, .scr _, _, _, _, h2 => by unfold Mi.dep at h2; cases h2
  | .bl _, .dct _, _, _, _, h2 | .bl _, .obj _ _, _, _, _, h2 | .bl _, .ref _, _, _, _, h2 | .bl _, .scr _, _, _, _, h2 => by unfold Mi.dep at h2; cases h2
  | .int _, .dct _, _, _, _, h2 | .int _, .obj _ _, _, _, _, h2 | .int _, .ref _, _, _, _, h2 | .int _, .scr _, _, _, _, h2 => by unfold Mi.dep at h2; cases h2
  | .str _, .dct _, _, _, _, h2 | .str _, .obj _ _, _, _, _, h2 | .str _, .ref _, _, _, _, h2 | .str _, .scr _, _, _, _, h2 => by unfold Mi.dep at h2; cases h2
  | .lst _, .dct _, _, _, _, h2 | .lst _, .obj _ _, _, _, _, h2 | .lst _, .ref _, _, _, _, h2 | .lst _, .scr _, _, _, _, h2 => by unfold Mi.dep at h2; cases h2
  | .tup _, .dct _, _, _, _, h2 | .tup _, .obj _ _, _, _, _, h2 | .tup _, .ref _, _, _, _, h2 | .tup _, .scr _, _, _, _, h2 => by unfold Mi.dep at h2; cases h2
  | .str x, .str y, _, _, _, _ => by unfold toP Mi.eqv PyData.eqv; exact beq_tx x y
  | .non, .non, _, _, _, _ | .non, .bl _, _, _, _, _ | .non, .int _, _, _, _, _ | .non, .str _, _, _, _, _ | .non, .lst _, _, _, _, _ | .non, .tup _, _, _, _, _ => by unfold toP Mi.eqv PyData.eqv; rfl
  | .bl _, .non, _, _, _, _ | .bl _, .bl _, _, _, _, _ | .bl _, .int _, _, _, _, _ | .bl _, .str _, _, _, _, _ | .bl _, .lst _, _, _, _, _ | .bl _, .tup _, _, _, _, _ => by unfold toP Mi.eqv PyData.eqv; rfl
  | .int _, .non, _, _, _, _ | .int _, .bl _, _, _, _, _ | .int _, .int _, _, _, _, _ | .int _, .str _, _, _, _, _ | .int _, .lst _, _, _, _, _ | .int _, .tup _, _, _, _, _ => by unfold toP Mi.eqv PyData.eqv; rfl
  | .str _, .non, _, _, _, _ | .str _, .bl _, _, _, _, _ | .str _, .int _, _, _, _, _ | .str _, .lst _, _, _, _, _ | .str _, .tup _, _, _, _, _ => by unfold toP Mi.eqv PyData.eqv; rfl
  | .lst _, .non, _, _, _, _ | .lst _, .bl _, _, _, _, _ | .lst _, .int _, _, _, _, _ | .lst _, .str _, _, _, _, _ | .lst _, .tup _, _, _, _, _ => by unfold toP Mi.eqv PyData.eqv; rfl
  | .tup _, .non, _, _, _, _ | .tup _, .bl _, _, _, _, _ | .tup _, .int _, _, _, _, _ | .tup _, .str _, _, _, _, _ | .tup _, .lst _, _, _, _, _ => by unfold toP Mi.eqv PyData.eqv; rfl
theorem eqvs_eq : ∀ (d e : List D) (j k : Nat), Mi.deps d = some j → Mi.deps e = some k → PyData.eqvAll (toPs d) (toPs e) = Mi.eqvs d e
  | [], [], _, _, _, _ => by unfold toPs Mi.eqvs PyData.eqvAll; rfl
  | [], _ :: _, _, _, _, _ => by simp [toPs, Mi.eqvs, PyData.eqvAll]
  | _ :: _, [], _, _, _, _ => by simp [toPs, Mi.eqvs, PyData.eqvAll]
  | x :: xs, y :: ys, j, k, h1, h2 => by
    unfold Mi.deps at h1 h2
    split at h1
    · rename_i a b q1 q2
      split at h2
      · rename_i a' b' q3 q4
        simp only [toPs, Mi.eqvs, PyData.eqvAll]
        rw [eqv_eq x y _ _ q1 q3, eqvs_eq xs ys _ _ q2 q4]
      · cases h2
    · cases h1
end
theorem datum_eqv {d e : D} (h1 : Mi.datum d = true) (h2 : Mi.datum e = true) : PyData.eqv (toP d) (toP e) = Mi.eqv d e := by
  unfold Mi.datum at h1 h2
  split at h1
  · rename_i k q
    split at h2
    · rename_i k' q'; exact eqv_eq d e _ _ q q'
    · cases h2
  · cases h1
section
variable {K : PySem.W.Frag} {ct : String → Option Addr} {w : Wd} {m : Me} {H : Hp} {σ : L2.St}
mutual
theorem RepD.dp : ∀ {d : D} {v : V} {k : Nat}, RepD K ct w m H d v → Mi.dep d = some k → Dp K H v (toP d)
  | _, _, _, .non, _ => .non
  | _, _, _, .bl b, _ => .bl b
  | _, _, _, .int i, _ => .int i
  | _, _, _, .str x, _ => .str _
  | _, _, _, .lst n h r, e => by
    unfold Mi.dep at e
    obtain ⟨j', e1, _⟩ := dep_map e
    exact .lst (SqL.of h.lst) (RepL.dp r e1)
  | _, _, _, .scr _ _, e => by unfold Mi.dep at e; cases e
  | _, _, _, .tup n h r, e => by
    unfold Mi.dep at e
    obtain ⟨j', e1, _⟩ := dep_map e
    exact .tup (SqT.of h.tup) (RepL.dp r e1)
  | _, _, _, .dct _ _ _, e => by unfold Mi.dep at e; cases e
  | _, _, _, .obj _ _ _ _, e => by unfold Mi.dep at e; cases e
  | _, _, _, .ref _, e => by unfold Mi.dep at e; cases e
theorem RepL.dp : ∀ {d : List D} {v : List V} {k : Nat}, RepL K ct w m H d v → Mi.deps d = some k → DpAll K H v (toPs d)
  | _, _, _, .nil, _ => .nil
  | _, _, _, .cons h r, e => by
    unfold Mi.deps at e
    split at e
    · rename_i q1 q2
      exact .cons (RepD.dp h q1) (RepL.dp r q2)
    · cases e
end
theorem SR.dat (S : SR K ct w m H σ) {x : PV} {v : V} {d : D} (r : PVR K ct w m H σ x v) (h : m.dat x = some d) (hd : Mi.datum d = true) : Dp K H v (toP d) := by
  have hk : ∃ k, Mi.dep d = some k := by
    unfold Mi.datum at hd
    split at hd
    · rename_i k q; exact ⟨k, q⟩
    · cases hd
  obtain ⟨k, hk⟩ := hk
  unfold Mi.Me.dat at h
  split at h
  · rename_i xs q
    cases h
    obtain ⟨a, vs, rfl, h1, h2⟩ := S.lst r q
    unfold Mi.dep at hk
    obtain ⟨j, e1, _⟩ := dep_map hk
    exact .lst (SqL.of h1) (h2.dp e1)
  · cases h
  · cases x with
    | sl i => cases h
    | v e => cases h; exact RepD.dp r hk
theorem dat_scl {x : PV} {v : V} {d e : D} (r : PVR K ct w m H σ x v) (h : m.dat x = some d) (hs : Mi.scl d e = true ∨ Mi.scl e d = true) : RepD K ct w m H d v := by
  unfold Mi.Me.dat at h
  split at h
  · cases h
    rcases hs with hs | hs
    · cases hs
    · unfold Mi.scl at hs
      split at hs <;> contradiction
  · cases h
  · cases x with
    | sl i => cases h
    | v e => cases h; exact r
theorem scl_V {a b : D} {v u : V} (ra : RepD K ct w m H a v) (rb : RepD K ct w m H b u) (h : Mi.scl a b = true) : scal v u = true ∧ decide (v = u) = Mi.eqv a b := by
  unfold Mi.scl at h
  split at h <;> first
    | (cases h; done)
    | (cases ra; cases rb; refine ⟨rfl, ?_⟩; unfold Mi.eqv; first | rfl | exact dec_int | exact dec_bl | (rw [dec_str]; exact beq_tx _ _) | simp)
end
section
variable {X : Cx} {ct : String → Option Addr} {e a b c : Expr} {pos : Pos}
theorem ok_eq : OpOk X ct Mi.gEq (fun x y H Q => rEq x y H Q ∨ rEqD X.K x y H Q) := by
  intro w m H σ x y v u d Q S rx ry hg k
  unfold Mi.gEq at hg
  split at hg
  · rename_i a b q1 q2
    split at hg
    · rename_i hc
      cases hg
      by_cases hs : Mi.scl a b = true
      · obtain ⟨h1, h2⟩ := scl_V (dat_scl rx q1 (.inl hs)) (dat_scl ry q2 (.inr hs)) hs
        exact .inl ⟨h1, by rw [h2]; exact k _ H S (Ext.refl ..) (.bl _)⟩
      · rw [Bool.eq_false_iff.mpr hs, Bool.false_or, Bool.and_eq_true] at hc
        refine .inr ⟨_, _, S.dat rx q1 hc.1, S.dat ry q2 hc.2, datum_shaped hc.1, datum_shaped hc.2, ?_⟩
        rw [datum_eqv hc.1 hc.2]
        exact k _ H S (Ext.refl ..) (.bl _)
    · cases hg
  · cases hg
theorem ok_ne : OpOk X ct Mi.gNe (fun x y H Q => rNe x y H Q ∨ rNeD X.K x y H Q) := by
  intro w m H σ x y v u d Q S rx ry hg k
  unfold Mi.gNe at hg
  split at hg
  · rename_i a b q1 q2
    split at hg
    · rename_i hc
      cases hg
      by_cases hs : Mi.scl a b = true
      · obtain ⟨h1, h2⟩ := scl_V (dat_scl rx q1 (.inl hs)) (dat_scl ry q2 (.inr hs)) hs
        exact .inl ⟨h1, by rw [h2]; exact k _ H S (Ext.refl ..) (.bl _)⟩
      · rw [Bool.eq_false_iff.mpr hs, Bool.false_or, Bool.and_eq_true] at hc
        refine .inr ⟨_, _, S.dat rx q1 hc.1, S.dat ry q2 hc.2, datum_shaped hc.1, datum_shaped hc.2, ?_⟩
        rw [datum_eqv hc.1 hc.2]
        exact k _ H S (Ext.refl ..) (.bl _)
    · cases hg
  · cases hg
theorem de_eq (hu : X.A.units + 64 < cLine) {fa fb : Ev} (ha : DE X ct a fa) (hb : DE X ct b fb) : DE X ct (.Compare a [.Eq] [b] pos) (Mi.e2 Mi.gEq fa fb) := de_cmp (OpR.or op_eq (op_eqD hu)) ok_eq ha hb (nomark _)
theorem de_ne (hu : X.A.units + 64 < cLine) {fa fb : Ev} (ha : DE X ct a fa) (hb : DE X ct b fb) : DE X ct (.Compare a [.NotEq] [b] pos) (Mi.e2 Mi.gNe fa fb) := de_cmp (OpR.or op_ne (op_neD hu)) ok_ne ha hb (nomark _)
theorem dt_eq (hu : X.A.units + 64 < cLine) {fa fb : Ev} (ha : DE X ct a fa) (hb : DE X ct b fb) : DT X ct (.Compare a [.Eq] [b] pos) (Mi.tV (Mi.e2 Mi.gEq fa fb)) := dt_cmp (OpR.or op_eq (op_eqD hu)) ok_eq ha hb (nomark _)
theorem dt_ne (hu : X.A.units + 64 < cLine) {fa fb : Ev} (ha : DE X ct a fa) (hb : DE X ct b fb) : DT X ct (.Compare a [.NotEq] [b] pos) (Mi.tV (Mi.e2 Mi.gNe fa fb)) := dt_cmp (OpR.or op_ne (op_neD hu)) ok_ne ha hb (nomark _)
end
end So

set_option Elab.async false
set_option linter.all false
set_option maxRecDepth 100000
set_option maxHeartbeats 4000000
namespace So
open PySem PySem.Spec PyProof.Rows L2
open Mi (D Cl FV SC Me Xc Res PV Ky Ev Tv Av Lv Iv Ov Sv Bd Out Env Tx)

section
variable {K : PySem.W.Frag} {ct : String → Option Addr} {w : Wd} {m : Me} {H : Hp} {σ : L2.St}
theorem ky_rep {x : PV} {v : V} {k : Ky} (r : PVR K ct w m H σ x v) (h : Mi.ky x = some k) : v = kV (kyR k) := by
  unfold Mi.ky at h
  split at h
  · unfold Mi.kyOf at h
    split at h
    · cases h; cases r; rfl
    · cases h; cases r; rfl
    · cases h
  · cases h
theorem look_cons (k : Ky) (d : D) (r : List (Ky × D)) (j : Ky) : Mi.look ((k, d) :: r) j = if k = j then some d else Mi.look r j := by
  unfold Mi.look
  rw [List.find?_cons]
  by_cases h : k = j
  · subst h; simp
  · rw [if_neg h]; simp [h]
theorem RepK.look (j : Ky) : ∀ {kvs : List (Ky × D)} {vs : List (Key × V)}, RepK K ct w m H kvs vs →
    (∃ d v, Mi.look kvs j = some d ∧ valV vs (kyR j) = some v ∧ RepD K ct w m H d v) ∨ (Mi.look kvs j = none ∧ valV vs (kyR j) = none)
  | _, _, .nil => .inr ⟨rfl, rfl⟩
  | _, _, .cons (k := k) (d := d) (v := v) r t => by
    rw [look_cons]
    by_cases h : k = j
    · subst h
      rw [if_pos rfl]
      exact .inl ⟨d, v, rfl, valV_pos (p := (kyR k, v)) rfl, r⟩
    · rw [if_neg h, valV_neg (p := (kyR k, v)) (fun z => h (kyR_inj z))]
      exact RepK.look j t
theorem RepK.lookS {j : Ky} {d : D} {kvs : List (Ky × D)} {vs : List (Key × V)} (r : RepK K ct w m H kvs vs) (h : Mi.look kvs j = some d) : ∃ v, valV vs (kyR j) = some v ∧ RepD K ct w m H d v := by
  rcases r.look j with ⟨d', v, h1, h2, h3⟩ | ⟨h1, _⟩
  · rw [h] at h1; cases h1; exact ⟨v, h2, h3⟩
  · rw [h] at h1; cases h1
theorem RepK.isSome {j : Ky} {kvs : List (Ky × D)} {vs : List (Key × V)} (r : RepK K ct w m H kvs vs) : (valV vs (kyR j)).isSome = (Mi.look kvs j).isSome := by
  rcases r.look j with ⟨d', v, h1, h2, h3⟩ | ⟨h1, h2⟩ <;> rw [h1, h2] <;> rfl
theorem flat_rep {d : D} {v : V} (r : RepD K ct w m H d v) (h : Mi.flat d = true) : flatV v = true := by
  unfold Mi.flat at h
  split at h <;> first | contradiction | (cases r; rfl)
theorem flat_eq {d e : D} {v u : V} (r : RepD K ct w m H d v) (q : RepD K ct w m H e u) (h1 : Mi.flat d = true) (h2 : Mi.flat e = true) : eqV v u = Mi.eqv d e := by
  cases d <;> first | contradiction | skip
  all_goals (cases e <;> first | contradiction | skip)
  all_goals (cases r; cases q; unfold eqV Mi.eqv; first | rfl | exact beq_tx _ _)
theorem flats_rep : ∀ {xs : List D} {vs : List V}, RepL K ct w m H xs vs → xs.all Mi.flat = true → vs.all flatV = true
  | _, _, .nil, _ => rfl
  | _, _, .cons r t, h => by
    rw [List.all_cons, Bool.and_eq_true] at h
    rw [List.all_cons, flat_rep r h.1, flats_rep t h.2]
    rfl
theorem in_rep {a : D} {v : V} (ra : RepD K ct w m H a v) (ha : Mi.flat a = true) : ∀ {xs : List D} {vs : List V}, RepL K ct w m H xs vs → xs.all Mi.flat = true → inV v vs = xs.any fun y => Mi.eqv y a
  | _, _, .nil, _ => rfl
  | _, _, .cons r t, h => by
    rw [List.all_cons, Bool.and_eq_true] at h
    show (eqV _ v || inV v _) = _
    rw [List.any_cons, flat_eq r ra h.1 ha, in_rep ra ha t h.2]
theorem ixN_same (n : Nat) (i : Int) : Mi.ixN n i = L2.ixN n i := rfl
theorem atI_rep {xs : List D} {vs : List V} (r : RepL K ct w m H xs vs) {i : Int} {d : D} (h : Mi.atI xs i = some d) : ∃ v, L2.atI vs i = some v ∧ RepD K ct w m H d v := by
  unfold Mi.atI at h
  unfold L2.atI
  rw [← r.length, ← ixN_same]
  cases q : Mi.ixN xs.length i with
  | none => rw [q] at h; cases h
  | some j =>
    rw [q] at h
    exact r.get h
theorem sIx_same (n d : Nat) (o : Option Int) : Mi.sIx n d o = HT.sIx n d o := by cases o <;> rfl
theorem cut_rep {xs : List D} {vs : List V} (r : RepL K ct w m H xs vs) (l h : Option Int) : RepL K ct w m H (Mi.cut xs l h) (cutV vs l h) := by
  unfold Mi.cut cutV
  rw [sIx_same, sIx_same, ← r.length]
  exact (r.drop _).take _
theorem ints_rep : ∀ {xs : List D} {vs : List V} {ns : List Int}, RepL K ct w m H xs vs → Mi.asInts xs = some ns → vs = ns.map V.int
  | _, _, _, .nil, h => by cases h; rfl
  | _, _, _, .cons (d := d) (ds := ds) r t, h => by
    cases d with
    | int i =>
      have h : (Mi.asInts ds).map (fun l => i :: l) = some _ := h
      cases r
      cases e : Mi.asInts ds with
      | none => rw [e] at h; cases h
      | some l =>
        rw [e] at h
        cases h
        rw [ints_rep t e]
        rfl
    | _ => exact nomatch (show (none : Option (List Int)) = some _ from h)
theorem bls_rep : ∀ {xs : List D} {vs : List V} {ns : List Bool}, RepL K ct w m H xs vs → Mi.asBls xs = some ns → vs = ns.map V.bl
  | _, _, _, .nil, h => by cases h; rfl
  | _, _, _, .cons (d := d) (ds := ds) r t, h => by
    cases d with
    | bl i =>
      have h : (Mi.asBls ds).map (fun l => i :: l) = some _ := h
      cases r
      cases e : Mi.asBls ds with
      | none => rw [e] at h; cases h
      | some l =>
        rw [e] at h
        cases h
        rw [bls_rep t e]
        rfl
    | _ => exact nomatch (show (none : Option (List Bool)) = some _ from h)
theorem ds_rep : ∀ {ps : List PV} {vs : List V} {ds : List D}, PVRs K ct w m H σ ps vs → PV.ds ps = some ds → RepL K ct w m H ds vs
  | _, _, _, .nil, h => by cases h; exact .nil
  | _, _, _, .cons (p := p) (ps := ps) r t, h => by
    rw [PV.ds_cons] at h
    split at h
    · rename_i d e q1 q2
      cases h
      cases p with
      | sl i => cases q1
      | v d' => cases q1; exact .cons r (ds_rep t q2)
    · cases h
end

section
variable {X : Cx} {ct : String → Option Addr} {e a b c : Expr} {pos : Pos}
/-! ### in -/
theorem ok_in : OpOk X ct Mi.gIn (rIn X.K false) := by
  intro w m H σ x y v u d Q S rx ry hg k
  unfold Mi.gIn at hg
  split at hg
  · rename_i a xs q
    split at hg
    · rename_i hc
      rw [Bool.and_eq_true] at hc
      cases hg
      obtain ⟨p, vs, rfl, h1, h2⟩ := S.items ry q
      refine ⟨p, vs, rfl, h1, flat_rep rx hc.1, flats_rep h2 hc.2, ?_⟩
      rw [if_neg Bool.false_ne_true, in_rep rx hc.1 h2 hc.2]
      exact k _ H S (Ext.refl ..) (.bl _)
    · cases hg
  · cases hg
theorem ok_notIn : OpOk X ct Mi.gNotIn (rIn X.K true) := by
  intro w m H σ x y v u d Q S rx ry hg k
  unfold Mi.gNotIn at hg
  split at hg
  · rename_i a xs q
    split at hg
    · rename_i hc
      rw [Bool.and_eq_true] at hc
      cases hg
      obtain ⟨p, vs, rfl, h1, h2⟩ := S.items ry q
      refine ⟨p, vs, rfl, h1, flat_rep rx hc.1, flats_rep h2 hc.2, ?_⟩
      rw [if_pos rfl, in_rep rx hc.1 h2 hc.2]
      exact k _ H S (Ext.refl ..) (.bl _)
    · cases hg
  · cases hg
theorem ok_inT : OpOk X ct Mi.gInT (fun x y H Q => ∃ (c : Nat) (z : Str), x = .str ⟨#[c]⟩ ∧ y = .str z ∧ Q (.bl (decide (c ∈ z.cps.toList))) H) := by
  intro w m H σ x y v u d Q S rx ry hg k
  unfold Mi.gInT at hg
  split at hg
  · rename_i c z
    cases hg; cases rx; cases ry
    refine ⟨c, tx z, rfl, rfl, ?_⟩
    show Q (.bl (decide (c ∈ z.toArray.toList))) H
    rw [List.toList_toArray]
    exact k _ H S (Ext.refl ..) (.bl _)
  · cases hg
theorem ok_notInT : OpOk X ct Mi.gNotInT (fun x y H Q => ∃ (c : Nat) (z : Str), x = .str ⟨#[c]⟩ ∧ y = .str z ∧ Q (.bl (!decide (c ∈ z.cps.toList))) H) := by
  intro w m H σ x y v u d Q S rx ry hg k
  unfold Mi.gNotInT at hg
  split at hg
  · rename_i c z
    cases hg; cases rx; cases ry
    refine ⟨c, tx z, rfl, rfl, ?_⟩
    show Q (.bl (!decide (c ∈ z.toArray.toList))) H
    rw [List.toList_toArray]
    exact k _ H S (Ext.refl ..) (.bl _)
  · cases hg
theorem de_in {fa fb : Ev} (ha : DE X ct a fa) (hb : DE X ct b fb) (hm : behindInMarks .In b = false := by rfl) : DE X ct (.Compare a [.In] [b] pos) (Mi.e2 Mi.gIn fa fb) := de_cmp op_in_seq ok_in ha hb hm
theorem de_notIn {fa fb : Ev} (ha : DE X ct a fa) (hb : DE X ct b fb) (hm : behindInMarks .NotIn b = false := by rfl) : DE X ct (.Compare a [.NotIn] [b] pos) (Mi.e2 Mi.gNotIn fa fb) := de_cmp op_notIn_seq ok_notIn ha hb hm
theorem dt_in {fa fb : Ev} (ha : DE X ct a fa) (hb : DE X ct b fb) (hm : behindInMarks .In b = false := by rfl) : DT X ct (.Compare a [.In] [b] pos) (Mi.tV (Mi.e2 Mi.gIn fa fb)) := dt_cmp op_in_seq ok_in ha hb hm
theorem dt_notIn {fa fb : Ev} (ha : DE X ct a fa) (hb : DE X ct b fb) (hm : behindInMarks .NotIn b = false := by rfl) : DT X ct (.Compare a [.NotIn] [b] pos) (Mi.tV (Mi.e2 Mi.gNotIn fa fb)) := dt_cmp op_notIn_seq ok_notIn ha hb hm
theorem dt_inT {fa fb : Ev} (ha : DE X ct a fa) (hb : DE X ct b fb) (hm : behindInMarks .In b = false := by rfl) : DT X ct (.Compare a [.In] [b] pos) (Mi.tV (Mi.e2 Mi.gInT fa fb)) := dt_cmp op_in_sign ok_inT ha hb hm
theorem dt_notInT {fa fb : Ev} (ha : DE X ct a fa) (hb : DE X ct b fb) (hm : behindInMarks .NotIn b = false := by rfl) : DT X ct (.Compare a [.NotIn] [b] pos) (Mi.tV (Mi.e2 Mi.gNotInT fa fb)) := dt_cmp op_notIn_sign ok_notInT ha hb hm
theorem din_read {W : WX} {fa fb : Ev} {σ : L2.St} {H : Hp} {Q : VK} (h : tE X.K ct W (Mi.e2 Mi.gInK fa fb) σ H Q) : tDIn (tE X.K ct W fa) (tE X.K ct W fb) σ H Q :=
  e2_read (r := fun y x H2 Q => ∃ a o, x = .ref a ∧ DGet H2 a y o ∧ Q (.bl o.isSome) H2) (fun w m H σ x y v u d Q S rx ry hg k => by
    unfold Mi.gInK at hg
    split at hg
    · rename_i j kvs q1 q2
      cases hg
      obtain ⟨p, vs, rfl, h1, h2⟩ := S.kvs ry q2
      refine ⟨p, valV vs (kyR j), rfl, .inl ⟨vs, _, h1, ky_rep rx q1, rfl⟩, ?_⟩
      rw [h2.isSome]
      exact k _ H S (Ext.refl ..) (.bl _)
    · cases hg) h
theorem dnotin_read {W : WX} {fa fb : Ev} {σ : L2.St} {H : Hp} {Q : VK} (h : tE X.K ct W (Mi.e2 Mi.gNotInK fa fb) σ H Q) : tDNotIn (tE X.K ct W fa) (tE X.K ct W fb) σ H Q :=
  e2_read (r := fun y x H2 Q => ∃ a o, x = .ref a ∧ DGet H2 a y o ∧ Q (.bl (!o.isSome)) H2) (fun w m H σ x y v u d Q S rx ry hg k => by
    unfold Mi.gNotInK at hg
    split at hg
    · rename_i j kvs q1 q2
      cases hg
      obtain ⟨p, vs, rfl, h1, h2⟩ := S.kvs ry q2
      refine ⟨p, valV vs (kyR j), rfl, .inl ⟨vs, _, h1, ky_rep rx q1, rfl⟩, ?_⟩
      rw [h2.isSome]
      exact k _ H S (Ext.refl ..) (.bl _)
    · cases hg) h
theorem tB_eq (t : TE) : tB t = tTest t := rfl
theorem dt_inK (hu : X.A.units + 1 < cLine) {fa fb : Ev} (ha : DE X ct a fa) (hb : DE X ct b fb) (hm : behindInMarks .In b = false := by rfl) : DT X ct (.Compare a [.In] [b] pos) (Mi.tV (Mi.e2 Mi.gInK fa fb)) :=
  ⟨fun W tk => PT.imp (pt_cmp (pc_din hu (ha.run W tk) (hb.run W tk)) hm) fun _ _ _ h => tv_read (fun _ _ _ q => din_read q) h⟩
theorem dt_notInK (hu : X.A.units + 1 < cLine) {fa fb : Ev} (ha : DE X ct a fa) (hb : DE X ct b fb) (hm : behindInMarks .NotIn b = false := by rfl) : DT X ct (.Compare a [.NotIn] [b] pos) (Mi.tV (Mi.e2 Mi.gNotInK fa fb)) :=
  ⟨fun W tk => PT.imp (pt_cmp (pc_dnotin hu (ha.run W tk) (hb.run W tk)) hm) fun _ _ _ h => tv_read (fun _ _ _ q => dnotin_read q) h⟩
theorem de_inK (hu : X.A.units + 1 < cLine) {fa fb : Ev} (ha : DE X ct a fa) (hb : DE X ct b fb) (hm : behindInMarks .In b = false := by rfl) : DE X ct (.Compare a [.In] [b] pos) (Mi.e2 Mi.gInK fa fb) :=
  ⟨fun W tk => PE.imp (pe_cmp (pc_din hu (ha.run W tk) (hb.run W tk)) hm) fun _ _ _ h => din_read h⟩
/-! ### comparisons of ints -/
theorem de_lt {fa fb : Ev} (ha : DE X ct a fa) (hb : DE X ct b fb) : DE X ct (.Compare a [.Lt] [b] pos) (Mi.e2 (Mi.gCmp fun i j => decide (i < j)) fa fb) := de_cmp op_lt ok_cmp ha hb (nomark _)
theorem de_le {fa fb : Ev} (ha : DE X ct a fa) (hb : DE X ct b fb) : DE X ct (.Compare a [.LtE] [b] pos) (Mi.e2 (Mi.gCmp fun i j => decide (i ≤ j)) fa fb) := de_cmp op_le ok_cmp ha hb (nomark _)
theorem de_gt {fa fb : Ev} (ha : DE X ct a fa) (hb : DE X ct b fb) : DE X ct (.Compare a [.Gt] [b] pos) (Mi.e2 (Mi.gCmp fun i j => decide (j < i)) fa fb) := de_cmp op_gt ok_cmp ha hb (nomark _)
theorem de_ge {fa fb : Ev} (ha : DE X ct a fa) (hb : DE X ct b fb) : DE X ct (.Compare a [.GtE] [b] pos) (Mi.e2 (Mi.gCmp fun i j => decide (j ≤ i)) fa fb) := de_cmp op_ge ok_cmp ha hb (nomark _)
theorem dt_lt {fa fb : Ev} (ha : DE X ct a fa) (hb : DE X ct b fb) : DT X ct (.Compare a [.Lt] [b] pos) (Mi.tV (Mi.e2 (Mi.gCmp fun i j => decide (i < j)) fa fb)) := dt_cmp op_lt ok_cmp ha hb (nomark _)
theorem dt_le {fa fb : Ev} (ha : DE X ct a fa) (hb : DE X ct b fb) : DT X ct (.Compare a [.LtE] [b] pos) (Mi.tV (Mi.e2 (Mi.gCmp fun i j => decide (i ≤ j)) fa fb)) := dt_cmp op_le ok_cmp ha hb (nomark _)
theorem dt_gt {fa fb : Ev} (ha : DE X ct a fa) (hb : DE X ct b fb) : DT X ct (.Compare a [.Gt] [b] pos) (Mi.tV (Mi.e2 (Mi.gCmp fun i j => decide (j < i)) fa fb)) := dt_cmp op_gt ok_cmp ha hb (nomark _)
theorem dt_ge {fa fb : Ev} (ha : DE X ct a fa) (hb : DE X ct b fb) : DT X ct (.Compare a [.GtE] [b] pos) (Mi.tV (Mi.e2 (Mi.gCmp fun i j => decide (j ≤ i)) fa fb)) := dt_cmp op_ge ok_cmp ha hb (nomark _)
theorem isN_rep {K : PySem.W.Frag} {w : Wd} {m : Me} {H : Hp} {d : D} {v : V} (r : RepD K ct w m H d v) : decide (v = .non) = Mi.isN d := by
  cases r <;> rfl
theorem ok_isN : OpOk X ct Mi.gIsN (fun x y H Q => y = .non ∧ Q (.bl (decide (x = .non))) H) := by
  intro w m H σ x y v u d Q S rx ry hg k
  unfold Mi.gIsN at hg
  split at hg
  · cases ry
    cases hg
    refine ⟨rfl, ?_⟩
    rw [isN_rep rx]
    exact k _ H S (Ext.refl ..) (.bl _)
  · cases hg
theorem ok_notN : OpOk X ct Mi.gNotN (fun x y H Q => y = .non ∧ Q (.bl (!decide (x = .non))) H) := by
  intro w m H σ x y v u d Q S rx ry hg k
  unfold Mi.gNotN at hg
  split at hg
  · cases ry
    cases hg
    refine ⟨rfl, ?_⟩
    rw [isN_rep rx]
    exact k _ H S (Ext.refl ..) (.bl _)
  · cases hg
theorem dt_isN {fa fb : Ev} (ha : DE X ct a fa) (hb : DE X ct b fb) : DT X ct (.Compare a [.Is] [b] pos) (Mi.tV (Mi.e2 Mi.gIsN fa fb)) := dt_cmp op_isN ok_isN ha hb (nomark _)
theorem dt_notN {fa fb : Ev} (ha : DE X ct a fa) (hb : DE X ct b fb) : DT X ct (.Compare a [.IsNot] [b] pos) (Mi.tV (Mi.e2 Mi.gNotN fa fb)) := dt_cmp op_notN ok_notN ha hb (nomark _)
theorem de_isN {fa fb : Ev} (ha : DE X ct a fa) (hb : DE X ct b fb) : DE X ct (.Compare a [.Is] [b] pos) (Mi.e2 Mi.gIsN fa fb) := de_cmp op_isN ok_isN ha hb (nomark _)
/-! ### chains, and, or, not, if -/
theorem chain_read {W : WX} {p q : Int → Int → Bool} {fa fb fc : Ev} {σ : L2.St} {H : Hp} {Q : VK} (h : tE X.K ct W (Mi.eChain p q fa fb fc) σ H Q) :
    tChain (rI0 fun i j => .bl (p i j)) (rI0 fun i j => .bl (q i j)) (tE X.K ct W fa) (tE X.K ct W fb) (tE X.K ct W fc) σ H Q := by
  obtain ⟨w, m, S, h⟩ := h
  refine tE.part S h fun x w1 m1 H1 v S1 e1 pv h1 => ?_
  refine tE.part S1 h1 fun y w2 m2 H2 u S2 e2 pu h2 => ?_
  split at h2
  · rename_i i j
    cases pv; cases pu
    refine ⟨i, j, rfl, rfl, p i j, rfl, ?_⟩
    split at h2
    · rename_i hp
      rw [if_pos hp]
      refine tE.part S2 h2 fun z w3 m3 H3 u3 S3 e3 p3 h3 => ?_
      split at h3
      · rename_i k
        cases p3
        exact ⟨j, k, rfl, rfl, RE.ok h3 S3 (Ext.refl ..) _ (.bl _)⟩
      · exact h3.elim
    · rename_i hp
      rw [if_neg hp]
      exact RE.ok h2 S2 (Ext.refl ..) _ (.bl _)
  · exact h2.elim
theorem de_leLe {fa fb fc : Ev} (ha : DE X ct a fa) (hb : DE X ct b fb) (hc : DE X ct c fc) (hm : lastMarks [.LtE, .LtE] [b, c] = false := by with_unfolding_all rfl) :
    DE X ct (.Compare a [.LtE, .LtE] [b, c] pos) (Mi.eChain (fun i j => decide (i ≤ j)) (fun i j => decide (i ≤ j)) fa fb fc) :=
  ⟨fun W tk => PE.imp (pe_chain op_le op_le (ha.run W tk) (hb.run W tk) (hc.run W tk) hm) fun _ _ _ h => chain_read h⟩
theorem dt_leLe {fa fb fc : Ev} (ha : DE X ct a fa) (hb : DE X ct b fb) (hc : DE X ct c fc) (hm : lastMarks [.LtE, .LtE] [b, c] = false := by with_unfolding_all rfl) :
    DT X ct (.Compare a [.LtE, .LtE] [b, c] pos) (Mi.tV (Mi.eChain (fun i j => decide (i ≤ j)) (fun i j => decide (i ≤ j)) fa fb fc)) :=
  ⟨fun W tk => PT.imp (pt_chain op_le op_le (ha.run W tk) (hb.run W tk) (hc.run W tk) hm) fun _ _ _ h => tv_read (fun _ _ _ q => chain_read q) h⟩
theorem de_one {op : BoolOp} {f : Ev} (h : DE X ct a f) : DE X ct (.BoolOp op [a] pos) f := ⟨fun W tk => pe_one (h.run W tk)⟩
theorem de_and {rest : List Expr} {fa fb : Ev} (ha : DE X ct a fa) (hb : DE X ct (.BoolOp .And (b :: rest) pos) fb) : DE X ct (.BoolOp .And (a :: b :: rest) pos) (Mi.eAnd fa fb) :=
  ⟨fun W tk => PE.imp (pe_and (ha.run W tk) (hb.run W tk)) fun σ H Q ⟨w, m, S, h⟩ => by
    refine tE.part S h fun x w1 m1 H1 v S1 e1 pv h1 => ?_
    split at h1
    · cases pv
      exact ⟨true, rfl, by rw [if_pos rfl]; exact ⟨w1, m1, S1, h1⟩⟩
    · cases pv
      exact ⟨false, rfl, by rw [if_neg Bool.false_ne_true]; exact RE.ok h1 S1 (Ext.refl ..) _ (.bl _)⟩
    · exact h1.elim⟩
theorem de_or {rest : List Expr} {fa fb : Ev} (ha : DE X ct a fa) (hb : DE X ct (.BoolOp .Or (b :: rest) pos) fb) : DE X ct (.BoolOp .Or (a :: b :: rest) pos) (Mi.eOr fa fb) :=
  ⟨fun W tk => PE.imp (pe_or (ha.run W tk) (hb.run W tk)) fun σ H Q ⟨w, m, S, h⟩ => by
    refine tE.part S h fun x w1 m1 H1 v S1 e1 pv h1 => ?_
    split at h1
    · cases pv
      exact ⟨true, rfl, by rw [if_pos rfl]; exact RE.ok h1 S1 (Ext.refl ..) _ (.bl _)⟩
    · cases pv
      exact ⟨false, rfl, by rw [if_neg Bool.false_ne_true]; exact ⟨w1, m1, S1, h1⟩⟩
    · exact h1.elim⟩
theorem de_not {fa : Ev} (ha : DE X ct a fa) : DE X ct (.UnaryOp .Not a pos) (Mi.e1 Mi.gNot fa) :=
  ⟨fun W tk => PE.imp (pe_not (ha.run W tk)) fun σ H Q h => e1_read (X := X) (r := fun x H1 Q => ∃ c, x = .bl c ∧ Q (.bl (!c)) H1) (fun w m H σ x v d Q S rx hg k => by
    unfold Mi.gNot at hg
    split at hg
    · cases rx; cases hg
      exact ⟨_, rfl, k _ H S (Ext.refl ..) (.bl _)⟩
    · cases hg) h⟩
theorem dw_and1 {f : Tv} (h : DT X ct a f) : DW X ct (.BoolOp .And [a] pos) f := ⟨fun W tk => pw_and1 (h.run W tk)⟩
theorem dw_or1 {f : Tv} (h : DT X ct a f) : DW X ct (.BoolOp .Or [a] pos) f := ⟨fun W tk => pw_or1 (h.run W tk)⟩
theorem DW.dt {f : Tv} (h : DW X ct e f) : DT X ct e f := ⟨fun W tk => (h.run W tk).pt⟩
theorem dw_and {rest : List Expr} {fa fb : Tv} (ha : DT X ct a fa) (hb : DW X ct (.BoolOp .And (b :: rest) pos) fb) : DW X ct (.BoolOp .And (a :: b :: rest) pos) (Mi.tAnd fa fb) :=
  ⟨fun W tk => PW.imp (pw_and (ha.run W tk) (hb.run W tk)) fun σ H Q ⟨w, m, S, h⟩ => by
    refine tT.part S h fun x w1 m1 H1 S1 e1 h1 => ?_
    cases x with
    | true => rw [if_pos rfl] at h1 ⊢; exact ⟨w1, m1, S1, h1⟩
    | false => rw [if_neg Bool.false_ne_true] at h1 ⊢; exact RE.ok h1 S1 (Ext.refl ..)⟩
theorem dw_or {rest : List Expr} {fa fb : Tv} (ha : DT X ct a fa) (hb : DW X ct (.BoolOp .Or (b :: rest) pos) fb) : DW X ct (.BoolOp .Or (a :: b :: rest) pos) (Mi.tOr fa fb) :=
  ⟨fun W tk => PW.imp (pw_or (ha.run W tk) (hb.run W tk)) fun σ H Q ⟨w, m, S, h⟩ => by
    refine tT.part S h fun x w1 m1 H1 S1 e1 h1 => ?_
    cases x with
    | false => rw [if_neg Bool.false_ne_true] at h1 ⊢; exact ⟨w1, m1, S1, h1⟩
    | true => rw [if_pos rfl] at h1 ⊢; exact RE.ok h1 S1 (Ext.refl ..)⟩
theorem dt_not {fa : Tv} (ha : DT X ct a fa) : DT X ct (.UnaryOp .Not a pos) (Mi.tNot fa) :=
  ⟨fun W tk => PT.imp (pt_not (ha.run W tk)) fun σ H Q ⟨w, m, S, h⟩ => tT.part S h fun x w1 m1 H1 S1 e1 h1 => RE.ok h1 S1 (Ext.refl ..)⟩
theorem de_if {fc : Tv} {fa fb : Ev} (hc : DT X ct c fc) (ha : DE X ct a fa) (hb : DE X ct b fb) : DE X ct (.IfExp c a b pos) (Mi.eIf fc fa fb) :=
  ⟨fun W tk => PE.imp (pe_ifExp (hc.run W tk) (ha.run W tk) (hb.run W tk)) fun σ H Q ⟨w, m, S, h⟩ => by
    refine tT.part S h fun x w1 m1 H1 S1 e1 h1 => ?_
    cases x with
    | true => rw [if_pos rfl] at h1 ⊢; exact ⟨w1, m1, S1, h1⟩
    | false => rw [if_neg Bool.false_ne_true] at h1 ⊢; exact ⟨w1, m1, S1, h1⟩⟩
/-- truth -/
theorem dt_tru {fa : Ev} (ha : DE X ct a fa) (he : ∀ whole, isTrue a X.env whole = (do let v ← whole; standAt a.pos; holding [v] (truthy v)) := by intro _; rfl) : DT X ct a (Mi.tTru fa) :=
  ⟨fun W tk => PT.imp (pt_truth (ha.run W tk) he) fun σ H Q ⟨w, m, S, h⟩ => by
    refine tE.part S h fun x w1 m1 H1 v S1 e1 pv h1 => ?_
    split at h1
    · cases pv; exact ⟨_, rfl, RE.ok h1 S1 (Ext.refl ..)⟩
    · cases pv; exact ⟨_, rfl, RE.ok h1 S1 (Ext.refl ..)⟩
    · cases pv; exact ⟨_, rfl, RE.ok h1 S1 (Ext.refl ..)⟩
    · split at h1
      · rename_i xs q
        obtain ⟨p, vs, rfl, h2, h3⟩ := S1.items pv q
        have he : vs.isEmpty = xs.isEmpty := by
          cases h3 <;> rfl
        refine ⟨_, ?_, RE.ok h1 S1 (Ext.refl ..)⟩
        rcases h2 with h2 | h2
        · exact .inl ⟨vs, h2, by rw [he]⟩
        · exact .inr (.inl ⟨vs, h2, by rw [he]⟩)
      · exact h1.elim⟩

/-! ### arguments, displays -/
theorem da_nil : DA X ct [] Mi.aNil := ⟨fun W tk => PA.imp pa_nil fun σ H Q ⟨w, m, S, h⟩ => RE.ok h S (Ext.refl ..) [] .nil⟩
theorem da_cons {es : List Expr} {fa : Ev} {fr : Av} (ha : DE X ct e fa) (hr : DA X ct es fr) (hs : starEach (e :: es) X.env = (false, eval e X.env) :: starEach es X.env := by rfl) : DA X ct (e :: es) (Mi.aCons fa fr) :=
  ⟨fun W tk => PA.imp (pa_cons (ha.run W tk) (hr.run W tk) hs) fun σ H Q ⟨w, m, S, h⟩ => by
    refine tE.part S h fun x w1 m1 H1 v S1 e1 pv h1 => ?_
    refine tA.part S1 h1 fun xs w2 m2 H2 vs S2 e2 ps h2 => ?_
    exact RE.ok h2 S2 (Ext.refl ..) _ (.cons (pv.ext e2) ps)⟩
/-- a new object that nothing owns -/
theorem SR.fresh {K : PySem.W.Frag} {w : Wd} {m : Me} {H : Hp} {σ : L2.St} (S : SR K ct w m H σ) {p : Addr} {o : HO} (hp : H p = none) : SR K ct w m (upd H p o) σ := ⟨S.M.fresh hp, S.E.ext (Ext.fresh hp) rfl fun _ => rfl⟩
theorem de_tup {es : List Expr} {x1} {fa : Av} (ha : DA X ct es fa) : DE X ct (.Tuple es x1 pos) (Mi.eTup fa) :=
  ⟨fun W tk => PE.imp (pe_tup (ha.run W tk)) fun σ H Q ⟨w, m, S, h⟩ => by
    refine tA.part S h fun ps w1 m1 H1 vs S1 e1 pv h1 => ?_
    split at h1
    · rename_i xs q
      split at h1
      · rename_i hl
        have r := ds_rep pv q
        refine ⟨by rw [← r.length, ← big_eq]; exact hl, fun p hp => ?_⟩
        exact RE.ok h1 (S1.fresh hp) (Ext.fresh hp) _ (.tup (S1.M.notBad hp) (nd_same rfl) (r.ext (Ext.fresh hp)))
      · exact h1.elim
    · exact h1.elim⟩
theorem dl_disp {es : List Expr} {fa : Av} (ha : DA X ct es fa) : DL X ct (.List es pos) (Mi.lDisp fa) :=
  ⟨fun W tk => PE.imp (pe_lst (ha.run W tk)) fun σ H Q ⟨w, m, S, h⟩ => by
    refine tA.part S h fun ps w1 m1 H1 vs S1 e1 pv h1 => ?_
    split at h1
    · rename_i xs q
      split at h1
      · rename_i hl
        have r := ds_rep pv q
        refine ⟨by rw [← r.length, ← big_eq]; exact hl, fun p hp => ?_⟩
        exact RE.ok h1 S1 (Ext.refl ..) vs p r hp
      · exact h1.elim
    · exact h1.elim⟩
/-- a new list as a value -/
theorem de_l {f : Lv} (h : DL X ct e f) : DE X ct e (Mi.eL f) :=
  ⟨fun W tk => PE.imp (h.run W tk) fun σ H Q ⟨w, m, S, h⟩ => ⟨w, m, S, h.bind.imp (fun xs w1 m1 H1 S1 e1 h1 vs p r hp =>
    RE.ok h1 (S1.fresh hp) (Ext.fresh hp) _ (.lst (S1.M.notBad hp) (nd_same rfl) (r.ext (Ext.fresh hp)))) fun _ _ _ _ _ _ z => z⟩⟩
/-- xs + ys -/
theorem dl_cat {fa fb : Ev} (ha : DE X ct a fa) (hb : DE X ct b fb) : DL X ct (.BinOp a .Add b pos) (Mi.lCat fa fb) :=
  ⟨fun W tk => PE.imp (pe_op op_cat (ha.run W tk) (hb.run W tk)) fun σ H Q ⟨w, m, S, h⟩ => by
    refine tE.part S h fun x w1 m1 H1 v S1 e1 pv h1 => ?_
    refine tE.part S1 h1 fun y w2 m2 H2 u S2 e2 pu h2 => ?_
    split at h2
    · rename_i xs ys q1 q2
      split at h2
      · rename_i hl
        obtain ⟨l1, vs, rfl, g1, r1⟩ := S2.lst (pv.ext e2) q1
        obtain ⟨l2, us, rfl, g2, r2⟩ := S2.lst pu q2
        exact ⟨l1, l2, vs, us, rfl, rfl, g1, g2, by rw [← r1.length, ← r2.length, ← big_eq]; exact hl, fun p hp => RE.ok h2 S2 (Ext.refl ..) _ p (r1.append r2) hp⟩
      · exact h2.elim
    · exact h2.elim⟩
theorem rep_rep {K : PySem.W.Frag} {w : Wd} {m : Me} {H : Hp} {xs : List D} {vs : List V} (r : RepL K ct w m H xs vs) : ∀ n, RepL K ct w m H (List.replicate n xs).flatten (List.replicate n vs).flatten
  | 0 => .nil
  | n + 1 => by
    rw [List.replicate_succ, List.replicate_succ, List.flatten_cons, List.flatten_cons]
    exact r.append (rep_rep r n)
theorem dl_rep {fa fb : Ev} (ha : DE X ct a fa) (hb : DE X ct b fb) : DL X ct (.BinOp a .Mult b pos) (Mi.lRep fa fb) :=
  ⟨fun W tk => PE.imp (pe_op op_rep (ha.run W tk) (hb.run W tk)) fun σ H Q ⟨w, m, S, h⟩ => by
    refine tE.part S h fun x w1 m1 H1 v S1 e1 pv h1 => ?_
    refine tE.part S1 h1 fun y w2 m2 H2 u S2 e2 pu h2 => ?_
    split at h2
    · rename_i xs k q1
      split at h2
      · rename_i hl
        obtain ⟨l1, vs, rfl, g1, r1⟩ := S2.lst (pv.ext e2) q1
        cases pu
        exact ⟨l1, k, vs, rfl, rfl, g1, by have := hl.1; rwa [Mi.lim63_is] at this, by have := hl.2.1; rwa [Mi.lim63_is] at this, by rw [← r1.length, ← big_eq]; exact hl.2.2, fun p hp => RE.ok h2 S2 (Ext.refl ..) _ p (rep_rep r1 _) hp⟩
      · exact h2.elim
    · exact h2.elim⟩
theorem do_none : DO X ct none Mi.oNone := ⟨fun W tk => PO.imp po_none fun σ H Q ⟨w, m, S, h⟩ => RE.ok h S (Ext.refl ..)⟩
theorem do_some {fa : Ev} (ha : DE X ct a fa) : DO X ct (some a) (Mi.oSome fa) :=
  ⟨fun W tk => PO.imp (po_some (ha.run W tk)) fun σ H Q ⟨w, m, S, h⟩ => by
    refine tE.part S h fun x w1 m1 H1 v S1 e1 pv h1 => ?_
    split at h1
    · cases pv; exact ⟨_, rfl, RE.ok h1 S1 (Ext.refl ..)⟩
    · exact h1.elim⟩
theorem dl_cut {lo hi : Option Expr} {p2 : Pos} {fa : Ev} {fl fh : Ov} (ha : DE X ct a fa) (hl : DO X ct lo fl) (hh : DO X ct hi fh) : DL X ct (.Subscript a (.Slice lo hi none p2) pos) (Mi.lCut fa fl fh) :=
  ⟨fun W tk => PE.imp (pe_slice sl_list (ha.run W tk) (hl.run W tk) (hh.run W tk)) fun σ H Q ⟨w, m, S, h⟩ => by
    refine tE.part S h fun x w1 m1 H1 v S1 e1 pv h1 => ?_
    refine tO.part S1 h1 fun l w2 m2 H2 S2 e2 h2 => ?_
    refine tO.part S2 h2 fun u w3 m3 H3 S3 e3 h3 => ?_
    have pv3 := (pv.ext e2).ext e3
    split at h3
    · rename_i xs _
      cases pv3 with
      | scr g r => exact ⟨_, _, rfl, sqL_of g, fun p hp => RE.ok h3 S3 (Ext.refl ..) _ p (cut_rep r l u) hp⟩
    · rename_i xs _ q
      obtain ⟨l1, vs, rfl, g1, r1⟩ := S3.lst pv3 q
      exact ⟨l1, vs, rfl, SqL.of g1, fun p hp => RE.ok h3 S3 (Ext.refl ..) _ p (cut_rep r1 l u) hp⟩
    · exact h3.elim⟩
theorem de_cutT {lo hi : Option Expr} {p2 : Pos} {fa : Ev} {fl fh : Ov} (ha : DE X ct a fa) (hl : DO X ct lo fl) (hh : DO X ct hi fh) : DE X ct (.Subscript a (.Slice lo hi none p2) pos) (Mi.eCutT fa fl fh) :=
  ⟨fun W tk => PE.imp (pe_slice sl_str (ha.run W tk) (hl.run W tk) (hh.run W tk)) fun σ H Q ⟨w, m, S, h⟩ => by
    refine tE.part S h fun x w1 m1 H1 v S1 e1 pv h1 => ?_
    refine tO.part S1 h1 fun l w2 m2 H2 S2 e2 h2 => ?_
    refine tO.part S2 h2 fun u w3 m3 H3 S3 e3 h3 => ?_
    split at h3
    · rename_i z
      split at h3
      · rename_i hz
        cases pv
        refine ⟨_, rfl, by rw [tx_length, ← big_eq]; exact hz, ?_⟩
        have e : cutS (tx z) l u = tx (Mi.cut z l u) := by
          unfold cutS Mi.cut
          rw [tx_length, sIx_same, sIx_same]
          show (⟨((z.toArray.toList.drop _).take _).toArray⟩ : Str) = _
          rw [List.toList_toArray]
          rfl
        rw [e]
        exact RE.ok h3 S3 (Ext.refl ..) _ (.str _)
      · exact h3.elim
    · exact h3.elim⟩
/-! ### subscripts -/
theorem ok_ix : OpOk X ct Mi.gIx (fun x y H Q => rIxL X.K x y H Q ∨ rIxT X.K x y H Q) := by
  intro w m H σ x y v u d Q S rx ry hg k
  unfold Mi.gIx at hg
  split at hg
  · rename_i xs i q
    cases ry
    obtain ⟨p, vs, rfl, h1, h2⟩ := S.items rx q
    obtain ⟨v, h3, h4⟩ := atI_rep h2 hg
    rcases h1 with h1 | h1
    · exact .inl ⟨p, vs, i, v, rfl, rfl, h1, h3, k _ H S (Ext.refl ..) h4⟩
    · exact .inr ⟨p, vs, i, v, rfl, rfl, h1, h3, k _ H S (Ext.refl ..) h4⟩
  · cases hg
theorem de_ix {fa fb : Ev} (ha : DE X ct a fa) (hb : DE X ct b fb) (hs : PlainIx b := by exact fun _ _ => rfl) : DE X ct (.Subscript a b pos) (Mi.e2 Mi.gIx fa fb) :=
  ⟨fun W tk => PE.imp (pe_ix (IxR.or ix_list ix_tup) (ha.run W tk) (hb.run W tk) hs) fun _ _ _ h => e2_read ok_ix h⟩
theorem ok_ixT : OpOk X ct Mi.gIxT rIxS := by
  intro w m H σ x y v u d Q S rx ry hg k
  unfold Mi.gIxT at hg
  split at hg
  · rename_i z i
    split at hg
    · rename_i hz
      cases rx; cases ry
      cases q : Mi.atI z i with
      | none => rw [q] at hg; cases hg
      | some c =>
        rw [q] at hg
        cases hg
        refine ⟨tx z, i, c, rfl, rfl, by rw [tx_length, ← big_eq]; exact hz, ?_, k _ H S (Ext.refl ..) (.str _)⟩
        show L2.atI z.toArray.toList i = some c
        rw [List.toList_toArray]
        exact q
    · cases hg
  · cases hg
theorem de_ixT {fa fb : Ev} (ha : DE X ct a fa) (hb : DE X ct b fb) (hs : PlainIx b := by exact fun _ _ => rfl) : DE X ct (.Subscript a b pos) (Mi.e2 Mi.gIxT fa fb) :=
  ⟨fun W tk => PE.imp (pe_ix ix_str (ha.run W tk) (hb.run W tk) hs) fun _ _ _ h => e2_read ok_ixT h⟩
theorem de_key (hu : X.A.units + 1 < cLine) {fa fb : Ev} (ha : DE X ct a fa) (hb : DE X ct b fb) (hs : NoSl b := by exact fun _ _ => rfl) : DE X ct (.Subscript a b pos) (Mi.e2 Mi.gKey fa fb) :=
  ⟨fun W tk => PE.imp (pe_dget hu (ha.run W tk) (hb.run W tk) hs) fun _ _ _ h => e2_read (X := X) (r := fun x y H2 Q => ∃ a v, x = .ref a ∧ DGet H2 a y (some v) ∧ Q v H2) (fun w m H σ x y v u d Q S rx ry hg k => by
    unfold Mi.gKey at hg
    split at hg
    · rename_i kvs j q1 q2
      obtain ⟨p, vs, rfl, h1, h2⟩ := S.kvs rx q1
      obtain ⟨v, h3, h4⟩ := h2.lookS hg
      exact ⟨p, v, rfl, .inl ⟨vs, _, h1, ky_rep ry q2, h3.symm⟩, k _ H S (Ext.refl ..) h4⟩
    · cases hg) h⟩
/-! ### built-ins by name -/
def CallOk (X : Cx) (ct : String → Option Addr) (g : List PV → Me → Option D) (r : List V → Hp → VK → Prop) : Prop :=
  ∀ (w : Wd) (m : Me) (H : Hp) (σ : L2.St) (xs : List PV) (vs : List V) (d : D) (Q : VK), SR X.K ct w m H σ → PVRs X.K ct w m H σ xs vs → g xs m = some d →
    (∀ v' H', SR X.K ct w m H' σ → Ext w m H w m H' → RepD X.K ct w m H' d v' → Q v' H') → r vs H Q
theorem eA_read {W : WX} {g : List PV → Me → Option D} {r : List V → Hp → VK → Prop} (hg : CallOk X ct g r) {fa : Av} {σ : L2.St} {H : Hp} {Q : VK} (h : tE X.K ct W (Mi.eA g fa) σ H Q) : tCB r (tA X.K ct W fa) σ H Q := by
  obtain ⟨w, m, S, h⟩ := h
  refine tA.part S h fun x w1 m1 H1 v S1 e1 pv h1 => ?_
  obtain ⟨d, hd, h3⟩ := h1.opt
  exact hg w1 m1 H1 σ x v d Q S1 pv hd fun v' H' S' e' r' => RE.ok h3 S' e' v' r'
section
variable {x : Str} {p : Pos} {es : List Expr} {id T : String} {r : List V → Hp → VK → Prop} {g : List PV → Me → Option D} {fa : Av}
theorem de_callB (hc : CallR X (.builtin id) r) (hok : CallOk X ct g r) (hg : Gl X x) (hm : X.mg x = none) (hv : bootBuiltins x = some (.builtin id)) (ha : DA X ct (e :: es) fa) (hn : x ≠ "__name__" := by decide) (hdb : (x == ("__debug__" : Str)) = false := by decide)
    (he : starEach (e :: es) X.env = (false, eval e X.env) :: starEach es X.env := by rfl) (hpl : (backTo pos (starEach es X.env)).any (·.1) = false := by rfl) : DE X ct (.Call (.Name x p) (e :: es) [] pos) (Mi.eA g fa) :=
  ⟨fun W tk => PE.imp (pe_callB hc hg hm hv (ha.run W tk) hn hdb he hpl) fun _ _ _ h => eA_read hok h⟩
theorem de_callTy (hc : CallR X (.type T) r) (hok : CallOk X ct g r) (hg : Gl X x) (hm : X.mg x = none) (hv : bootBuiltins x = some (.type T)) (ha : DA X ct (e :: es) fa) (hn : x ≠ "__name__" := by decide) (hdb : (x == ("__debug__" : Str)) = false := by decide)
    (he : starEach (e :: es) X.env = (false, eval e X.env) :: starEach es X.env := by rfl) (hpl : (backTo pos (starEach es X.env)).any (·.1) = false := by rfl) : DE X ct (.Call (.Name x p) (e :: es) [] pos) (Mi.eA g fa) :=
  ⟨fun W tk => PE.imp (pe_callTy hc hg hm hv (ha.run W tk) hn hdb he hpl) fun _ _ _ h => eA_read hok h⟩
end
theorem CallR.or2 {f : Value} {r r' : List V → Hp → VK → Prop} (h : CallR X f r) (h' : CallR X f r') : CallR X f (fun xs H Q => r xs H Q ∨ r' xs H Q) := fun pins s σ H xs us Q I rv q => q.elim (h pins s σ H xs us Q I rv) (h' pins s σ H xs us Q I rv)
theorem ok_len : CallOk X ct Mi.aLen (fun xs H Q => (∃ p ys, xs = [.ref p] ∧ (SqL X.K H p ys ∨ SqT X.K H p ys) ∧ Q (.int ys.length) H) ∨ ∃ z, xs = [.str z] ∧ z.length ≤ sizeLine ∧ Q (.int z.length) H) := by
  intro w m H σ xs vs d Q S r hg k
  unfold Mi.aLen at hg
  split at hg
  · rename_i x
    cases r with
    | cons r t =>
      cases t
      unfold Mi.gLen at hg
      split at hg
      · rename_i z
        split at hg
        · rename_i hz
          cases hg; cases r
          refine .inr ⟨tx z, rfl, by rw [tx_length, ← big_eq]; exact hz, ?_⟩
          rw [tx_length]
          exact k _ H S (Ext.refl ..) (.int _)
        · cases hg
      · split at hg
        · rename_i ys q
          cases hg
          obtain ⟨p, us, rfl, h1, h2⟩ := S.items r q
          refine .inl ⟨p, us, rfl, h1, ?_⟩
          rw [← h2.length]
          exact k _ H S (Ext.refl ..) (.int _)
        · cases hg
  · cases hg
theorem ok_cint : CallOk X ct Mi.aInt (fun xs H Q => (∃ i, xs = [.int i] ∧ Q (.int i) H) ∨ ∃ k, xs = [.bl k] ∧ Q (.int (if k then 1 else 0)) H) := by
  intro w m H σ xs vs d Q S r hg k
  unfold Mi.aInt at hg
  split at hg
  · rename_i x
    cases r with
    | cons r t =>
      cases t
      unfold Mi.gInt at hg
      split at hg
      · cases hg; cases r; exact .inl ⟨_, rfl, k _ H S (Ext.refl ..) (.int _)⟩
      · cases hg; cases r; exact .inr ⟨_, rfl, k _ H S (Ext.refl ..) (.int _)⟩
      · cases hg
  · cases hg
theorem ok_min2 : CallOk X ct Mi.aMin (fun xs H Q => ∃ i j, xs = [.int i, .int j] ∧ Q (.int (if j < i then j else i)) H) := by
  intro w m H σ xs vs d Q S r hg k
  unfold Mi.aMin at hg
  split at hg
  · cases r with
    | cons r t => cases t with
      | cons r2 t =>
        cases t
        unfold Mi.gMin2 at hg
        split at hg
        · cases hg; cases r; cases r2; exact ⟨_, _, rfl, k _ H S (Ext.refl ..) (.int _)⟩
        · cases hg
  · cases hg
theorem ok_max2 : CallOk X ct Mi.aMax (fun xs H Q => ∃ i j, xs = [.int i, .int j] ∧ Q (.int (if j > i then j else i)) H) := by
  intro w m H σ xs vs d Q S r hg k
  unfold Mi.aMax at hg
  split at hg
  · cases r with
    | cons r t => cases t with
      | cons r2 t =>
        cases t
        unfold Mi.gMax2 at hg
        split at hg
        · cases hg; cases r; cases r2; exact ⟨_, _, rfl, k _ H S (Ext.refl ..) (.int _)⟩
        · cases hg
  · cases hg
theorem opt_map {α β : Type} {o : Option α} {f : α → β} {b : β} (h : o.map f = some b) : ∃ a, o = some a ∧ b = f a := by
  cases o with
  | none => cases h
  | some a => exact ⟨a, rfl, (Option.some.inj h).symm⟩
theorem opt_bind {α β : Type} {o : Option α} {f : α → Option β} {b : β} (h : o.bind f = some b) : ∃ a, o = some a ∧ f a = some b := by
  cases o with
  | none => cases h
  | some a => exact ⟨a, rfl, h⟩
end
end So

set_option Elab.async false
set_option linter.all false
set_option maxRecDepth 100000
set_option maxHeartbeats 4000000
namespace So
open PySem PySem.Spec PyProof.Rows L2
open Mi (D Cl FV SC Me Xc Res PV Ky Ev Tv Av Lv Iv Ov Sv Bd Out Env Tx)

/-! ### states that change -/
section
variable {K : PySem.W.Frag} {ct : String → Option Addr} {w w' : Wd} {m m' : Me} {H H' : Hp} {σ : L2.St}
theorem Ext.sub (hS : m'.S = m.S) (hc : ∀ p c, cellAt m' p = some c → cellAt m p = some c) : Ext w m H w m' H :=
  ⟨fun _ h => h, fun _ _ _ _ h => h, fun i c h => ⟨⟨c, by rw [hS]; exact h⟩, rfl⟩, fun a o h n => ⟨h, fun ⟨p, c, h1, h2⟩ => n ⟨p, c, hc p c h1, h2⟩⟩, fun a o h n ⟨p, c, h1, h2⟩ => n ⟨p, c, hc p c h1, h2⟩⟩
theorem MRel.sub (M : MRel K ct w m H) (hS : m'.S = m.S) (hc : ∀ p c, cellAt m' p = some c → cellAt m p = some c) : MRel K ct w m' H :=
  ⟨fun p q c c' h1 h2 => M.inj p q c c' (hc _ _ h1) (hc _ _ h2), fun p c h => (M.cells p c (hc _ _ h)).ext (Ext.sub hS hc) (fun _ _ _ => rfl) rfl, M.out, fun p c h => M.nout p c (hc _ _ h)⟩
theorem slot_set {σm : Mi.Env} {S : List SC} {i j : Nat} {x : Option FV} {c : Cl} (h : (Me.mk (σm.set i x) S).slot j = some c) : (j ≠ i ∧ (Me.mk σm S).slot j = some c) ∨ (j = i ∧ x = some (.o c)) := by
  unfold Mi.Me.slot at h ⊢
  by_cases e : i = j
  · subst e
    by_cases hl : i < σm.length
    · simp only [List.getElem?_set_self hl] at h
      refine .inr ⟨rfl, ?_⟩
      split at h
      · rename_i q; cases h; exact Option.some.inj q
      · cases h
    · rw [List.getElem?_eq_none (by simpa using hl)] at h
      cases h
  · simp only [List.getElem?_set_ne e] at h
    exact .inl ⟨fun z => e z.symm, h⟩
theorem cell_set {σm : Mi.Env} {S : List SC} {i : Nat} {x : Option FV} {p : Pl} {c : SC} (h : cellAt ⟨σm.set i x, S⟩ p = some c) : (p ≠ .s i ∧ cellAt ⟨σm, S⟩ p = some c) ∨ (p = .s i ∧ ∃ z, x = some (.o z) ∧ c = .c z) := by
  cases p with
  | g n => exact .inl ⟨by simp, h⟩
  | f n f => exact .inl ⟨by simp, h⟩
  | s j =>
    obtain ⟨z, h1, h2⟩ := opt_map (show ((Me.mk (σm.set i x) S).slot j).map SC.c = some c from h)
    rcases slot_set h1 with ⟨h3, h4⟩ | ⟨h3, h4⟩
    · exact .inl ⟨fun e => h3 (by cases e; rfl), by show ((Me.mk σm S).slot j).map SC.c = some c; rw [h4, h2]; rfl⟩
    · subst h3; exact .inr ⟨rfl, z, h4, h2⟩
theorem ERel.set {σm : Mi.Env} {S S' : List SC} (E : ERel K ct w ⟨σm, S⟩ H σ) (e : Ext w ⟨σm, S⟩ H w' m' H') {i : Nat} {x : Option FV} {v : Option V} (hm : m'.σ = σm.set i x) (ha : ∀ j, j ≠ i → w'.α (.s j) = w.α (.s j)) (h : SlotR K ct w' m' H' i x v) : ERel K ct w' m' H' (σ.set i v) := by
  refine ⟨by rw [hm, List.length_set, List.length_set]; exact E.len, fun j y z h1 h2 => ?_⟩
  rw [hm] at h1
  by_cases q : i = j
  · subst q
    by_cases hl : i < σm.length
    · rw [List.getElem?_set_self hl] at h1
      rw [List.getElem?_set_self (by rw [← E.len]; exact hl)] at h2
      cases h1; cases h2
      exact h
    · rw [List.getElem?_eq_none (by simpa using hl)] at h1; cases h1
  · rw [List.getElem?_set_ne q] at h1 h2
    have r := E.at_ j y z h1 h2
    cases y with
    | none => trivial
    | some f =>
      cases f with
      | v d => obtain ⟨u, e1, r'⟩ := r; exact ⟨u, e1, r'.ext e⟩
      | o c => show z = _; rw [ha j fun z => q z.symm]; exact r
      | lent => trivial
/-- a slot gets a value -/
theorem SR.setV {σm : Mi.Env} {S : List SC} (R : SR K ct w ⟨σm, S⟩ H σ) {i : Nat} {d : D} {v : V} (r : RepD K ct w ⟨σm, S⟩ H d v) : SR K ct w ⟨σm.set i (some (.v d)), S⟩ H (σ.set i (some v)) ∧ Ext w ⟨σm, S⟩ H w ⟨σm.set i (some (.v d)), S⟩ H := by
  have hc : ∀ p c, cellAt ⟨σm.set i (some (.v d)), S⟩ p = some c → cellAt ⟨σm, S⟩ p = some c := fun p c h => by
    rcases cell_set h with ⟨_, h⟩ | ⟨_, z, h, _⟩
    · exact h
    · cases h
  have e : Ext w ⟨σm, S⟩ H w ⟨σm.set i (some (.v d)), S⟩ H := Ext.sub rfl hc
  exact ⟨⟨R.M.sub rfl hc, R.E.set (S' := S) e rfl (fun _ _ => rfl) ⟨v, rfl, r.ext e⟩⟩, e⟩
def Wd.at (w : Wd) (p : Pl) (a : Addr) : Wd := ⟨fun q => match decEq_pl q p with | true => a | false => w.α q, w.O⟩
where decEq_pl : Pl → Pl → Bool
  | .g i, .g j => i == j
  | .f i s, .f j t => i == j && s == t
  | .s i, .s j => i == j
  | _, _ => false
theorem pl_eq {p q : Pl} : Wd.at.decEq_pl p q = true ↔ p = q := by
  cases p <;> cases q <;> simp [Wd.at.decEq_pl]
theorem Wd.at_same {w : Wd} {p : Pl} {a : Addr} : (w.at p a).α p = a := by
  unfold Wd.at
  show (match Wd.at.decEq_pl p p with | true => a | false => w.α p) = a
  rw [pl_eq.mpr rfl]
theorem Wd.at_ne {w : Wd} {p q : Pl} {a : Addr} (h : q ≠ p) : (w.at p a).α q = w.α q := by
  unfold Wd.at
  show (match Wd.at.decEq_pl q p with | true => a | false => w.α q) = w.α q
  cases e : Wd.at.decEq_pl q p with
  | true => exact absurd (pl_eq.mp e) h
  | false => rfl
/-- a slot gets a new cell -/
theorem SR.setO {σm : Mi.Env} {S : List SC} (R : SR K ct w ⟨σm, S⟩ H σ) {i : Nat} {c : Cl} {p : Addr} {o : HO} (hp : H p = none) (hc : ∀ w' m' H', Ext w ⟨σm, S⟩ H w' m' H' → H' p = some o → CellR K ct w' m' H' (.s i) p (.c c)) :
    SR K ct (w.at (.s i) p) ⟨σm.set i (some (.o c)), S⟩ (upd H p o) (σ.set i (some (.ref p))) ∧ Ext w ⟨σm, S⟩ H (w.at (.s i) p) ⟨σm.set i (some (.o c)), S⟩ (upd H p o) := by
  have e : Ext w ⟨σm, S⟩ H (w.at (.s i) p) ⟨σm.set i (some (.o c)), S⟩ (upd H p o) := by
    refine ⟨fun _ h => h, fun _ _ _ _ h => h, fun n x h => ⟨⟨x, h⟩, Wd.at_ne (by simp)⟩, fun a u h n => ⟨by rw [upd_ne (ne_of_none h hp)]; exact h, ?_⟩, fun a u h n => ?_⟩
    · rintro ⟨q, x, h1, h2, hl⟩
      rcases cell_set h1 with ⟨h3, h4⟩ | ⟨h3, _⟩
      · rw [Wd.at_ne h3] at h2
        exact n ⟨q, x, h4, h2, hl⟩
      · subst h3
        rw [Wd.at_same] at h2
        exact ne_of_none h hp h2.symm
    · rintro ⟨q, x, h1, h2⟩
      rcases cell_set h1 with ⟨h3, h4⟩ | ⟨h3, _⟩
      · rw [Wd.at_ne h3] at h2
        exact n ⟨q, x, h4, h2⟩
      · subst h3
        rw [Wd.at_same] at h2
        exact ne_of_none h hp h2.symm
  have hne : ∀ q x, cellAt ⟨σm, S⟩ q = some x → w.α q ≠ p := fun q x h => by
    obtain ⟨u, hu⟩ := R.M.there h
    exact ne_of_none hu hp
  refine ⟨⟨⟨fun q1 q2 c1 c2 h1 h2 h3 => ?_, fun q x h => ?_, fun a h => ?_, fun q x h => ?_⟩, R.E.set (S' := S) e rfl (fun j hj => Wd.at_ne (by simpa using hj)) (by show _ = _; rw [Wd.at_same])⟩, e⟩
  · rcases cell_set h1 with ⟨n1, k1⟩ | ⟨n1, _⟩ <;> rcases cell_set h2 with ⟨n2, k2⟩ | ⟨n2, _⟩
    · rw [Wd.at_ne n1, Wd.at_ne n2] at h3
      exact R.M.inj _ _ _ _ k1 k2 h3
    · subst n2
      rw [Wd.at_ne n1, Wd.at_same] at h3
      exact absurd h3 (hne _ _ k1)
    · subst n1
      rw [Wd.at_ne n2, Wd.at_same] at h3
      exact absurd h3.symm (hne _ _ k2)
    · rw [n1, n2]
  · rcases cell_set h with ⟨n1, k1⟩ | ⟨n1, z, h1, h2⟩
    · rw [Wd.at_ne n1]
      exact (R.M.cells q x k1).ext e (fun _ _ _ => Wd.at_ne (by simp)) (upd_ne (hne _ _ k1))
    · subst n1; subst h2
      cases h1
      rw [Wd.at_same]
      exact hc _ _ _ e upd_same
  · obtain ⟨u, hu⟩ := R.M.out a h
    exact ⟨u, by rw [upd_ne (ne_of_none hu hp)]; exact hu⟩
  · rcases cell_set h with ⟨n1, k1⟩ | ⟨n1, z, h1, h2⟩
    · rw [Wd.at_ne n1]; exact R.M.nout q x k1
    · subst n1
      rw [Wd.at_same]
      intro ho
      obtain ⟨u, hu⟩ := R.M.out p ho
      exact ne_of_none hu hp rfl
theorem glob_set {σm : Mi.Env} {S : List SC} {n : Nat} {x : SC} {p : Pl} {c : SC} (hx : ∃ z, S[n]? = some (.c z)) (hz : ∃ z, x = .c z) (h : cellAt ⟨σm, S.set n x⟩ p = some c) : (p ≠ .g n ∧ cellAt ⟨σm, S⟩ p = some c) ∨ (p = .g n ∧ c = x) := by
  obtain ⟨z, hz⟩ := hz
  obtain ⟨y, hx⟩ := hx
  have hl : n < S.length := (List.getElem?_eq_some_iff.mp hx).1
  cases p with
  | g k =>
    have h : (S.set n x)[k]? = some c := h
    by_cases e : n = k
    · subst e
      rw [List.getElem?_set_self hl] at h
      exact .inr ⟨rfl, (Option.some.inj h).symm⟩
    · rw [List.getElem?_set_ne e] at h
      exact .inl ⟨by simpa using fun z => e z.symm, h⟩
  | s j => exact .inl ⟨by simp, h⟩
  | f k f =>
    refine .inl ⟨by simp, ?_⟩
    obtain ⟨u, h1, h2⟩ := opt_map (show ((Me.mk σm (S.set n x)).field k f).map SC.c = some c from h)
    show ((Me.mk σm S).field k f).map SC.c = some c
    have : (Me.mk σm S).field k f = some u := by
      unfold Mi.Me.field at h1 ⊢
      by_cases e : n = k
      · subst e
        have h1 : (match (S.set n x)[n]? with | some (.ins _ fs) => (match fs.lookup f with | some (.o c) => some c | _ => none) | _ => none) = some u := h1
        rw [List.getElem?_set_self hl, hz] at h1
        cases h1
      · have h1 : (match (S.set n x)[k]? with | some (.ins _ fs) => (match fs.lookup f with | some (.o c) => some c | _ => none) | _ => none) = some u := h1
        rw [List.getElem?_set_ne e] at h1
        exact h1
    rw [this, h2]; rfl
/-- an owned cell is changed -/
theorem SR.put (R : SR K ct w m H σ) {x : PV} {v : V} {c : Cl} (pv : PVR K ct w m H σ x v) (h : m.own x = some c) (hlk : lkC (.c c) = false := by rfl) : ∃ a p, v = .ref a ∧ CellR K ct w m H p a (.c c) ∧
    ∀ (c' : Cl) (o : HO), (∀ w' m' H' q, Ext w m H w' m' H' → H' a = some o → CellR K ct w' m' H' q a (.c c')) → SR K ct w (m.put x c') (upd H a o) σ ∧ Ext w m H w (m.put x c') (upd H a o) := by
  obtain ⟨p, e, h1, h2, h3⟩ := R.own pv h
  refine ⟨_, p, e, h2, fun c' o hc => ?_⟩
  have key : ∀ q y, cellAt (m.put x c') q = some y → (q ≠ p ∧ cellAt m q = some y) ∨ (q = p ∧ y = .c c') := by
    intro q y hq
    rcases h3 with ⟨i, hx, rfl⟩ | ⟨n, hx, rfl⟩
    · subst hx
      rcases cell_set (σm := m.σ) (S := m.S) hq with ⟨a1, a2⟩ | ⟨a1, z, a2, a3⟩
      · exact .inl ⟨a1, a2⟩
      · cases a2; exact .inr ⟨a1, a3⟩
    · subst hx
      exact glob_set (σm := m.σ) (S := m.S) ⟨c, h1⟩ ⟨c', rfl⟩ hq
  have at' : ∃ y, cellAt (m.put x c') p = some y ∧ y = .c c' := by
    rcases h3 with ⟨i, hx, rfl⟩ | ⟨n, hx, rfl⟩
    · subst hx
      have hl : i < m.σ.length := (List.getElem?_eq_some_iff.mp (R.slot (i := i) h).1).1
      refine ⟨.c c', ?_, rfl⟩
      show ((Me.mk (m.σ.set i (some (.o c'))) m.S).slot i).map SC.c = _
      unfold Mi.Me.slot
      rw [List.getElem?_set_self hl]
      rfl
    · subst hx
      have hl : n < m.S.length := (List.getElem?_eq_some_iff.mp (show m.S[n]? = some _ from h1)).1
      refine ⟨.c c', ?_, rfl⟩
      show (m.S.set n (.c c'))[n]? = _
      rw [List.getElem?_set_self hl]
  have gl : ∀ (i : Nat) (y : SC), m.S[i]? = some y → ∃ y', (m.put x c').S[i]? = some y' := by
    intro i y hi
    rcases h3 with ⟨j, hx, rfl⟩ | ⟨n, hx, rfl⟩
    · subst hx; exact ⟨y, hi⟩
    · subst hx
      have hl : i < (m.S.set n (.c c')).length := by rw [List.length_set]; exact (List.getElem?_eq_some_iff.mp hi).1
      exact ⟨_, List.getElem?_eq_some_iff.mpr ⟨hl, rfl⟩⟩
  have ext : Ext w m H w (m.put x c') (upd H (w.α p) o) := by
    refine ⟨fun _ h => h, fun _ _ _ _ h => h, fun i y hi => ⟨gl i y hi, rfl⟩, fun a u hu n => ⟨?_, ?_⟩, fun a u hu n => ?_⟩
    · rw [upd_ne]
      · exact hu
      · rintro rfl
        exact n ⟨p, _, h1, rfl, hlk⟩
    · rintro ⟨q, y, k1, k2, k3⟩
      rcases key q y k1 with ⟨_, a2⟩ | ⟨rfl, _⟩
      · exact n ⟨q, y, a2, k2, k3⟩
      · exact n ⟨q, _, h1, k2, hlk⟩
    · rintro ⟨q, y, k1, k2⟩
      rcases key q y k1 with ⟨_, a2⟩ | ⟨rfl, _⟩
      · exact n ⟨q, y, a2, k2⟩
      · exact n ⟨q, _, h1, k2⟩
  refine ⟨⟨⟨fun q1 q2 c1 c2 k1 k2 k3 => ?_, fun q y hq => ?_, fun a ha => ?_, fun q y hq => ?_⟩, ?_⟩, ext⟩
  · have f1 : ∃ y, cellAt m q1 = some y := by
      rcases key _ _ k1 with ⟨_, a⟩ | ⟨rfl, _⟩
      · exact ⟨_, a⟩
      · exact ⟨_, h1⟩
    have f2 : ∃ y, cellAt m q2 = some y := by
      rcases key _ _ k2 with ⟨_, a⟩ | ⟨rfl, _⟩
      · exact ⟨_, a⟩
      · exact ⟨_, h1⟩
    obtain ⟨y1, f1⟩ := f1
    obtain ⟨y2, f2⟩ := f2
    exact R.M.inj _ _ _ _ f1 f2 k3
  · rcases key _ _ hq with ⟨n, a⟩ | ⟨rfl, rfl⟩
    · refine (R.M.cells q y a).ext ext (fun _ _ _ => rfl) (upd_ne fun z => n (R.M.inj _ _ _ _ a h1 z))
    · exact hc _ _ _ _ ext upd_same
  · obtain ⟨u, hu⟩ := R.M.out a ha
    by_cases z : a = w.α p
    · exact ⟨o, by rw [z]; exact upd_same⟩
    · exact ⟨u, by rw [upd_ne z]; exact hu⟩
  · rcases key _ _ hq with ⟨n, a⟩ | ⟨rfl, rfl⟩
    · exact R.M.nout q y a
    · exact R.M.nout q _ h1
  · rcases h3 with ⟨i, hx, rfl⟩ | ⟨n, hx, rfl⟩
    · subst hx
      have hs := R.slot (i := i) h
      refine ⟨by show (m.σ.set i _).length = _; rw [List.length_set]; exact R.E.len, fun j y z k1 k2 => ?_⟩
      have k1 : (m.σ.set i (some (.o c')))[j]? = some y := k1
      by_cases q : i = j
      · subst q
        have hl : i < m.σ.length := (List.getElem?_eq_some_iff.mp hs.1).1
        rw [List.getElem?_set_self hl] at k1
        cases k1
        have := hs.2.1
        rw [k2] at this
        exact Option.some.inj this
      · rw [List.getElem?_set_ne q] at k1
        have r := R.E.at_ j y z k1 k2
        cases y with
        | none => trivial
        | some f =>
          cases f with
          | v d => obtain ⟨u, e1, r'⟩ := r; exact ⟨u, e1, r'.ext ext⟩
          | o c => exact r
          | lent => trivial
    · subst hx
      exact R.E.ext ext rfl fun _ => rfl
/-- a slot's cell becomes a value -/
theorem SR.frz (R : SR K ct w m H σ) {i : Nat} {c : Cl} {d : D} (h : m.slot i = some c) (hd : (∃ xs, c = .lst xs ∧ d = .lst xs) ∨ ∃ xs, c = .dct xs ∧ d = .dct xs) :
    ∃ a, σ[i]? = some (some (.ref a)) ∧ SR K ct w ⟨m.σ.set i (some (.v d)), m.S⟩ H σ ∧ Ext w m H w ⟨m.σ.set i (some (.v d)), m.S⟩ H ∧ RepD K ct w ⟨m.σ.set i (some (.v d)), m.S⟩ H d (.ref a) := by
  obtain ⟨h1, h2, h3⟩ := R.slot h
  have hc : ∀ p c, cellAt ⟨m.σ.set i (some (.v d)), m.S⟩ p = some c → cellAt m p = some c ∧ p ≠ .s i := fun p c h => by
    rcases cell_set (σm := m.σ) (S := m.S) h with ⟨n, h⟩ | ⟨_, z, h, _⟩
    · exact ⟨h, n⟩
    · cases h
  have e : Ext w m H w ⟨m.σ.set i (some (.v d)), m.S⟩ H := Ext.sub rfl fun p c h => (hc p c h).1
  have nb : ¬ Bad w ⟨m.σ.set i (some (.v d)), m.S⟩ (w.α (.s i)) := by
    rintro (z | ⟨p, c, k1, k2⟩)
    · exact R.M.nout _ _ h3 z
    · exact (hc p c k1).2 (R.M.inj _ _ _ _ (hc p c k1).1 h3 k2)
  have cr := R.M.cells _ _ h3
  have r : RepD K ct w ⟨m.σ.set i (some (.v d)), m.S⟩ H d (.ref (w.α (.s i))) := by
    rcases hd with ⟨xs, rfl, rfl⟩ | ⟨xs, rfl, rfl⟩
    · obtain ⟨vs, k1, k2⟩ := cr
      exact .lst nb ⟨_, k1, rfl⟩ (k2.ext e)
    · obtain ⟨vs, k1, k2⟩ := cr
      exact .dct nb ⟨_, k1, rfl⟩ (k2.ext e)
  refine ⟨_, h2, ⟨R.M.sub rfl fun p c h => (hc p c h).1, ?_⟩, e, r⟩
  have := R.E.set (S' := m.S) (i := i) (x := some (.v d)) (v := some (.ref (w.α (.s i)))) e rfl (fun _ _ => rfl) ⟨_, rfl, r⟩
  have eq : σ.set i (some (.ref (w.α (.s i)))) = σ := by
    refine List.ext_getElem? fun j => ?_
    by_cases q : i = j
    · subst q
      have hl : i < σ.length := (List.getElem?_eq_some_iff.mp h2).1
      rw [List.getElem?_set_self hl, h2]
    · rw [List.getElem?_set_ne q]
  rw [eq] at this
  exact this
end

/-! ### statements -/
section
variable (K : PySem.W.Frag) (ct : String → Option Addr) (W : WX)
def RO (w : Wd) (m : Me) (H : Hp) (r : Out) (D : Ends) : Prop :=
  match r with
  | .nx m' => ∀ w' H' σ', SR K ct w' m' H' σ' → Ext w m H w' m' H' → D.nx σ' H'
  | .bk m' => ∀ w' H' σ', SR K ct w' m' H' σ' → Ext w m H w' m' H' → D.bk σ' H'
  | .ct m' => ∀ w' H' σ', SR K ct w' m' H' σ' → Ext w m H w' m' H' → D.ct σ' H'
  | .rt d m' => ∀ w' H' σ' v, SR K ct w' m' H' σ' → Ext w m H w' m' H' → RepD K ct w' m' H' d v → D.rt v H'
  | .ex x m' => ∀ w' H' σ' cls dx, SR K ct w' m' H' σ' → Ext w m H w' m' H' → ExR K ct w' m' H' x cls dx → W cls dx σ' H'
  | .bad => False
def tS (f : Sv) : TS := fun D σ H => ∃ w m, SR K ct w m H σ ∧ RO K ct W w m H (f m) D
end
theorem RO.ext {K : PySem.W.Frag} {ct : String → Option Addr} {W : WX} {w w' : Wd} {m m' : Me} {H H' : Hp} {r : Out} {D : Ends} (e : Ext w m H w' m' H') (h : RO K ct W w m H r D) : RO K ct W w' m' H' r D := by
  cases r with
  | nx m2 => exact fun w2 H2 σ2 S2 e2 => h w2 H2 σ2 S2 (e.trans e2)
  | bk m2 => exact fun w2 H2 σ2 S2 e2 => h w2 H2 σ2 S2 (e.trans e2)
  | ct m2 => exact fun w2 H2 σ2 S2 e2 => h w2 H2 σ2 S2 (e.trans e2)
  | rt d m2 => exact fun w2 H2 σ2 v S2 e2 => h w2 H2 σ2 v S2 (e.trans e2)
  | ex x m2 => exact fun w2 H2 σ2 cls dx S2 e2 => h w2 H2 σ2 cls dx S2 (e.trans e2)
  | bad => exact h
structure DS (X : Cx) (ct : String → Option Addr) (st : Stmt) (f : Sv) : Prop where
  run : ∀ W, L2.Takes X W → PS X st (tS X.K ct W f)
structure DSs (X : Cx) (ct : String → Option Addr) (st : List Stmt) (f : Sv) : Prop where
  run : ∀ W, L2.Takes X W → PSs X st (tS X.K ct W f)
theorem PS.imp {X : Cx} {st : Stmt} {t t' : TS} (h : PS X st t) (i : ∀ D σ H, t' D σ H → t D σ H) : PS X st t' := ⟨fun pins s σ H D I q => h.run pins s σ H D I (i _ _ _ q)⟩
theorem PSs.imp {X : Cx} {st : List Stmt} {t t' : TS} (h : PSs X st t) (i : ∀ D σ H, t' D σ H → t D σ H) : PSs X st t' := ⟨fun pins s σ H D I q => h.run pins s σ H D I (i _ _ _ q)⟩
section
variable {X : Cx} {ct : String → Option Addr} {K : PySem.W.Frag} {W : WX} {w : Wd} {m : Me} {H : Hp} {σ : L2.St} {D : Ends}
/-- an expression's part of a statement -/
theorem tE.so {f : Ev} {k : PV → Me → Out} {Q : VK} (S : SR K ct w m H σ) (h : RO K ct W w m H ((f m).so k) D)
    (g : ∀ x w1 m1 H1 v, SR K ct w1 m1 H1 σ → Ext w m H w1 m1 H1 → PVR K ct w1 m1 H1 σ x v → RO K ct W w1 m1 H1 (k x m1) D → Q v H1) : tE K ct W f σ H Q := by
  refine ⟨w, m, S, ?_⟩
  cases q : f m with
  | ok x m1 =>
    rw [q] at h
    intro w1 H1 S1 e1 v pv
    exact g x w1 m1 H1 v S1 e1 pv (h.ext e1)
  | ex x m1 =>
    rw [q] at h
    intro w1 H1 S1 e1 cls dx hx
    exact h w1 H1 σ cls dx S1 e1 hx
  | bad => rw [q] at h; exact h
theorem tT.so {f : Tv} {k : Bool → Me → Out} {Q : Bool → Hp → Prop} (S : SR K ct w m H σ) (h : RO K ct W w m H ((f m).so k) D)
    (g : ∀ x w1 m1 H1, SR K ct w1 m1 H1 σ → Ext w m H w1 m1 H1 → RO K ct W w1 m1 H1 (k x m1) D → Q x H1) : tT K ct W f σ H Q := by
  refine ⟨w, m, S, ?_⟩
  cases q : f m with
  | ok x m1 =>
    rw [q] at h
    intro w1 H1 S1 e1
    exact g x w1 m1 H1 S1 e1 (h.ext e1)
  | ex x m1 =>
    rw [q] at h
    intro w1 H1 S1 e1 cls dx hx
    exact h w1 H1 σ cls dx S1 e1 hx
  | bad => rw [q] at h; exact h
theorem tL.so {f : Lv} {k : List Mi.D → Me → Out} {Q : VK} (S : SR K ct w m H σ) (h : RO K ct W w m H ((f m).so k) D)
    (g : ∀ x w1 m1 H1 vs p, SR K ct w1 m1 H1 σ → Ext w m H w1 m1 H1 → RepL K ct w1 m1 H1 x vs → H1 p = none → RO K ct W w1 m1 H1 (k x m1) D → Q (.ref p) (upd H1 p (.lst vs))) : tL K ct W f σ H Q := by
  refine ⟨w, m, S, ?_⟩
  cases q : f m with
  | ok x m1 =>
    rw [q] at h
    intro w1 H1 S1 e1 vs p r hp
    exact g x w1 m1 H1 vs p S1 e1 r hp (h.ext e1)
  | ex x m1 =>
    rw [q] at h
    intro w1 H1 S1 e1 cls dx hx
    exact h w1 H1 σ cls dx S1 e1 hx
  | bad => rw [q] at h; exact h
theorem RO.nx (h : RO K ct W w m H (.nx m) D) (S : SR K ct w m H σ) : D.nx σ H := h w H σ S (Ext.refl ..)

theorem dss_nil : DSs X ct [] Mi.sNil := ⟨fun W tk => PSs.imp pss_nil fun D σ H ⟨w, m, S, h⟩ => RO.nx h S⟩
theorem seq_read {f g : Sv} (h : tS K ct W (Mi.sSeq f g) D σ H) : tSeq (tS K ct W f) (tS K ct W g) D σ H := by
  obtain ⟨w, m, S, h⟩ := h
  refine ⟨w, m, S, ?_⟩
  have h : RO K ct W w m H ((f m).seq g) D := h
  cases q : f m with
  | nx m' => rw [q] at h; exact fun w' H' σ' S' e => ⟨w', m', S', RO.ext e h⟩
  | bk m' => rw [q] at h; exact h
  | ct m' => rw [q] at h; exact h
  | rt d m' => rw [q] at h; exact h
  | ex x m' => rw [q] at h; exact h
  | bad => rw [q] at h; exact h
theorem dss_cons {st : Stmt} {rest : List Stmt} {f g : Sv} (h1 : DS X ct st f) (h2 : DSs X ct rest g) : DSs X ct (st :: rest) (Mi.sSeq f g) := ⟨fun W tk => PSs.imp (pss_cons (h1.run W tk) (h2.run W tk)) fun D σ H h => seq_read h⟩
theorem dss_one {st : Stmt} {f : Sv} (h1 : DS X ct st f) : DSs X ct [st] f := ⟨fun W tk => pss_one (h1.run W tk)⟩
theorem ds_pass {pos : Pos} : DS X ct (.Pass pos) Mi.sNil := ⟨fun W tk => PS.imp ps_pass fun D σ H ⟨w, m, S, h⟩ => RO.nx h S⟩
theorem ds_doc {x : Str} {j : Nat} {pos pos' : Pos} : DS X ct (.Expr (.Constant (.str x) j pos) pos') Mi.sNil := ⟨fun W tk => PS.imp ps_doc fun D σ H ⟨w, m, S, h⟩ => RO.nx h S⟩
theorem ds_break {pos : Pos} : DS X ct (.Break pos) Mi.sBk := ⟨fun W tk => PS.imp ps_break fun D σ H ⟨w, m, S, h⟩ => h w H σ S (Ext.refl ..)⟩
theorem ds_cont {pos : Pos} : DS X ct (.Continue pos) Mi.sCt := ⟨fun W tk => PS.imp ps_continue fun D σ H ⟨w, m, S, h⟩ => h w H σ S (Ext.refl ..)⟩
theorem ds_never {st : Stmt} : DS X ct st (fun _ => .bad) := ⟨fun W tk => PS.imp ps_never fun D σ H ⟨w, m, S, h⟩ => h⟩
theorem dss_never {st : List Stmt} : DSs X ct st (fun _ => .bad) := ⟨fun W tk => PSs.imp pss_never fun D σ H ⟨w, m, S, h⟩ => h⟩
theorem ds_ret {e : Expr} {pos : Pos} {f : Ev} (he : DE X ct e f) : DS X ct (.Return (some e) pos) (Mi.sRet f) := ⟨fun W tk => PS.imp (ps_ret (he.run W tk)) fun D σ H ⟨w, m, S, h⟩ => by
  refine tE.so S h fun x w1 m1 H1 v S1 e1 pv h1 => ?_
  split at h1
  · exact h1 w1 H1 σ v S1 (Ext.refl ..) pv
  · exact h1.elim⟩
theorem ds_retN {pos : Pos} : DS X ct (.Return none pos) Mi.sRetN := ⟨fun W tk => PS.imp ps_retN fun D σ H ⟨w, m, S, h⟩ => h w H σ .non S (Ext.refl ..) .non⟩
theorem ds_ex {e : Expr} {pos : Pos} {f : Ev} (he : DE X ct e f) (hs : swapsWith e none pos.line X.env = pure false := by rfl) : DS X ct (.Expr e pos) (Mi.sEx f) := ⟨fun W tk => PS.imp (ps_expr (he.run W tk) hs) fun D σ H ⟨w, m, S, h⟩ => by
  refine tE.so S h fun x w1 m1 H1 v S1 e1 pv h1 => ?_
  exact RO.nx h1 S1⟩
theorem ds_if {c : Expr} {a b : List Stmt} {pos : Pos} {t : Tv} {f g : Sv} (hc : DT X ct c t) (ha : DSs X ct a f) (hb : DSs X ct b g) : DS X ct (.If c a b pos) (Mi.sIf t f g) := ⟨fun W tk => PS.imp (ps_if (hc.run W tk) (ha.run W tk) (hb.run W tk)) fun D σ H ⟨w, m, S, h⟩ => by
  refine tT.so S h fun x w1 m1 H1 S1 e1 h1 => ?_
  cases x with
  | true => rw [if_pos rfl] at h1 ⊢; exact ⟨w1, m1, S1, h1⟩
  | false => rw [if_neg Bool.false_ne_true] at h1 ⊢; exact ⟨w1, m1, S1, h1⟩⟩
theorem ds_set {i : Nat} {x : Str} {e : Expr} {f : Ev} {pos pos' : Pos} (hN : X.N.Nodup) (hi : X.N[i]? = some x) (hx : Loc X.env.scope x) (he : DE X ct e f)
    (hs : swapsWith e (some (.Name x pos')) pos.line X.env = pure false := by rfl) (hf : X.fn x = true ∨ X.env.scope.names.lookup x = some .local := by first | exact .inl rfl | exact .inr rfl) : DS X ct (.Assign [.Name x pos'] e pos) (Mi.sSet i f) :=
  ⟨fun W tk => PS.imp (ps_set hN hi hx (he.run W tk) hs hf) fun D σ H ⟨w, m, S, h⟩ => by
    refine tE.so S h fun x w1 m1 H1 v S1 e1 pv h1 => ?_
    split at h1
    · split at h1
      · obtain ⟨S2, e2⟩ := SR.setV (σm := m1.σ) (S := m1.S) S1 (i := i) pv
        exact h1 w1 H1 _ S2 e2
      · exact h1.elim
    · exact h1.elim⟩
theorem ds_own {i : Nat} {x : Str} {e : Expr} {f : Lv} {pos pos' : Pos} (hN : X.N.Nodup) (hi : X.N[i]? = some x) (hx : Loc X.env.scope x) (he : DL X ct e f)
    (hs : swapsWith e (some (.Name x pos')) pos.line X.env = pure false := by rfl) (hf : X.fn x = true ∨ X.env.scope.names.lookup x = some .local := by first | exact .inl rfl | exact .inr rfl) : DS X ct (.Assign [.Name x pos'] e pos) (Mi.sOwn i f) :=
  ⟨fun W tk => PS.imp (ps_set hN hi hx (he.run W tk) hs hf) fun D σ H ⟨w, m, S, h⟩ => by
    refine tL.so S h fun x w1 m1 H1 vs p S1 e1 r hp h1 => ?_
    split at h1
    · obtain ⟨S2, e2⟩ := SR.setO (σm := m1.σ) (S := m1.S) S1 (i := i) (c := .lst x) hp (o := .lst vs) fun w' m' H' e' h' => ⟨vs, h', r.ext e'⟩
      exact h1 _ _ _ S2 e2
    · exact h1.elim⟩
theorem ds_ownD {i : Nat} {x : Str} {pos pos' p2 : Pos} (hN : X.N.Nodup) (hi : X.N[i]? = some x) (hx : Loc X.env.scope x)
    (hs : swapsWith (.Dict [] [] p2) (some (.Name x pos')) pos.line X.env = pure false := by rfl) (hf : X.fn x = true ∨ X.env.scope.names.lookup x = some .local := by first | exact .inl rfl | exact .inr rfl) : DS X ct (.Assign [.Name x pos'] (.Dict [] [] p2) pos) (Mi.sOwnD i) :=
  ⟨fun W tk => PS.imp (ps_set hN hi hx pe_dnewK hs hf) fun D σ H ⟨w, m, S, h⟩ => by
    intro p hp
    have h : RO X.K ct W w m H (if i < m.σ.length then .nx ⟨m.σ.set i (some (.o (.dct []))), m.S⟩ else .bad) D := h
    split at h
    · obtain ⟨S2, e2⟩ := SR.setO (σm := m.σ) (S := m.S) S (i := i) (c := .dct []) hp (o := .dK []) fun w' m' H' e' h' => ⟨[], h', .nil⟩
      exact h _ _ _ S2 e2
    · exact h.elim⟩
/-- the cell of slot i becomes a value -/
theorem de_frz (i : Nat) {x : Str} {pos : Pos} (h : PE X (.Name x pos) (tVar i)) : DE X ct (.Name x pos) (Mi.eFrz i) := ⟨fun W tk => PE.imp h fun σ H Q ⟨w, m, S, q⟩ => by
  unfold Mi.eFrz at q
  split at q
  · rename_i xs e1
    obtain ⟨a, h1, h2, h3, h4⟩ := S.frz (i := i) (c := .lst xs) (d := .lst xs) (by unfold Mi.Me.slot; rw [e1]) (.inl ⟨xs, rfl, rfl⟩)
    exact ⟨_, h1, RE.ok q h2 h3 _ h4⟩
  · rename_i xs e1
    obtain ⟨a, h1, h2, h3, h4⟩ := S.frz (i := i) (c := .dct xs) (d := .dct xs) (by unfold Mi.Me.slot; rw [e1]) (.inr ⟨xs, rfl, rfl⟩)
    exact ⟨_, h1, RE.ok q h2 h3 _ h4⟩
  · exact q.elim⟩
end
end So

set_option Elab.async false
set_option linter.all false
set_option maxRecDepth 100000
set_option maxHeartbeats 4000000
namespace So
open PySem PySem.Spec PyProof.Rows L2
open Mi (D Cl FV SC Me Xc Res PV Ky Ev Tv Av Lv Iv Ov Sv Bd Out Tx)

theorem SR.ls {K : PySem.W.Frag} {ct : String → Option Addr} {w : Wd} {m : Me} {H : Hp} {σ : L2.St} (S : SR K ct w m H σ) {x : PV} {v : V} {xs : List D} (r : PVR K ct w m H σ x v) (h : m.ls x = some xs) :
    ∃ a vs, v = .ref a ∧ SqL K H a vs ∧ RepL K ct w m H xs vs := by
  unfold Mi.Me.ls at h
  split at h
  · cases h
    cases r with
    | scr h1 h2 => exact ⟨_, _, rfl, sqL_of h1, h2⟩
  · split at h
    · rename_i q
      cases h
      obtain ⟨a, vs, e, h1, h2⟩ := S.lst r q
      exact ⟨a, vs, e, SqL.of h1, h2⟩
    · cases h
section
variable {X : Cx} {ct : String → Option Addr} {e a b c : Expr} {pos : Pos}
/-! ### more built-ins -/
theorem ok_sum : CallOk X ct Mi.aSum (rSum X.K) := by
  intro w m H σ xs vs d Q S r hg k
  unfold Mi.aSum at hg
  split at hg
  · cases r with
    | cons r t =>
      cases t
      obtain ⟨l, h1, rfl⟩ := opt_map hg
      obtain ⟨ys, h2, h3⟩ := opt_bind h1
      obtain ⟨p, us, rfl, h4, h5⟩ := S.ls r h2
      have e1 := ints_rep h5 h3
      subst e1
      exact ⟨p, l, rfl, h4, k _ H S (Ext.refl ..) (.int _)⟩
  · cases hg
theorem ok_any : CallOk X ct Mi.aAny (rAny X.K) := by
  intro w m H σ xs vs d Q S r hg k
  unfold Mi.aAny at hg
  split at hg
  · cases r with
    | cons r t =>
      cases t
      obtain ⟨l, h1, rfl⟩ := opt_map hg
      obtain ⟨ys, h2, h3⟩ := opt_bind h1
      obtain ⟨p, us, rfl, h4, h5⟩ := S.ls r h2
      have e1 := bls_rep h5 h3
      subst e1
      exact ⟨p, l, rfl, h4, k _ H S (Ext.refl ..) (.bl _)⟩
  · cases hg
theorem ok_all : CallOk X ct Mi.aAll (rAll X.K) := by
  intro w m H σ xs vs d Q S r hg k
  unfold Mi.aAll at hg
  split at hg
  · cases r with
    | cons r t =>
      cases t
      obtain ⟨l, h1, rfl⟩ := opt_map hg
      obtain ⟨ys, h2, h3⟩ := opt_bind h1
      obtain ⟨p, us, rfl, h4, h5⟩ := S.ls r h2
      have e1 := bls_rep h5 h3
      subst e1
      exact ⟨p, l, rfl, h4, k _ H S (Ext.refl ..) (.bl _)⟩
  · cases hg
/-- list(xs) -/
theorem dl_of {x : Str} {p : Pos} {es : List Expr} {fa : Av} (hg : Gl X x) (hm : X.mg x = none) (hv : bootBuiltins x = some (.type "list")) (ha : DA X ct (e :: es) fa) (hn : x ≠ "__name__" := by decide) (hdb : (x == ("__debug__" : Str)) = false := by decide)
    (he : starEach (e :: es) X.env = (false, eval e X.env) :: starEach es X.env := by rfl) (hpl : (backTo pos (starEach es X.env)).any (·.1) = false := by rfl) : DL X ct (.Call (.Name x p) (e :: es) [] pos) (Mi.lA Mi.aOf fa) :=
  ⟨fun W tk => PE.imp (pe_callTy call_list_of hg hm hv (ha.run W tk) hn hdb he hpl) fun σ H Q ⟨w, m, S, h⟩ => by
    refine tA.part (k := fun ps m1 => Res.opt (Mi.aOf ps m1) m1) S h fun ps w1 m1 H1 vs S1 e1 pv h1 => ?_
    cases q : Mi.aOf ps m1 with
    | none => rw [q] at h1; exact h1.elim
    | some ds =>
      rw [q] at h1
      unfold Mi.aOf at q
      split at q
      · cases pv with
        | cons r t =>
          cases t
          obtain ⟨l, us, rfl, h2, h3⟩ := S1.items r q
          exact ⟨l, us, rfl, h2, fun p hp => RE.ok h1 S1 (Ext.refl ..) us p h3 hp⟩
      · cases q⟩

/-! ### lists that change -/
def MutOk (X : Cx) (ct : String → Option Addr) (g : List D → List D → Option (D × List D)) (r : V → List V → Hp → VK → Prop) : Prop :=
  ∀ (w : Wd) (m : Me) (H : Hp) (l : Addr) (xs : List D) (vs : List V) (ds : List D) (us : List V) (d : D) (ys : List D) (Q : VK), H l = some (.lst vs) → RepL X.K ct w m H xs vs → RepL X.K ct w m H ds us → g xs ds = some (d, ys) →
    (∀ v' vs', RepD X.K ct w m H d v' → RepL X.K ct w m H ys vs' → Q v' (upd H l (.lst vs'))) → r (.ref l) us H Q
theorem mut_end {W : WX} {g : List D → List D → Option (D × List D)} {r : V → List V → Hp → VK → Prop} (hg : MutOk X ct g r) {w2 : Wd} {m2 : Me} {H2 : Hp} {σ : L2.St} {x : PV} {v : V} {ps : List PV} {us : List V} {P : PV → Wd → Me → Hp → Prop} {Q : VK}
    (S2 : SR X.K ct w2 m2 H2 σ) (pv2 : PVR X.K ct w2 m2 H2 σ x v) (pu : PVRs X.K ct w2 m2 H2 σ ps us)
    (h2 : RE X.K ct σ w2 m2 H2 (match m2.own x, PV.ds ps with
      | some (.lst xs), some ds => (match g xs ds with | some (d, ys) => Res.ok (.v d) (m2.put x (.lst ys)) | none => .bad)
      | _, _ => .bad) P (PxW X.K ct W σ)) (hP : ∀ x' w' m' H', P x' w' m' H' → ∀ v', PVR X.K ct w' m' H' σ x' v' → Q v' H') : r v us H2 Q := by
  split at h2
  · rename_i xs ds q1 q2
    split at h2
    · rename_i d ys q3
      obtain ⟨a, p, rfl, ⟨vs, g1, r1⟩, k⟩ := S2.put pv2 q1
      refine hg w2 m2 H2 a xs vs ds us d ys Q g1 r1 (ds_rep pu q2) q3 fun v' vs' rd rl => ?_
      obtain ⟨S3, e3⟩ := k (.lst ys) (.lst vs') fun w' m' H' q e' h' => ⟨vs', h', rl.ext e'⟩
      exact hP _ _ _ _ (RE.ok h2 S3 e3) _ (RepD.ext e3 rd)
    · exact h2.elim
  · exact h2.elim
theorem own_list {K : PySem.W.Frag} {w : Wd} {m : Me} {H : Hp} {σ : L2.St} (S : SR K ct w m H σ) {x : PV} {v : V} (r : PVR K ct w m H σ x v) (h : Mi.isL (m.own x) = true) : tyV K "list" v H := by
  unfold Mi.isL at h
  split at h
  · rename_i xs q
    obtain ⟨p, rfl, h1, ⟨vs, h2, _⟩, _⟩ := S.own r q
    exact .inl ⟨rfl, vs, SqL.of h2⟩
  · cases h
section
variable {name : Str} {apos cpos : Pos} {id : String} {es : List Expr} {r : V → List V → Hp → VK → Prop} {g : List D → List D → Option (D × List D)} {fo : Ev} {fa : Av}
theorem de_mut (slot : Slot "list" name id) (hty : typeOf (.builtin id) = pure (.type "method_descriptor")) (hm : MtR X id r) (hg : MutOk X ct g r) (ho : DE X ct a fo) (ha : DA X ct (e :: es) fa)
    (hbase : attributeBase a name X.env (eval a X.env) = eval a X.env := by rfl)
    (hfew : ((backTo cpos (starEach (e :: es) X.env)).all (fun x => !x.1) && (backToKw cpos (keywordEach [] X.env)).all (fun x => x.1.isSome)
      && decide ((e :: es).length + ([] : List Keyword).length + (if ([] : List Keyword).isEmpty then 0 else 1) < 30)) = true := by rfl)
    (hline : (apos.endLine == cpos.line) = true := by rfl) (hs : starEach (e :: es) X.env = (false, eval e X.env) :: starEach es X.env := by rfl) (hplain : (backTo cpos (starEach es X.env)).any (·.1) = false := by rfl) :
    DE X ct (.Call (.Attribute a name apos) (e :: es) [] cpos) (Mi.eMut g fo fa) :=
  ⟨fun W tk => PE.imp (pe_bm PySem.F.plainAttrs_list slot hty hm (ho.run W tk) (ha.run W tk) hbase hfew hline hs hplain) fun σ H Q ⟨w, m, S, h⟩ => by
    refine tE.part S h fun x w1 m1 H1 v S1 e1 pv h1 => ?_
    split at h1
    · rename_i hl
      refine ⟨own_list S1 pv hl, ?_⟩
      refine tA.part S1 h1 fun ps w2 m2 H2 us S2 e2 pu h2 => ?_
      exact mut_end hg S2 (pv.ext e2) pu h2 fun _ _ _ _ z => z
    · exact h1.elim⟩
theorem de_mut0 (slot : Slot "list" name id) (hty : typeOf (.builtin id) = pure (.type "method_descriptor")) (hm : MtR X id r) (hg : MutOk X ct g r) (ho : DE X ct a fo)
    (hbase : attributeBase a name X.env (eval a X.env) = eval a X.env := by rfl) (hline : (apos.endLine == cpos.line) = true := by rfl) :
    DE X ct (.Call (.Attribute a name apos) [] [] cpos) (Mi.eMut g fo Mi.aNil) :=
  ⟨fun W tk => PE.imp (pe_bm0 PySem.F.plainAttrs_list slot hty hm (ho.run W tk) hbase hline) fun σ H Q ⟨w, m, S, h⟩ => by
    refine tE.part S h fun x w1 m1 H1 v S1 e1 pv h1 => ?_
    split at h1
    · rename_i hl
      refine ⟨own_list S1 pv hl, ?_⟩
      have h2 := h1.bind
      have h2 := RE.ok h2 S1 (Ext.refl ..)
      exact mut_end hg S1 pv .nil h2 fun _ _ _ _ z => z
    · exact h1.elim⟩
end
theorem mo_app : MutOk X ct Mi.mApp rAppend := by
  intro w m H l xs vs ds us d ys Q h1 r1 r2 hg k
  unfold Mi.mApp at hg
  split at hg
  · split at hg
    · rename_i hl
      cases hg
      cases r2 with
      | cons r t =>
        cases t
        exact ⟨l, vs, _, rfl, rfl, h1, by rw [← r1.length, ← big_eq]; exact hl, k _ _ .non (r1.append (.cons r .nil))⟩
    · cases hg
  · cases hg
theorem mo_ext : MutOk X ct Mi.mExt rExtend := by
  intro w m H l xs vs ds us d ys Q h1 r1 r2 hg k
  unfold Mi.mExt at hg
  split at hg
  · split at hg
    · rename_i hl
      cases hg
      cases r2 with
      | cons r t =>
        cases t
        cases r with
        | lst n g r3 =>
          exact ⟨l, _, vs, _, rfl, rfl, h1, g.lst, by rw [← r1.length, ← r3.length, ← big_eq]; exact hl, k _ _ .non (r1.append r3)⟩
    · cases hg
  · cases hg
theorem RepL.dropLast {K : PySem.W.Frag} {w : Wd} {m : Me} {H : Hp} {xs : List D} {vs : List V} (r : RepL K ct w m H xs vs) : RepL K ct w m H xs.dropLast vs.dropLast := by
  rw [List.dropLast_eq_take, List.dropLast_eq_take, r.length]
  exact r.take _
theorem mo_pop : MutOk X ct Mi.mPop rPop := by
  intro w m H l xs vs ds us d ys Q h1 r1 r2 hg k
  unfold Mi.mPop at hg
  split at hg
  · obtain ⟨y, h2, h3⟩ := opt_map hg
    cases h3
    cases r2
    obtain ⟨v, h4, h5⟩ := r1.get h2
    exact ⟨l, vs, v, rfl, rfl, h1, by rw [← r1.length]; exact h4, k _ _ h5 r1.dropLast⟩
  · cases hg
theorem mo_clr : MutOk X ct Mi.mClr rClear := by
  intro w m H l xs vs ds us d ys Q h1 r1 r2 hg k
  unfold Mi.mClr at hg
  split at hg
  · cases hg
    cases r2
    exact ⟨l, vs, rfl, rfl, h1, k _ _ .non .nil⟩
  · cases hg
theorem de_app {apos cpos : Pos} {es : List Expr} {fo : Ev} {fa : Av} (ho : DE X ct a fo) (ha : DA X ct (e :: es) fa) (hbase : attributeBase a "append" X.env (eval a X.env) = eval a X.env := by rfl)
    (hfew : ((backTo cpos (starEach (e :: es) X.env)).all (fun x => !x.1) && (backToKw cpos (keywordEach [] X.env)).all (fun x => x.1.isSome)
      && decide ((e :: es).length + ([] : List Keyword).length + (if ([] : List Keyword).isEmpty then 0 else 1) < 30)) = true := by rfl)
    (hline : (apos.endLine == cpos.line) = true := by rfl) (hs : starEach (e :: es) X.env = (false, eval e X.env) :: starEach es X.env := by rfl) (hplain : (backTo cpos (starEach es X.env)).any (·.1) = false := by rfl) :
    DE X ct (.Call (.Attribute a "append" apos) (e :: es) [] cpos) (Mi.eMut Mi.mApp fo fa) := de_mut PySem.F.slot_list_append PySem.F.type_list_append mt_append mo_app ho ha hbase hfew hline hs hplain
theorem de_ext {apos cpos : Pos} {es : List Expr} {fo : Ev} {fa : Av} (ho : DE X ct a fo) (ha : DA X ct (e :: es) fa) (hbase : attributeBase a "extend" X.env (eval a X.env) = eval a X.env := by rfl)
    (hfew : ((backTo cpos (starEach (e :: es) X.env)).all (fun x => !x.1) && (backToKw cpos (keywordEach [] X.env)).all (fun x => x.1.isSome)
      && decide ((e :: es).length + ([] : List Keyword).length + (if ([] : List Keyword).isEmpty then 0 else 1) < 30)) = true := by rfl)
    (hline : (apos.endLine == cpos.line) = true := by rfl) (hs : starEach (e :: es) X.env = (false, eval e X.env) :: starEach es X.env := by rfl) (hplain : (backTo cpos (starEach es X.env)).any (·.1) = false := by rfl) :
    DE X ct (.Call (.Attribute a "extend" apos) (e :: es) [] cpos) (Mi.eMut Mi.mExt fo fa) := de_mut PySem.F.slot_list_extend PySem.F.type_list_extend mt_extend mo_ext ho ha hbase hfew hline hs hplain
theorem de_pop {apos cpos : Pos} {fo : Ev} (ho : DE X ct a fo) (hbase : attributeBase a "pop" X.env (eval a X.env) = eval a X.env := by rfl) (hline : (apos.endLine == cpos.line) = true := by rfl) :
    DE X ct (.Call (.Attribute a "pop" apos) [] [] cpos) (Mi.eMut Mi.mPop fo Mi.aNil) := de_mut0 PySem.F.slot_list_pop PySem.F.type_list_pop mt_pop mo_pop ho hbase hline
theorem de_clr {apos cpos : Pos} {fo : Ev} (ho : DE X ct a fo) (hbase : attributeBase a "clear" X.env (eval a X.env) = eval a X.env := by rfl) (hline : (apos.endLine == cpos.line) = true := by rfl) :
    DE X ct (.Call (.Attribute a "clear" apos) [] [] cpos) (Mi.eMut Mi.mClr fo Mi.aNil) := de_mut0 PySem.F.slot_list_clear PySem.F.type_list_clear mt_clear mo_clr ho hbase hline
/-! ### d[k] = e -/
theorem RepK.any {K : PySem.W.Frag} {w : Wd} {m : Me} {H : Hp} (k : Ky) : ∀ {xs : List (Ky × D)} {vs : List (Key × V)}, RepK K ct w m H xs vs → (vs.any fun kv => decide (kv.1 = kyR k)) = xs.any fun kv => decide (kv.1 = k)
  | _, _, .nil => rfl
  | _, _, .cons (k := j) r t => by
    rw [List.any_cons, List.any_cons, RepK.any k t]
    congr 1
    by_cases h : j = k
    · subst h; simp
    · rw [decide_eq_false (show ¬ (j, _).1 = k from h), decide_eq_false (show ¬ (kyR j, _).1 = kyR k from fun z => h (kyR_inj z))]
theorem RepK.app {K : PySem.W.Frag} {w : Wd} {m : Me} {H : Hp} {k : Ky} {d : D} {v : V} (r : RepD K ct w m H d v) : ∀ {xs : List (Ky × D)} {vs : List (Key × V)}, RepK K ct w m H xs vs → RepK K ct w m H (xs ++ [(k, d)]) (vs ++ [(kyR k, v)])
  | _, _, .nil => .cons r .nil
  | _, _, .cons q t => .cons q (RepK.app r t)
theorem RepK.rep {K : PySem.W.Frag} {w : Wd} {m : Me} {H : Hp} {k : Ky} {d : D} {v : V} (r : RepD K ct w m H d v) : ∀ {xs : List (Ky × D)} {vs : List (Key × V)}, RepK K ct w m H xs vs →
    RepK K ct w m H (xs.map fun kv => if kv.1 = k then (kv.1, d) else kv) (vs.map fun kv => if kv.1 = kyR k then (kv.1, v) else kv)
  | _, _, .nil => .nil
  | _, _, .cons (k := j) q t => by
    rw [List.map_cons, List.map_cons]
    by_cases h : j = k
    · subst h
      rw [if_pos rfl, if_pos rfl]
      exact .cons r (RepK.rep r t)
    · rw [if_neg (show ¬ (j, _).1 = k from h), if_neg (show ¬ (kyR j, _).1 = kyR k from fun z => h (kyR_inj z))]
      exact .cons q (RepK.rep r t)
theorem RepK.put {K : PySem.W.Frag} {w : Wd} {m : Me} {H : Hp} {k : Ky} {d : D} {v : V} (r : RepD K ct w m H d v) {xs : List (Ky × D)} {vs : List (Key × V)} (h : RepK K ct w m H xs vs) : RepK K ct w m H (Mi.putKv xs k d) (putK vs (kyR k) v) := by
  unfold Mi.putKv putK
  rw [h.any k]
  split
  · exact h.rep r
  · exact h.app r
theorem RepK.drop {K : PySem.W.Frag} {w : Wd} {m : Me} {H : Hp} {k : Ky} : ∀ {xs : List (Ky × D)} {vs : List (Key × V)}, RepK K ct w m H xs vs → RepK K ct w m H (Mi.dropKv xs k) (dropK vs (kyR k))
  | _, _, .nil => .nil
  | _, _, .cons (k := j) q t => by
    unfold Mi.dropKv dropK
    rw [List.filter_cons, List.filter_cons]
    by_cases h : j = k
    · subst h
      simp only [ne_eq, not_true_eq_false, decide_false, Bool.false_eq_true, if_false]
      exact RepK.drop t
    · have h' : ¬ kyR j = kyR k := fun z => h (kyR_inj z)
      simp only [ne_eq, h, h', not_false_eq_true, decide_true, if_true]
      exact .cons q (RepK.drop t)
theorem ds_put (hu : X.A.units + 1 < cLine) {pos' : Pos} {fo fi fe : Ev} (ho : DE X ct a fo) (hi : DE X ct b fi) (he : DE X ct e fe) (hs : swapsWith e (some (.Subscript a b pos')) pos.line X.env = pure false := by rfl) :
    DS X ct (.Assign [.Subscript a b pos'] e pos) (Mi.sPutK fo fi fe) :=
  ⟨fun W tk => PS.imp (ps_dput hu (ho.run W tk) (hi.run W tk) (he.run W tk) hs) fun D σ H ⟨w, m, S, h⟩ => by
    refine tE.so S h fun d w1 m1 H1 v S1 e1 pv h1 => ?_
    refine tE.so S1 h1 fun x w2 m2 H2 u S2 e2 pu h2 => ?_
    refine tE.so S2 h2 fun y w3 m3 H3 t S3 e3 pt h3 => ?_
    split at h3
    · rename_i kvs k d q1 q2
      split at h3
      · rename_i hl
        obtain ⟨l, p, rfl, ⟨vs, g1, r1⟩, k2⟩ := S3.put (pu.ext e3) q1
        have pv3 : RepD X.K ct w3 m3 H3 d v := (pv.ext e2).ext e3
        obtain ⟨S4, e4⟩ := k2 (.dct (Mi.putKv kvs k d)) (.dK (putK vs (kyR k) v)) fun w' m' H' q e' h' => ⟨_, h', (r1.ext e').put (RepD.ext e' pv3)⟩
        refine ⟨l, _, rfl, .inl ⟨vs, kyR k, g1, ky_rep pt q2, by rw [← r1.length, ← big_eq]; exact hl, rfl⟩, ?_⟩
        exact h3 _ _ _ S4 e4
      · exact h3.elim
    · exact h3.elim⟩
theorem ds_setIx {pos' : Pos} {fo fi fe : Ev} (ho : DE X ct a fo) (hi : DE X ct b fi) (he : DE X ct e fe) (h1 : swapsWithSole [.Subscript a b pos'] e pos.line X.env = pure false := by rfl) (h2 : swappedStores [.Subscript a b pos'] e X.env = pure none := by rfl)
    (hq : ∀ v, assign (.Subscript a b pos') X.env v = (do
      let ov ← holding [v] (eval a X.env)
      let iv ← holding [v, ov] (eval b X.env)
      standAt pos'
      holding [v, ov, iv] (setItem ov iv v)
      release [v, ov, iv] []) := by intro _; rfl) :
    DS X ct (.Assign [.Subscript a b pos'] e pos) (Mi.sSetIx fo fi fe) :=
  ⟨fun W tk => PS.imp (ps_asg (he.run W tk) (pg_sub (ho.run W tk) (hi.run W tk) set_list hq) h1 h2) fun D σ H ⟨w, m, S, h⟩ => by
    refine tE.so S h fun d w1 m1 H1 v S1 e1 pv h1 => ?_
    refine tE.so S1 h1 fun x w2 m2 H2 u S2 e2 pu h2 => ?_
    refine tE.so S2 h2 fun y w3 m3 H3 t S3 e3 pt h3 => ?_
    split at h3
    · rename_i xs k d q1
      split at h3
      · rename_i j hj
        obtain ⟨l, p, rfl, ⟨vs, g1, r1⟩, k2⟩ := S3.put (pu.ext e3) q1
        have pv3 : RepD X.K ct w3 m3 H3 d v := (pv.ext e2).ext e3
        obtain ⟨S4, e4⟩ := k2 (.lst (xs.set j d)) (.lst (vs.set j v)) fun w' m' H' q e' h' => ⟨_, h', (r1.ext e').set (RepD.ext e' pv3) j⟩
        cases pt
        exact ⟨l, vs, k, j, rfl, rfl, g1, by rw [← r1.length]; exact hj, h3 _ _ _ S4 e4⟩
      · exact h3.elim
    · exact h3.elim⟩
end
end So

set_option Elab.async false
set_option linter.all false
set_option maxRecDepth 100000
set_option maxHeartbeats 4000000
namespace So
open PySem PySem.Spec PyProof.Rows L2
open Mi (D Cl FV SC Me Xc Res PV Ky Ev Tv Av Lv Iv Ov Sv Bd Out Tx)

/-! ### what a loop's item is given to -/
section
variable (K : PySem.W.Frag) (ct : String → Option Addr)
def tG (b : Bd) : TG := fun v σ H Q => ∃ w m d σ1, SR K ct w m H σ ∧ RepD K ct w m H d v ∧ b.set d m.σ = some σ1 ∧
  ∀ σ', SR K ct w ⟨σ1, m.S⟩ H σ' → Ext w m H w ⟨σ1, m.S⟩ H → (∀ j, j ∉ b.ix → σ'[j]? = σ[j]?) → σ'.length = σ.length → Q σ' H
def tGs (is : List Nat) : TGs := fun vs σ H Q => ∃ w m ds σ1, SR K ct w m H σ ∧ RepL K ct w m H ds vs ∧ Mi.bTs is ds m.σ = some σ1 ∧
  ∀ σ', SR K ct w ⟨σ1, m.S⟩ H σ' → Ext w m H w ⟨σ1, m.S⟩ H → (∀ j, j ∉ is → σ'[j]? = σ[j]?) → σ'.length = σ.length → Q σ' H
end
structure DG (X : Cx) (ct : String → Option Addr) (tg : Expr) (b : Bd) : Prop where
  run : PG X tg (tG X.K ct b)
structure DGs (X : Cx) (ct : String → Option Addr) (tg : List Expr) (is : List Nat) : Prop where
  run : PGs X tg (tGs X.K ct is)
theorem PG.imp {X : Cx} {tg : Expr} {t t' : TG} (h : PG X tg t) (i : ∀ v σ H Q, t' v σ H Q → t v σ H Q) : PG X tg t' := ⟨fun pins s σ H v u Q I r q => h.run pins s σ H v u Q I r (i _ _ _ _ q)⟩
theorem PGs.imp {X : Cx} {tg : List Expr} {t t' : TGs} (h : PGs X tg t) (i : ∀ v σ H Q, t' v σ H Q → t v σ H Q) : PGs X tg t' := ⟨fun pins s σ H v u Q I r q => h.run pins s σ H v u Q I r (i _ _ _ _ q)⟩
section
variable {X : Cx} {ct : String → Option Addr}
theorem dg_n {i : Nat} {x : Str} {pos : Pos} (hN : X.N.Nodup) (hi : X.N[i]? = some x) (hx : Loc X.env.scope x) (hf : X.fn x = true ∨ X.env.scope.names.lookup x = some .local := by first | exact .inl rfl | exact .inr rfl) : DG X ct (.Name x pos) (.n i) :=
  ⟨PG.imp (pg_name hN hi hx hf) fun v σ H Q ⟨w, m, d, σ1, S, r, hs, k⟩ => by
    have hs : (if i < m.σ.length then some (m.σ.set i (some (.v d))) else none) = some σ1 := hs
    split at hs
    · cases hs
      obtain ⟨S2, e2⟩ := SR.setV (σm := m.σ) (S := m.S) S (i := i) r
      exact k _ S2 e2 (fun j hj => List.getElem?_set_ne fun z => hj (by rw [z]; exact List.mem_cons_self)) (List.length_set ..)
    · cases hs⟩
theorem dgs_nil : DGs X ct [] [] := ⟨PGs.imp pgs_nil fun v σ H Q ⟨w, m, ds, σ1, S, r, hs, k⟩ => by
  cases r with
  | nil =>
    have hs : some m.σ = some σ1 := hs
    cases hs
    exact ⟨rfl, k σ S (Ext.refl ..) (fun _ _ => rfl) rfl⟩
  | cons _ _ => cases hs⟩
theorem dgs_cons {i : Nat} {is : List Nat} {x : Str} {pos : Pos} {es : List Expr} (hN : X.N.Nodup) (hi : X.N[i]? = some x) (hx : Loc X.env.scope x) (h2 : DGs X ct es is)
    (hs : (assignEach (.Name x pos :: es) X.env).map (·.2) = assign (.Name x pos) X.env :: (assignEach es X.env).map (·.2) := by rfl) (hf : X.fn x = true ∨ X.env.scope.names.lookup x = some .local := by first | exact .inl rfl | exact .inr rfl) : DGs X ct (.Name x pos :: es) (i :: is) :=
  ⟨PGs.imp (pgs_cons (pg_name hN hi hx hf) h2.run hs) fun v σ H Q ⟨w, m, ds, σ1, S, r, hs, k⟩ => by
    cases r with
    | nil => cases hs
    | @cons d v ds vs r t =>
      have hs : (if i < m.σ.length then Mi.bTs is ds (m.σ.set i (some (.v d))) else none) = some σ1 := hs
      split at hs
      · obtain ⟨S2, e2⟩ := SR.setV (σm := m.σ) (S := m.S) S (i := i) r
        refine ⟨v, vs, rfl, w, _, ds, σ1, S2, t.ext e2, hs, fun σ' S3 e3 hj hl => ?_⟩
        refine k σ' S3 (e2.trans e3) (fun j hj' => ?_) (hl.trans (List.length_set ..))
        rw [List.mem_cons, not_or] at hj'
        rw [hj j hj'.2]
        exact List.getElem?_set_ne fun z => hj'.1 z.symm
      · cases hs⟩
theorem dg_t {is : List Nat} {es : List Expr} {k : Nat} {pos : Pos} (hc : X.calm = true) (h : DGs X ct es is) (hn : (assignEach es X.env).length = is.length := by rfl) (hst : (assignEach es X.env).findIdx? (·.1) = none := by rfl) : DG X ct (.Tuple es k pos) (.t is) :=
  ⟨PG.imp (pg_tup hc h.run hn hst) fun v σ H Q ⟨w, m, d, σ1, S, r, hs, k⟩ => by
    cases d with
    | tup ds =>
      cases r with
      | @tup a _ vs n g r =>
        have hs : Mi.bTs is ds m.σ = some σ1 := hs
        have hl : ∀ (is : List Nat) (ds : List D) (σm : Mi.Env), Mi.bTs is ds σm = some σ1 → ds.length = is.length := by
          intro is
          induction is with
          | nil => intro ds σm h; cases ds <;> first | rfl | cases h
          | cons i is ih =>
            intro ds σm h
            cases ds with
            | nil => cases h
            | cons d ds =>
              have h : (if i < σm.length then Mi.bTs is ds (σm.set i (some (.v d))) else none) = some σ1 := h
              split at h
              · rw [List.length_cons, List.length_cons, ih _ _ h]
              · cases h
        exact ⟨a, vs, rfl, SqT.of g.tup, by rw [← r.length]; exact hl _ _ _ hs, w, m, ds, σ1, S, r, hs, k⟩
    | _ => cases hs⟩
/-- a, b = e -/
theorem ds_bd {tg e : Expr} {pos : Pos} {b : Bd} {f : Ev} (he : DE X ct e f) (hg : DG X ct tg b) (h1 : swapsWithSole [tg] e pos.line X.env = pure false := by rfl) (h2 : swappedStores [tg] e X.env = pure none := by rfl) (h3 : (assignEach [tg] X.env).map (·.2) = [assign tg X.env] := by rfl) : DS X ct (.Assign [tg] e pos) (Mi.sBd b f) :=
  ⟨fun W tk => PS.imp (ps_asg (he.run W tk) hg.run h1 h2 h3) fun D σ H ⟨w, m, S, h⟩ => by
    refine tE.so S h fun x w1 m1 H1 v S1 e1 pv h1 => ?_
    split at h1
    · split at h1
      · rename_i σ1 q
        exact ⟨w1, m1, _, σ1, S1, pv, q, fun σ' S2 e2 _ _ => h1 w1 H1 σ' S2 e2⟩
      · exact h1.elim
    · exact h1.elim⟩
end

/-! ### what is walked -/
/-- J gives the items xs -/
def Deliv (K : PySem.W.Frag) (ct : String → Option Addr) (w : Wd) (m : Me) (H : Hp) (J : It) (xs : List D) : Prop :=
  ∀ (i : Nat) w1 m1 H1, MRel K ct w1 m1 H1 → Ext w m H w1 m1 H1 →
    (∀ d, xs[i]? = some d → J.go i H1 ∧ ∀ v H2, J.yld i H1 v H2 → RepD K ct w1 m1 H2 d v ∧ (H2 = H1 ∨ ∃ p o, H1 p = none ∧ H2 = upd H1 p o)) ∧ (xs.length ≤ i → J.stop i H1)
def tI (K : PySem.W.Frag) (ct : String → Option Addr) (W : WX) (f : Iv) : TI := fun σ H R => ∃ w m, SR K ct w m H σ ∧ RE K ct σ w m H (f m) (fun xs w' m' H' => ∀ J, Deliv K ct w' m' H' J xs → R J H') (PxW K ct W σ)
structure DI (X : Cx) (ct : String → Option Addr) (tg iter : Expr) (f : Iv) : Prop where
  run : ∀ W, L2.Takes X W → PI X tg iter (tI X.K ct W f)
theorem PI.imp {X : Cx} {tg e : Expr} {t t' : TI} (h : PI X tg e t) (i : ∀ σ H Q, t' σ H Q → t σ H Q) : PI X tg e t' := ⟨fun pins s σ H Q I q => h.run pins s σ H Q I (i _ _ _ q)⟩
section
variable {X : Cx} {ct : String → Option Addr} {tg e a b : Expr} {pos : Pos} {K : PySem.W.Frag} {w : Wd} {m : Me} {H : Hp}
/-- a list value stays -/
theorem list_at {a : Addr} {xs : List D} (h : RepD K ct w m H (.lst xs) (.ref a) ∨ RepD K ct w m H (.scr xs) (.ref a)) {w1 : Wd} {m1 : Me} {H1 : Hp} (e1 : Ext w m H w1 m1 H1) : ∃ vs, SqL K H1 a vs ∧ RepL K ct w1 m1 H1 xs vs := by
  rcases h with h | h
  · cases RepD.ext e1 h with
    | lst n g r => exact ⟨_, SqL.of g.lst, r⟩
  · cases RepD.ext e1 h with
    | scr g r => exact ⟨_, sqL_of g, r⟩
theorem deliv_lst {a : Addr} {xs : List D} (h : RepD K ct w m H (.lst xs) (.ref a) ∨ RepD K ct w m H (.scr xs) (.ref a)) : Deliv K ct w m H (Itl K a) xs := by
  intro i w1 m1 H1 _ e1
  obtain ⟨vs, h2, h3⟩ := list_at h e1
  refine ⟨fun d hd => ?_, fun hl => ⟨vs, h2, by rw [← h3.length]; exact hl⟩⟩
  obtain ⟨v, h4, h5⟩ := h3.get hd
  refine ⟨⟨vs, v, h2, h4⟩, fun u H2 ⟨q1, q2⟩ => ⟨?_, .inl q1⟩⟩
  subst q1
  have := q2 vs h2
  rw [h4] at this
  cases this
  exact h5
theorem di_lst {f : Ev} (he : DE X ct e f) : DI X ct tg e (Mi.iLst f) := ⟨fun W tk => PI.imp (pi_list (he.run W tk)) fun σ H R ⟨w, m, S, h⟩ => by
  refine tE.part S h fun x w1 m1 H1 v S1 e1 pv h1 => ?_
  split at h1
  · cases pv with
    | @lst a _ vs n g r => exact ⟨a, rfl, ⟨vs, SqL.of g.lst⟩, RE.ok h1 S1 (Ext.refl ..) _ (deliv_lst (.inl (.lst n g r)))⟩
  · cases pv with
    | @scr a _ vs g r => exact ⟨a, rfl, ⟨vs, sqL_of g⟩, RE.ok h1 S1 (Ext.refl ..) _ (deliv_lst (.inr (.scr g r)))⟩
  · exact h1.elim⟩
theorem di_tup {f : Ev} (he : DE X ct e f) : DI X ct tg e (Mi.iTup f) := ⟨fun W tk => PI.imp (pi_tup (he.run W tk)) fun σ H R ⟨w, m, S, h⟩ => by
  refine tE.part S h fun x w1 m1 H1 v S1 e1 pv h1 => ?_
  split at h1
  · cases pv with
    | @tup a _ vs n g r =>
      refine ⟨a, rfl, ⟨vs, SqT.of g.tup⟩, RE.ok h1 S1 (Ext.refl ..) _ ?_⟩
      intro i w2 m2 H2 _ e2
      have g2 : SqT X.K H2 a vs := SqT.of (e2.nd n g).2.tup
      have r2 := r.ext e2
      refine ⟨fun d hd => ?_, fun hl => ⟨vs, g2, by rw [← r2.length]; exact hl⟩⟩
      obtain ⟨v, h4, h5⟩ := r2.get hd
      refine ⟨⟨vs, v, g2, h4⟩, fun u H3 ⟨q1, q2⟩ => ⟨?_, .inl q1⟩⟩
      subst q1
      have := q2 vs g2
      rw [h4] at this
      cases this
      exact h5
  · exact h1.elim⟩
theorem ints_get {lo : Int} {n i : Nat} : (Mi.intsL lo n)[i]? = if i < n then some (.int (lo + i)) else none := by
  unfold Mi.intsL
  rw [List.getElem?_map]
  by_cases h : i < n
  · rw [if_pos h, List.getElem?_range h]; rfl
  · rw [if_neg h, List.getElem?_eq_none (by simpa using h)]; rfl
theorem ints_len {lo : Int} {n : Nat} : (Mi.intsL lo n).length = n := by unfold Mi.intsL; simp
theorem deliv_rng {lo : Int} {n : Nat} : Deliv K ct w m H (Itr lo n) (Mi.intsL lo n) := by
  intro i w1 m1 H1 _ e1
  refine ⟨fun d hd => ?_, fun hl => by rw [ints_len] at hl; exact hl⟩
  rw [ints_get] at hd
  split at hd
  · rename_i hi
    cases hd
    refine ⟨hi, fun v H2 ⟨q1, q2⟩ => ⟨?_, .inl q1⟩⟩
    subst q1; subst q2
    exact .int _
  · cases hd
theorem in62_ok {i : Int} (h : Mi.in62 i = true) : -(2 ^ 62) ≤ i ∧ i < 2 ^ 62 := by
  have h := of_decide_eq_true (show decide (-Mi.lim62 ≤ i ∧ i < Mi.lim62) = true from h)
  rwa [Mi.lim62_is] at h
theorem di_rg1 {p : Pos} {f : Ev} (hg : Gl X "range") (hm : X.mg "range" = none) (ha : DA X ct [a] (Mi.aCons f Mi.aNil)) (hs : starEach [a] X.env = [(false, eval a X.env)] := by rfl) : DI X ct tg (.Call (.Name "range" p) [a] [] pos) (Mi.iRg1 f) :=
  ⟨fun W tk => PI.imp (pi_range1 hg hm (ha.run W tk) hs) fun σ H R ⟨w, m, S, h⟩ => by
    refine ⟨w, m, S, ?_⟩
    have h2 := h.bind
    show RE X.K ct σ w m H ((f m).bind fun x m1 => Res.ok [x] m1) _ _
    cases q : f m with
    | ok x m1 =>
      rw [q] at h2
      intro w1 H1 S1 e1 vs pv
      have h3 := h2 w1 H1 S1 e1
      dsimp only at h3
      cases pv with
      | cons pv t =>
        cases t
        split at h3
        · split at h3
          · rename_i hj
            cases pv
            exact ⟨_, rfl, (in62_ok hj).1, (in62_ok hj).2, RE.ok h3 S1 (Ext.refl ..) _ deliv_rng⟩
          · exact h3.elim
        · exact h3.elim
    | ex x m1 => rw [q] at h2; exact h2
    | bad => rw [q] at h2; exact h2⟩
theorem di_rg2 {p : Pos} {f g : Ev} (hg : Gl X "range") (hm : X.mg "range" = none) (ha : DA X ct [a, b] (Mi.aCons f (Mi.aCons g Mi.aNil))) (hs : starEach [a, b] X.env = [(false, eval a X.env), (false, eval b X.env)] := by rfl) (hs2 : starEach [b] X.env = [(false, eval b X.env)] := by rfl) : DI X ct tg (.Call (.Name "range" p) [a, b] [] pos) (Mi.iRg2 f g) :=
  ⟨fun W tk => PI.imp (pi_range2 hg hm (ha.run W tk) hs hs2) fun σ H R ⟨w, m, S, h⟩ => by
    have h : RE X.K ct σ w m H ((f m).bind fun x m1 => (g m1).bind fun y m2 => match x, y with
      | .v (.int i), .v (.int j) => if Mi.in62 i && Mi.in62 j then Res.ok (Mi.intsL i (j - i).toNat) m2 else .bad
      | _, _ => .bad) _ _ := h
    refine ⟨w, m, S, ?_⟩
    show RE X.K ct σ w m H ((f m).bind fun x m1 => ((g m1).bind fun y m2 => Res.ok [y] m2).bind fun xs m2 => .ok (x :: xs) m2) _ _
    cases q : f m with
    | ok x m1 =>
      rw [q] at h
      show RE X.K ct σ w m H (((g m1).bind fun y m2 => Res.ok [y] m2).bind fun xs m2 => .ok (x :: xs) m2) _ _
      have h : RE X.K ct σ w m H ((g m1).bind fun y m2 => match x, y with
        | .v (.int i), .v (.int j) => if Mi.in62 i && Mi.in62 j then Res.ok (Mi.intsL i (j - i).toNat) m2 else .bad
        | _, _ => .bad) _ _ := h
      cases q2 : g m1 with
      | ok y m2 =>
        rw [q2] at h
        intro w1 H1 S1 e1 vs pv
        cases pv with
        | cons pv t =>
          cases t with
          | cons pu t =>
            cases t
            have h : RE X.K ct σ w m H (match x, y with
              | .v (.int i), .v (.int j) => if Mi.in62 i && Mi.in62 j then Res.ok (Mi.intsL i (j - i).toNat) m2 else .bad
              | _, _ => .bad) _ _ := h
            split at h
            · split at h
              · rename_i hj
                rw [Bool.and_eq_true] at hj
                cases pv; cases pu
                exact ⟨_, _, rfl, ⟨(in62_ok hj.1).1, (in62_ok hj.1).2, (in62_ok hj.2).1, (in62_ok hj.2).2⟩, RE.ok h S1 e1 _ deliv_rng⟩
              · exact h.elim
            · exact h.elim
      | ex x m1 => rw [q2] at h; exact h
      | bad => rw [q2] at h; exact h
    | ex x m1 => rw [q] at h; exact h
    | bad => rw [q] at h; exact h⟩
theorem di_str {f : Ev} (he : DE X ct e f) : DI X ct tg e (Mi.iStr f) := ⟨fun W tk => PI.imp (pi_str (he.run W tk)) fun σ H R ⟨w, m, S, h⟩ => by
  refine tE.part S h fun x w1 m1 H1 v S1 e1 pv h1 => ?_
  split at h1
  · rename_i z
    cases pv
    refine ⟨_, rfl, RE.ok h1 S1 (Ext.refl ..) _ ?_⟩
    intro i w2 m2 H2 _ e2
    refine ⟨fun d hd => ?_, fun hl => by show z.toArray.size ≤ i; simpa using hl⟩
    rw [List.getElem?_map] at hd
    obtain ⟨c, hc, rfl⟩ := opt_map hd
    refine ⟨by show i < z.toArray.size; simpa using (List.getElem?_eq_some_iff.mp hc).1, fun v H3 ⟨q1, c', q2, q3⟩ => ⟨?_, .inl q1⟩⟩
    subst q1; subst q3
    have q2 : z.toArray[i]? = some c' := q2
    rw [List.getElem?_toArray, hc] at q2
    cases q2
    exact .str [c]
  · exact h1.elim⟩
theorem enum_get {xs : List D} {i : Nat} : (Mi.enum xs)[i]? = (xs[i]?).map fun d => .tup [.int (i : Nat), d] := by
  unfold Mi.enum
  rw [List.getElem?_map, List.getElem?_zipIdx]
  cases xs[i]? with
  | none => rfl
  | some d => simp
theorem di_enum {p tpos : Pos} {elts : List Expr} {kk : Nat} {f : Ev} (hg : Gl X "enumerate") (hm : X.mg "enumerate" = none) (ha : DA X ct [e] (Mi.aCons f Mi.aNil)) (hs : starEach [e] X.env = [(false, eval e X.env)] := by rfl) :
    DI X ct (.Tuple elts kk tpos) (.Call (.Name "enumerate" p) [e] [] pos) (Mi.iEnum f) :=
  ⟨fun W tk => PI.imp (pi_enum hg hm (ha.run W tk) hs) fun σ H R ⟨w, m, S, h⟩ => by
    refine ⟨w, m, S, ?_⟩
    have h2 := h.bind
    show RE X.K ct σ w m H ((f m).bind fun x m1 => Res.ok [x] m1) _ _
    cases q : f m with
    | ok x m1 =>
      rw [q] at h2
      intro w1 H1 S1 e1 vs pv
      have h3 := h2 w1 H1 S1 e1
      dsimp only at h3
      cases pv with
      | cons pv t =>
        cases t
        split at h3
        · rename_i xs
          cases pv with
          | @lst l _ us n g r =>
            refine ⟨l, us, rfl, SqL.of g.lst, RE.ok h3 S1 (Ext.refl ..) _ ?_⟩
            intro i w2 m2 H2 M2 e2
            obtain ⟨ws, g2, r2⟩ := list_at (.inl (.lst n g r)) e2
            refine ⟨fun d hd => ?_, fun hl => ⟨ws, g2, ?_⟩⟩
            · rw [enum_get] at hd
              obtain ⟨c, hc, rfl⟩ := opt_map hd
              obtain ⟨v, h4, h5⟩ := r2.get hc
              refine ⟨⟨ws, v, g2, h4⟩, fun u H3 ⟨T, y, q1, q2, q3, q4⟩ => ?_⟩
              subst q1; subst q3
              have := q4 ws g2
              rw [h4] at this
              cases this
              exact ⟨.tup (M2.notBad q2) (nd_same rfl) (.cons (.int _) (.cons (RepD.ext (Ext.fresh q2) h5) .nil)), .inr ⟨T, _, q2, rfl⟩⟩
            · rw [← r2.length]; unfold Mi.enum at hl; simpa using hl
        · exact h3.elim
    | ex x m1 => rw [q] at h2; exact h2
    | bad => rw [q] at h2; exact h2⟩

/-! ### loops -/
theorem SR.step {σ : L2.St} {H2 : Hp} (S : SR K ct w m H σ) (h : H2 = H ∨ ∃ p o, H p = none ∧ H2 = upd H p o) : SR K ct w m H2 σ ∧ Ext w m H w m H2 := by
  rcases h with rfl | ⟨p, o, hp, rfl⟩
  · exact ⟨S, Ext.refl ..⟩
  · exact ⟨S.fresh hp, Ext.fresh hp⟩
theorem ds_for {iter : Expr} {body : List Stmt} {b : Bd} {it : Iv} {f : Sv} (hp : PassesOwn (model X.prog X.w) X.A X.env X.xe) (hc : X.calm = true) (hi : DI X ct tg iter it) (hg : DG X ct tg b) (hb : DSs X ct body f)
    (hs : ∀ x, foldedSetIterable iter X.env x = pure x := by intro _; rfl) : DS X ct (.For tg iter body [] pos) (Mi.sFor b it f) :=
  ⟨fun W tk => PS.imp (ps_for hp hc (hi.run W tk) hg.run (hb.run W tk) hs) fun D σ H ⟨w, m, S, h⟩ => by
    have h : RO X.K ct W w m H ((it m).so fun xs m1 => Mi.forL b f xs m1) D := h
    refine ⟨w, m, S, ?_⟩
    cases q : it m with
    | bad => rw [q] at h; exact h
    | ex x m1 => rw [q] at h; exact fun w1 H1 S1 e1 cls dx hx => h w1 H1 σ cls dx S1 e1 hx
    | ok xs m1 =>
      rw [q] at h
      intro w1 H1 S1 e1 J hJ
      refine ⟨fun i n σ' H' => ∃ w2 m2, SR X.K ct w2 m2 H' σ' ∧ Ext w1 m1 H1 w2 m2 H' ∧ n = xs.length - i ∧ RO X.K ct W w2 m2 H' (Mi.forL b f (xs.drop i) m2) D, ⟨_, w1, m1, S1, Ext.refl .., rfl, RO.ext e1 h⟩, ?_⟩
      rintro i n σ' H' ⟨w2, m2, S2, e2, rfl, h2⟩
      obtain ⟨j1, j2⟩ := hJ i w2 m2 H' S2.M e2
      cases hx : xs[i]? with
      | none =>
        have hl : xs.length ≤ i := List.getElem?_eq_none_iff.mp hx
        refine .inl ⟨j2 hl, ?_⟩
        rw [List.drop_eq_nil_of_le hl] at h2
        exact RO.nx h2 S2
      | some d =>
        obtain ⟨hl, hd⟩ := List.getElem?_eq_some_iff.mp hx
        obtain ⟨j3, j4⟩ := j1 d hx
        rw [List.drop_eq_getElem_cons hl, hd] at h2
        have h2 : RO X.K ct W w2 m2 H' (match b.set d m2.σ with
          | none => .bad
          | some σ1 => match f ⟨σ1, m2.S⟩ with
            | .nx m2 => Mi.forL b f (xs.drop (i + 1)) m2
            | .ct m2 => Mi.forL b f (xs.drop (i + 1)) m2
            | .bk m2 => .nx m2
            | o => o) D := h2
        refine .inr ⟨j3, fun σ'' H'' => ∃ w3 m3, SR X.K ct w3 m3 H'' σ'' ∧ Ext w1 m1 H1 w3 m3 H'' ∧ RO X.K ct W w3 m3 H'' (Mi.forL b f (xs.drop (i + 1)) m3) D, fun σ'' H'' ⟨w3, m3, a1, a2, a3⟩ => ⟨xs.length - (i + 1), by omega, w3, m3, a1, a2, rfl, a3⟩, fun v H3 hy => ?_⟩
        obtain ⟨r, hH⟩ := j4 v H3 hy
        obtain ⟨S3, e3⟩ := S2.step hH
        have h3 := RO.ext e3 h2
        split at h3
        · exact h3.elim
        · rename_i σ1 hσ
          refine ⟨w2, m2, d, σ1, S3, r, hσ, fun σ4 S4 e4 _ _ => ⟨w2, _, S4, ?_⟩⟩
          have h4 := RO.ext e4 h3
          have e14 := (e2.trans e3).trans e4
          cases hf : f ⟨σ1, m2.S⟩ with
          | nx m5 => rw [hf] at h4; exact fun w5 H5 σ5 S5 e5 => ⟨w5, m5, S5, e14.trans e5, RO.ext e5 h4⟩
          | ct m5 => rw [hf] at h4; exact fun w5 H5 σ5 S5 e5 => ⟨w5, m5, S5, e14.trans e5, RO.ext e5 h4⟩
          | bk m5 => rw [hf] at h4; exact fun w5 H5 σ5 S5 e5 => h4 w5 H5 σ5 S5 e5
          | rt d5 m5 => rw [hf] at h4; exact h4
          | ex x5 m5 => rw [hf] at h4; exact h4
          | bad => rw [hf] at h4; exact h4⟩
theorem ds_while {c : Expr} {body : List Stmt} {t : Tv} {f : Sv} (hp : PassesOwn (model X.prog X.w) X.A X.env X.xe) (hc : DT X ct c t) (hb : DSs X ct body f) : DS X ct (.While c body [] pos) (Mi.sWhile t f) :=
  ⟨fun W tk => PS.imp (ps_while hp (hc.run W tk) (hb.run W tk)) fun D σ H ⟨w, m, S, h⟩ => by
    refine ⟨fun n σ' H' => ∃ w2 m2, SR X.K ct w2 m2 H' σ' ∧ RO X.K ct W w2 m2 H' (Mi.whileN t f n m2) D, ⟨_, w, m, S, h⟩, ?_⟩
    rintro n σ' H' ⟨w2, m2, S2, h2⟩
    cases n with
    | zero => exact h2.elim
    | succ n =>
      refine ⟨w2, m2, S2, ?_⟩
      have h2 : RO X.K ct W w2 m2 H' (match t m2 with
        | .ok true m1 => (match f m1 with
          | .nx m2 => Mi.whileN t f n m2
          | .ct m2 => Mi.whileN t f n m2
          | .bk m2 => .nx m2
          | o => o)
        | .ok false m1 => .nx m1
        | .ex x m1 => .ex x m1
        | .bad => .bad) D := h2
      cases q : t m2 with
      | bad => rw [q] at h2; exact h2
      | ex x m1 => rw [q] at h2; exact fun w1 H1 S1 e1 cls dx hx => h2 w1 H1 σ' cls dx S1 e1 hx
      | ok k m1 =>
        rw [q] at h2
        intro w3 H3 S3 e3
        cases k with
        | false => rw [if_neg Bool.false_ne_true]; exact h2 w3 H3 σ' S3 e3
        | true =>
          rw [if_pos rfl]
          have h3 := RO.ext e3 h2
          refine ⟨fun σ'' H'' => ∃ w4 m4, SR X.K ct w4 m4 H'' σ'' ∧ RO X.K ct W w4 m4 H'' (Mi.whileN t f n m4) D, fun σ'' H'' z => ⟨n, Nat.lt_succ_self n, z⟩, w3, m1, S3, ?_⟩
          have h3 : RO X.K ct W w3 m1 H3 (match f m1 with
            | .nx m2 => Mi.whileN t f n m2
            | .ct m2 => Mi.whileN t f n m2
            | .bk m2 => .nx m2
            | o => o) D := h3
          cases hf : f m1 with
          | nx m5 => rw [hf] at h3; exact fun w5 H5 σ5 S5 e5 => ⟨w5, m5, S5, RO.ext e5 h3⟩
          | ct m5 => rw [hf] at h3; exact fun w5 H5 σ5 S5 e5 => ⟨w5, m5, S5, RO.ext e5 h3⟩
          | bk m5 => rw [hf] at h3; exact fun w5 H5 σ5 S5 e5 => h3 w5 H5 σ5 S5 e5
          | rt d5 m5 => rw [hf] at h3; exact h3
          | ex x5 m5 => rw [hf] at h3; exact h3
          | bad => rw [hf] at h3; exact h3⟩
end
end So

set_option Elab.async false
set_option linter.all false
set_option maxRecDepth 100000
set_option maxHeartbeats 4000000
namespace So
open PySem PySem.Spec PyProof.Rows L2
open Mi (D Cl FV SC Me Xc Res PV Ky Ev Tv Av Lv Iv Ov Sv Bd Out Tx)

/-! ### what is told is moved to other worlds -/
structure Mv (w : Wd) (m : Me) (H : Hp) (w' : Wd) (m' : Me) (H' : Hp) : Prop where
  nd : ∀ a u, ¬ Bad w m a → Nd H a u → ¬ Bad w' m' a ∧ Nd H' a u
  gl : ∀ i c, m.S[i]? = some c → (∃ c', m'.S[i]? = some c') ∧ w'.α (.g i) = w.α (.g i)
section
variable {K : PySem.W.Frag} {ct : String → Option Addr} {w w' : Wd} {m m' : Me} {H H' : Hp}
theorem Mv.ndL (e : Mv w m H w' m' H') {a : Addr} {xs : List V} (n : ¬ Bad w m a) (h : NdL H a xs) : ¬ Bad w' m' a ∧ NdL H' a xs := by
  obtain ⟨u, h1, h2⟩ := h
  exact ⟨(e.nd a _ n h1).1, u, (e.nd a _ n h1).2, h2⟩
mutual
theorem RepD.mv (e : Mv w m H w' m' H') : ∀ {d : D} {v : V}, RepD K ct w m H d v → RepD K ct w' m' H' d v
  | _, _, .non => .non
  | _, _, .bl b => .bl b
  | _, _, .int i => .int i
  | _, _, .str x => .str x
  | _, _, .lst n h r => .lst (e.nd _ _ n h).1 (e.nd _ _ n h).2 (RepL.mv e r)
  | _, _, .scr h r => .scr (h.imp (fun z => e.ndL z.1 z.2) id) (RepL.mv e r)
  | _, _, .tup n h r => .tup (e.nd _ _ n h).1 (e.nd _ _ n h).2 (RepL.mv e r)
  | _, _, .dct n h r => .dct (e.nd _ _ n h).1 (e.nd _ _ n h).2 (RepK.mv e r)
  | _, _, .obj c n h r => .obj c (e.nd _ _ n h).1 (e.nd _ _ n h).2 (RepF.mv e r)
  | _, _, .ref (i := i) h => by
    obtain ⟨⟨c', h1⟩, e1⟩ := e.gl i _ h
    rw [← e1]
    exact .ref h1
theorem RepL.mv (e : Mv w m H w' m' H') : ∀ {d : List D} {v : List V}, RepL K ct w m H d v → RepL K ct w' m' H' d v
  | _, _, .nil => .nil
  | _, _, .cons h r => .cons (RepD.mv e h) (RepL.mv e r)
theorem RepK.mv (e : Mv w m H w' m' H') : ∀ {d : List (Ky × D)} {v : List (Key × V)}, RepK K ct w m H d v → RepK K ct w' m' H' d v
  | _, _, .nil => .nil
  | _, _, .cons h r => .cons (RepD.mv e h) (RepK.mv e r)
theorem RepF.mv (e : Mv w m H w' m' H') : ∀ {d : List (String × D)} {v : List (Str × V)}, RepF K ct w m H d v → RepF K ct w' m' H' d v
  | _, _, .nil => .nil
  | _, _, .cons h r => .cons (RepD.mv e h) (RepF.mv e r)
end
theorem RepG.mv (e : Mv w m H w' m' H') {i : Nat} (hf : ∀ f, w'.α (.f i f) = w.α (.f i f)) : ∀ {d : List (String × FV)} {v : List (Str × V)}, RepG K ct w m H i d v → RepG K ct w' m' H' i d v
  | _, _, .nil => .nil
  | _, _, .v h r => .v (RepD.mv e h) (RepG.mv e hf r)
  | _, _, .o (k := k) r => by rw [← hf k]; exact .o (RepG.mv e hf r)
  | _, _, .l (k := k) r => by rw [← hf k]; exact .l (RepG.mv e hf r)
theorem CellR.mv (e : Mv w m H w' m' H') {p : Pl} {a : Addr} {c : SC} (hf : ∀ i f, p = .g i → w'.α (.f i f) = w.α (.f i f)) (hH : H' a = H a) (h : CellR K ct w m H p a c) : CellR K ct w' m' H' p a c := by
  cases c with
  | ins c fs =>
    obtain ⟨C, dx, vs, i, hp, h1, h2, h3⟩ := h
    exact ⟨C, dx, vs, i, hp, h1, by rw [hH]; exact h2, h3.mv e (fun f => hf i f hp)⟩
  | c x =>
    cases x with
    | lst xs => obtain ⟨vs, h1, h2⟩ := h; exact ⟨vs, by rw [hH]; exact h1, h2.mv e⟩
    | dct xs => obtain ⟨vs, h1, h2⟩ := h; exact ⟨vs, by rw [hH]; exact h1, h2.mv e⟩
    | lkd xs => obtain ⟨vs, o, h1, h2⟩ := h; exact ⟨vs, o, by rw [hH]; exact h1, h2.mv e⟩
    | dcT xs => obtain ⟨vs, h1, h2⟩ := h; exact h2.elim
theorem ERel.mv {σ : L2.St} (e : Mv w m H w' m' H') (hs : m'.σ = m.σ) (ha : ∀ i, w'.α (.s i) = w.α (.s i)) (h : ERel K ct w m H σ) : ERel K ct w' m' H' σ := by
  refine ⟨by rw [hs]; exact h.len, fun i x y h1 h2 => ?_⟩
  rw [hs] at h1
  have z := h.at_ i x y h1 h2
  cases x with
  | none => trivial
  | some f =>
    cases f with
    | v d => obtain ⟨u, e1, r⟩ := z; exact ⟨u, e1, r.mv e⟩
    | o c => show y = _; rw [ha]; exact z
    | lent => trivial
/-- an address that is nobody's is put aside -/
def Wd.add (w : Wd) (P : Addr → Prop) : Wd := ⟨w.α, fun a => w.O a ∨ P a⟩
def del (H : Hp) (p : Addr) : Hp := fun b => if b = p then none else H b
theorem del_ne {H : Hp} {p a : Addr} (h : a ≠ p) : del H p a = H a := by unfold del; rw [if_neg h]
theorem del_same {H : Hp} {p : Addr} : del H p p = none := by unfold del; rw [if_pos rfl]
theorem upd_del {H : Hp} {p : Addr} {o : HO} (h : H p = some o) : upd (del H p) p o = H := by
  funext b
  by_cases e : b = p
  · subst e; rw [upd_same, h]
  · rw [upd_ne e, del_ne e]
theorem mv_hide {p : Addr} {o : HO} (hp : H p = none) : Mv w m H (w.add fun a => a = p) m (upd H p o) := by
  refine ⟨fun a u n ⟨x, h1, h2⟩ => ?_, fun i c h => ⟨⟨c, h⟩, rfl⟩⟩
  have ne : a ≠ p := ne_of_none h1 hp
  refine ⟨?_, x, by rw [upd_ne ne]; exact h1, h2⟩
  rintro ((z | z) | z)
  · exact n (.inl z)
  · exact ne z
  · exact n (.inr z)
theorem SR.hide {σ : L2.St} {p : Addr} {o : HO} (S : SR K ct w m H σ) (hp : H p = none) : SR K ct (w.add fun a => a = p) m (upd H p o) σ := by
  have e := mv_hide (w := w) (m := m) (o := o) hp
  refine ⟨⟨S.M.inj, fun q c h => ?_, fun a h => ?_, fun q c h => ?_⟩, S.E.mv e rfl fun _ => rfl⟩
  · obtain ⟨u, hu⟩ := S.M.there h
    exact (S.M.cells q c h).mv e (fun _ _ _ => rfl) (upd_ne (ne_of_none hu hp))
  · rcases h with h | h
    · obtain ⟨u, hu⟩ := S.M.out a h
      exact ⟨u, by rw [upd_ne (ne_of_none hu hp)]; exact hu⟩
    · have h : a = p := h
      subst h; exact ⟨o, upd_same⟩
  · rintro (z | z)
    · exact S.M.nout q c h z
    · obtain ⟨u, hu⟩ := S.M.there h
      exact ne_of_none hu hp z
theorem mv_unhide {w1 : Wd} {p : Addr} (hO : ∀ a, (w.add fun a => a = p).O a → w1.O a) : Mv w1 m H ⟨w1.α, w.O⟩ m (del H p) := by
  refine ⟨fun a u n ⟨x, h1, h2⟩ => ?_, fun i c h => ⟨⟨c, h⟩, rfl⟩⟩
  have ne : a ≠ p := fun z => n (.inl (hO a (.inr z)))
  refine ⟨?_, x, by rw [del_ne ne]; exact h1, h2⟩
  rintro (z | z)
  · exact n (.inl (hO a (.inl z)))
  · exact n (.inr z)
theorem SR.unhide {σ : L2.St} {w1 : Wd} {p : Addr} (S : SR K ct w1 m H σ) (hO : ∀ a, (w.add fun a => a = p).O a → w1.O a) (hp : ¬ w.O p) : SR K ct ⟨w1.α, w.O⟩ m (del H p) σ := by
  have e := mv_unhide (m := m) (H := H) hO
  have nO : ∀ q c, cellAt m q = some c → w1.α q ≠ p := fun q c h z => S.M.nout q c h (hO _ (.inr z))
  refine ⟨⟨S.M.inj, fun q c h => ?_, fun a h => ?_, fun q c h z => ?_⟩, S.E.mv e rfl fun _ => rfl⟩
  · exact (S.M.cells q c h).mv e (fun _ _ _ => rfl) (del_ne (nO q c h))
  · obtain ⟨u, hu⟩ := S.M.out a (hO a (.inl h))
    exact ⟨u, by rw [del_ne (fun z => hp (by rw [← z]; exact h))]; exact hu⟩
  · exact S.M.nout q c h (hO _ (.inl z))
theorem ext_unhide {w1 : Wd} {m1 : Me} {H1 : Hp} {p : Addr} {o : HO} (hp : H p = none) (e : Ext (w.add fun a => a = p) m (upd H p o) w1 m1 H1) : Ext w m H ⟨w1.α, w.O⟩ m1 (del H1 p) := by
  refine ⟨fun _ h => h, fun _ _ _ _ h => h, fun i c h => e.gl i c h, fun a u hu n => ?_, fun a u hu n => e.nc a u (by rw [upd_ne (ne_of_none hu hp)]; exact hu) n⟩
  have ne : a ≠ p := ne_of_none hu hp
  obtain ⟨h1, n'⟩ := e.keep a u (by rw [upd_ne ne]; exact hu) n
  exact ⟨by rw [del_ne ne]; exact h1, n'⟩
/-- into the world where it is put aside -/
theorem ext_hide {p : Addr} {o : HO} (hp : H p = none) : Ext w m H (w.add fun a => a = p) m (upd H p o) := by
  refine ⟨fun _ h => .inl h, fun a u hu _ z => ?_, fun i c h => ⟨⟨c, h⟩, rfl⟩, fun a u hu n => ⟨by rw [upd_ne (ne_of_none hu hp)]; exact hu, n⟩, fun _ _ _ n => n⟩
  rcases z with z | z
  · exact z
  · exact absurd z (ne_of_none hu hp)
end

/-! ### comprehensions -/
structure DTs (X : Cx) (ct : String → Option Addr) (ifs : List Expr) (f : Tv) : Prop where
  run : ∀ W, L2.Takes X W → PTs X ifs (tT X.K ct W f)
theorem PTs.imp {X : Cx} {e : List Expr} {t t' : TT} (h : PTs X e t) (i : ∀ σ H Q, t' σ H Q → t σ H Q) : PTs X e t' := ⟨fun pins s σ H Q I q => h.run pins s σ H Q I (i _ _ _ q)⟩
theorem dts_nil {X : Cx} {ct : String → Option Addr} : DTs X ct [] Mi.tYes := ⟨fun W tk => PTs.imp pts_nil fun σ H Q ⟨w, m, S, h⟩ => RE.ok h S (Ext.refl ..)⟩
theorem dts_one {X : Cx} {ct : String → Option Addr} {c : Expr} {f : Tv} (h : DT X ct c f) : DTs X ct [c] f := ⟨fun W tk => pts_one (h.run W tk)⟩
theorem mwipe_ne {σ : Mi.Env} {j : Nat} : ∀ {vs : List Nat}, j ∉ vs → (Mi.wipe σ vs)[j]? = σ[j]?
  | [], _ => rfl
  | v :: vs, h => by
    rw [List.mem_cons, not_or] at h
    show ((Mi.wipe σ vs).set v none)[j]? = _
    rw [List.getElem?_set_ne (fun z => h.1 z.symm)]
    exact mwipe_ne h.2
theorem mwipe_len {σ : Mi.Env} : ∀ vs : List Nat, (Mi.wipe σ vs).length = σ.length
  | [] => rfl
  | v :: vs => by show ((Mi.wipe σ vs).set v none).length = _; rw [List.length_set]; exact mwipe_len vs
theorem mwipe_mem {σ : Mi.Env} {j : Nat} {x : Option FV} : ∀ {vs : List Nat}, j ∈ vs → (Mi.wipe σ vs)[j]? = some x → x = none
  | v :: vs, h, e => by
    have e : ((Mi.wipe σ vs).set v none)[j]? = some x := e
    by_cases q : v = j
    · subst q
      by_cases hl : v < (Mi.wipe σ vs).length
      · rw [List.getElem?_set_self hl] at e; exact (Option.some.inj e).symm
      · rw [List.getElem?_eq_none (by simpa using hl)] at e; cases e
    · rw [List.getElem?_set_ne q] at e
      rcases List.mem_cons.mp h with h | h
      · exact absurd h.symm q
      · exact mwipe_mem h e
theorem lwipe_ne {σ : L2.St} {j : Nat} : ∀ {vs : List Nat}, j ∉ vs → (L2.wipe σ vs)[j]? = σ[j]?
  | [], _ => rfl
  | v :: vs, h => by
    rw [List.mem_cons, not_or] at h
    show ((L2.wipe σ vs).set v none)[j]? = _
    rw [List.getElem?_set_ne (fun z => h.1 z.symm)]
    exact lwipe_ne h.2
theorem lwipe_mem {σ : L2.St} {j : Nat} : ∀ {vs : List Nat}, j ∈ vs → j < σ.length → (L2.wipe σ vs)[j]? = some none
  | v :: vs, h, e => by
    show ((L2.wipe σ vs).set v none)[j]? = _
    by_cases q : v = j
    · subst q
      rw [List.getElem?_set_self (by rw [L2.wipe_length]; exact e)]
    · rw [List.getElem?_set_ne q]
      rcases List.mem_cons.mp h with h | h
      · exact absurd h.symm q
      · exact lwipe_mem h e
theorem lwipe_eq {σ σ' : L2.St} {vs : List Nat} (hl : σ'.length = σ.length) (h : ∀ j, j ∉ vs → σ'[j]? = σ[j]?) : L2.wipe σ' vs = L2.wipe σ vs := by
  refine List.ext_getElem? fun j => ?_
  by_cases q : j ∈ vs
  · by_cases hj : j < σ.length
    · rw [lwipe_mem q hj, lwipe_mem q (by rw [hl]; exact hj)]
    · rw [List.getElem?_eq_none (by rw [L2.wipe_length, hl]; omega), List.getElem?_eq_none (by rw [L2.wipe_length]; omega)]
  · rw [lwipe_ne q, lwipe_ne q, h j q]
theorem lwipe_idem {σ : L2.St} {vs : List Nat} : L2.wipe (L2.wipe σ vs) vs = L2.wipe σ vs := lwipe_eq (L2.wipe_length _ _) fun j h => lwipe_ne h
section
variable {K : PySem.W.Frag} {ct : String → Option Addr} {w w' : Wd} {m m' : Me} {H H' : Hp} {σ : L2.St} {own : List Nat}
theorem cell_wipe {σm : Mi.Env} {S : List SC} (ho : ∀ j ∈ own, (Me.mk σm S).slot j = none) (S' : List SC) (p : Pl) : cellAt ⟨Mi.wipe σm own, S'⟩ p = cellAt ⟨σm, S'⟩ p := by
  cases p with
  | g i => rfl
  | f i s => rfl
  | s j =>
    show ((Me.mk (Mi.wipe σm own) S').slot j).map SC.c = ((Me.mk σm S').slot j).map SC.c
    congr 1
    unfold Mi.Me.slot
    by_cases q : j ∈ own
    · have h1 := ho j q
      unfold Mi.Me.slot at h1
      have h1' : (match σm[j]? with | some (some (.o c)) => some c | _ => none) = (none : Option Cl) := h1
      show (match (Mi.wipe σm own)[j]? with | some (some (.o c)) => some c | _ => none) = (match σm[j]? with | some (some (.o c)) => some c | _ => none)
      rw [h1']
      cases e : (Mi.wipe σm own)[j]? with
      | none => rfl
      | some x => rw [mwipe_mem q e]
    · show (match (Mi.wipe σm own)[j]? with | some (some (.o c)) => some c | _ => none) = (match σm[j]? with | some (some (.o c)) => some c | _ => none)
      rw [mwipe_ne q]
/-- into the block -/
theorem SR.wiped {σm : Mi.Env} {S : List SC} (R : SR K ct w ⟨σm, S⟩ H σ) (ho : ∀ j ∈ own, (Me.mk σm S).slot j = none) : SR K ct w ⟨Mi.wipe σm own, S⟩ H (L2.wipe σ own) ∧ Ext w ⟨σm, S⟩ H w ⟨Mi.wipe σm own, S⟩ H ∧ Ext w ⟨Mi.wipe σm own, S⟩ H w ⟨σm, S⟩ H := by
  have e : Ext w ⟨σm, S⟩ H w ⟨Mi.wipe σm own, S⟩ H := Ext.sub rfl fun p c h => by rw [cell_wipe ho] at h; exact h
  have e' : Ext w ⟨Mi.wipe σm own, S⟩ H w ⟨σm, S⟩ H := Ext.sub rfl fun p c h => by rw [cell_wipe ho]; exact h
  refine ⟨⟨R.M.sub rfl fun p c h => by rw [cell_wipe ho] at h; exact h, ?_⟩, e, e'⟩
  refine ⟨by show (Mi.wipe σm own).length = _; rw [mwipe_len, L2.wipe_length]; exact R.E.len, fun j x y h1 h2 => ?_⟩
  have h1 : (Mi.wipe σm own)[j]? = some x := h1
  by_cases q : j ∈ own
  · rw [mwipe_mem q h1]; trivial
  · rw [mwipe_ne q] at h1
    rw [lwipe_ne q] at h2
    have r := R.E.at_ j x y h1 h2
    cases x with
    | none => trivial
    | some f =>
      cases f with
      | v d => obtain ⟨u, e1, r'⟩ := r; exact ⟨u, e1, r'.ext e⟩
      | o c => exact r
      | lent => trivial
/-- out of the block -/
theorem SR.unwiped {σm : Mi.Env} {S S' : List SC} (R : SR K ct w ⟨σm, S⟩ H σ) (ho : ∀ j ∈ own, (Me.mk σm S).slot j = none) (R' : SR K ct w' ⟨Mi.wipe σm own, S'⟩ H' (L2.wipe σ own)) (e : Ext w ⟨Mi.wipe σm own, S⟩ H w' ⟨Mi.wipe σm own, S'⟩ H') :
    SR K ct w' ⟨σm, S'⟩ H' σ ∧ Ext w ⟨σm, S⟩ H w' ⟨σm, S'⟩ H' ∧ Ext w' ⟨Mi.wipe σm own, S'⟩ H' w' ⟨σm, S'⟩ H' := by
  have ho' : ∀ j ∈ own, (Me.mk σm S').slot j = none := ho
  obtain ⟨_, e1, e1'⟩ := R.wiped ho
  have e2 : Ext w' ⟨Mi.wipe σm own, S'⟩ H' w' ⟨σm, S'⟩ H' := Ext.sub rfl fun p c h => by rw [cell_wipe ho']; exact h
  have e3 := (e1.trans e).trans e2
  refine ⟨⟨R'.M.sub rfl fun p c h => by rw [cell_wipe ho']; exact h, ⟨R.E.len, fun j x y h1 h2 => ?_⟩⟩, e3, e2⟩
  have r0 := R.E.at_ j x y h1 h2
  cases x with
  | none => trivial
  | some f =>
    cases f with
    | v d => obtain ⟨u, q1, r'⟩ := r0; exact ⟨u, q1, r'.ext e3⟩
    | lent => trivial
    | o c =>
      have nj : j ∉ own := fun hj => by
        have z := ho j hj
        unfold Mi.Me.slot at z
        have h1 : σm[j]? = some (some (.o c)) := h1
        have z : (match σm[j]? with | some (some (.o c)) => some c | _ => none) = (none : Option Cl) := z
        rw [h1] at z
        cases z
      exact R'.E.at_ j _ _ (by show (Mi.wipe σm own)[j]? = _; rw [mwipe_ne nj]; exact h1) (by rw [lwipe_ne nj]; exact h2)
end
end So

set_option Elab.async false
set_option linter.all false
set_option maxRecDepth 100000
set_option maxHeartbeats 4000000
namespace So
open PySem PySem.Spec PyProof.Rows L2
open Mi (D Cl FV SC Me Xc Res PV Ky Ev Tv Av Lv Iv Ov Sv Bd Out Tx)

theorem bTs_facts : ∀ {is : List Nat} {ds : List D} {σ σ1 : Mi.Env}, Mi.bTs is ds σ = some σ1 → σ1.length = σ.length ∧ (∀ j, j ∉ is → σ1[j]? = σ[j]?) ∧ ∀ (j : Nat) (c : Cl), σ1[j]? = some (some (FV.o c)) → σ[j]? = some (some (FV.o c))
  | [], [], σ, σ1, h => by
    have h : some σ = some σ1 := h
    cases h; exact ⟨rfl, fun _ _ => rfl, fun _ _ h => h⟩
  | [], _ :: _, _, _, h => by cases h
  | _ :: _, [], _, _, h => by cases h
  | i :: is, d :: ds, σ, σ1, h => by
    have h : (if i < σ.length then Mi.bTs is ds (σ.set i (some (.v d))) else none) = some σ1 := h
    split at h
    · rename_i hl
      obtain ⟨h1, h2, h3⟩ := bTs_facts h
      refine ⟨by rw [h1, List.length_set], fun j hj => ?_, fun j c hc => ?_⟩
      · rw [List.mem_cons, not_or] at hj
        rw [h2 j hj.2, List.getElem?_set_ne fun z => hj.1 z.symm]
      · have z := h3 j c hc
        by_cases q : i = j
        · subst q; rw [List.getElem?_set_self hl] at z; cases z
        · rw [List.getElem?_set_ne q] at z; exact z
    · cases h
theorem bset_facts {b : Bd} {d : D} {σ σ1 : Mi.Env} (h : b.set d σ = some σ1) : σ1.length = σ.length ∧ (∀ j, j ∉ b.ix → σ1[j]? = σ[j]?) ∧ ∀ (j : Nat) (c : Cl), σ1[j]? = some (some (FV.o c)) → σ[j]? = some (some (FV.o c)) := by
  cases b with
  | n i =>
    have h : (if i < σ.length then some (σ.set i (some (.v d))) else none) = some σ1 := h
    split at h
    · rename_i hl
      cases h
      refine ⟨List.length_set .., fun j hj => List.getElem?_set_ne fun z => hj (by rw [z]; exact List.mem_cons_self), fun j c hc => ?_⟩
      by_cases q : i = j
      · subst q; rw [List.getElem?_set_self hl] at hc; cases hc
      · rw [List.getElem?_set_ne q] at hc; exact hc
    · cases h
  | t is =>
    cases d with
    | tup ds => exact bTs_facts (show Mi.bTs is ds σ = some σ1 from h)
    | _ => cases h
theorem mwipe_eq {σ σ' : Mi.Env} {vs : List Nat} (hl : σ'.length = σ.length) (h : ∀ j, j ∉ vs → σ'[j]? = σ[j]?) : Mi.wipe σ' vs = Mi.wipe σ vs := by
  refine List.ext_getElem? fun j => ?_
  by_cases q : j ∈ vs
  · cases e1 : (Mi.wipe σ' vs)[j]? with
    | none =>
      have : (Mi.wipe σ vs).length ≤ j := by rw [mwipe_len, ← hl, ← mwipe_len vs]; exact List.getElem?_eq_none_iff.mp e1
      rw [List.getElem?_eq_none this]
    | some x =>
      have hj : j < (Mi.wipe σ vs).length := by rw [mwipe_len, ← hl, ← mwipe_len vs]; exact (List.getElem?_eq_some_iff.mp e1).1
      have e2 : (Mi.wipe σ vs)[j]? = some (Mi.wipe σ vs)[j] := List.getElem?_eq_some_iff.mpr ⟨hj, rfl⟩
      rw [e2, mwipe_mem q e1, mwipe_mem q e2]
  · rw [mwipe_ne q, mwipe_ne q, h j q]
theorem upd_del2 {H : Hp} {p : Addr} {o : HO} : upd (del H p) p o = upd H p o := by
  funext b
  by_cases e : b = p
  · subst e; rw [upd_same, upd_same]
  · rw [upd_ne e, upd_ne e, del_ne e]
section
variable {X : Cx} {ct : String → Option Addr} {elt tg iter : Expr} {ifs : List Expr} {scope : Scope} {own : List (Str × Nat)} {pos : Pos} {b : Bd} {it : Iv} {t : Tv} {f : Ev}
theorem own_none {m : Me} {vs : List Nat} (h : (vs.all fun j => (m.slot j).isNone) = true) : ∀ j ∈ vs, (Me.mk m.σ m.S).slot j = none := fun j hj => by
  have := List.all_eq_true.mp h j hj
  exact Option.isNone_iff_eq_none.mp this
theorem comp_read {W : WX} {σ : L2.St} {H : Hp} {Q : VK} (hix : ∀ j ∈ b.ix, j ∈ own.map (·.2)) (h : tL X.K ct W (Mi.lComp (own.map (·.2)) b it t f) σ H Q) :
    tLc (tI X.K ct W it) (tG X.K ct b) (tT X.K ct (fun _ _ _ _ => False) t) (tE X.K ct (fun _ _ _ _ => False) f) (own.map (·.2)) σ H Q := by
  obtain ⟨w, m, S, h⟩ := h
  generalize hvs : own.map (·.2) = vs at h hix ⊢
  refine ⟨w, m, S, h.bind.imp (fun xs w1 m1 H1 S1 e1 h1 J hJ D hD => ?_) fun _ _ _ _ _ _ z => z⟩
  split at h1
  · rename_i hown
    have ho := own_none hown
    split at h1
    · rename_i ys m2 hc
      obtain ⟨S1w, e1w, e1w'⟩ := S1.wiped (σm := m1.σ) (S := m1.S) ho
      -- the invariant
      refine ⟨fun i n H' => ∃ Hs wi Si us acc, H' = upd Hs D (.lst us) ∧ Hs D = none ∧ SR X.K ct wi ⟨Mi.wipe m1.σ vs, Si⟩ Hs (L2.wipe σ vs) ∧ Ext w1 ⟨Mi.wipe m1.σ vs, m1.S⟩ H1 wi ⟨Mi.wipe m1.σ vs, Si⟩ Hs ∧
        RepL X.K ct wi ⟨Mi.wipe m1.σ vs, Si⟩ Hs acc us ∧ n = xs.length - i ∧ Mi.comp b t f (Mi.wipe m1.σ vs) (xs.drop i) Si acc = .ok ys m2,
        ⟨_, H1, w1, m1.S, [], [], rfl, hD, S1w, Ext.refl .., .nil, rfl, hc⟩, ?_⟩
      rintro i n H' ⟨Hs, wi, Si, us, acc, rfl, hsD, Si1, ei, ra, rfl, hci⟩
      have hi : SR X.K ct (wi.add fun a => a = D) ⟨Mi.wipe m1.σ vs, Si⟩ (upd Hs D (.lst us)) (L2.wipe σ vs) := Si1.hide hsD
      have notO : ¬ wi.O D := fun z => by
        obtain ⟨o, ho⟩ := Si1.M.out D z
        rw [hsD] at ho; cases ho
      -- the iterator sees the world with D put aside
      obtain ⟨Su, eu, eu'⟩ := S1.unwiped (σm := m1.σ) (S := m1.S) (S' := Si) ho Si1 ei
      have eO : Ext wi ⟨m1.σ, Si⟩ Hs wi ⟨m1.σ, Si⟩ (upd Hs D (.lst us)) := Ext.fresh hsD
      have Sh : SR X.K ct (wi.add fun a => a = D) ⟨m1.σ, Si⟩ (upd Hs D (.lst us)) σ := Su.hide hsD
      obtain ⟨j1, j2⟩ := hJ i (wi.add fun a => a = D) ⟨m1.σ, Si⟩ (upd Hs D (.lst us)) Sh.M (eu.trans (ext_hide hsD))
      cases hx : xs[i]? with
      | none =>
        have hl : xs.length ≤ i := List.getElem?_eq_none_iff.mp hx
        refine .inl ⟨j2 hl, ?_⟩
        rw [List.drop_eq_nil_of_le hl] at hci
        have hci : (Res.ok acc ⟨Mi.wipe m1.σ vs, Si⟩ : Res (List Mi.D)) = .ok ys m2 := by
          rw [← hci]; unfold Mi.comp; rfl
        cases hci
        exact RE.ok h1 Su eu us D (ra.ext eu') hsD
      | some d =>
        obtain ⟨hl, hd⟩ := List.getElem?_eq_some_iff.mp hx
        obtain ⟨j3, j4⟩ := j1 d hx
        rw [List.drop_eq_getElem_cons hl, hd] at hci
        unfold Mi.comp at hci
        refine .inr ⟨j3, fun H'' => ∃ Hs wi Si us acc, H'' = upd Hs D (.lst us) ∧ Hs D = none ∧ SR X.K ct wi ⟨Mi.wipe m1.σ vs, Si⟩ Hs (L2.wipe σ vs) ∧ Ext w1 ⟨Mi.wipe m1.σ vs, m1.S⟩ H1 wi ⟨Mi.wipe m1.σ vs, Si⟩ Hs ∧
          RepL X.K ct wi ⟨Mi.wipe m1.σ vs, Si⟩ Hs acc us ∧ Mi.comp b t f (Mi.wipe m1.σ vs) (xs.drop (i + 1)) Si acc = .ok ys m2,
          fun H'' ⟨a1, a2, a3, a4, a5, a6, a7, a8, a9, a10, a11⟩ => ⟨xs.length - (i + 1), by omega, a1, a2, a3, a4, a5, a6, a7, a8, a9, a10, rfl, a11⟩, fun v H3 hy => ?_⟩
        obtain ⟨rv, hH⟩ := j4 v H3 hy
        obtain ⟨S3, e3⟩ := hi.step hH
        have rv' : RepD X.K ct (wi.add fun a => a = D) ⟨Mi.wipe m1.σ vs, Si⟩ H3 d v := RepD.ext (Ext.sub (m' := ⟨Mi.wipe m1.σ vs, Si⟩) (m := ⟨m1.σ, Si⟩) rfl fun p c h => by rw [cell_wipe (S := m1.S) ho] at h; exact h) rv
        split at hci
        · cases hci
        · rename_i σ1 hσ
          obtain ⟨f1, f2, f3⟩ := bset_facts hσ
          refine ⟨wi.add fun a => a = D, ⟨Mi.wipe m1.σ vs, Si⟩, d, σ1, S3, rv', hσ, fun σ2 S4 e4 g1 g2 => ?_⟩
          have hw2 : L2.wipe σ2 vs = L2.wipe σ vs := by
            rw [lwipe_eq (σ := L2.wipe σ vs) g2 fun j hj => g1 j fun z => hj (hix j z)]
            exact lwipe_idem
          have hw1 : Mi.wipe σ1 vs = Mi.wipe m1.σ vs := by
            rw [mwipe_eq (σ := Mi.wipe m1.σ vs) f1 fun j hj => f2 j fun z => hj (hix j z)]
            exact mwipe_eq (mwipe_len _) fun j hj => mwipe_ne hj
          have ho1 : ∀ j ∈ vs, (Me.mk σ1 Si).slot j = none := fun j hj => by
            unfold Mi.Me.slot
            show (match σ1[j]? with | some (some (.o c)) => some c | _ => none) = (none : Option Cl)
            split
            · rename_i c q
              have z := mwipe_mem hj (f3 j c q)
              cases z
            · rfl
          refine ⟨hw2, ?_⟩
          have e34 := (ext_hide (w := wi) (m := ⟨Mi.wipe m1.σ vs, Si⟩) (o := .lst us) hsD).trans (e3.trans e4)
          have eD : Ext (wi.add fun a => a = D) ⟨Mi.wipe m1.σ vs, Si⟩ (upd Hs D (.lst us)) (wi.add fun a => a = D) ⟨σ1, Si⟩ H3 := e3.trans e4
          -- back to the world between the turns
          have back : ∀ {w5 : Wd} {S5 : List SC} {H5 : Hp}, SR X.K ct w5 ⟨σ1, S5⟩ H5 σ2 → Ext (wi.add fun a => a = D) ⟨σ1, Si⟩ H3 w5 ⟨σ1, S5⟩ H5 →
              H5 D = some (.lst us) ∧ SR X.K ct ⟨w5.α, wi.O⟩ ⟨Mi.wipe m1.σ vs, S5⟩ (del H5 D) (L2.wipe σ vs) ∧ Ext w1 ⟨Mi.wipe m1.σ vs, m1.S⟩ H1 ⟨w5.α, wi.O⟩ ⟨Mi.wipe m1.σ vs, S5⟩ (del H5 D) ∧
              RepL X.K ct ⟨w5.α, wi.O⟩ ⟨Mi.wipe m1.σ vs, S5⟩ (del H5 D) acc us ∧ ∀ d v, RepD X.K ct w5 ⟨σ1, S5⟩ H5 d v → RepD X.K ct ⟨w5.α, wi.O⟩ ⟨Mi.wipe m1.σ vs, S5⟩ (del H5 D) d v := by
            intro w5 S5 H5 R5 e5
            have e05 := eD.trans e5
            have hO : ∀ a, (wi.add fun a => a = D).O a → w5.O a := fun a h => e05.Om a h
            have hD5 : H5 D = some (.lst us) := by
              exact (e05.keep D _ upd_same fun ⟨p, c, k1, k2, _⟩ => hi.M.nout p c k1 (.inr k2)).1
            have ho5 : ∀ j ∈ vs, (Me.mk σ1 S5).slot j = none := ho1
            obtain ⟨R6, e6, _⟩ := R5.wiped ho5
            rw [hw1, hw2] at R6
            rw [hw1] at e6
            have R7 := R6.unhide hO notO
            have e7 := ext_unhide hsD (e05.trans e6)
            exact ⟨hD5, R7, ei.trans e7, ra.ext e7, fun d v r => RepD.mv (mv_unhide hO) (RepD.ext e6 r)⟩
          refine ⟨_, ⟨σ1, Si⟩, S4, ?_⟩
          cases q : t ⟨σ1, Si⟩ with
          | bad => rw [q] at hci; cases hci
          | ex x mt => rw [q] at hci; cases hci
          | ok k mt =>
            rw [q] at hci
            intro w5 H5 S5 e5
            cases k with
            | false =>
              rw [if_neg Bool.false_ne_true]
              dsimp only at hci
              split at hci
              · rename_i hm
                obtain ⟨σt, St⟩ := mt
                subst hm
                obtain ⟨b1, b2, b3, b4, _⟩ := back S5 e5
                exact ⟨_, _, St, us, acc, (upd_del b1).symm, del_same, b2, b3, b4, hci⟩
              · cases hci
            | true =>
              rw [if_pos rfl]
              dsimp only at hci
              split at hci
              · rename_i hm
                split at hci
                · rename_i y mf hf
                  split at hci
                  · rename_i hz
                    refine ⟨w5, mt, S5, ?_⟩
                    rw [hf]
                    intro w6 H6 S6 e6 u pu
                    obtain ⟨σt, St⟩ := mt
                    obtain ⟨σf, Sf⟩ := mf
                    obtain ⟨hz1, hz2⟩ := hz
                    have hm : σt = σ1 := hm
                    have hz1 : σf = σ1 := hz1
                    subst hm
                    subst hz1
                    obtain ⟨b1, b2, b3, b4, b5⟩ := back S6 (e5.trans e6)
                    refine ⟨us, b1, by rw [← ra.length, ← big_eq]; exact hz2, ?_⟩
                    exact ⟨_, _, Sf, us ++ [u], acc ++ [y], upd_del2.symm, del_same, b2, b3, b4.append (.cons (b5 _ _ pu) .nil), hci⟩
                  · cases hci
                · cases hci
              · cases hci
    · exact h1.elim
  · exact h1.elim
/-- [e for x in xs if t] -/
theorem dl_comp (hc : X.calm = true) (hN : X.N.Nodup) (hi : DI X ct tg iter it) (ok : BlkOk X.N X.env.scope scope own)
    (hg : ∀ (s : Shared) (H : Hp) (C : Addr) (cl : List (Str × Addr)) (fp : List Addr), DG (X.blk s H scope (compEnvC scope cl C X.env) fp) ct tg b) (ht : ∀ (s : Shared) (H : Hp) (C : Addr) (cl : List (Str × Addr)) (fp : List Addr), DTs (X.blk s H scope (compEnvC scope cl C X.env) fp) ct ifs t)
    (he : ∀ (s : Shared) (H : Hp) (C : Addr) (cl : List (Str × Addr)) (fp : List Addr), DE (X.blk s H scope (compEnvC scope cl C X.env) fp) ct elt f) (hix : ∀ j ∈ b.ix, j ∈ own.map (·.2)) (hs : ∀ x, foldedSetIterable iter X.env x = pure x := by intro _; rfl) :
    DL X ct (.ListComp elt [⟨tg, iter, ifs, 0⟩] scope pos) (Mi.lComp (own.map (·.2)) b it t f) :=
  ⟨fun W tk => PE.imp (pe_lc hc hN (hi.run W tk) ok (fun s H C cl fp => (hg s H C cl fp).run) (fun s H C cl fp => (ht s H C cl fp).run _ takes0) (fun s H C cl fp => (he s H C cl fp).run _ takes0) hs) fun σ H Q h => comp_read hix h⟩
/-- y = [..], y a slot that is not changed -/
theorem ds_setLc {i : Nat} {y : Str} {py spos : Pos} (hc : X.calm = true) (hN : X.N.Nodup) (hy : X.N[i]? = some y) (hyl : X.env.scope.names.lookup y = some .local)
    (hsw : swapsWith (.ListComp elt [⟨tg, iter, ifs, 0⟩] scope pos) (some (.Name y py)) spos.line X.env = pure true) (hi : DI X ct tg iter it) (ok : BlkOk X.N X.env.scope scope own)
    (hg : ∀ (s : Shared) (H : Hp) (C : Addr) (cl : List (Str × Addr)) (fp : List Addr), DG (X.blk s H scope (compEnvC scope cl C X.env) fp) ct tg b) (ht : ∀ (s : Shared) (H : Hp) (C : Addr) (cl : List (Str × Addr)) (fp : List Addr), DTs (X.blk s H scope (compEnvC scope cl C X.env) fp) ct ifs t)
    (he : ∀ (s : Shared) (H : Hp) (C : Addr) (cl : List (Str × Addr)) (fp : List Addr), DE (X.blk s H scope (compEnvC scope cl C X.env) fp) ct elt f) (hix : ∀ j ∈ b.ix, j ∈ own.map (·.2)) (hs : ∀ x, foldedSetIterable iter X.env x = pure x := by intro _; rfl) :
    DS X ct (.Assign [.Name y py] (.ListComp elt [⟨tg, iter, ifs, 0⟩] scope pos) spos) (Mi.sSet i (Mi.eL (Mi.lComp (own.map (·.2)) b it t f))) :=
  ⟨fun W tk => PS.imp (ps_setLc hc hN hy hyl hsw (hi.run W tk) ok (fun s H C cl fp => (hg s H C cl fp).run) (fun s H C cl fp => (ht s H C cl fp).run _ takes0) (fun s H C cl fp => (he s H C cl fp).run _ takes0) hs) fun D σ H ⟨w, m, S, h⟩ => by
    refine comp_read (W := W) (t := t) (f := f) hix ?_
    have h' : RO X.K ct W w m H ((Mi.lComp (own.map (·.2)) b it t f m).so fun xs m1 => if i < m1.σ.length then .nx ⟨m1.σ.set i (some (.v (.lst xs))), m1.S⟩ else .bad) D := by
      unfold Mi.sSet Mi.eL at h
      cases q : Mi.lComp (own.map (·.2)) b it t f m with
      | ok xs m1 => rw [q] at h; exact h
      | ex x m1 => rw [q] at h; exact h
      | bad => rw [q] at h; exact h
    refine tL.so S h' fun x w1 m1 H1 vs p S1 e1 r hp h1 => ?_
    split at h1
    · have r' : RepD X.K ct w1 ⟨m1.σ, m1.S⟩ (upd H1 p (.lst vs)) (.lst x) (.ref p) := .lst (S1.M.notBad hp) (nd_same rfl) (r.ext (Ext.fresh hp))
      obtain ⟨S2, e2⟩ := SR.setV (σm := m1.σ) (S := m1.S) (S1.fresh hp) (i := i) r'
      exact h1 _ _ _ S2 ((Ext.fresh hp).trans e2)
    · exact h1.elim⟩
/-- .. that owns it -/
theorem ds_ownLc {i : Nat} {y : Str} {py spos : Pos} (hc : X.calm = true) (hN : X.N.Nodup) (hy : X.N[i]? = some y) (hyl : X.env.scope.names.lookup y = some .local)
    (hsw : swapsWith (.ListComp elt [⟨tg, iter, ifs, 0⟩] scope pos) (some (.Name y py)) spos.line X.env = pure true) (hi : DI X ct tg iter it) (ok : BlkOk X.N X.env.scope scope own)
    (hg : ∀ (s : Shared) (H : Hp) (C : Addr) (cl : List (Str × Addr)) (fp : List Addr), DG (X.blk s H scope (compEnvC scope cl C X.env) fp) ct tg b) (ht : ∀ (s : Shared) (H : Hp) (C : Addr) (cl : List (Str × Addr)) (fp : List Addr), DTs (X.blk s H scope (compEnvC scope cl C X.env) fp) ct ifs t)
    (he : ∀ (s : Shared) (H : Hp) (C : Addr) (cl : List (Str × Addr)) (fp : List Addr), DE (X.blk s H scope (compEnvC scope cl C X.env) fp) ct elt f) (hix : ∀ j ∈ b.ix, j ∈ own.map (·.2)) (hs : ∀ x, foldedSetIterable iter X.env x = pure x := by intro _; rfl) :
    DS X ct (.Assign [.Name y py] (.ListComp elt [⟨tg, iter, ifs, 0⟩] scope pos) spos) (Mi.sOwn i (Mi.lComp (own.map (·.2)) b it t f)) :=
  ⟨fun W tk => PS.imp (ps_setLc hc hN hy hyl hsw (hi.run W tk) ok (fun s H C cl fp => (hg s H C cl fp).run) (fun s H C cl fp => (ht s H C cl fp).run _ takes0) (fun s H C cl fp => (he s H C cl fp).run _ takes0) hs) fun D σ H ⟨w, m, S, h⟩ => by
    refine comp_read (W := W) (t := t) (f := f) hix ?_
    refine tL.so S h fun x w1 m1 H1 vs p S1 e1 r hp h1 => ?_
    split at h1
    · obtain ⟨S2, e2⟩ := SR.setO (σm := m1.σ) (S := m1.S) S1 (i := i) (c := .lst x) hp (o := .lst vs) fun w' m' H' e' h' => ⟨vs, h', r.ext e'⟩
      exact h1 _ _ _ S2 e2
    · exact h1.elim⟩
end
end So

set_option Elab.async false
set_option linter.all false
set_option maxRecDepth 100000
set_option maxHeartbeats 4000000
namespace So
open PySem PySem.Spec PyProof.Rows L2
open Mi (D Cl FV SC Me Xc Res PV Ky Ev Tv Av Lv Iv Ov Sv Bd Out Tx RG Cal Tb)

theorem RE.ext {K : PySem.W.Frag} {ct : String → Option Addr} {α : Type} {w w1 : Wd} {m m1 : Me} {H H1 : Hp} {σ : L2.St} {r : Res α} {P : α → Wd → Me → Hp → Prop} {Px : Xc → Wd → Me → Hp → Prop} (e : Ext w m H w1 m1 H1) (h : RE K ct σ w m H r P Px) : RE K ct σ w1 m1 H1 r P Px := by
  cases r with
  | ok a m2 => exact fun w2 H2 S2 e2 => h w2 H2 S2 (e.trans e2)
  | ex a m2 => exact fun w2 H2 S2 e2 => h w2 H2 S2 (e.trans e2)
  | bad => exact h
/-! ### what a function promises -/
section
variable (K : PySem.W.Frag) (ct : String → Option Addr)
def spOf (g : List D → List SC → RG) : Sp := fun vs H Q E => ∃ w S ds, MRel K ct w ⟨[], S⟩ H ∧ RepL K ct w ⟨[], S⟩ H ds vs ∧
  match g ds S with
  | .ok d S' => ∀ w' v H', MRel K ct w' ⟨[], S'⟩ H' → Ext w ⟨[], S⟩ H w' ⟨[], S'⟩ H' → RepD K ct w' ⟨[], S'⟩ H' d v → Q v H'
  | .ex x S' => ∀ w' cls dx H', MRel K ct w' ⟨[], S'⟩ H' → Ext w ⟨[], S⟩ H w' ⟨[], S'⟩ H' → ExR K ct w' ⟨[], S'⟩ H' x cls dx → E cls dx H'
  | .bad => False
end
theorem cell_nil {σm : Mi.Env} {S : List SC} {p : Pl} {c : SC} (h : cellAt ⟨[], S⟩ p = some c) : cellAt ⟨σm, S⟩ p = some c ∧ ∀ i, p ≠ .s i := by
  cases p with
  | g i => exact ⟨h, fun _ => by simp⟩
  | f i s => exact ⟨h, fun _ => by simp⟩
  | s i =>
    have h : ((Me.mk [] S).slot i).map SC.c = some c := h
    have e : (Me.mk [] S).slot i = none := by unfold Mi.Me.slot; rfl
    rw [e] at h; cases h
section
variable {K : PySem.W.Frag} {ct : String → Option Addr} {w w1 : Wd} {σm : Mi.Env} {S S1 : List SC} {H H1 : Hp} {σ : L2.St}
/-- the callee's world: this frame's cells are put aside -/
def Wd.call (w : Wd) (m : Me) : Wd := ⟨w.α, fun a => w.O a ∨ ∃ i c, m.slot i = some c ∧ a = w.α (.s i)⟩
/-- the world behind a call -/
def Wd.back (w w1 : Wd) : Wd := ⟨fun p => match p with | .s i => w.α (.s i) | p => w1.α p, w.O⟩
theorem mv_call : Mv w ⟨σm, S⟩ H (w.call ⟨σm, S⟩) ⟨[], S⟩ H := by
  refine ⟨fun a u n h => ⟨?_, h⟩, fun i c h => ⟨⟨c, h⟩, rfl⟩⟩
  rintro ((z | ⟨i, c, z1, z2⟩) | ⟨p, c, z1, z2⟩)
  · exact n (.inl z)
  · exact n (.inr ⟨.s i, .c c, by show ((Me.mk σm S).slot i).map SC.c = _; rw [z1]; rfl, z2.symm⟩)
  · exact n (.inr ⟨p, c, (cell_nil z1).1, z2⟩)
theorem slot_cell {m : Me} {i : Nat} {c : Cl} (h : m.slot i = some c) : cellAt m (.s i) = some (.c c) := by show (m.slot i).map SC.c = _; rw [h]; rfl
theorem MRel.call (M : MRel K ct w ⟨σm, S⟩ H) : MRel K ct (w.call ⟨σm, S⟩) ⟨[], S⟩ H := by
  refine ⟨fun p q c c' h1 h2 => M.inj p q c c' (cell_nil h1).1 (cell_nil h2).1, fun p c h => (M.cells p c (cell_nil h).1).mv mv_call (fun _ _ _ => rfl) rfl, fun a h => ?_, fun p c h z => ?_⟩
  · rcases h with h | ⟨i, c, h1, rfl⟩
    · exact M.out a h
    · exact M.there (slot_cell h1)
  · rcases z with z | ⟨i, c', h1, h2⟩
    · exact M.nout p c (cell_nil h).1 z
    · exact (cell_nil (σm := σm) h).2 i (M.inj _ _ _ _ (cell_nil h).1 (slot_cell h1) h2)
theorem cell_back {p : Pl} {c : SC} (h : cellAt ⟨σm, S1⟩ p = some c) : (∃ i z, p = .s i ∧ c = .c z ∧ (Me.mk σm S).slot i = some z) ∨ ((∀ i, p ≠ .s i) ∧ cellAt ⟨[], S1⟩ p = some c) := by
  cases p with
  | g i => exact .inr ⟨fun _ => by simp, h⟩
  | f i s => exact .inr ⟨fun _ => by simp, h⟩
  | s i =>
    obtain ⟨z, h1, h2⟩ := opt_map (show ((Me.mk σm S1).slot i).map SC.c = some c from h)
    exact .inl ⟨i, z, rfl, h2, h1⟩
theorem back_ne {p : Pl} (h : ∀ i, p ≠ .s i) : (w.back w1).α p = w1.α p := by
  cases p with
  | g i => rfl
  | f i s => rfl
  | s i => exact absurd rfl (h i)
theorem after_call (R : SR K ct w ⟨σm, S⟩ H σ) (M1 : MRel K ct w1 ⟨[], S1⟩ H1) (e : Ext (w.call ⟨σm, S⟩) ⟨[], S⟩ H w1 ⟨[], S1⟩ H1) :
    SR K ct (w.back w1) ⟨σm, S1⟩ H1 σ ∧ Ext w ⟨σm, S⟩ H (w.back w1) ⟨σm, S1⟩ H1 ∧ Mv w1 ⟨[], S1⟩ H1 (w.back w1) ⟨σm, S1⟩ H1 := by
  -- this frame's cells are as they were
  have own : ∀ i c, (Me.mk σm S).slot i = some c → w1.O (w.α (.s i)) ∧ ∃ o, H (w.α (.s i)) = some o ∧ H1 (w.α (.s i)) = some o := fun i c h => by
    have ho : (w.call ⟨σm, S⟩).O (w.α (.s i)) := .inr ⟨i, c, h, rfl⟩
    obtain ⟨o, h1⟩ := R.M.there (slot_cell h)
    exact ⟨e.Om _ ho, o, h1, (e.keep _ o h1 fun ⟨p, c', k1, k2⟩ => MRel.nout R.M.call p c' k1 (by rw [k2.1]; exact ho)).1⟩
  have ext : Ext w ⟨σm, S⟩ H (w.back w1) ⟨σm, S1⟩ H1 := by
    refine ⟨fun _ h => h, fun _ _ _ _ h => h, fun i c h => e.gl i c h, fun a o h n => ?_, fun a o h n => ?_⟩
    rotate_left
    · have n' : ¬ CelA (w.call ⟨σm, S⟩).α ⟨[], S⟩ a := fun ⟨p, c, k1, k2⟩ => n ⟨p, c, (cell_nil k1).1, k2⟩
      have h2 := e.nc a o h n'
      rintro ⟨p, c, k1, k2⟩
      rcases cell_back (S := S) k1 with ⟨i, z, rfl, rfl, hs⟩ | ⟨hp, k3⟩
      · exact n ⟨.s i, .c z, slot_cell hs, k2⟩
      · rw [back_ne hp] at k2
        exact h2 ⟨p, c, k3, k2⟩
    have n' : ¬ MutA (w.call ⟨σm, S⟩).α ⟨[], S⟩ a := fun ⟨p, c, k1, k2⟩ => n ⟨p, c, (cell_nil k1).1, k2⟩
    obtain ⟨h1, h2⟩ := e.keep a o h n'
    refine ⟨h1, ?_⟩
    rintro ⟨p, c, k1, k2⟩
    rcases cell_back (S := S) k1 with ⟨i, z, rfl, rfl, hs⟩ | ⟨hp, k3⟩
    · exact n ⟨.s i, .c z, slot_cell hs, k2⟩
    · rw [back_ne hp] at k2
      exact h2 ⟨p, c, k3, k2⟩
  have mv : Mv w1 ⟨[], S1⟩ H1 (w.back w1) ⟨σm, S1⟩ H1 := by
    refine ⟨fun a u n h => ⟨?_, h⟩, fun i c h => ⟨⟨c, h⟩, rfl⟩⟩
    rintro (z | ⟨p, c, k1, k2⟩)
    · exact n (.inl (e.Om a (.inl z)))
    · rcases cell_back (S := S) k1 with ⟨i, z, rfl, rfl, hs⟩ | ⟨hp, k3⟩
      · exact n (.inl (by rw [← k2]; exact (own i z hs).1))
      · rw [back_ne hp] at k2
        exact n (.inr ⟨p, c, k3, k2⟩)
  have apart : ∀ {p : Pl} {c : SC} {i : Nat} {z : Cl}, cellAt ⟨[], S1⟩ p = some c → (Me.mk σm S).slot i = some z → w1.α p ≠ w.α (.s i) := fun {p c i z} h1 h2 h3 => M1.nout p c h1 (by rw [h3]; exact (own i z h2).1)
  refine ⟨⟨⟨fun p q c c' h1 h2 h3 => ?_, fun p c h => ?_, fun a h => M1.out a (e.Om a (.inl h)), fun p c h z => ?_⟩, R.E.ext ext rfl fun _ => rfl⟩, ext, mv⟩
  · rcases cell_back (S := S) h1 with ⟨i, z, rfl, rfl, hs⟩ | ⟨hp, k3⟩ <;> rcases cell_back (S := S) h2 with ⟨j, y, rfl, rfl, hs'⟩ | ⟨hq, k4⟩
    · exact R.M.inj _ _ _ _ (slot_cell hs) (slot_cell hs') h3
    · rw [back_ne hq] at h3
      exact absurd h3.symm (apart k4 hs)
    · rw [back_ne hp] at h3
      exact absurd h3 (apart k3 hs')
    · rw [back_ne hp, back_ne hq] at h3
      exact M1.inj _ _ _ _ k3 k4 h3
  · rcases cell_back (S := S) h with ⟨i, z, rfl, rfl, hs⟩ | ⟨hp, k3⟩
    · obtain ⟨_, o, h1, h2⟩ := own i z hs
      exact (R.M.cells _ _ (slot_cell hs)).ext ext (fun _ _ q => nomatch q) (by show H1 (w.α (.s i)) = H (w.α (.s i)); rw [h1, h2])
    · rw [back_ne hp]
      exact (M1.cells p c k3).mv mv (fun _ _ _ => rfl) rfl
  · rcases cell_back (S := S) h with ⟨i, y, rfl, rfl, hs⟩ | ⟨hp, k3⟩
    · exact R.M.nout _ _ (slot_cell hs) z
    · rw [back_ne hp] at z
      exact M1.nout p c k3 (e.Om _ (.inl z))
theorem ExR.mv {m m' : Me} {w' : Wd} {H' : Hp} (e : Mv w m H w' m' H') {x : Xc} {cls : Value} {dx : Option Addr} (h : ExR K ct w m H x cls dx) : ExR K ct w' m' H' x cls dx := by
  obtain ⟨C, h1, h2, h0, h3⟩ := h
  refine ⟨C, h1, h2, h0, fun n => ?_⟩
  obtain ⟨d, vs, e1, n1, n2, r⟩ := h3 n
  exact ⟨d, vs, e1, (e.nd _ _ n1 n2).1, (e.nd _ _ n1 n2).2, RepF.mv e r⟩
/-- the callee's promise from the caller's wish -/
theorem call_read {g : List D → List SC → RG} {ds : List D} {vs : List V} {P : PV → Wd → Me → Hp → Prop} {Q : VK} {E : XK} {Px : Xc → Wd → Me → Hp → Prop} (R : SR K ct w ⟨σm, S⟩ H σ) (r : RepL K ct w ⟨σm, S⟩ H ds vs)
    (h : RE K ct σ w ⟨σm, S⟩ H ((g ds S).res σm) P Px) (hP : ∀ x' w' m' H' v, PVR K ct w' m' H' σ x' v → P x' w' m' H' → Q v H') (hX : ∀ x w' m' H' cls dx, ExR K ct w' m' H' x cls dx → Px x w' m' H' → E cls dx H') : spOf K ct g vs H Q E := by
  refine ⟨w.call ⟨σm, S⟩, S, ds, R.M.call, r.mv mv_call, ?_⟩
  cases q : g ds S with
  | ok d S' =>
    rw [q] at h
    intro w1 v H1 M1 e1 rd
    obtain ⟨R2, e2, mv⟩ := after_call R M1 e1
    exact hP (.v d) _ ⟨σm, S'⟩ _ v (RepD.mv mv rd) (RE.ok h R2 e2)
  | ex x S' =>
    rw [q] at h
    intro w1 cls dx H1 M1 e1 rx
    obtain ⟨R2, e2, mv⟩ := after_call R M1 e1
    exact hX _ _ _ _ cls dx (rx.mv mv) (h _ _ R2 e2)
  | bad => rw [q] at h; exact h
end

/-! ### the program's functions and classes -/
structure FnAt (K : PySem.W.Frag) (ct : String → Option Addr) (P : Program) (w : World) (mg : Str → Option Value) (base : Heap) (k : Nat) (f : Addr) (g : List D → List SC → RG) : Prop where
  ex : ∃ fd ps, Binds K fd ps [] ∧ FnOk P w K mg base (L2.CX P w) k f fd ps (spOf K ct g)
structure PF (K : PySem.W.Frag) (ct : String → Option Addr) (P : Program) (w : World) (mg : Str → Option Value) (base : Heap) (k : Nat) (C : Cal) (T : Tb) (fns : List String) : Prop where
  fn : ∀ f ∈ fns, ∃ a, mg (nm f) = some (.ref a) ∧ PySem.W.keepIn K (.ref a) = true ∧ FnAt K ct P w mg base k a (C f)
  mt : ∀ c f key, T.mt c f = some key → ∃ Ca a, ct c = some Ca ∧ Cls K Ca ∧ Meth K Ca (nm f) a ∧ FnAt K ct P w mg base k a (C key)
  ini : ∀ c key, T.ini c = some key → key ≠ "" → ∃ Ca a, ct c = some Ca ∧ mg (nm c) = some (.ref Ca) ∧ Mk K Ca a ∧ FnAt K ct P w mg base k a (C key)
  ini0 : ∀ c, T.ini c = some "" → ∃ Ca, ct c = some Ca ∧ mg (nm c) = some (.ref Ca) ∧ PySem.W.makesIn K Ca = true ∧ PySem.W.findIn K (.ref Ca) "__init__" = some (some (.builtin "object.__init__")) ∧ PySem.W.keepIn K (.ref Ca) = true ∧ PySem.W.mroIn K Ca (.type "object") = some true
  fl : ∀ c f, T.fl c f = true → ∃ Ca, ct c = some Ca ∧ Cls K Ca ∧ NoAttr K Ca (nm f)
section
variable {X : Cx} {ct : String → Option Addr} {k : Nat} {C : Cal} {T : Tb} {fns : List String} {x : Str} {p pos apos : Pos} {e o : Expr} {es : List Expr} {fa : Av} {fo : Ev}
theorem args_read {W : WX} {w : Wd} {m : Me} {H : Hp} {σ : L2.St} {P : PV → Wd → Me → Hp → Prop} {g : List D → List SC → RG} {Q : VK} (S : SR X.K ct w m H σ)
    (h : RE X.K ct σ w m H ((fa m).bind fun ps m1 => match PV.ds ps with | some ds => (g ds m1.S).res m1.σ | none => .bad) P (PxW X.K ct W σ)) (hP : ∀ x' w' m' H' v, PVR X.K ct w' m' H' σ x' v → P x' w' m' H' → Q v H') :
    tA X.K ct W fa σ H fun vs H1 => spOf X.K ct g vs H1 Q fun cls dx H' => W cls dx σ H' := by
  refine tA.part S h fun ps w1 m1 H1 vs S1 e1 pv h1 => ?_
  cases qd : PV.ds ps with
  | none => rw [qd] at h1; exact h1.elim
  | some ds =>
    rw [qd] at h1
    exact call_read (σm := m1.σ) (S := m1.S) S1 (ds_rep pv qd) h1 hP fun x w' m' H' cls dx hx hp => hp cls dx hx
theorem de_call (G : PF X.K ct X.prog X.w X.mg X.base k C T fns) (hr : Room k X.A) (f : String) (hf : f ∈ fns) (ha : DA X ct (e :: es) fa) (hx : nm f = x := by rfl) (hg : Gl X x := by rfl) (hdb : (x == ("__debug__" : Str)) = false := by decide)
    (he : starEach (e :: es) X.env = (false, eval e X.env) :: starEach es X.env := by rfl) (hpl : (backTo pos (starEach es X.env)).any (·.1) = false := by rfl) : DE X ct (.Call (.Name x p) (e :: es) [] pos) (Mi.eCall C f fa) := by
  subst hx
  obtain ⟨a, h1, h2, ⟨fd, ps, hb, F⟩⟩ := G.fn f hf
  refine ⟨fun W tk => PE.imp (pe_callS F hr hg h1 h2 hb (fun σ => passAt tk σ) (ha.run W tk) hdb he hpl) fun σ H Q ⟨w, m, S, h⟩ => ?_⟩
  exact args_read S h fun _ _ _ _ v pv hp => hp v pv
/-- f() -/
theorem pe_callS0 {CX : CXT} {a : Addr} {fd : FuncData} {ps : List Str} {sp : Sp} {E : L2.St → XK} (F : FnOk X.prog X.w X.K X.mg X.base CX k a fd ps sp) (hr : Room k X.A) (hg : Gl X x) (hm : X.mg x = some (.ref a)) (hk : PySem.W.keepIn X.K (.ref a) = true) (hb : Binds X.K fd ps []) (hx : ∀ σ, PassesAt CX X σ (E σ))
    (hdb : (x == ("__debug__" : Str)) = false := by decide) : PE X (.Call (.Name x p) [] [] pos) (tCallS sp E tNil) :=
  ⟨fun pins s σ H Q I h => wpAny_Call_Name_kw (ld_glob I hg hm (PySem.W.callWith_K0 I.kIn hk (run_fnS (us := []) F hr hb (hx σ) I .nil h)) hdb)⟩
theorem de_call0 (G : PF X.K ct X.prog X.w X.mg X.base k C T fns) (hr : Room k X.A) (f : String) (hf : f ∈ fns) (hx : nm f = x := by rfl) (hg : Gl X x := by rfl) (hdb : (x == ("__debug__" : Str)) = false := by decide) : DE X ct (.Call (.Name x p) [] [] pos) (Mi.eCall C f Mi.aNil) := by
  subst hx
  obtain ⟨a, h1, h2, ⟨fd, ps, hb, F⟩⟩ := G.fn f hf
  refine ⟨fun W tk => PE.imp (pe_callS0 F hr hg h1 h2 hb (fun σ => passAt tk σ) hdb) fun σ H Q ⟨w, m, S, h⟩ => ?_⟩
  exact call_read (σm := m.σ) (S := m.S) S (ds := []) (vs := []) .nil h (fun _ _ _ _ v pv hp => hp v pv) fun x w' m' H' cls dx hx hp => hp cls dx hx

/-! ### objects -/
theorem lookup_nm {α β : Type} (f : String) (k : String) (a : α) (r : List (Str × α)) : List.lookup (nm f) ((nm k, a) :: r) = if k = f then some a else List.lookup (nm f) r := by
  rw [List.lookup_cons]
  by_cases h : k = f
  · subst h; simp
  · have h' : ¬ nm f = nm k := fun z => h (nm_inj z).symm
    have : (nm f == nm k) = false := by simpa using h'
    rw [this, if_neg h]
theorem lookup_s {α : Type} (f k : String) (a : α) (r : List (String × α)) : List.lookup f ((k, a) :: r) = if k = f then some a else List.lookup f r := by
  rw [List.lookup_cons]
  by_cases h : k = f
  · subst h; simp
  · have : (f == k) = false := by simpa using fun z => h z.symm
    rw [this, if_neg h]
section
variable {K : PySem.W.Frag} {w : Wd} {m : Me} {H : Hp} {σ : L2.St}
theorem RepF.look (f : String) : ∀ {fs : List (String × D)} {vs : List (Str × V)}, RepF K ct w m H fs vs → (vs.lookup (nm f) = none ∧ (fs.map fun p => (p.1, FV.v p.2)).lookup f = none) ∨ ∃ d v, vs.lookup (nm f) = some v ∧ (fs.map fun p => (p.1, FV.v p.2)).lookup f = some (.v d) ∧ RepD K ct w m H d v
  | _, _, .nil => .inl ⟨rfl, rfl⟩
  | _, _, .cons (k := j) (d := d) (v := v) r t => by
    rw [List.map_cons, lookup_nm (β := Nat), lookup_s]
    by_cases h : j = f
    · rw [if_pos h, if_pos h]; exact .inr ⟨d, v, rfl, rfl, r⟩
    · rw [if_neg h, if_neg h]; exact RepF.look f t
theorem RepG.look (f : String) {i : Nat} : ∀ {fs : List (String × FV)} {vs : List (Str × V)}, RepG K ct w m H i fs vs → (vs.lookup (nm f) = none ∧ fs.lookup f = none) ∨ ∃ x v, vs.lookup (nm f) = some v ∧ fs.lookup f = some x ∧ ∀ d, x = .v d → RepD K ct w m H d v
  | _, _, .nil => .inl ⟨rfl, rfl⟩
  | _, _, @RepG.v _ _ _ _ _ _ j d u _ _ r t => by
    rw [lookup_nm (β := Nat), lookup_s]
    by_cases h : j = f
    · rw [if_pos h, if_pos h]; exact .inr ⟨_, u, rfl, rfl, fun d' e => by cases e; exact r⟩
    · rw [if_neg h, if_neg h]; exact RepG.look f t
  | _, _, .o (k := j) t => by
    rw [lookup_nm (β := Nat), lookup_s]
    by_cases h : j = f
    · rw [if_pos h, if_pos h]; exact .inr ⟨_, _, rfl, rfl, fun d' e => nomatch e⟩
    · rw [if_neg h, if_neg h]; exact RepG.look f t
  | _, _, .l (k := j) t => by
    rw [lookup_nm (β := Nat), lookup_s]
    by_cases h : j = f
    · rw [if_pos h, if_pos h]; exact .inr ⟨_, _, rfl, rfl, fun d' e => nomatch e⟩
    · rw [if_neg h, if_neg h]; exact RepG.look f t
/-- an object and its fields -/
theorem SR.obj (S : SR K ct w m H σ) {y : PV} {v : V} {c : String} {fs : List (String × FV)} (r : PVR K ct w m H σ y v) (h : m.obj y = some (c, fs)) :
    ∃ a Ca dx vs, v = .ref a ∧ ct c = some Ca ∧ H a = some (.ins Ca dx vs) ∧ ∀ f, (vs.lookup (nm f) = none ∧ fs.lookup f = none) ∨ ∃ x v, vs.lookup (nm f) = some v ∧ fs.lookup f = some x ∧ ∀ d, x = .v d → RepD K ct w m H d v := by
  cases y with
  | sl i => cases h
  | v d =>
    cases d with
    | obj c' fs' =>
      cases h
      cases r with
      | obj hc n g r => exact ⟨_, _, _, _, rfl, hc, g.ins, fun f => (r.look f).imp id fun ⟨d, v, a1, a2, a3⟩ => ⟨_, v, a1, a2, fun d' e => by cases e; exact a3⟩⟩
    | ref n =>
      have h : (match m.S[n]? with | some (.ins c fs) => some (c, fs) | _ => none) = some (c, fs) := h
      split at h
      · rename_i q
        cases h
        cases r
        obtain ⟨Ca, dx, vs, i, _, h1, h2, h3⟩ := S.M.cells (.g n) _ q
        exact ⟨_, Ca, dx, vs, rfl, h1, h2, fun f => h3.look f⟩
      · cases h
    | _ => cases h
end
theorem de_fld (G : PF X.K ct X.prog X.w X.mg X.base k C T fns) (f : String) {fS : Str} (ho : DE X ct o fo) (hx : nm f = fS := by rfl) (hb : attributeBase o fS X.env (eval o X.env) = eval o X.env := by rfl) : DE X ct (.Attribute o fS pos) (Mi.eFld T f fo) := by
  subst hx
  refine ⟨fun W tk => PE.imp (pe_fld (ho.run W tk) hb) fun σ H Q ⟨w, m, S, h⟩ => ?_⟩
  refine tE.part S h fun y w1 m1 H1 v S1 e1 pv h1 => ?_
  split at h1
  · rename_i c fs q
    split at h1
    · rename_i hfl
      split at h1
      · rename_i d ql
        obtain ⟨a, Ca, dx, vs, rfl, g1, g2, g3⟩ := S1.obj pv q
        obtain ⟨Ca', g4, g5, g6⟩ := G.fl c f hfl
        rw [g1] at g4; cases g4
        rcases g3 f with ⟨_, z⟩ | ⟨y', v', z1, z2, z3⟩
        · rw [ql] at z; cases z
        · rw [ql] at z2; cases z2
          exact ⟨a, Ca, dx, vs, v', rfl, g2, g5, g6, z1, RE.ok h1 S1 (Ext.refl ..) _ (z3 d rfl)⟩
      · exact h1.elim
    · exact h1.elim
  · exact h1.elim
/-- one of several readings -/
theorem PE.any {ι : Type} {G : ι → Prop} {t : ι → TE} (h : ∀ i, G i → PE X e (t i)) : PE X e (fun σ H Q => ∃ i, G i ∧ t i σ H Q) := ⟨fun pins s σ H Q I ⟨i, g, q⟩ => (h i g).run pins s σ H Q I q⟩
/-- o.m(..), what is raised is wished for at the slots -/
def tMethS (Ca : Addr) (m : Str) (sp : Sp) (E : L2.St → XK) (ta : TE) (t : TA) : TE := fun σ H Q => ta σ H fun x H1 => ∃ a dx fs, x = .ref a ∧ H1 a = some (.ins Ca dx fs) ∧ fs.lookup m = none ∧ t σ H1 fun vs H2 => sp (x :: vs) H2 Q (E σ)
theorem pe_methS {CX : CXT} {Ca a : Addr} {fd : FuncData} {ps : List Str} {sp : Sp} {E : L2.St → XK} {mS : Str} {ta : TE} {t : TA} {pl : Sem Bool} (ho : PE X o ta) (c : Cls X.K Ca) (hm : Meth X.K Ca mS a) (F : FnOk X.prog X.w X.K X.mg X.base CX k a fd ps sp) (hr : Room k X.A) (hb : Binds X.K fd ps []) (hx : ∀ σ, PassesAt CX X σ (E σ))
    (ha : PA X (e :: es) t) (hst : starEach (e :: es) X.env = (false, eval e X.env) :: starEach es X.env) (hpl : (backTo pos (starEach es X.env)).any (·.1) = false)
    (ht : eval (.Call (.Attribute o mS apos) (e :: es) [] pos) X.env = (do
      let ov ← eval o X.env
      standAt apos.atName
      let (f, first) ← holding [ov] (getMethod ov mS pl)
      callWith pos f first (backTo pos (starEach (e :: es) X.env)) (backToKw pos (keywordEach [] X.env)))) :
    PE X (.Call (.Attribute o mS apos) (e :: es) [] pos) (tMethS Ca mS sp E ta t) :=
  ⟨fun pins s σ H Q I h => PySem.W.methodCall_KW (pl := pl) (thn (ho.run pins s σ H _ I h) fun u s1 ⟨x, H1, I1, rx, b, dx, fs, ex, eb, l, q⟩ => by
    subst ex
    obtain rfl : u = Value.ref b := rx
    refine getmeth_ok I1 eb c hm l (PySem.W.callWith_K (first := [.ref b]) (h₀ := X.base) I.ok.mod.kin hm.kp (thn (ha.run pos pins s1 σ H1 _ I1 q) fun us s2 ⟨vs, H2, I2, r, q2⟩ => ⟨I2.kIn, ?_⟩) hst hpl)
    exact run_fnS (us := .ref b :: us) (vs := .ref b :: vs) F hr hb (hx σ) I2 (.cons rfl r) q2) ht⟩
theorem pe_methS0 {CX : CXT} {Ca a : Addr} {fd : FuncData} {ps : List Str} {sp : Sp} {E : L2.St → XK} {mS : Str} {ta : TE} {pl : Sem Bool} (ho : PE X o ta) (c : Cls X.K Ca) (hm : Meth X.K Ca mS a) (F : FnOk X.prog X.w X.K X.mg X.base CX k a fd ps sp) (hr : Room k X.A) (hb : Binds X.K fd ps []) (hx : ∀ σ, PassesAt CX X σ (E σ))
    (ht : eval (.Call (.Attribute o mS apos) [] [] pos) X.env = (do
      let ov ← eval o X.env
      standAt apos.atName
      let (f, first) ← holding [ov] (getMethod ov mS pl)
      callWith pos f first (backTo pos (starEach [] X.env)) (backToKw pos (keywordEach [] X.env)))) :
    PE X (.Call (.Attribute o mS apos) [] [] pos) (tMethS Ca mS sp E ta tNil) :=
  ⟨fun pins s σ H Q I h => PySem.W.methodCall_KW (pl := pl) (thn (ho.run pins s σ H _ I h) fun u s1 ⟨x, H1, I1, rx, b, dx, fs, ex, eb, l, q⟩ => by
    subst ex
    obtain rfl : u = Value.ref b := rx
    exact getmeth_ok I1 eb c hm l (PySem.W.callWith_K0 (first := [.ref b]) I1.kIn hm.kp (run_fnS (us := [.ref b]) (vs := [.ref b]) F hr hb (hx σ) I1 (.cons rfl .nil) q))) ht⟩
/-- a method's class, its function -/
structure MtAt (X : Cx) (ct : String → Option Addr) (C : Cal) (T : Tb) (k : Nat) (f : String) where
  c : String
  key : String
  Ca : Addr
  a : Addr
  fd : FuncData
  ps : List Str
def MtAt.Ok {X : Cx} {ct : String → Option Addr} {C : Cal} {T : Tb} {k : Nat} {f : String} (i : MtAt X ct C T k f) : Prop :=
  T.mt i.c f = some i.key ∧ ct i.c = some i.Ca ∧ Cls X.K i.Ca ∧ Meth X.K i.Ca (nm f) i.a ∧ Binds X.K i.fd i.ps [] ∧ FnOk X.prog X.w X.K X.mg X.base (L2.CX X.prog X.w) k i.a i.fd i.ps (spOf X.K ct (C i.key))
theorem de_meth (G : PF X.K ct X.prog X.w X.mg X.base k C T fns) (hr : Room k X.A) (f : String) {fS : Str} {pl : Sem Bool} (ho : DE X ct o fo) (ha : DA X ct (e :: es) fa) (hx : nm f = fS := by rfl) (hst : starEach (e :: es) X.env = (false, eval e X.env) :: starEach es X.env := by rfl) (hpl : (backTo pos (starEach es X.env)).any (·.1) = false := by rfl)
    (ht : eval (.Call (.Attribute o fS apos) (e :: es) [] pos) X.env = (do
      let ov ← eval o X.env
      standAt apos.atName
      let (f, first) ← holding [ov] (getMethod ov fS pl)
      callWith pos f first (backTo pos (starEach (e :: es) X.env)) (backToKw pos (keywordEach [] X.env))) := by rfl) : DE X ct (.Call (.Attribute o fS apos) (e :: es) [] pos) (Mi.eMeth C T f fo fa) := by
  subst hx
  refine ⟨fun W tk => PE.imp (PE.any (ι := MtAt X ct C T k f) (G := MtAt.Ok) (t := fun i => tMethS i.Ca (nm f) (spOf X.K ct (C i.key)) (fun σ cls dx H' => W cls dx σ H') (tE X.K ct W fo) (tA X.K ct W fa)) fun i g => pe_methS (pl := pl) (ho.run W tk) g.2.2.1 g.2.2.2.1 g.2.2.2.2.2 hr g.2.2.2.2.1 (fun σ => passAt tk σ) (ha.run W tk) hst hpl ht) fun σ H Q ⟨w, m, S, h⟩ => ?_⟩
  unfold Mi.eMeth at h
  split at h
  · rename_i y m1 qo
    split at h
    · rename_i c fs d q1 q2
      split at h
      · rename_i key q3 q4
        obtain ⟨Ca, a, g1, g2, g3, ⟨fd, ps, g4, g5⟩⟩ := G.mt c f key q3
        refine ⟨⟨c, key, Ca, a, fd, ps⟩, ⟨q3, g1, g2, g3, g4, g5⟩, w, m, S, ?_⟩
        rw [qo]
        intro w1 H1 S1 e1 v pv
        obtain ⟨b, Cb, dx, vs, rfl, g6, g7, g8⟩ := S1.obj pv q1
        rw [g1] at g6; cases g6
        refine ⟨b, dx, vs, rfl, g7, ?_, ?_⟩
        · rcases g8 f with ⟨z, _⟩ | ⟨_, _, _, z, _⟩
          · exact z
          · rw [q4] at z; cases z
        · cases y with
          | sl i => cases q2
          | v dd =>
            have q2 : some dd = some d := q2
            have q2' := Option.some.inj q2
            subst q2'
            have h' := RE.ext e1 h
            refine tA.part S1 h' fun ps w2 m2 H2 us S2 e2 pu h2 => ?_
            cases qd : PV.ds ps with
            | none => rw [qd] at h2; exact h2.elim
            | some ds =>
              rw [qd] at h2
              exact call_read (g := C key) (σm := m2.σ) (S := m2.S) (ds := dd :: ds) (vs := .ref b :: us) S2 (.cons (RepD.ext e2 pv) (ds_rep pu qd)) h2 (fun _ _ _ _ v pv hp => hp v pv) fun x w' m' H' cls dx hx hp => hp cls dx hx
      · exact h.elim
    · exact h.elim
  · exact h.elim
theorem de_meth0 (G : PF X.K ct X.prog X.w X.mg X.base k C T fns) (hr : Room k X.A) (f : String) {fS : Str} {pl : Sem Bool} (ho : DE X ct o fo) (hx : nm f = fS := by rfl)
    (ht : eval (.Call (.Attribute o fS apos) [] [] pos) X.env = (do
      let ov ← eval o X.env
      standAt apos.atName
      let (f, first) ← holding [ov] (getMethod ov fS pl)
      callWith pos f first (backTo pos (starEach [] X.env)) (backToKw pos (keywordEach [] X.env))) := by rfl) : DE X ct (.Call (.Attribute o fS apos) [] [] pos) (Mi.eMeth C T f fo Mi.aNil) := by
  subst hx
  refine ⟨fun W tk => PE.imp (PE.any (ι := MtAt X ct C T k f) (G := MtAt.Ok) (t := fun i => tMethS i.Ca (nm f) (spOf X.K ct (C i.key)) (fun σ cls dx H' => W cls dx σ H') (tE X.K ct W fo) tNil) fun i g => pe_methS0 (pl := pl) (ho.run W tk) g.2.2.1 g.2.2.2.1 g.2.2.2.2.2 hr g.2.2.2.2.1 (fun σ => passAt tk σ) ht) fun σ H Q ⟨w, m, S, h⟩ => ?_⟩
  unfold Mi.eMeth at h
  split at h
  · rename_i y m1 qo
    split at h
    · rename_i c fs d q1 q2
      split at h
      · rename_i key q3 q4
        obtain ⟨Ca, a, g1, g2, g3, ⟨fd, ps, g4, g5⟩⟩ := G.mt c f key q3
        refine ⟨⟨c, key, Ca, a, fd, ps⟩, ⟨q3, g1, g2, g3, g4, g5⟩, w, m, S, ?_⟩
        rw [qo]
        intro w1 H1 S1 e1 v pv
        obtain ⟨b, Cb, dx, vs, rfl, g6, g7, g8⟩ := S1.obj pv q1
        rw [g1] at g6; cases g6
        refine ⟨b, dx, vs, rfl, g7, ?_, ?_⟩
        · rcases g8 f with ⟨z, _⟩ | ⟨_, _, _, z, _⟩
          · exact z
          · rw [q4] at z; cases z
        · cases y with
          | sl i => cases q2
          | v dd =>
            have q2 : some dd = some d := q2
            have q2' := Option.some.inj q2
            subst q2'
            have h' := RE.ext e1 h
            exact call_read (g := C key) (σm := m1.σ) (S := m1.S) (ds := [dd]) (vs := [.ref b]) S1 (.cons pv .nil) h' (fun _ _ _ _ v pv hp => hp v pv) fun x w' m' H' cls dx hx hp => hp cls dx hx
      · exact h.elim
    · exact h.elim
  · exact h.elim
end
end So

set_option Elab.async false
set_option linter.all false
set_option maxRecDepth 100000
set_option maxHeartbeats 4000000
namespace So
open PySem PySem.Spec PyProof.Rows L2
open Mi (D Cl FV SC Me Xc Res PV Ky Ev Tv Av Lv Iv Ov Sv Bd Out Tx RG Cal Tb)

/-! ### references that lie below -/
section
variable {K : PySem.W.Frag} {ct : String → Option Addr} {w w' : Wd} {m m' : Me} {H H' : Hp}
mutual
theorem RepD.blw : ∀ {d : D} {v : V}, RepD K ct w m H d v → d.blw m.S.length = true
  | _, _, .non => by unfold Mi.D.blw; rfl
  | _, _, .bl b => by unfold Mi.D.blw; rfl
  | _, _, .int i => by unfold Mi.D.blw; rfl
  | _, _, .str x => by unfold Mi.D.blw; rfl
  | _, _, .lst n h r => by unfold Mi.D.blw; exact RepL.blw r
  | _, _, .scr h r => by unfold Mi.D.blw; exact RepL.blw r
  | _, _, .tup n h r => by unfold Mi.D.blw; exact RepL.blw r
  | _, _, .dct n h r => by unfold Mi.D.blw; exact RepK.blw r
  | _, _, .obj c n h r => by unfold Mi.D.blw; exact RepF.blw r
  | _, _, .ref (i := i) h => by unfold Mi.D.blw; exact decide_eq_true (List.getElem?_eq_some_iff.mp h).1
theorem RepL.blw : ∀ {d : List D} {v : List V}, RepL K ct w m H d v → Mi.D.blws m.S.length d = true
  | _, _, .nil => by unfold Mi.D.blws; rfl
  | _, _, .cons h r => by unfold Mi.D.blws; rw [RepD.blw h, RepL.blw r]; rfl
theorem RepK.blw : ∀ {d : List (Ky × D)} {v : List (Key × V)}, RepK K ct w m H d v → Mi.D.blwk m.S.length d = true
  | _, _, .nil => by unfold Mi.D.blwk; rfl
  | _, _, .cons h r => by unfold Mi.D.blwk; rw [RepD.blw h, RepK.blw r]; rfl
theorem RepF.blw : ∀ {d : List (String × D)} {v : List (Str × V)}, RepF K ct w m H d v → Mi.D.blwf m.S.length d = true
  | _, _, .nil => by unfold Mi.D.blwf; rfl
  | _, _, .cons h r => by unfold Mi.D.blwf; rw [RepD.blw h, RepF.blw r]; rfl
end
/-- moved, the references below n -/
structure Mvb (n : Nat) (w : Wd) (m : Me) (H : Hp) (w' : Wd) (m' : Me) (H' : Hp) : Prop where
  nd : ∀ a u, ¬ Bad w m a → Nd H a u → ¬ Bad w' m' a ∧ Nd H' a u
  gl : ∀ i c, i < n → m.S[i]? = some c → (∃ c', m'.S[i]? = some c') ∧ w'.α (.g i) = w.α (.g i)
theorem Mvb.ndL {n : Nat} (e : Mvb n w m H w' m' H') {a : Addr} {xs : List V} (q : ¬ Bad w m a) (h : NdL H a xs) : ¬ Bad w' m' a ∧ NdL H' a xs := by
  obtain ⟨u, h1, h2⟩ := h
  exact ⟨(e.nd a _ q h1).1, u, (e.nd a _ q h1).2, h2⟩
section
variable {n : Nat}
mutual
theorem RepD.mvb (e : Mvb n w m H w' m' H') : ∀ {d : D} {v : V}, RepD K ct w m H d v → d.blw n = true → RepD K ct w' m' H' d v
  | _, _, .non, _ => .non
  | _, _, .bl b, _ => .bl b
  | _, _, .int i, _ => .int i
  | _, _, .str x, _ => .str x
  | _, _, .lst n h r, q => .lst (e.nd _ _ n h).1 (e.nd _ _ n h).2 (RepL.mvb e r (by unfold Mi.D.blw at q; exact q))
  | _, _, .scr h r, q => .scr (h.imp (fun z => e.ndL z.1 z.2) id) (RepL.mvb e r (by unfold Mi.D.blw at q; exact q))
  | _, _, .tup n h r, q => .tup (e.nd _ _ n h).1 (e.nd _ _ n h).2 (RepL.mvb e r (by unfold Mi.D.blw at q; exact q))
  | _, _, .dct n h r, q => .dct (e.nd _ _ n h).1 (e.nd _ _ n h).2 (RepK.mvb e r (by unfold Mi.D.blw at q; exact q))
  | _, _, .obj c n h r, q => .obj c (e.nd _ _ n h).1 (e.nd _ _ n h).2 (RepF.mvb e r (by unfold Mi.D.blw at q; exact q))
  | _, _, .ref (i := i) h, q => by
    unfold Mi.D.blw at q
    obtain ⟨⟨c', h1⟩, e1⟩ := e.gl i _ (of_decide_eq_true q) h
    rw [← e1]
    exact .ref h1
theorem RepL.mvb (e : Mvb n w m H w' m' H') : ∀ {d : List D} {v : List V}, RepL K ct w m H d v → Mi.D.blws n d = true → RepL K ct w' m' H' d v
  | _, _, .nil, _ => .nil
  | _, _, .cons h r, q => by
    unfold Mi.D.blws at q
    rw [Bool.and_eq_true] at q
    exact .cons (RepD.mvb e h q.1) (RepL.mvb e r q.2)
theorem RepK.mvb (e : Mvb n w m H w' m' H') : ∀ {d : List (Ky × D)} {v : List (Key × V)}, RepK K ct w m H d v → Mi.D.blwk n d = true → RepK K ct w' m' H' d v
  | _, _, .nil, _ => .nil
  | _, _, .cons h r, q => by
    unfold Mi.D.blwk at q
    rw [Bool.and_eq_true] at q
    exact .cons (RepD.mvb e h q.1) (RepK.mvb e r q.2)
theorem RepF.mvb (e : Mvb n w m H w' m' H') : ∀ {d : List (String × D)} {v : List (Str × V)}, RepF K ct w m H d v → Mi.D.blwf n d = true → RepF K ct w' m' H' d v
  | _, _, .nil, _ => .nil
  | _, _, .cons h r, q => by
    unfold Mi.D.blwf at q
    rw [Bool.and_eq_true] at q
    exact .cons (RepD.mvb e h q.1) (RepF.mvb e r q.2)
end
-- the fields of a store's object: the references below n
def gblw (n : Nat) : List (String × FV) → Bool
  | [] => true
  | (_, .v d) :: r => d.blw n && gblw n r
  | (_, .o _) :: r => gblw n r
  | (_, .lent) :: r => gblw n r
theorem RepG.blw {i : Nat} : ∀ {d : List (String × FV)} {vs : List (Str × V)}, RepG K ct w m H i d vs → gblw m.S.length d = true
  | _, _, .nil => rfl
  | _, _, .v h r => by unfold gblw; rw [RepD.blw h, RepG.blw r]; rfl
  | _, _, .o r => by unfold gblw; exact RepG.blw r
  | _, _, .l r => by unfold gblw; exact RepG.blw r
theorem RepG.mvb (e : Mvb n w m H w' m' H') {i : Nat} (hf : ∀ f, w'.α (.f i f) = w.α (.f i f)) : ∀ {d : List (String × FV)} {vs : List (Str × V)}, RepG K ct w m H i d vs → gblw n d = true → RepG K ct w' m' H' i d vs
  | _, _, .nil, _ => .nil
  | _, _, .v h r, q => by
    unfold gblw at q
    rw [Bool.and_eq_true] at q
    exact .v (RepD.mvb e h q.1) (RepG.mvb e hf r q.2)
  | _, _, .o (k := k) r, q => by unfold gblw at q; rw [← hf k]; exact .o (RepG.mvb e hf r q)
  | _, _, .l (k := k) r, q => by unfold gblw at q; rw [← hf k]; exact .l (RepG.mvb e hf r q)
def cblw (n : Nat) : SC → Bool
  | .ins _ fs => gblw n fs
  | .c c => c.blw n
theorem CellR.blw {p : Pl} {a : Addr} {c : SC} (h : CellR K ct w m H p a c) : cblw m.S.length c = true := by
  cases c with
  | ins c fs => obtain ⟨C, dx, vs, i, hp, h1, h2, h3⟩ := h; exact h3.blw
  | c x =>
    cases x with
    | lst xs => obtain ⟨vs, h1, h2⟩ := h; exact h2.blw
    | dct xs => obtain ⟨vs, h1, h2⟩ := h; exact h2.blw
    | lkd xs => obtain ⟨vs, o, h1, h2⟩ := h; exact h2.blw
    | dcT xs => obtain ⟨vs, h1, h2⟩ := h; exact h2.elim
theorem CellR.mvb (e : Mvb n w m H w' m' H') {p : Pl} {a : Addr} {c : SC} (hb : cblw n c = true) (hf : ∀ i f, p = .g i → w'.α (.f i f) = w.α (.f i f)) (hH : H' a = H a) (h : CellR K ct w m H p a c) : CellR K ct w' m' H' p a c := by
  cases c with
  | ins c fs =>
    obtain ⟨C, dx, vs, i, hp, h1, h2, h3⟩ := h
    exact ⟨C, dx, vs, i, hp, h1, by rw [hH]; exact h2, h3.mvb e (fun f => hf i f hp) hb⟩
  | c x =>
    cases x with
    | lst xs => obtain ⟨vs, h1, h2⟩ := h; exact ⟨vs, by rw [hH]; exact h1, h2.mvb e hb⟩
    | dct xs => obtain ⟨vs, h1, h2⟩ := h; exact ⟨vs, by rw [hH]; exact h1, h2.mvb e hb⟩
    | lkd xs => obtain ⟨vs, o, h1, h2⟩ := h; exact ⟨vs, o, by rw [hH]; exact h1, h2.mvb e hb⟩
    | dcT xs => obtain ⟨vs, h1, h2⟩ := h; exact h2.elim
theorem CellR.pl {p q : Pl} {a : Addr} {x : Cl} (h : CellR K ct w m H p a (.c x)) : CellR K ct w m H q a (.c x) := by
  cases x <;> exact h
end
end

/-! ### an instance is made -/
section
variable {K : PySem.W.Frag} {ct : String → Option Addr} {w w1 : Wd} {σm : Mi.Env} {S S1 : List SC} {H H1 : Hp} {σ : L2.St}
theorem app_get {S : List SC} {x : SC} {i : Nat} {c : SC} (h : (S ++ [x])[i]? = some c) : S[i]? = some c ∨ (i = S.length ∧ c = x) := by
  by_cases hi : i < S.length
  · rw [List.getElem?_append_left hi] at h; exact .inl h
  · rw [List.getElem?_append_right (by omega)] at h
    cases q : i - S.length with
    | zero => rw [q] at h; exact .inr ⟨by omega, (Option.some.inj h).symm⟩
    | succ j => rw [q] at h; cases h
/-- a cell more in the store, without owned fields -/
theorem cell_app {x : SC} (hx : ∀ c fs f z, x = .ins c fs → fs.lookup f = some (.o z) → False) {p : Pl} {c : SC} (h : cellAt ⟨σm, S ++ [x]⟩ p = some c) : (p ≠ .g S.length ∧ cellAt ⟨σm, S⟩ p = some c) ∨ (p = .g S.length ∧ c = x) := by
  cases p with
  | g i =>
    rcases app_get (show (S ++ [x])[i]? = some c from h) with h | ⟨h1, h2⟩
    · refine .inl ⟨?_, h⟩
      have := (List.getElem?_eq_some_iff.mp h).1
      intro z; cases z; omega
    · exact .inr ⟨by rw [h1], h2⟩
  | s i => exact .inl ⟨by simp, h⟩
  | f i f =>
    refine .inl ⟨by simp, ?_⟩
    obtain ⟨u, h1, h2⟩ := opt_map (show ((Me.mk σm (S ++ [x])).field i f).map SC.c = some c from h)
    show ((Me.mk σm S).field i f).map SC.c = some c
    have h1 : (match (S ++ [x])[i]? with | some (.ins _ fs) => (match fs.lookup f with | some (.o c) => some c | _ => none) | _ => none) = some u := h1
    have : (Me.mk σm S).field i f = some u := by
      show (match S[i]? with | some (.ins _ fs) => (match fs.lookup f with | some (.o c) => some c | _ => none) | _ => none) = some u
      cases q : (S ++ [x])[i]? with
      | none => rw [q] at h1; cases h1
      | some y =>
        rcases app_get q with q' | ⟨_, q'⟩
        · rw [q']; rw [q] at h1; exact h1
        · rw [q, q'] at h1
          split at h1
          · rename_i cc fs qq
            split at h1
            · rename_i z ql
              cases qq
              exact (hx _ _ _ _ rfl ql).elim
            · cases h1
          · cases h1
    rw [this, h2]; rfl
theorem app_old {x : SC} {p : Pl} {c : SC} (h : cellAt ⟨σm, S⟩ p = some c) : cellAt ⟨σm, S ++ [x]⟩ p = some c := by
  cases p with
  | g i =>
    have h : S[i]? = some c := h
    show (S ++ [x])[i]? = some c
    rw [List.getElem?_append_left (List.getElem?_eq_some_iff.mp h).1]; exact h
  | s i => exact h
  | f i f =>
    obtain ⟨u, h1, h2⟩ := opt_map (show ((Me.mk σm S).field i f).map SC.c = some c from h)
    show ((Me.mk σm (S ++ [x])).field i f).map SC.c = some c
    have h1 : (match S[i]? with | some (.ins _ fs) => (match fs.lookup f with | some (.o c) => some c | _ => none) | _ => none) = some u := h1
    have : (Me.mk σm (S ++ [x])).field i f = some u := by
      show (match (S ++ [x])[i]? with | some (.ins _ fs) => (match fs.lookup f with | some (.o c) => some c | _ => none) | _ => none) = some u
      cases q : S[i]? with
      | none => rw [q] at h1; cases h1
      | some y => rw [List.getElem?_append_left (List.getElem?_eq_some_iff.mp q).1, q]; rw [q] at h1; exact h1
    rw [this, h2]; rfl
/-- a new cell of the store at a new address -/
theorem SR.newG (R : SR K ct w ⟨σm, S⟩ H σ) {x : SC} {p : Addr} {o : HO} {H' : Hp} (hp : H p = none) (hH : ∀ a u, H a = some u → H' a = some u) (hx : ∀ c fs f z, x = .ins c fs → fs.lookup f = some (.o z) → False) (hP : H' p = some o)
    (hc : ∀ w' m', w'.α (.g S.length) = p → Ext w ⟨σm, S⟩ H w' m' H' → CellR K ct w' m' H' (.g S.length) p x) :
    SR K ct (w.at (.g S.length) p) ⟨σm, S ++ [x]⟩ H' σ ∧ Ext w ⟨σm, S⟩ H (w.at (.g S.length) p) ⟨σm, S ++ [x]⟩ H' := by
  have hne : ∀ q c, cellAt ⟨σm, S⟩ q = some c → w.α q ≠ p := fun q c h => by
    obtain ⟨u, hu⟩ := R.M.there h
    exact ne_of_none hu hp
  have e : Ext w ⟨σm, S⟩ H (w.at (.g S.length) p) ⟨σm, S ++ [x]⟩ H' := by
    refine ⟨fun _ h => h, fun _ _ _ _ h => h, fun i c h => ⟨⟨c, app_old (p := .g i) (σm := σm) h⟩, Wd.at_ne ?_⟩, fun a u h n => ⟨hH a u h, ?_⟩, fun a u h n => ?_⟩
    · have h : S[i]? = some c := h
      have := (List.getElem?_eq_some_iff.mp h).1
      intro z; cases z; omega
    · rintro ⟨q, c, h1, h2, hl⟩
      rcases cell_app hx h1 with ⟨n1, k1⟩ | ⟨n1, _⟩
      · rw [Wd.at_ne n1] at h2; exact n ⟨q, c, k1, h2, hl⟩
      · subst n1
        rw [Wd.at_same] at h2
        exact ne_of_none h hp h2.symm
    · rintro ⟨q, c, h1, h2⟩
      rcases cell_app hx h1 with ⟨n1, k1⟩ | ⟨n1, _⟩
      · rw [Wd.at_ne n1] at h2; exact n ⟨q, c, k1, h2⟩
      · subst n1
        rw [Wd.at_same] at h2
        exact ne_of_none h hp h2.symm
  refine ⟨⟨⟨fun q1 q2 c1 c2 h1 h2 h3 => ?_, fun q c h => ?_, fun a h => ?_, fun q c h => ?_⟩, R.E.ext e rfl fun i => Wd.at_ne (by simp)⟩, e⟩
  · rcases cell_app hx h1 with ⟨n1, k1⟩ | ⟨n1, _⟩ <;> rcases cell_app hx h2 with ⟨n2, k2⟩ | ⟨n2, _⟩
    · rw [Wd.at_ne n1, Wd.at_ne n2] at h3; exact R.M.inj _ _ _ _ k1 k2 h3
    · subst n2
      rw [Wd.at_ne n1, Wd.at_same] at h3
      exact absurd h3 (hne _ _ k1)
    · subst n1
      rw [Wd.at_ne n2, Wd.at_same] at h3
      exact absurd h3.symm (hne _ _ k2)
    · rw [n1, n2]
  · rcases cell_app hx h with ⟨n1, k1⟩ | ⟨n1, rfl⟩
    · rw [Wd.at_ne n1]
      obtain ⟨u, hu⟩ := R.M.there k1
      exact (R.M.cells q c k1).ext e (fun i f z => Wd.at_ne (by simp)) (by rw [hu, hH _ _ hu])
    · subst n1
      rw [Wd.at_same]
      exact hc _ _ Wd.at_same e
  · obtain ⟨u, hu⟩ := R.M.out a h
    exact ⟨u, hH a u hu⟩
  · rcases cell_app hx h with ⟨n1, k1⟩ | ⟨n1, rfl⟩
    · rw [Wd.at_ne n1]; exact R.M.nout q c k1
    · subst n1
      rw [Wd.at_same]
      intro z
      obtain ⟨u, hu⟩ := R.M.out p z
      rw [hp] at hu; cases hu
end
end So

set_option Elab.async false
set_option linter.all false
set_option maxRecDepth 100000
set_option maxHeartbeats 4000000
namespace So
open PySem PySem.Spec PyProof.Rows L2
open Mi (D Cl FV SC Me Xc Res PV Ky Ev Tv Av Lv Iv Ov Sv Bd Out Tx RG Cal Tb)

section
variable {K : PySem.W.Frag} {ct : String → Option Addr} {w w1 : Wd} {σm : Mi.Env} {S S1 : List SC} {H H1 : Hp} {σ : L2.St}
/-- all that stands in the state refers below n -/
structure BlwS (n : Nat) (m : Me) : Prop where
  cell : ∀ p c, cellAt m p = some c → cblw n c = true
  env : ∀ (i : Nat) d, m.σ[i]? = some (some (FV.v d)) → d.blw n = true
theorem SR.blw {m : Me} (R : SR K ct w m H σ) : BlwS m.S.length m := by
  refine ⟨fun p c h => (R.M.cells p c h).blw, fun i d h => ?_⟩
  have hi : i < σ.length := by rw [← R.E.len]; exact (List.getElem?_eq_some_iff.mp h).1
  obtain ⟨u, _, r⟩ := R.E.at_ i _ _ h (List.getElem?_eq_some_iff.mpr ⟨hi, rfl⟩)
  exact r.blw
/-- the last cell is dropped -/
theorem mvb_drop {x : SC} : Mvb S.length w ⟨σm, S ++ [x]⟩ H w ⟨σm, S⟩ H := by
  refine ⟨fun a u n h => ⟨?_, h⟩, fun i c hi h => ?_⟩
  · rintro (z | ⟨p, c, k1, k2⟩)
    · exact n (.inl z)
    · exact n (.inr ⟨p, c, app_old k1, k2⟩)
  · have h : (S ++ [x])[i]? = some c := h
    rw [List.getElem?_append_left hi] at h
    exact ⟨⟨c, h⟩, rfl⟩
theorem SR.drop {x : SC} (R : SR K ct w ⟨σm, S ++ [x]⟩ H σ) (B : BlwS S.length ⟨σm, S⟩) : SR K ct w ⟨σm, S⟩ H σ ∧ ¬ Bad w ⟨σm, S⟩ (w.α (.g S.length)) := by
  have hn : cellAt ⟨σm, S ++ [x]⟩ (.g S.length) = some x := by show (S ++ [x])[S.length]? = some x; simp
  have e := mvb_drop (w := w) (σm := σm) (S := S) (x := x) (H := H)
  refine ⟨⟨⟨fun p q c c' h1 h2 => R.M.inj p q c c' (app_old h1) (app_old h2), fun p c h => (R.M.cells p c (app_old h)).mvb e (B.cell p c h) (fun _ _ _ => rfl) rfl, R.M.out, fun p c h => R.M.nout p c (app_old h)⟩, ⟨R.E.len, fun i y z h1 h2 => ?_⟩⟩, ?_⟩
  · have r := R.E.at_ i y z h1 h2
    cases y with
    | none => trivial
    | some f =>
      cases f with
      | v d => obtain ⟨u, e1, r'⟩ := r; exact ⟨u, e1, r'.mvb e (B.env i d h1)⟩
      | o c => exact r
      | lent => trivial
  · rintro (z | ⟨p, c, k1, k2⟩)
    · exact R.M.nout _ _ hn z
    · have := R.M.inj _ _ _ _ (app_old k1) hn k2
      subst this
      have k1 : S[S.length]? = some c := k1
      simp at k1
theorem ext_drop {w0 : Wd} {S0 : List SC} {σ0 : Mi.Env} {H0 : Hp} {x : SC} (hl : S0.length ≤ S.length) (e : Ext w0 ⟨σ0, S0⟩ H0 w ⟨σm, S ++ [x]⟩ H) : Ext w0 ⟨σ0, S0⟩ H0 w ⟨σm, S⟩ H := by
  refine ⟨e.Om, e.Oa, fun i c h => ?_, fun a o h n => ?_, fun a o h n ⟨p, c, k1, k2⟩ => e.nc a o h n ⟨p, c, app_old k1, k2⟩⟩
  · obtain ⟨⟨c', h1⟩, h2⟩ := e.gl i c h
    have hi : i < S0.length := (List.getElem?_eq_some_iff.mp (show S0[i]? = some c from h)).1
    have h1 : (S ++ [x])[i]? = some c' := h1
    rw [List.getElem?_append_left (by omega)] at h1
    exact ⟨⟨c', h1⟩, h2⟩
  · obtain ⟨h1, h2⟩ := e.keep a o h n
    exact ⟨h1, fun ⟨p, c, k1, k2⟩ => h2 ⟨p, c, app_old k1, k2⟩⟩
theorem plain_rep {m : Me} {i : Nat} : ∀ {fs : List (String × FV)} {l : List (String × D)} {vs : List (Str × V)}, RepG K ct w m H i fs vs → Mi.plainF fs = some l → RepF K ct w m H l vs
  | _, _, _, .nil, h => by cases h; exact .nil
  | _, _, _, .v r t, h => by
    obtain ⟨l', h1, rfl⟩ := opt_map h
    exact .cons r (plain_rep t h1)
  | _, _, _, .o _, h => by cases h
  | _, _, _, .l _, h => by cases h
theorem drop_one {α : Type} {S S' : List α} {x : α} (h1 : S'.drop S.length = [x]) (h2 : S'.take S.length = S) : S' = S ++ [x] := by
  rw [← List.take_append_drop S.length S', h1, h2]
end

/-! ### C(..) -/
section
variable {X : Cx} {ct : String → Option Addr} {k : Nat} {C : Cal} {T : Tb} {fns : List String} {x : Str} {p pos apos : Pos} {e o : Expr} {es : List Expr} {fa : Av} {fo fe : Ev}
def tMakeS (Ca : Addr) (sp : Sp) (E : L2.St → XK) (t : TA) : TE := fun σ H Q => t σ H fun vs H1 => ∀ y dx, H1 y = none → H1 dx = none → dx ≠ y →
  sp (.ref y :: vs) (upd (upd H1 dx (.own y)) y (.ins Ca dx [])) (fun v H2 => v = .non ∧ Q (.ref y) H2) (E σ)
theorem run_makeS {CX : CXT} {Ca a : Addr} {fd : FuncData} {ps : List Str} {sp : Sp} {E : L2.St → XK} {pins : List (Addr × Obj)} {σ : L2.St} {H : Hp} {s : Shared} {Q : VK} {us : List Value} {vs : List V} (M : Mk X.K Ca a) (F : FnOk X.prog X.w X.K X.mg X.base CX k a fd ps sp) (hr : Room (k + 1) X.A) (hb : L2.Binds X.K fd ps [])
    (hx : PassesAt CX X σ (E σ)) (I : Inv X pins σ H s) (r : Vals vs us)
    (h : ∀ y dx, H y = none → H dx = none → dx ≠ y → sp (.ref y :: vs) (upd (upd H dx (.own y)) y (.ins Ca dx [])) (fun v H2 => v = .non ∧ Q (.ref y) H2) (E σ)) :
    wpAny (model X.prog X.w) X.A (call (.ref Ca) us) (EP X pins σ Q) X.xe s := by
  have hq := h (s.heap.objs.size + 1) s.heap.objs.size (I.hok.fresh (Nat.le_succ _)) (I.hok.fresh (Nat.le_refl _)) (Nat.ne_of_lt (Nat.lt_succ_self _))
  have I2 := Inv.made (C := Ca) I
  have r2 : Vals (V.ref (s.heap.objs.size + 1) :: vs) (Value.ref (s.heap.objs.size + 1) :: us) := .cons rfl r
  have hl : (Value.ref (s.heap.objs.size + 1) :: us).length = ps.length := by rw [← r2.length]; exact F.len _ _ _ _ hq
  have b := hb _ (Value.ref (s.heap.objs.size + 1) :: us) I2.kIn (by rw [List.append_nil]; exact hl)
  rw [List.append_nil] at b
  refine wpAny_call (make_map (f := a) I.kIn M.makes M.init (beq_iff_eq.mp M.fn) (codeAny_mono (F.run _ X.stack _ _ ⟨Value.ref (s.heap.objs.size + 1) :: us, []⟩ _ _ _ (E σ) (hr.make Ca us [])
    (I2.env0.make Ca us []) b r2 hq) fun r s' hq' => ?_))
  cases r with
  | error e => exact hx pins _ _ e s' I2 hq'
  | ok fl =>
    cases fl with
    | ret u =>
      obtain ⟨v, H', I3, rv, ev, q3⟩ := I2.after hq'
      subst ev
      exact ⟨rv, ⟨V.ref (s.heap.objs.size + 1), H', I3, rfl, q3⟩⟩
    | next => exact hq'.elim
    | brk => exact hq'.elim
    | cont => exact hq'.elim
theorem pe_makeS {CX : CXT} {Ca a : Addr} {fd : FuncData} {ps : List Str} {sp : Sp} {E : L2.St → XK} {t : TA} (M : Mk X.K Ca a) (F : FnOk X.prog X.w X.K X.mg X.base CX k a fd ps sp) (hr : Room (k + 1) X.A) (hg : Gl X x) (hm : X.mg x = some (.ref Ca)) (hb : L2.Binds X.K fd ps []) (hx : ∀ σ, PassesAt CX X σ (E σ))
    (ha : PA X (e :: es) t) (hdb : (x == ("__debug__" : Str)) = false) (he : starEach (e :: es) X.env = (false, eval e X.env) :: starEach es X.env) (hpl : (backTo pos (starEach es X.env)).any (·.1) = false) :
    PE X (.Call (.Name x p) (e :: es) [] pos) (tMakeS Ca sp E t) :=
  ⟨fun pins s σ H Q I h => wpAny_Call_Name_kw (ld_glob I hg hm (PySem.W.callWith_K (h₀ := X.base) I.ok.mod.kin M.kp (thn (ha.run pos pins s σ H _ I h) fun us s1 ⟨vs, H1, I1, r, q⟩ => ⟨I1.kIn, run_makeS M F hr hb (hx σ) I1 r q⟩) he hpl) hdb)⟩
theorem pe_makeS0 {CX : CXT} {Ca a : Addr} {fd : FuncData} {ps : List Str} {sp : Sp} {E : L2.St → XK} (M : Mk X.K Ca a) (F : FnOk X.prog X.w X.K X.mg X.base CX k a fd ps sp) (hr : Room (k + 1) X.A) (hg : Gl X x) (hm : X.mg x = some (.ref Ca)) (hb : L2.Binds X.K fd ps []) (hx : ∀ σ, PassesAt CX X σ (E σ))
    (hdb : (x == ("__debug__" : Str)) = false) : PE X (.Call (.Name x p) [] [] pos) (tMakeS Ca sp E tNil) :=
  ⟨fun pins s σ H Q I h => wpAny_Call_Name_kw (ld_glob I hg hm (PySem.W.callWith_K0 I.kIn M.kp (run_makeS (us := []) M F hr hb (hx σ) I .nil h)) hdb)⟩
/-- a new instance in the store -/
theorem make_new {K : PySem.W.Frag} {w : Wd} {σm : Mi.Env} {S : List SC} {H : Hp} {σ : L2.St} {c : String} {Ca y dx : Addr} (R : SR K ct w ⟨σm, S⟩ H σ) (hc : ct c = some Ca) (hy : H y = none) (hd : H dx = none) (hne : dx ≠ y) :
    SR K ct (w.at (.g S.length) y) ⟨σm, S ++ [.ins c []]⟩ (upd (upd H dx (.own y)) y (.ins Ca dx [])) σ ∧ Ext w ⟨σm, S⟩ H (w.at (.g S.length) y) ⟨σm, S ++ [.ins c []]⟩ (upd (upd H dx (.own y)) y (.ins Ca dx [])) :=
  R.newG hy (fun a u h => by rw [upd_ne (ne_of_none h hy), upd_ne (ne_of_none h hd)]; exact h) (fun c fs f z h1 h2 => by cases h1; cases h2) upd_same fun w' m' _ _ => ⟨Ca, dx, [], _, rfl, hc, upd_same, .nil⟩
/-- what the class's __init__ leaves -/
theorem make_read {W : WX} {w1 : Wd} {m1 : Me} {H1 : Hp} {σ : L2.St} {ds : List D} {vs : List V} {c : String} {Ca : Addr} {g : List D → List SC → RG} {Q : VK} (S1 : SR X.K ct w1 m1 H1 σ) (hc : ct c = some Ca) (r : RepL X.K ct w1 m1 H1 ds vs)
    (h : match g (.ref m1.S.length :: ds) (m1.S ++ [.ins c []]) with
      | .ok d S' => d = .non ∧ ∀ w2 H2 y, SR X.K ct w2 ⟨m1.σ, S'⟩ H2 σ → Ext w1 m1 H1 w2 ⟨m1.σ, S'⟩ H2 → w2.α (.g m1.S.length) = y → (∃ z, S'[m1.S.length]? = some z) → Q (.ref y) H2
      | .ex xc S' => ∀ w2 H2, SR X.K ct w2 ⟨m1.σ, S'⟩ H2 σ → Ext w1 m1 H1 w2 ⟨m1.σ, S'⟩ H2 → PxW X.K ct W σ xc w2 ⟨m1.σ, S'⟩ H2
      | .bad => False) :
    ∀ y dx, H1 y = none → H1 dx = none → dx ≠ y → spOf X.K ct g (.ref y :: vs) (upd (upd H1 dx (.own y)) y (.ins Ca dx [])) (fun v H2 => v = .non ∧ Q (.ref y) H2) (fun cls dx H' => W cls dx σ H') := by
  intro y dx hy hd hne
  obtain ⟨σm, S⟩ := m1
  obtain ⟨R2, e2⟩ := make_new S1 hc hy hd hne
  have rn : RepD X.K ct (w1.at (.g S.length) y) ⟨σm, S ++ [.ins c []]⟩ (upd (upd H1 dx (.own y)) y (.ins Ca dx [])) (.ref S.length) (.ref y) := by
    have : RepD X.K ct (w1.at (.g S.length) y) ⟨σm, S ++ [.ins c []]⟩ (upd (upd H1 dx (.own y)) y (.ins Ca dx [])) (.ref S.length) (.ref ((w1.at (.g S.length) y).α (.g S.length))) := .ref (c := .ins c []) (by show (S ++ [SC.ins c []])[S.length]? = _; simp)
    rw [Wd.at_same] at this
    exact this
  refine call_read (σm := σm) (S := S ++ [.ins c []]) (ds := .ref S.length :: ds) (P := fun x' w' m' H' => x' = .v .non ∧ Q (.ref y) H') (Px := PxW X.K ct W σ) R2 (.cons rn (r.ext e2)) ?_ (fun x' w' m' H' v pv ⟨h1, h2⟩ => ?_) fun xc w' m' H' cls dx hx hp => hp cls dx hx
  · cases q : g (.ref S.length :: ds) (S ++ [.ins c []]) with
    | bad => rw [q] at h; exact h.elim
    | ex xc S' => rw [q] at h; exact fun w3 H3 R3 e3 => h w3 H3 R3 (e2.trans e3)
    | ok d S' =>
      rw [q] at h
      obtain ⟨rfl, h⟩ := h
      intro w3 H3 R3 e3
      obtain ⟨⟨z, hz⟩, ha⟩ := e3.gl S.length (.ins c []) (by show (S ++ [SC.ins c []])[S.length]? = _; simp)
      exact ⟨rfl, h w3 H3 y R3 (e2.trans e3) (by rw [ha, Wd.at_same]) ⟨z, hz⟩⟩
  · subst h1
    cases pv
    exact ⟨rfl, h2⟩
theorem mk_read {W : WX} {c key : String} {Ca : Addr} {w1 : Wd} {m1 : Me} {H1 : Hp} {σ : L2.St} {ps : List PV} {vs : List V} {Q : VK} (hk : T.ini c = some key) (hc : ct c = some Ca) (S1 : SR X.K ct w1 m1 H1 σ) (pv : PVRs X.K ct w1 m1 H1 σ ps vs)
    (h1 : RE X.K ct σ w1 m1 H1 (match PV.ds ps, T.ini c with
      | some ds, some key => (match C key (.ref m1.S.length :: ds) (m1.S ++ [.ins c []]) with
        | .ok .non S' => .ok (.v (.ref m1.S.length)) ⟨m1.σ, S'⟩
        | .ex x S' => .ex x ⟨m1.σ, S'⟩
        | _ => .bad)
      | _, _ => .bad) (fun x w' m' H' => ∀ v, PVR X.K ct w' m' H' σ x v → Q v H') (PxW X.K ct W σ)) :
    ∀ y dx, H1 y = none → H1 dx = none → dx ≠ y → spOf X.K ct (C key) (.ref y :: vs) (upd (upd H1 dx (.own y)) y (.ins Ca dx [])) (fun v H2 => v = .non ∧ Q (.ref y) H2) (fun cls dx H' => W cls dx σ H') := by
  rw [hk] at h1
  cases qd : PV.ds ps with
  | none => rw [qd] at h1; exact h1.elim
  | some ds =>
    rw [qd] at h1
    refine make_read S1 hc (ds_rep pv qd) ?_
    dsimp only at h1
    cases q : C key (.ref m1.S.length :: ds) (m1.S ++ [.ins c []]) with
    | bad => rw [q] at h1; exact h1.elim
    | ex xc S' => rw [q] at h1; exact h1
    | ok d S' =>
      rw [q] at h1
      cases d <;> first | exact h1.elim | skip
      exact ⟨rfl, fun w2 H2 y R2 e2 ha ⟨z, hz⟩ => h1 w2 H2 R2 e2 (.ref y) (by subst ha; exact RepD.ref (m := ⟨m1.σ, S'⟩) hz)⟩
theorem de_make (G : PF X.K ct X.prog X.w X.mg X.base k C T fns) (hr : Room (k + 1) X.A) (c : String) {key : String} (hk : T.ini c = some key) (hk0 : key ≠ "") (ha : DA X ct (e :: es) fa) (hx : nm c = x := by rfl) (hg : Gl X x := by rfl) (hdb : (x == ("__debug__" : Str)) = false := by decide)
    (he : starEach (e :: es) X.env = (false, eval e X.env) :: starEach es X.env := by rfl) (hpl : (backTo pos (starEach es X.env)).any (·.1) = false := by rfl) : DE X ct (.Call (.Name x p) (e :: es) [] pos) (Mi.eMake C T c fa) := by
  subst hx
  obtain ⟨Ca, a, g1, g2, g3, ⟨fd, ps, g4, g5⟩⟩ := G.ini c key hk hk0
  refine ⟨fun W tk => PE.imp (pe_makeS g3 g5 hr hg g2 g4 (fun σ => passAt tk σ) (ha.run W tk) hdb he hpl) fun σ H Q ⟨w, m, S, h⟩ => ?_⟩
  refine tA.part S h fun ps w1 m1 H1 vs S1 e1 pv h1 => ?_
  exact mk_read hk g1 S1 pv h1
theorem de_make_0 (G : PF X.K ct X.prog X.w X.mg X.base k C T fns) (hr : Room (k + 1) X.A) (c : String) {key : String} (hk : T.ini c = some key) (hk0 : key ≠ "") (hx : nm c = x := by rfl) (hg : Gl X x := by rfl) (hdb : (x == ("__debug__" : Str)) = false := by decide) :
    DE X ct (.Call (.Name x p) [] [] pos) (Mi.eMake C T c Mi.aNil) := by
  subst hx
  obtain ⟨Ca, a, g1, g2, g3, ⟨fd, ps, g4, g5⟩⟩ := G.ini c key hk hk0
  refine ⟨fun W tk => PE.imp (pe_makeS0 g3 g5 hr hg g2 g4 (fun σ => passAt tk σ) hdb) fun σ H Q ⟨w, m, S, h⟩ => ?_⟩
  exact mk_read (ps := []) (vs := []) hk g1 S .nil h
theorem mkF_read {W : WX} {c key : String} {Ca : Addr} {w1 : Wd} {m1 : Me} {H1 : Hp} {σ : L2.St} {ps : List PV} {vs : List V} {Q : VK} (hk : T.ini c = some key) (hc : ct c = some Ca) (S1 : SR X.K ct w1 m1 H1 σ) (pv : PVRs X.K ct w1 m1 H1 σ ps vs)
    {r : Res PV} (hr : r = (match PV.ds ps, T.ini c with
      | some ds, some key => (match C key (.ref m1.S.length :: ds) (m1.S ++ [.ins c []]) with
        | .ok .non S' => (match S'.drop m1.S.length with
          | [.ins c' fs] => (match Mi.plainF fs with
            | some l => (open Classical in if c' = c ∧ Mi.D.blwf m1.S.length l = true ∧ S'.take m1.S.length = m1.S then .ok (.v (.obj c l)) m1 else .bad)
            | none => .bad)
          | _ => .bad)
        | _ => .bad)
      | _, _ => .bad)) (h1 : RE X.K ct σ w1 m1 H1 r (fun x w' m' H' => ∀ v, PVR X.K ct w' m' H' σ x v → Q v H') (PxW X.K ct W σ)) :
    ∀ y dx, H1 y = none → H1 dx = none → dx ≠ y → spOf X.K ct (C key) (.ref y :: vs) (upd (upd H1 dx (.own y)) y (.ins Ca dx [])) (fun v H2 => v = .non ∧ Q (.ref y) H2) (fun cls dx H' => W cls dx σ H') := by
  rw [hk] at hr
  cases qd : PV.ds ps with
  | none => rw [qd] at hr; subst hr; exact h1.elim
  | some ds =>
    rw [qd] at hr
    refine make_read S1 hc (ds_rep pv qd) ?_
    dsimp only at hr
    cases q : C key (.ref m1.S.length :: ds) (m1.S ++ [.ins c []]) with
    | bad => rw [q] at hr; subst hr; exact h1.elim
    | ex xc S' => rw [q] at hr; subst hr; exact h1.elim
    | ok d S' =>
      rw [q] at hr
      cases d <;> first | (subst hr; exact h1.elim) | skip
      dsimp only at hr
      split at hr
      · rename_i c' fs q1
        split at hr
        · rename_i l q2
          split at hr
          · rename_i hcc
            obtain ⟨rfl, hb, ht⟩ := hcc
            subst hr
            obtain ⟨σm, S⟩ := m1
            have hS' : S' = S ++ [.ins c' fs] := drop_one q1 ht
            subst hS'
            refine ⟨rfl, fun w2 H2 y R2 e2 ha _ => ?_⟩
            obtain ⟨R3, nb⟩ := R2.drop (S := S) S1.blw
            have e3 := ext_drop (Nat.le_refl _) e2
            obtain ⟨Cb, dx, us, i, _, k1, k2, k3⟩ := R2.M.cells (.g S.length) (.ins c' fs) (by show (S ++ [SC.ins c' fs])[S.length]? = _; simp)
            have ha : w2.α (.g S.length) = y := ha
            rw [ha] at nb k2
            refine RE.ok h1 R3 e3 (.ref y) (RepD.obj (dx := dx) k1 nb ⟨_, k2, rfl⟩ ?_)
            exact (plain_rep k3 q2).mvb mvb_drop hb
          · subst hr; exact h1.elim
        · subst hr; exact h1.elim
      · subst hr; exact h1.elim
theorem de_makeF (G : PF X.K ct X.prog X.w X.mg X.base k C T fns) (hr : Room (k + 1) X.A) (c : String) {key : String} (hk : T.ini c = some key) (hk0 : key ≠ "") (ha : DA X ct (e :: es) fa) (hx : nm c = x := by rfl) (hg : Gl X x := by rfl) (hdb : (x == ("__debug__" : Str)) = false := by decide)
    (he : starEach (e :: es) X.env = (false, eval e X.env) :: starEach es X.env := by rfl) (hpl : (backTo pos (starEach es X.env)).any (·.1) = false := by rfl) : DE X ct (.Call (.Name x p) (e :: es) [] pos) (Mi.eMakeF C T c fa) := by
  subst hx
  obtain ⟨Ca, a, g1, g2, g3, ⟨fd, ps, g4, g5⟩⟩ := G.ini c key hk hk0
  refine ⟨fun W tk => PE.imp (pe_makeS g3 g5 hr hg g2 g4 (fun σ => passAt tk σ) (ha.run W tk) hdb he hpl) fun σ H Q ⟨w, m, S, h⟩ => ?_⟩
  refine tA.part S h fun ps w1 m1 H1 vs S1 e1 pv h1 => ?_
  exact mkF_read hk g1 S1 pv rfl h1
end
end So

set_option Elab.async false
set_option linter.all false
set_option maxRecDepth 100000
set_option maxHeartbeats 4000000
namespace So
open PySem PySem.Spec PyProof.Rows L2
open Mi (D Cl FV SC Me Xc Res PV Ky Ev Tv Av Lv Iv Ov Sv Bd Out Tx RG Cal Tb)

/-! ### o.f = e -/
section
variable {K : PySem.W.Frag} {ct : String → Option Addr} {w w1 : Wd} {m : Me} {H : Hp} {σ : L2.St}
def allV (fs : List (String × FV)) : Bool := fs.all fun p => match p.2 with | .v _ => true | _ => false
theorem allV_look : ∀ {fs : List (String × FV)} {f : String} {z : Cl}, allV fs = true → fs.lookup f = some (.o z) → False
  | (k, y) :: r, f, z, h, q => by
    unfold allV at h
    rw [List.all_cons, Bool.and_eq_true] at h
    rw [lookup_s] at q
    split at q
    · cases q; exact absurd h.1 (by simp)
    · exact allV_look (by unfold allV; exact h.2) q
theorem allV_put {f : String} {d : D} : ∀ {fs : List (String × FV)}, allV fs = true → allV (Mi.putF fs f (.v d)) = true
  | [], _ => rfl
  | (k, y) :: r, h => by
    unfold allV at h
    rw [List.all_cons, Bool.and_eq_true] at h
    show allV (if k = f then (k, FV.v d) :: r else (k, y) :: Mi.putF r f (.v d)) = true
    split
    · unfold allV; rw [List.all_cons, h.2]; rfl
    · have := allV_put (f := f) (d := d) (fs := r) (by unfold allV; exact h.2)
      unfold allV at this ⊢
      rw [List.all_cons, this, Bool.and_true]; exact h.1
theorem RepG.put {i : Nat} {f : String} {d : D} {u : V} (q : RepD K ct w m H d u) : ∀ {fs : List (String × FV)} {vs : List (Str × V)}, RepG K ct w m H i fs vs → RepG K ct w m H i (Mi.putF fs f (.v d)) (L2.putF (nm f) u vs)
  | _, _, .nil => .v q .nil
  | _, _, @RepG.v _ _ _ _ _ _ j d' u' fs vs r t => by
    show RepG K ct w m H i (if j = f then (j, FV.v d) :: fs else (j, .v d') :: Mi.putF fs f (.v d)) (if nm j = nm f then (nm j, u) :: vs else (nm j, u') :: L2.putF (nm f) u vs)
    by_cases h : j = f
    · subst h; rw [if_pos rfl, if_pos rfl]; exact .v q t
    · rw [if_neg h, if_neg fun z => h (nm_inj z)]; exact .v r (RepG.put q t)
  | _, _, @RepG.o _ _ _ _ _ _ j c' fs vs t => by
    show RepG K ct w m H i (if j = f then (j, FV.v d) :: fs else (j, .o c') :: Mi.putF fs f (.v d)) (if nm j = nm f then (nm j, u) :: vs else (nm j, .ref (w.α (.f i j))) :: L2.putF (nm f) u vs)
    by_cases h : j = f
    · subst h; rw [if_pos rfl, if_pos rfl]; exact .v q t
    · rw [if_neg h, if_neg fun z => h (nm_inj z)]; exact .o (RepG.put q t)
  | _, _, @RepG.l _ _ _ _ _ _ j fs vs t => by
    show RepG K ct w m H i (if j = f then (j, FV.v d) :: fs else (j, .lent) :: Mi.putF fs f (.v d)) (if nm j = nm f then (nm j, u) :: vs else (nm j, .ref (w.α (.f i j))) :: L2.putF (nm f) u vs)
    by_cases h : j = f
    · subst h; rw [if_pos rfl, if_pos rfl]; exact .v q t
    · rw [if_neg h, if_neg fun z => h (nm_inj z)]; exact .l (RepG.put q t)
theorem RepG.len {i : Nat} : ∀ {fs : List (String × FV)} {vs : List (Str × V)}, RepG K ct w m H i fs vs → vs.length = fs.length
  | _, _, .nil => rfl
  | _, _, .v _ t => by rw [List.length_cons, List.length_cons, RepG.len t]
  | _, _, .o t => by rw [List.length_cons, List.length_cons, RepG.len t]
  | _, _, .l t => by rw [List.length_cons, List.length_cons, RepG.len t]
theorem ins_set {σm : Mi.Env} {S : List SC} {n : Nat} {c : String} {fs : List (String × FV)} {p : Pl} {x : SC} (hn : n < S.length) (hz : allV fs = true) (h : cellAt ⟨σm, S.set n (.ins c fs)⟩ p = some x) : (p ≠ .g n ∧ cellAt ⟨σm, S⟩ p = some x) ∨ (p = .g n ∧ x = .ins c fs) := by
  cases p with
  | g k =>
    have h : (S.set n (.ins c fs))[k]? = some x := h
    by_cases e : n = k
    · subst e
      rw [List.getElem?_set_self hn] at h
      exact .inr ⟨rfl, (Option.some.inj h).symm⟩
    · rw [List.getElem?_set_ne e] at h
      exact .inl ⟨by simpa using fun z => e z.symm, h⟩
  | s j => exact .inl ⟨by simp, h⟩
  | f k f =>
    refine .inl ⟨by simp, ?_⟩
    obtain ⟨u, h1, h2⟩ := opt_map (show ((Me.mk σm (S.set n (.ins c fs))).field k f).map SC.c = some x from h)
    show ((Me.mk σm S).field k f).map SC.c = some x
    have h1 : (match (S.set n (.ins c fs))[k]? with | some (.ins _ fs) => (match fs.lookup f with | some (.o c) => some c | _ => none) | _ => none) = some u := h1
    have : (Me.mk σm S).field k f = some u := by
      show (match S[k]? with | some (.ins _ fs) => (match fs.lookup f with | some (.o c) => some c | _ => none) | _ => none) = some u
      by_cases e : n = k
      · subst e
        rw [List.getElem?_set_self hn] at h1
        dsimp only at h1
        split at h1
        · rename_i z ql; exact (allV_look hz ql).elim
        · cases h1
      · rw [List.getElem?_set_ne e] at h1
        exact h1
    rw [this, h2]; rfl
theorem SR.setF {σm : Mi.Env} {S : List SC} (R : SR K ct w ⟨σm, S⟩ H σ) {n : Nat} {c : String} {fs : List (String × FV)} {f : String} {d : D} {u : V} (hn : S[n]? = some (.ins c fs)) (hv : allV fs = true) (r : RepD K ct w ⟨σm, S⟩ H d u) :
    ∃ Ca dx vs, ct c = some Ca ∧ H (w.α (.g n)) = some (.ins Ca dx vs) ∧ vs.length = fs.length ∧ SR K ct w ⟨σm, S.set n (.ins c (Mi.putF fs f (.v d)))⟩ (upd H (w.α (.g n)) (.ins Ca dx (L2.putF (nm f) u vs))) σ ∧
      Ext w ⟨σm, S⟩ H w ⟨σm, S.set n (.ins c (Mi.putF fs f (.v d)))⟩ (upd H (w.α (.g n)) (.ins Ca dx (L2.putF (nm f) u vs))) := by
  have hl : n < S.length := (List.getElem?_eq_some_iff.mp hn).1
  have h1 : cellAt ⟨σm, S⟩ (.g n) = some (.ins c fs) := hn
  obtain ⟨Ca, dx, vs, i, hi, g1, g2, g3⟩ := R.M.cells _ _ h1
  cases hi
  have hv' := allV_put (f := f) (d := d) hv
  have at' : cellAt ⟨σm, S.set n (.ins c (Mi.putF fs f (.v d)))⟩ (.g n) = some (.ins c (Mi.putF fs f (.v d))) := by show (S.set n _)[n]? = _; rw [List.getElem?_set_self hl]
  have ext : Ext w ⟨σm, S⟩ H w ⟨σm, S.set n (.ins c (Mi.putF fs f (.v d)))⟩ (upd H (w.α (.g n)) (.ins Ca dx (L2.putF (nm f) u vs))) := by
    refine ⟨fun _ h => h, fun _ _ _ _ h => h, fun i y hi => ⟨?_, rfl⟩, fun a o h n' => ⟨?_, ?_⟩, fun a o h n' => ?_⟩
    · have : i < (S.set n (.ins c (Mi.putF fs f (.v d)))).length := by rw [List.length_set]; exact (List.getElem?_eq_some_iff.mp (show S[i]? = some y from hi)).1
      exact ⟨_, List.getElem?_eq_some_iff.mpr ⟨this, rfl⟩⟩
    · rw [upd_ne]
      · exact h
      · rintro rfl; exact n' ⟨.g n, _, h1, rfl, rfl⟩
    · rintro ⟨q, y, k1, k2⟩
      rcases ins_set hl hv' k1 with ⟨_, a2⟩ | ⟨rfl, _⟩
      · exact n' ⟨q, y, a2, k2⟩
      · exact n' ⟨.g n, _, h1, k2.1, rfl⟩
    · rintro ⟨q, y, k1, k2⟩
      rcases ins_set hl hv' k1 with ⟨_, a2⟩ | ⟨rfl, _⟩
      · exact n' ⟨q, y, a2, k2⟩
      · exact n' ⟨.g n, _, h1, k2⟩
  refine ⟨Ca, dx, vs, g1, g2, g3.len, ⟨⟨fun q1 q2 c1 c2 k1 k2 k3 => ?_, fun q y hq => ?_, fun a ha => ?_, fun q y hq => ?_⟩, R.E.ext ext rfl fun _ => rfl⟩, ext⟩
  · have f1 : ∃ y, cellAt ⟨σm, S⟩ q1 = some y := by
      rcases ins_set hl hv' k1 with ⟨_, a⟩ | ⟨rfl, _⟩
      · exact ⟨_, a⟩
      · exact ⟨_, h1⟩
    have f2 : ∃ y, cellAt ⟨σm, S⟩ q2 = some y := by
      rcases ins_set hl hv' k2 with ⟨_, a⟩ | ⟨rfl, _⟩
      · exact ⟨_, a⟩
      · exact ⟨_, h1⟩
    obtain ⟨y1, f1⟩ := f1
    obtain ⟨y2, f2⟩ := f2
    exact R.M.inj _ _ _ _ f1 f2 k3
  · rcases ins_set hl hv' hq with ⟨nq, a⟩ | ⟨rfl, rfl⟩
    · exact (R.M.cells q y a).ext ext (fun _ _ _ => rfl) (upd_ne fun z => nq (R.M.inj _ _ _ _ a h1 z))
    · exact ⟨Ca, dx, _, n, rfl, g1, upd_same, (g3.ext ext fun _ => rfl).put (RepD.ext ext r)⟩
  · obtain ⟨o, ho⟩ := R.M.out a ha
    by_cases z : a = w.α (.g n)
    · exact ⟨_, by rw [z]; exact upd_same⟩
    · exact ⟨o, by rw [upd_ne z]; exact ho⟩
  · rcases ins_set hl hv' hq with ⟨nq, a⟩ | ⟨rfl, rfl⟩
    · exact R.M.nout q y a
    · exact R.M.nout _ _ h1
end
section
variable {X : Cx} {ct : String → Option Addr} {k : Nat} {C : Cal} {T : Tb} {fns : List String} {x : Str} {p pos pos' apos : Pos} {e o : Expr} {es : List Expr} {fa : Av} {fo fe : Ev}
theorem ds_fld (G : PF X.K ct X.prog X.w X.mg X.base k C T fns) (f : String) {fS : Str} (ho : DE X ct o fo) (he : DE X ct e fe) (hx : nm f = fS := by rfl) (hs : swapsWith e (some (.Attribute o fS pos')) pos.line X.env = pure false := by rfl) :
    DS X ct (.Assign [.Attribute o fS pos'] e pos) (Mi.sFld T f fo fe) := by
  subst hx
  refine ⟨fun W tk => PS.imp (ps_fld (ho.run W tk) (he.run W tk) hs) fun D σ H ⟨w, m, S, h⟩ => ?_⟩
  refine tE.so S h fun y w1 m1 H1 v S1 e1 pv h1 => ?_
  refine tE.so S1 h1 fun x w2 m2 H2 u S2 e2 pu h2 => ?_
  split at h2
  · rename_i n d
    split at h2
    · rename_i c fs q
      split at h2
      · rename_i hc
        obtain ⟨c1, c2, c3⟩ := hc
        have pv2 : RepD X.K ct w2 m2 H2 d v := RepD.ext e2 pv
        obtain ⟨σm, Sm⟩ := m2
        obtain ⟨Ca, dx, vs, g1, g2, g3, R3, e3⟩ := SR.setF (f := f) S2 q c3 pv2
        cases pu
        obtain ⟨Ca', g4, g5, g6⟩ := G.fl c f c1
        rw [g1] at g4; cases g4
        exact ⟨_, Ca, dx, vs, rfl, g2, g5, g6, by rw [g3]; exact c2, h2 _ _ _ R3 e3⟩
      · exact h2.elim
    · exact h2.elim
  · exact h2.elim
/-! ### a cell lent -/
theorem de_lend (i : Nat) {f : Ev} (he : DE X ct e f) : DE X ct e (Mi.eLend i f) := ⟨fun W tk => PE.imp (he.run W tk) fun σ H Q ⟨w, m, S, h⟩ => by
  unfold Mi.eLend at h
  split at h
  · rename_i c hc
    obtain ⟨hs1, hs2, hs3⟩ := S.slot hc
    obtain ⟨σm, Sm⟩ := m
    have B := S.blw
    have hil : i < σm.length := (List.getElem?_eq_some_iff.mp (show σm[i]? = some (some (FV.o c)) from hs1)).1
    -- the lent state
    have key : ∀ {q : Pl} {x : SC}, cellAt ⟨σm.set i (some (.v (.ref Sm.length))), Sm ++ [.c c]⟩ q = some x → (q ≠ .g Sm.length ∧ q ≠ .s i ∧ cellAt ⟨σm, Sm⟩ q = some x) ∨ (q = .g Sm.length ∧ x = .c c) := fun {q x} hq => by
      rcases cell_app (fun _ _ _ _ z _ => by cases z) hq with ⟨n1, k1⟩ | z
      · rcases cell_set k1 with ⟨n2, k2⟩ | ⟨_, z, k2, _⟩
        · exact .inl ⟨n1, n2, k2⟩
        · cases k2
      · exact .inr z
    have mv : Mv w ⟨σm, Sm⟩ H (w.at (.g Sm.length) (w.α (.s i))) ⟨σm.set i (some (.v (.ref Sm.length))), Sm ++ [.c c]⟩ H := by
      refine ⟨fun a u n h => ⟨?_, h⟩, fun j y hj => ?_⟩
      · rintro (z | ⟨q, y, k1, k2⟩)
        · exact n (.inl z)
        · rcases key k1 with ⟨n1, n2, k3⟩ | ⟨rfl, rfl⟩
          · rw [Wd.at_ne n1] at k2; exact n (.inr ⟨q, y, k3, k2⟩)
          · rw [Wd.at_same] at k2; exact n (.inr ⟨.s i, _, hs3, k2⟩)
      · have hj : Sm[j]? = some y := hj
        have hl := (List.getElem?_eq_some_iff.mp hj).1
        exact ⟨⟨y, by show (Sm ++ [SC.c c])[j]? = _; rw [List.getElem?_append_left hl]; exact hj⟩, Wd.at_ne (by intro z; cases z; omega)⟩
    have R1 : SR X.K ct (w.at (.g Sm.length) (w.α (.s i))) ⟨σm.set i (some (.v (.ref Sm.length))), Sm ++ [.c c]⟩ H σ := by
      refine ⟨⟨fun q1 q2 c1 c2 k1 k2 k3 => ?_, fun q y hq => ?_, S.M.out, fun q y hq => ?_⟩, ⟨by show (σm.set i _).length = _; rw [List.length_set]; exact S.E.len, fun j y z k1 k2 => ?_⟩⟩
      · rcases key k1 with ⟨n1, n1', a1⟩ | ⟨n1, _⟩ <;> rcases key k2 with ⟨n2, n2', a2⟩ | ⟨n2, _⟩
        · rw [Wd.at_ne n1, Wd.at_ne n2] at k3; exact S.M.inj _ _ _ _ a1 a2 k3
        · subst n2
          rw [Wd.at_ne n1, Wd.at_same] at k3
          exact absurd (S.M.inj _ _ _ _ a1 hs3 k3) n1'
        · subst n1
          rw [Wd.at_ne n2, Wd.at_same] at k3
          exact absurd (S.M.inj _ _ _ _ a2 hs3 k3.symm) n2'
        · rw [n1, n2]
      · rcases key hq with ⟨n1, _, a1⟩ | ⟨rfl, rfl⟩
        · rw [Wd.at_ne n1]; exact (S.M.cells q y a1).mv mv (fun _ _ _ => Wd.at_ne (by simp)) rfl
        · rw [Wd.at_same]; exact ((S.M.cells _ _ hs3).mv mv (by intro _ _ z; cases z) rfl).pl
      · rcases key hq with ⟨n1, _, a1⟩ | ⟨rfl, rfl⟩
        · rw [Wd.at_ne n1]; exact S.M.nout q y a1
        · rw [Wd.at_same]; exact S.M.nout _ _ hs3
      · have k1 : (σm.set i (some (.v (.ref Sm.length))))[j]? = some y := k1
        by_cases q : i = j
        · subst q
          rw [List.getElem?_set_self hil] at k1
          cases k1
          have hs2' := hs2
          rw [k2] at hs2'
          cases hs2'
          refine ⟨_, rfl, ?_⟩
          have : RepD X.K ct (w.at (.g Sm.length) (w.α (.s i))) ⟨σm.set i (some (.v (.ref Sm.length))), Sm ++ [.c c]⟩ H (.ref Sm.length) (.ref ((w.at (.g Sm.length) (w.α (.s i))).α (.g Sm.length))) := .ref (c := .c c) (by show (Sm ++ [SC.c c])[Sm.length]? = _; simp)
          rw [Wd.at_same] at this
          exact this
        · rw [List.getElem?_set_ne q] at k1
          have r := S.E.at_ j y z k1 k2
          cases y with
          | none => trivial
          | some f =>
            cases f with
            | v d => obtain ⟨u, e1, r'⟩ := r; exact ⟨u, e1, r'.mv mv⟩
            | o c => show z = _; rw [Wd.at_ne (by simp)]; exact r
            | lent => trivial
    refine ⟨_, _, R1, ?_⟩
    cases q : f ⟨σm.set i (some (.v (.ref Sm.length))), Sm ++ [.c c]⟩ with
    | bad => dsimp only at h; rw [q] at h; exact h
    | ex x m2 => dsimp only at h; rw [q] at h; exact h.elim
    | ok x m2 =>
      dsimp only at h
      rw [q] at h
      cases x with
      | sl j => exact h.elim
      | v d =>
        dsimp only at h
        split at h
        · rename_i c' hd
          split at h
          · rename_i hcc
            obtain ⟨z1, z2, z3, z4⟩ := hcc
            obtain ⟨σ2, S2⟩ := m2
            have z1 : σ2 = σm.set i (some (.v (.ref Sm.length))) := z1
            subst z1
            have hS2 : S2 = Sm ++ [.c c'] := drop_one hd z2
            subst hS2
            intro w2 H2 R2 e2 v pv
            -- back into the slot
            have ha : w2.α (.g Sm.length) = w.α (.s i) := by
              have := (e2.gl Sm.length (.c c) (by show (Sm ++ [SC.c c])[Sm.length]? = _; simp)).2
              rw [this, Wd.at_same]
            have hn : cellAt ⟨σm.set i (some (.v (.ref Sm.length))), Sm ++ [.c c']⟩ (.g Sm.length) = some (.c c') := by show (Sm ++ [SC.c c'])[Sm.length]? = _; simp
            have key2 : ∀ {q : Pl} {x : SC}, cellAt ⟨σm.set i (some (.o c')), Sm⟩ q = some x → (q ≠ .s i ∧ cellAt ⟨σm.set i (some (.v (.ref Sm.length))), Sm ++ [.c c']⟩ q = some x ∧ q ≠ .g Sm.length ∧ cellAt ⟨σm, Sm⟩ q = some x) ∨ (q = .s i ∧ x = .c c') := fun {q x} hq => by
              rcases cell_set hq with ⟨n1, k1⟩ | ⟨n1, z, k1, k2⟩
              · refine .inl ⟨n1, app_old ?_, ?_, k1⟩
                · cases q with
                  | g j => exact k1
                  | f j s => exact k1
                  | s j =>
                    have hj : i ≠ j := fun z => n1 (by rw [z])
                    show ((Me.mk (σm.set i _) Sm).slot j).map SC.c = _
                    have : (Me.mk (σm.set i (some (.v (.ref Sm.length)))) Sm).slot j = (Me.mk σm Sm).slot j := by
                      unfold Mi.Me.slot
                      show (match (σm.set i _)[j]? with | some (some (.o c)) => some c | _ => none) = (match σm[j]? with | some (some (.o c)) => some c | _ => none)
                      rw [List.getElem?_set_ne hj]
                    rw [this]; exact k1
                · rintro rfl
                  have k1 : Sm[Sm.length]? = some x := k1
                  simp at k1
              · cases k1; exact .inr ⟨n1, k2⟩
            have mv2 : Mvb Sm.length w2 ⟨σm.set i (some (.v (.ref Sm.length))), Sm ++ [.c c']⟩ H2 (w2.at (.s i) (w.α (.s i))) ⟨σm.set i (some (.o c')), Sm⟩ H2 := by
              refine ⟨fun a u n h => ⟨?_, h⟩, fun j y hj hy => ?_⟩
              · rintro (z | ⟨q, y, k1, k2⟩)
                · exact n (.inl z)
                · rcases key2 k1 with ⟨n1, k3, _, _⟩ | ⟨rfl, rfl⟩
                  · rw [Wd.at_ne n1] at k2; exact n (.inr ⟨q, y, k3, k2⟩)
                  · rw [Wd.at_same] at k2; exact n (.inr ⟨.g Sm.length, _, hn, by rw [ha]; exact k2⟩)
              · have hy : (Sm ++ [SC.c c'])[j]? = some y := hy
                rw [List.getElem?_append_left hj] at hy
                exact ⟨⟨y, hy⟩, Wd.at_ne (by simp)⟩
            have ext : Ext w ⟨σm, Sm⟩ H (w2.at (.s i) (w.α (.s i))) ⟨σm.set i (some (.o c')), Sm⟩ H2 := by
              refine ⟨fun a h => e2.Om a h, fun a o h n z => ?_, fun j y hj => ⟨⟨y, hj⟩, ?_⟩, fun a o h n => ?_, fun a o h n => ?_⟩
              · refine e2.Oa a o h ?_ z
                rintro ⟨q, y, k1, k2⟩
                rcases key k1 with ⟨n1, n2, k3⟩ | ⟨rfl, rfl⟩
                · rw [Wd.at_ne n1] at k2; exact n ⟨q, y, k3, k2⟩
                · rw [Wd.at_same] at k2; exact n ⟨.s i, _, hs3, k2⟩
              · have hj : Sm[j]? = some y := hj
                have hl := (List.getElem?_eq_some_iff.mp hj).1
                have := (e2.gl j y (by show (Sm ++ [SC.c c])[j]? = _; rw [List.getElem?_append_left hl]; exact hj)).2
                rw [Wd.at_ne (by simp), this, Wd.at_ne (by intro z; cases z; omega)]
              · have n' : ¬ MutA (w.at (.g Sm.length) (w.α (.s i))).α ⟨σm.set i (some (.v (.ref Sm.length))), Sm ++ [.c c]⟩ a := by
                  rintro ⟨q, y, k1, k2⟩
                  rcases key k1 with ⟨n1, n2, k3⟩ | ⟨rfl, rfl⟩
                  · rw [Wd.at_ne n1] at k2; exact n ⟨q, y, k3, k2⟩
                  · rw [Wd.at_same] at k2; exact n ⟨.s i, _, hs3, k2⟩
                obtain ⟨h1, h2⟩ := e2.keep a o h n'
                refine ⟨h1, ?_⟩
                rintro ⟨q, y, k1, k2⟩
                rcases key2 k1 with ⟨n1, k3, _, _⟩ | ⟨rfl, rfl⟩
                · rw [Wd.at_ne n1] at k2; exact h2 ⟨q, y, k3, k2⟩
                · rw [Wd.at_same] at k2; exact h2 ⟨.g Sm.length, _, hn, by rw [ha]; exact k2.1, k2.2⟩
              · have n' : ¬ CelA (w.at (.g Sm.length) (w.α (.s i))).α ⟨σm.set i (some (.v (.ref Sm.length))), Sm ++ [.c c]⟩ a := by
                  rintro ⟨q, y, k1, k2⟩
                  rcases key k1 with ⟨n1, n2, k3⟩ | ⟨rfl, rfl⟩
                  · rw [Wd.at_ne n1] at k2; exact n ⟨q, y, k3, k2⟩
                  · rw [Wd.at_same] at k2; exact n ⟨.s i, _, hs3, k2⟩
                have h2 := e2.nc a o h n'
                rintro ⟨q, y, k1, k2⟩
                rcases key2 k1 with ⟨n1, k3, _, _⟩ | ⟨rfl, rfl⟩
                · rw [Wd.at_ne n1] at k2; exact h2 ⟨q, y, k3, k2⟩
                · rw [Wd.at_same] at k2; exact n ⟨.s i, _, hs3, k2⟩
            have R3 : SR X.K ct (w2.at (.s i) (w.α (.s i))) ⟨σm.set i (some (.o c')), Sm⟩ H2 σ := by
              refine ⟨⟨fun q1 q2 c1 c2 k1 k2 k3 => ?_, fun q y hq => ?_, R2.M.out, fun q y hq => ?_⟩, ⟨by show (σm.set i _).length = _; rw [List.length_set]; exact S.E.len, fun j y z k1 k2 => ?_⟩⟩
              · rcases key2 k1 with ⟨n1, a1, n1', _⟩ | ⟨n1, _⟩ <;> rcases key2 k2 with ⟨n2, a2, n2', _⟩ | ⟨n2, _⟩
                · rw [Wd.at_ne n1, Wd.at_ne n2] at k3; exact R2.M.inj _ _ _ _ a1 a2 k3
                · subst n2
                  rw [Wd.at_ne n1, Wd.at_same, ← ha] at k3
                  exact absurd (R2.M.inj _ _ _ _ a1 hn k3) n1'
                · subst n1
                  rw [Wd.at_ne n2, Wd.at_same, ← ha] at k3
                  exact absurd (R2.M.inj _ _ _ _ a2 hn k3.symm) n2'
                · rw [n1, n2]
              · rcases key2 hq with ⟨n1, a1, _, a3⟩ | ⟨rfl, rfl⟩
                · rw [Wd.at_ne n1]; exact (R2.M.cells q y a1).mvb mv2 (B.cell q y a3) (fun _ _ _ => Wd.at_ne (by simp)) rfl
                · rw [Wd.at_same]
                  have q9 := (R2.M.cells _ _ hn).mvb mv2 (show cblw Sm.length (.c c') = true from z4) (fun _ _ z => Wd.at_ne (by simp)) rfl
                  rw [ha] at q9
                  exact q9.pl
              · rcases key2 hq with ⟨n1, a1, _, _⟩ | ⟨rfl, rfl⟩
                · rw [Wd.at_ne n1]; exact R2.M.nout q y a1
                · rw [Wd.at_same, ← ha]; exact R2.M.nout _ _ hn
              · have k1 : (σm.set i (some (.o c')))[j]? = some y := k1
                by_cases q : i = j
                · subst q
                  rw [List.getElem?_set_self hil] at k1
                  cases k1
                  rw [hs2] at k2
                  cases k2
                  show _ = _
                  rw [Wd.at_same]
                · rw [List.getElem?_set_ne q] at k1
                  have r := R2.E.at_ j y z (by show (σm.set i _)[j]? = _; rw [List.getElem?_set_ne q]; exact k1) k2
                  cases y with
                  | none => trivial
                  | some f =>
                    cases f with
                    | v d => obtain ⟨u, e1, r'⟩ := r; exact ⟨u, e1, r'.mvb mv2 (B.env j d k1)⟩
                    | o c => show z = _; rw [Wd.at_ne (by simpa using fun z => q z.symm)]; exact r
                    | lent => trivial
            exact RE.ok h R3 ext v (RepD.mvb mv2 pv z3)
          · exact h.elim
        · exact h.elim
  · exact h.elim⟩
end
end So

set_option Elab.async false
set_option linter.all false
set_option maxRecDepth 100000
set_option maxHeartbeats 4000000
namespace So
open PySem PySem.Spec PyProof.Rows L2
open Mi (D Cl FV SC Me Xc Res PV Ky Ev Tv Av Lv Iv Ov Sv Bd Out Tx RG Cal Tb)

/-! ### a def -/
section
variable {K : PySem.W.Frag} {ct : String → Option Addr} {w w1 : Wd} {S S1 : List SC} {H H1 : Hp} {σ : L2.St}
theorem slot_start {ds : List D} {n i : Nat} : (Me.mk (ds.map (fun d => some (FV.v d)) ++ List.replicate n none) S).slot i = none := by
  unfold Mi.Me.slot
  split
  · rename_i c h
    rcases List.mem_append.mp (List.mem_of_getElem? h) with z | z
    · obtain ⟨d, _, e⟩ := List.mem_map.mp z
      cases e
    · cases (List.mem_replicate.mp z).2
  · rfl
theorem cell_start {ds : List D} {n : Nat} {p : Pl} {c : SC} (h : cellAt ⟨ds.map (fun d => some (FV.v d)) ++ List.replicate n none, S⟩ p = some c) : cellAt ⟨[], S⟩ p = some c := by
  cases p with
  | g i => exact h
  | f i s => exact h
  | s i =>
    have h : ((Me.mk (ds.map (fun d => some (FV.v d)) ++ List.replicate n none) S).slot i).map SC.c = some c := h
    rw [slot_start] at h; cases h
theorem mv_start {σm : Mi.Env} (hσ : ∀ p c, cellAt ⟨σm, S⟩ p = some c → cellAt ⟨[], S⟩ p = some c) : Mv w ⟨[], S⟩ H w ⟨σm, S⟩ H := by
  refine ⟨fun a u n h => ⟨?_, h⟩, fun i c h => ⟨⟨c, h⟩, rfl⟩⟩
  rintro (z | ⟨p, c, k1, k2⟩)
  · exact n (.inl z)
  · exact n (.inr ⟨p, c, hσ p c k1, k2⟩)
theorem start_SR (M : MRel K ct w ⟨[], S⟩ H) {ds : List D} {vs : List V} (r : RepL K ct w ⟨[], S⟩ H ds vs) {N : List Str} :
    SR K ct w ⟨ds.map (fun d => some (FV.v d)) ++ List.replicate (N.length - ds.length) none, S⟩ H (L2.start N vs) := by
  have hm := fun p c h => cell_start (S := S) (ds := ds) (n := N.length - ds.length) (p := p) (c := c) h
  have mv : Mv w ⟨[], S⟩ H w ⟨ds.map (fun d => some (FV.v d)) ++ List.replicate (N.length - ds.length) none, S⟩ H := mv_start hm
  have hl := r.length
  refine ⟨⟨fun p q c c' h1 h2 => M.inj p q c c' (hm _ _ h1) (hm _ _ h2), fun p c h => (M.cells p c (hm _ _ h)).mv mv (fun _ _ _ => rfl) rfl, M.out, fun p c h => M.nout p c (hm _ _ h)⟩, ⟨by simp [L2.start, hl], fun i x y h1 h2 => ?_⟩⟩
  have h1 : (ds.map (fun d => some (FV.v d)) ++ List.replicate (N.length - ds.length) none)[i]? = some x := h1
  unfold L2.start at h2
  by_cases hi : i < ds.length
  · rw [List.getElem?_append_left (by simpa using hi), List.getElem?_map] at h1
    rw [List.getElem?_append_left (by simpa [← hl] using hi), List.getElem?_map] at h2
    obtain ⟨d, hd, rfl⟩ := Option.map_eq_some_iff.mp h1
    obtain ⟨v, hv, rfl⟩ := Option.map_eq_some_iff.mp h2
    obtain ⟨v', hv', rd⟩ := r.get hd
    rw [hv] at hv'; cases hv'
    exact ⟨v, rfl, rd.mv mv⟩
  · rw [List.getElem?_append_right (by simpa using hi)] at h1
    have := List.mem_of_getElem? h1
    obtain ⟨_, rfl⟩ := List.mem_replicate.mp this
    trivial
/-- the frame is left -/
theorem leave_SR {σm : Mi.Env} (R : SR K ct w ⟨σm, S⟩ H σ) : ∃ w', MRel K ct w' ⟨[], S⟩ H ∧ Mv w ⟨σm, S⟩ H w' ⟨[], S⟩ H ∧ w'.α = w.α ∧ w'.O = w.O := by
  have mv : Mv w ⟨σm, S⟩ H w ⟨[], S⟩ H := by
    refine ⟨fun a u n h => ⟨?_, h⟩, fun i c h => ⟨⟨c, h⟩, rfl⟩⟩
    rintro (z | ⟨p, c, k1, k2⟩)
    · exact n (.inl z)
    · exact n (.inr ⟨p, c, (cell_nil k1).1, k2⟩)
  exact ⟨w, ⟨fun p q c c' h1 h2 => R.M.inj p q c c' (cell_nil h1).1 (cell_nil h2).1, fun p c h => (R.M.cells p c (cell_nil h).1).mv mv (fun _ _ _ => rfl) rfl, R.M.out, fun p c h => R.M.nout p c (cell_nil h).1⟩, mv, rfl, rfl⟩
theorem ext_leave {w0 : Wd} {S0 : List SC} {σ0 σm : Mi.Env} {H0 : Hp} (h0 : ∀ p c, cellAt ⟨σ0, S0⟩ p = some c → cellAt ⟨[], S0⟩ p = some c) (e : Ext w0 ⟨σ0, S0⟩ H0 w ⟨σm, S⟩ H) : Ext w0 ⟨[], S0⟩ H0 w ⟨[], S⟩ H := by
  refine ⟨e.Om, fun a o h n z => e.Oa a o h (fun ⟨p, c, k1, k2⟩ => n ⟨p, c, h0 p c k1, k2⟩) z, e.gl, fun a o h n => ?_, fun a o h n ⟨p, c, k1, k2⟩ => e.nc a o h (fun ⟨p, c, k1, k2⟩ => n ⟨p, c, h0 p c k1, k2⟩) ⟨p, c, (cell_nil k1).1, k2⟩⟩
  obtain ⟨h1, h2⟩ := e.keep a o h fun ⟨p, c, k1, k2⟩ => n ⟨p, c, h0 p c k1, k2⟩
  exact ⟨h1, fun ⟨p, c, k1, k2⟩ => h2 ⟨p, c, (cell_nil k1).1, k2⟩⟩
end
/-- a def by its body -/
theorem fn_sound {P : Program} {w : World} {K : PySem.W.Frag} {mg : Str → Option Value} {base : Heap} {ct : String → Option Addr} {x qual : Str} {st : Stmt} {f : Addr} {fd : FuncData} {N ps : List Str} {k : Nat} {body : Sv} (F : Fun K x qual st f fd) (S : FnScope N ps (defScope st))
    (hb : ∀ (cdv : Value) (A : Around) (outer : List Env) (s : Shared) (H : Hp) (E : XK), Room k (A.deeper (envOfC qual (defScope st) s.heap.objs.size f cdv)) → DSs (cxOf (L2.CX P w) P w K mg base N qual (defScope st) f cdv A outer s H E) ct (defBody st) body) :
    FnOk P w K mg base (L2.CX P w) (k + 1) f fd ps (spOf K ct (Mi.runF ps.length N.length body)) := by
  refine F.okX S (fun vs H Q E h => ?_) (fun cdv A outer s H vs Q E hr h => ?_)
  · obtain ⟨w, S, ds, M, r, h⟩ := h
    rw [← r.length]
    unfold Mi.runF at h
    by_cases hl : ds.length = ps.length
    · exact hl
    · rw [if_neg hl] at h; exact h.elim
  · refine ⟨_, (hb cdv A outer s H E hr).run (fun cls d _ H => E cls d H) (takes_of rfl rfl rfl rfl), ?_⟩
    obtain ⟨w, S, ds, M, r, h⟩ := h
    refine ⟨w, _, start_SR M r, ?_⟩
    unfold Mi.runF at h
    by_cases hl : ds.length = ps.length
    case neg => rw [if_neg hl] at h; exact h.elim
    rw [if_pos hl] at h
    have h0 : ∀ p c, cellAt ⟨ds.map (fun d => some (FV.v d)) ++ List.replicate (N.length - ds.length) none, S⟩ p = some c → cellAt ⟨[], S⟩ p = some c := fun p c h => cell_start h
    cases q : body ⟨ds.map (fun d => some (FV.v d)) ++ List.replicate (N.length - ds.length) none, S⟩ with
    | nx m =>
      rw [q] at h
      obtain ⟨σm, S'⟩ := m
      intro w1 H1 σ1 S1 e1
      obtain ⟨w2, M2, mv, e, e'⟩ := leave_SR S1
      obtain ⟨_, _⟩ := w1
      obtain ⟨_, _⟩ := w2
      cases e; cases e'
      exact h _ .non H1 M2 (ext_leave h0 e1) .non
    | rt d m =>
      rw [q] at h
      obtain ⟨σm, S'⟩ := m
      intro w1 H1 σ1 v S1 e1 rd
      obtain ⟨w2, M2, mv, e, e'⟩ := leave_SR S1
      obtain ⟨_, _⟩ := w1
      obtain ⟨_, _⟩ := w2
      cases e; cases e'
      exact h _ v H1 M2 (ext_leave h0 e1) (rd.mv mv)
    | ex xc m =>
      rw [q] at h
      obtain ⟨σm, S'⟩ := m
      intro w1 H1 σ1 cls dx S1 e1 rx
      obtain ⟨w2, M2, mv, e, e'⟩ := leave_SR S1
      obtain ⟨_, _⟩ := w1
      obtain ⟨_, _⟩ := w2
      cases e; cases e'
      exact h _ cls dx H1 M2 (ext_leave h0 e1) (rx.mv mv)
    | bk m => rw [q] at h; exact h.elim
    | ct m => rw [q] at h; exact h.elim
    | bad => rw [q] at h; exact h.elim
end So

set_option Elab.async false
set_option linter.all false
set_option maxRecDepth 100000
set_option maxHeartbeats 4000000
namespace So
open PySem PySem.Spec PyProof.Rows L2
open Mi (D Cl FV SC Me Xc Res PV Ky Ev Tv Av Lv Iv Ov Sv Bd Out Tx RG Cal Tb)

/-! ### dict(d), dicts that are the same -/
section
variable {X : Cx} {ct : String → Option Addr} {a b e : Expr} {pos p : Pos} {es : List Expr} {x : Str}
theorem ok_dict : CallOk X ct Mi.aDict (fun xs H Q => ∃ (a : Addr) (kvs : List (Key × V)), xs = [.ref a] ∧ Rd H a (.dK kvs) ∧ ∀ p, H p = none → Q (.ref p) (upd H p (.dK kvs))) := by
  intro w m H σ xs vs d Q S r hg k
  unfold Mi.aDict at hg
  split at hg
  · rename_i x
    cases r with
    | cons r t =>
      cases t
      obtain ⟨kvs, q, rfl⟩ := opt_map hg
      obtain ⟨a, us, rfl, h1, h2⟩ := S.kvs r q
      refine ⟨a, us, rfl, h1, fun p hp => k _ _ (S.fresh hp) (Ext.fresh hp) ?_⟩
      exact .dct (S.M.notBad hp) ⟨_, upd_same, rfl⟩ (h2.ext (Ext.fresh hp))
  · cases hg
theorem eqF_flat {K : PySem.W.Frag} {w : Wd} {m : Me} {H : Hp} {d e : D} {v u : V} (r : RepD K ct w m H d v) (r' : RepD K ct w m H e u) (h : Mi.eqF d e = true) : v = u ∧ flatB u = true := by
  unfold Mi.eqF at h
  split at h
  · cases r; cases r'; exact ⟨rfl, rfl⟩
  · rename_i a b
    have : a = b := by simpa using h
    subst this
    cases r; cases r'; exact ⟨rfl, rfl⟩
  · rename_i a b
    have : a = b := by simpa using h
    subst this
    cases r; cases r'; exact ⟨rfl, rfl⟩
  · rename_i a b
    have : a = b := by simpa using h
    subst this
    cases r; cases r'; exact ⟨rfl, rfl⟩
  · cases h
theorem same_hits {K : PySem.W.Frag} {w : Wd} {m : Me} {H : Hp} {ls : List (Ky × D)} {us : List (Key × V)} (rl : RepK K ct w m H ls us) : ∀ {ks : List (Ky × D)} {vs : List (Key × V)}, RepK K ct w m H ks vs →
    (ks.all fun p => match Mi.look ls p.1 with | some d => Mi.eqF d p.2 | none => false) = true → ∀ p ∈ vs, valV us p.1 = some p.2 ∧ flatB p.2 = true
  | _, _, .nil, _, p, hp => absurd hp List.not_mem_nil
  | _, _, .cons (k := k) (d := d) (v := v) r t, h, p, hp => by
    rw [List.all_cons, Bool.and_eq_true] at h
    rcases List.mem_cons.mp hp with rfl | hp
    · have h1 := h.1
      dsimp only at h1
      cases q : Mi.look ls k with
      | none => rw [q] at h1; cases h1
      | some d' =>
        rw [q] at h1
        obtain ⟨v', e1, e2⟩ := rl.lookS q
        obtain ⟨e3, e4⟩ := eqF_flat e2 r h1
        subst e3
        exact ⟨e1, e4⟩
    · exact same_hits rl t h.2 p hp
def rSameK (b : Bool) : R2 := fun x y H Q => ∃ a b' ks ls, x = .ref a ∧ y = .ref b' ∧ Rd H a (.dK ks) ∧ Rd H b' (.dK ls) ∧ ks.length = ls.length ∧ (∀ p ∈ ks, valV ls p.1 = some p.2 ∧ flatB p.2 = true) ∧ Q (.bl b) H
theorem op_eqK (hu : X.A.units < cLine) : OpR X (compareOp .Eq) (rSameK true) := by
  intro pins s σ H x y v u Q I rx ry h
  obtain ⟨a, b, ks, ls, rfl, rfl, ea, eb, hlen, hp, q⟩ := h
  obtain rfl : v = Value.ref a := rx
  obtain rfl : u = Value.ref b := ry
  obtain ⟨_, ya, va, ra, da⟩ := dk_rd I.hok ea
  obtain ⟨_, yb, vb, rb, db⟩ := dk_rd I.hok eb
  have hl : va.length = vb.length := by rw [← ra.length, ← rb.length]; exact hlen
  exact PySem.W.keq_eq (knd := mixKind X.prog X.w) (r := true) ya yb da db hu (fun _ => hits_all rb ra hp) (fin_bl I q (by simp [hl]))
theorem op_neK (hu : X.A.units < cLine) : OpR X (compareOp .NotEq) (rSameK false) := by
  intro pins s σ H x y v u Q I rx ry h
  obtain ⟨a, b, ks, ls, rfl, rfl, ea, eb, hlen, hp, q⟩ := h
  obtain rfl : v = Value.ref a := rx
  obtain rfl : u = Value.ref b := ry
  obtain ⟨_, ya, va, ra, da⟩ := dk_rd I.hok ea
  obtain ⟨_, yb, vb, rb, db⟩ := dk_rd I.hok eb
  have hl : va.length = vb.length := by rw [← ra.length, ← rb.length]; exact hlen
  exact PySem.W.keq_ne (knd := mixKind X.prog X.w) (r := true) ya yb da db hu (fun _ => hits_all rb ra hp) (fin_bl I q (by simp [hl]))
theorem ok_eqK : OpOk X ct Mi.gEqK (rSameK true) := by
  intro w m H σ x y v u d Q S rx ry hg k
  unfold Mi.gEqK at hg
  split at hg
  · rename_i ks ls q1 q2
    split at hg
    · rename_i hs
      cases hg
      unfold Mi.sameKv at hs
      rw [Bool.and_eq_true] at hs
      obtain ⟨a, us, rfl, h1, h2⟩ := S.kvs rx q1
      obtain ⟨a', us', rfl, h1', h2'⟩ := S.kvs ry q2
      refine ⟨_, _, us, us', rfl, rfl, h1, h1', ?_, same_hits h2' h2 hs.2, k _ H S (Ext.refl ..) (.bl _)⟩
      rw [← h2.length, ← h2'.length]; simpa using hs.1
    · cases hg
  · cases hg
theorem ok_neK : OpOk X ct Mi.gNeK (rSameK false) := by
  intro w m H σ x y v u d Q S rx ry hg k
  unfold Mi.gNeK at hg
  split at hg
  · rename_i ks ls q1 q2
    split at hg
    · rename_i hs
      cases hg
      unfold Mi.sameKv at hs
      rw [Bool.and_eq_true] at hs
      obtain ⟨a, us, rfl, h1, h2⟩ := S.kvs rx q1
      obtain ⟨a', us', rfl, h1', h2'⟩ := S.kvs ry q2
      refine ⟨_, _, us, us', rfl, rfl, h1, h1', ?_, same_hits h2' h2 hs.2, k _ H S (Ext.refl ..) (.bl _)⟩
      rw [← h2.length, ← h2'.length]; simpa using hs.1
    · cases hg
  · cases hg
theorem de_eqK (hu : X.A.units + 64 < cLine) {fa fb : Ev} (ha : DE X ct a fa) (hb : DE X ct b fb) : DE X ct (.Compare a [.Eq] [b] pos) (Mi.e2 Mi.gEqK fa fb) := de_cmp (op_eqK (by omega)) ok_eqK ha hb (nomark _)
theorem de_neK (hu : X.A.units + 64 < cLine) {fa fb : Ev} (ha : DE X ct a fa) (hb : DE X ct b fb) : DE X ct (.Compare a [.NotEq] [b] pos) (Mi.e2 Mi.gNeK fa fb) := de_cmp (op_neK (by omega)) ok_neK ha hb (nomark _)
theorem dt_eqK (hu : X.A.units + 64 < cLine) {fa fb : Ev} (ha : DE X ct a fa) (hb : DE X ct b fb) : DT X ct (.Compare a [.Eq] [b] pos) (Mi.tV (Mi.e2 Mi.gEqK fa fb)) := dt_cmp (op_eqK (by omega)) ok_eqK ha hb (nomark _)
theorem dt_neK (hu : X.A.units + 64 < cLine) {fa fb : Ev} (ha : DE X ct a fa) (hb : DE X ct b fb) : DT X ct (.Compare a [.NotEq] [b] pos) (Mi.tV (Mi.e2 Mi.gNeK fa fb)) := dt_cmp (op_neK (by omega)) ok_neK ha hb (nomark _)

/-! ### isinstance(x, bool) -/
theorem kit_bools {K : PySem.W.Frag} : PySem.W.kitOne K (.type "bool") (.type "bool") = some true ∧ PySem.W.kitOne K (.type "NoneType") (.type "bool") = some false ∧ PySem.W.kitOne K (.type "int") (.type "bool") = some false ∧ PySem.W.kitOne K (.type "str") (.type "bool") = some false :=
  ⟨by rfl, by rfl, by rfl, by rfl⟩
theorem de_isB (hg : Gl X "isinstance") (hm : X.mg "isinstance" = none) (hg2 : Gl X "bool") (hm2 : X.mg "bool" = none) {fa : Ev} {p2 : Pos} (ha : DE X ct e fa)
    (he : starEach [e, .Name "bool" p2] X.env = (false, eval e X.env) :: starEach [.Name "bool" p2] X.env := by rfl) (he2 : starEach [.Name "bool" p2] X.env = (false, eval (.Name "bool" p2) X.env) :: starEach [] X.env := by rfl)
    (hpl : (backTo pos (starEach [.Name "bool" p2] X.env)).any (·.1) = false := by rfl) : DE X ct (.Call (.Name "isinstance" p) [e, .Name "bool" p2] [] pos) (Mi.e1 Mi.gIsB fa) := by
  refine ⟨fun W tk => PE.imp (pe_callB call_isi hg hm (by rfl) (pa_cons (ha.run W tk) (pa_cons (pe_bltn (v := .ty "bool") (u := .type "bool") hg2 hm2 (by rfl) rfl) pa_nil (by exact he2)) (by exact he)) (by decide) (by decide) he hpl) fun σ H Q ⟨w, m, S, h⟩ => ?_⟩
  refine tE.part S h fun x w1 m1 H1 v S1 e1 pv h1 => ?_
  obtain ⟨d, hd, h3⟩ := h1.opt
  have fin : ∀ (t : Value) (b : Bool), TyX X.K H1 v t → PySem.W.kitOne X.K t (.type "bool") = some b → d = .bl b → rIsi X.K [v, .ty "bool"] H1 Q := fun t b ty hk hb => by
    subst hb
    exact ⟨v, .ty "bool", t, .type "bool", b, rfl, .ty _, ty, hk, RE.ok h3 S1 (Ext.refl ..) _ (.bl _)⟩
  unfold Mi.gIsB at hd
  split at hd
  · cases hd; cases pv; exact fin _ _ (.base (.bl _)) kit_bools.1 rfl
  · cases hd; cases pv; exact fin _ _ (.base .non) kit_bools.2.1 rfl
  · cases hd; cases pv; exact fin _ _ (.base (.int _)) kit_bools.2.2.1 rfl
  · cases hd; cases pv; exact fin _ _ (.base (.str _)) kit_bools.2.2.2 rfl
  · cases hd
end
end So

set_option Elab.async false
set_option linter.all false
set_option maxRecDepth 100000
set_option maxHeartbeats 4000000
namespace So
open PySem PySem.Spec PyProof.Rows L2
open Mi (D Cl FV SC Me Xc Res PV Ky Ev Tv Av Lv Iv Ov Sv Bd Out Tx RG Cal Tb)

/-! ### max(xs, default=d) -/
section
variable {X : Cx} {ct : String → Option Addr} {a b e : Expr} {pos p : Pos} {es : List Expr} {x : Str}
theorem maxOf_int (x : Int) (xs : List Int) : PySem.W.maxOf x xs = Mi.maxI x xs := by
  unfold PySem.W.maxOf Mi.maxI
  congr 1
  funext a y
  by_cases h : a < y
  · rw [if_pos h, if_pos (by show decide (a < y) = true; simpa using h)]
  · rw [if_neg h, if_neg (by show ¬ decide (a < y) = true; simpa using h)]
theorem ints_hold {h : Heap} : ∀ {vs : List Value} {ns : List Int}, Vals (ns.map V.int) vs → PySem.W.HoldAll h vs ns
  | _, [], .nil => .nil
  | _, n :: ns, .cons r t => by
    obtain ⟨tk, rfl⟩ := r
    exact .cons (PySem.W.holds_int n tk) (ints_hold t)
def rMaxD (K : PySem.W.Frag) : List V → List V → Hp → VK → Prop := fun vs zs H Q => ∃ (a : Addr) (ns : List Int) (d : V), vs = [.ref a] ∧ zs = [d] ∧ SqL K H a (ns.map V.int) ∧
  (ns = [] → Q d H) ∧ ∀ y ys, ns = y :: ys → Q (.int (Mi.maxI y ys)) H
theorem call_maxDef (hc : X.calm = true) (hu : X.A.units + 64 < cLine) : CallRK X (.builtin "max") ["default"] (rMaxD X.K) := by
  intro pins s σ H vs zs us ws Q I r rz h
  obtain ⟨a, ns, d, rfl, rfl, hs, q0, q1⟩ := h
  obtain ⟨its, rv, hl, _⟩ := I.list hs
  rw [Vals.ref1 r]
  obtain ⟨u, rfl, ru⟩ := vals1 rz
  refine PySem.W.max_list_datum_default (α := Int) (I.ok.hd hc) hl.isList (ints_hold rv) (by show X.A.units + 1 + 0 < cLine; omega) (fun e h' tk hk => ⟨d, H, I.kept hk, ru, q0 e⟩) fun y ys i v h' tk e hi hh hk => ?_
  obtain ⟨as, ra⟩ := hh
  refine ⟨.int _, H, I.kept hk, ?_, q1 y ys e⟩
  rw [maxOf_int] at ra
  cases ra
  exact ⟨_, rfl⟩
/-- keywords -/
structure DKw (X : Cx) (ct : String → Option Addr) (kws : List Keyword) (f : Av) : Prop where
  run : ∀ W, L2.Takes X W → PK X kws (tA X.K ct W f)
theorem PK.imp {kws : List Keyword} {t t' : TA} (h : PK X kws t) (i : ∀ σ H Q, t' σ H Q → t σ H Q) : PK X kws t' := ⟨fun p pins s σ H Q I q => h.run p pins s σ H Q I (i _ _ _ q)⟩
theorem cons_read {W : WX} {fa : Ev} {fr : Av} {σ : L2.St} {H : Hp} {Q : List V → Hp → Prop} (h : tA X.K ct W (Mi.aCons fa fr) σ H Q) : tCons (tE X.K ct W fa) (tA X.K ct W fr) σ H Q := by
  obtain ⟨w, m, S, h⟩ := h
  refine tE.part S h fun x w1 m1 H1 v S1 e1 pv h1 => ?_
  refine tA.part S1 h1 fun xs w2 m2 H2 vs S2 e2 pvs h2 => ?_
  exact RE.ok h2 S2 (Ext.refl ..) _ (.cons (pv.ext e2) pvs)
theorem dk_nil : DKw X ct [] Mi.aNil := ⟨fun W tk => PK.imp pk_nil fun σ H Q ⟨w, m, S, h⟩ => RE.ok h S (Ext.refl ..) [] .nil⟩
theorem dk_cons {nmk : Option Str} {kp : Pos} {kws : List Keyword} {fa : Ev} {fr : Av} (ha : DE X ct e fa) (hr : DKw X ct kws fr) : DKw X ct (⟨nmk, e, kp⟩ :: kws) (Mi.aCons fa fr) :=
  ⟨fun W tk => PK.imp (pk_cons (ha.run W tk) (hr.run W tk)) fun σ H Q h => cons_read h⟩
theorem asInts_rep {K : PySem.W.Frag} {w : Wd} {m : Me} {H : Hp} : ∀ {ds : List D} {vs : List V} {ns : List Int}, RepL K ct w m H ds vs → Mi.asInts ds = some ns → vs = ns.map V.int
  | _, _, _, .nil, h => by cases h; rfl
  | _, _, _, .cons (d := d) r t, h => by
    cases d <;> first | (cases h; done) | skip
    obtain ⟨l, h1, rfl⟩ := opt_map h
    cases r
    rw [asInts_rep t h1]
    rfl
theorem sqL_ls {K : PySem.W.Frag} {w : Wd} {m : Me} {H : Hp} {σ : L2.St} (S : SR K ct w m H σ) {x : PV} {v : V} {xs : List D} (r : PVR K ct w m H σ x v) (h : m.ls x = some xs) : ∃ a vs, v = .ref a ∧ SqL K H a vs ∧ RepL K ct w m H xs vs := by
  unfold Mi.Me.ls at h
  split at h
  · cases h
    cases r with
    | scr h1 h2 => exact ⟨_, _, rfl, sqL_of h1, h2⟩
  · split at h
    · rename_i q
      cases h
      obtain ⟨a, vs, e, h1, h2⟩ := S.lst r q
      exact ⟨a, vs, e, SqL.of h1, h2⟩
    · cases h
theorem de_maxD (hc : X.calm = true) (hu : X.A.units + 64 < cLine) (hg : Gl X "max") (hm : X.mg "max" = none) {kp : Pos} {fa fb : Ev} (ha : DE X ct a fa) (hb : DE X ct b fb)
    (hs1 : starEach [a] X.env = (false, eval a X.env) :: starEach [] X.env := by rfl) (he : backTo pos (starEach [a] X.env) = (false, eval a X.env) :: backTo pos (starEach [] X.env) := by rfl) (hpl : (backTo pos (starEach [a] X.env)).any (·.1) = false := by rfl)
    (hall : (backToKw pos (keywordEach [⟨some "default", b, kp⟩] X.env)).all (·.1.isSome) = true := by rfl) (hnone : (backToKw pos (keywordEach [⟨some "default", b, kp⟩] X.env)).any (·.1.isNone) = false := by rfl) (hks : (backToKw pos (keywordEach [⟨some "default", b, kp⟩] X.env)).filterMap (·.1) = (["default"] : List Str) := by rfl) :
    DE X ct (.Call (.Name "max" p) [a] [⟨some "default", b, kp⟩] pos) (Mi.eAK Mi.aMaxD (Mi.aCons fa Mi.aNil) (Mi.aCons fb Mi.aNil)) := by
  refine ⟨fun W tk => PE.imp (pe_callBK (call_maxDef hc hu) hg hm (by rfl) ((da_cons ha da_nil hs1).run W tk) ((dk_cons hb dk_nil).run W tk) (by decide) (by decide) he hpl hall hnone hks) fun σ H Q ⟨w, m, S, h⟩ => ?_⟩
  refine tA.part S h fun xs w1 m1 H1 vs S1 e1 pv h1 => ?_
  refine tA.part S1 h1 fun zs w2 m2 H2 us S2 e2 pz h2 => ?_
  obtain ⟨d, hd, h3⟩ := h2.opt
  have pv := pv.ext e2
  unfold Mi.aMaxD at hd
  split at hd
  · rename_i x dz
    cases pv with
    | cons px t =>
      cases t
      cases pz with
      | cons pz t =>
        cases t
        split at hd
        · rename_i q
          cases hd
          obtain ⟨xs, q1, q2⟩ := opt_bind q
          obtain ⟨a, vs, rfl, g1, g2⟩ := sqL_ls S2 px q1
          have := asInts_rep g2 q2
          subst this
          exact ⟨a, [], _, rfl, rfl, g1, fun _ => RE.ok h3 S2 (Ext.refl ..) _ pz, fun y ys e => by cases e⟩
        · rename_i y ys q
          cases hd
          obtain ⟨xs, q1, q2⟩ := opt_bind q
          obtain ⟨a, vs, rfl, g1, g2⟩ := sqL_ls S2 px q1
          have := asInts_rep g2 q2
          subst this
          refine ⟨a, y :: ys, _, rfl, rfl, g1, ⟨(fun e => nomatch e), ?_⟩⟩
          intro y' ys' e
          cases e
          exact RE.ok h3 S2 (Ext.refl ..) _ (.int _)
        · cases hd
  · cases hd
end

/-! ### C() where there is no __init__ -/
section
variable {X : Cx} {ct : String → Option Addr} {k : Nat} {C : Cal} {T : Tb} {fns : List String} {x : Str} {p pos : Pos}
theorem run_make0 {Ca : Addr} {pins : List (Addr × Obj)} {σ : L2.St} {H : Hp} {s : Shared} {Q : VK} (I : Inv X pins σ H s) (hm : PySem.W.makesIn X.K Ca = true) (hi : PySem.W.findIn X.K (.ref Ca) "__init__" = some (some (.builtin "object.__init__"))) (ht : PySem.W.mroIn X.K Ca (.type "object") = some true)
    (h : ∀ y dx, H y = none → H dx = none → dx ≠ y → Q (.ref y) (upd (upd H dx (.own y)) y (.ins Ca dx []))) : wpAny (model X.prog X.w) X.A (call (.ref Ca) []) (EP X pins σ Q) X.xe s := by
  have hq := h (s.heap.objs.size + 1) s.heap.objs.size (I.hok.fresh (Nat.le_succ _)) (I.hok.fresh (Nat.le_refl _)) (Nat.ne_of_lt (Nat.lt_succ_self _))
  have I2 := Inv.made (C := Ca) I
  refine wpAny_call (make_map0 I.kIn hm hi (fun self => PySem.W.Looks.of_pure (PySem.W.oi_bind self)) ?_)
  have g1 : ((s.heap.push PySem.W.emptyDict).push (PySem.W.instObj Ca s.heap.objs.size)).get? (s.heap.objs.size + 1) = some (PySem.W.instObj Ca s.heap.objs.size) := by
    have := Heap.get?_push_size (s.heap.push PySem.W.emptyDict) (o := PySem.W.instObj Ca s.heap.objs.size) rfl
    rwa [Heap.size_push] at this
  have t1 : PySem.W.Looks (model X.prog X.w) ((s.heap.push PySem.W.emptyDict).push (PySem.W.instObj Ca s.heap.objs.size)) (typeOf (.ref (s.heap.objs.size + 1))) (.ref Ca) := (PySem.W.Looks.ld g1).andThen .now
  have t2 : PySem.W.Looks (model X.prog X.w) ((s.heap.push PySem.W.emptyDict).push (PySem.W.instObj Ca s.heap.objs.size)) (isInstance (.ref (s.heap.objs.size + 1)) (.type "object")) true := t1.andThen (PySem.W.looks_mroIn I2.kIn ht)
  refine codeAny_call_builtin PySem.W.oi_plain PySem.W.entry_oi (@PySem.W.check_slot (model X.prog X.w) _ _ _ "object.__init__" "object" "__init__" (.ref (s.heap.objs.size + 1)) [] [] _ PySem.W.oi_kind PySem.W.oi_split t2 (PySem.W.oi_args (.ref (s.heap.objs.size + 1))) ?_)
  rw [PySem.W.oi_run]
  exact wpAny_pure (And.intro rfl ⟨.ref (s.heap.objs.size + 1), _, I2, rfl, hq⟩)
def tMk0 (Ca : Addr) : TE := fun σ H Q => ∀ y dx, H y = none → H dx = none → dx ≠ y → Q (.ref y) (upd (upd H dx (.own y)) y (.ins Ca dx []))
theorem pe_mk0 {Ca : Addr} (hm : PySem.W.makesIn X.K Ca = true) (hi : PySem.W.findIn X.K (.ref Ca) "__init__" = some (some (.builtin "object.__init__"))) (hk : PySem.W.keepIn X.K (.ref Ca) = true) (ht : PySem.W.mroIn X.K Ca (.type "object") = some true) (hg : Gl X x) (hmg : X.mg x = some (.ref Ca))
    (hdb : (x == ("__debug__" : Str)) = false) : PE X (.Call (.Name x p) [] [] pos) (tMk0 Ca) :=
  ⟨fun pins s σ H Q I h => wpAny_Call_Name_kw (ld_glob I hg hmg (PySem.W.callWith_K0 I.kIn hk (run_make0 I hm hi ht h)) hdb)⟩
theorem de_make0 (G : PF X.K ct X.prog X.w X.mg X.base k C T fns) (c : String) (hk : T.ini c = some "") (hx : nm c = x := by rfl) (hg : Gl X x := by rfl) (hdb : (x == ("__debug__" : Str)) = false := by decide) : DE X ct (.Call (.Name x p) [] [] pos) (Mi.eMake0 T c) := by
  subst hx
  obtain ⟨Ca, g1, g2, g3, g4, g5, g6⟩ := G.ini0 c hk
  refine ⟨fun W tk => PE.imp (pe_mk0 g3 g4 g5 g6 hg g2 hdb) fun σ H Q ⟨w, m, S, h⟩ => ?_⟩
  intro y dx hy hd hne
  unfold Mi.eMake0 at h
  rw [if_pos hk] at h
  obtain ⟨σm, Sm⟩ := m
  have hy' : (upd H dx (.own y)) y = none := by rw [upd_ne (Ne.symm hne)]; exact hy
  have S1 : SR X.K ct w ⟨σm, Sm⟩ (upd H dx (.own y)) σ := S.fresh hd
  have S2 : SR X.K ct w ⟨σm, Sm⟩ (upd (upd H dx (.own y)) y (.ins Ca dx [])) σ := S1.fresh hy'
  exact RE.ok h S2 ((Ext.fresh hd).trans (Ext.fresh hy')) _ (.obj (dx := dx) g1 (S1.M.notBad hy') (nd_same rfl) .nil)
end
end So

set_option Elab.async false
set_option linter.all false
set_option maxRecDepth 100000
set_option maxHeartbeats 4000000
namespace So
open PySem PySem.Spec PyProof.Rows L2
open Mi (D Cl FV SC Me Xc Res PV Ky Ev Tv Av Lv Iv Ov Sv Bd Out Tx RG Cal Tb)

/-! ### either of two readings -/
section
variable {X : Cx} {ct : String → Option Addr} {a b e : Expr} {pos p : Pos} {es : List Expr} {x : Str}
theorem RE.bad {α : Type} {K : PySem.W.Frag} {w : Wd} {m : Me} {H : Hp} {σ : L2.St} {P : α → Wd → Me → Hp → Prop} {Px : Xc → Wd → Me → Hp → Prop} {q : Prop} {r : Res α} (hr : r = .bad) (h : RE K ct σ w m H r P Px) : q := by
  subst hr; exact h.elim
theorem de_or2 {f f1 f2 : Ev} (h1 : DE X ct e f1) (h2 : DE X ct e f2) (hf : ∀ m, f m = f1 m ∨ f m = f2 m ∨ f m = .bad) : DE X ct e f :=
  ⟨fun W tk => ⟨fun pins s σ H Q I ⟨w, m, S, h⟩ => by
    rcases hf m with q | q | q
    · rw [q] at h; exact (h1.run W tk).run pins s σ H Q I ⟨w, m, S, h⟩
    · rw [q] at h; exact (h2.run W tk).run pins s σ H Q I ⟨w, m, S, h⟩
    · rw [q] at h; exact h.elim⟩⟩
theorem dt_or2 {f f1 f2 : Tv} (h1 : DT X ct e f1) (h2 : DT X ct e f2) (hf : ∀ m, f m = f1 m ∨ f m = f2 m ∨ f m = .bad) : DT X ct e f :=
  ⟨fun W tk => ⟨fun pins s σ H Q I ⟨w, m, S, h⟩ => by
    rcases hf m with q | q | q
    · rw [q] at h; exact (h1.run W tk).run pins s σ H Q I ⟨w, m, S, h⟩
    · rw [q] at h; exact (h2.run W tk).run pins s σ H Q I ⟨w, m, S, h⟩
    · rw [q] at h; exact h.elim⟩⟩
theorem e2_orG {g h : PV → PV → Me → Option D} {fa fb : Ev} (m : Me) : Mi.e2 (Mi.orG g h) fa fb m = Mi.e2 g fa fb m ∨ Mi.e2 (Mi.orG g h) fa fb m = Mi.e2 h fa fb m ∨ Mi.e2 (Mi.orG g h) fa fb m = .bad := by
  unfold Mi.e2
  cases fa m with
  | ok x m1 =>
    show (fb m1).bind _ = (fb m1).bind _ ∨ (fb m1).bind _ = (fb m1).bind _ ∨ (fb m1).bind _ = .bad
    cases fb m1 with
    | ok y m2 =>
      show (Res.opt (Mi.orG g h x y m2) m2).bind _ = (Res.opt (g x y m2) m2).bind _ ∨ (Res.opt (Mi.orG g h x y m2) m2).bind _ = (Res.opt (h x y m2) m2).bind _ ∨ _
      unfold Mi.orG
      cases g x y m2 with
      | some d => exact .inl rfl
      | none => exact .inr (.inl rfl)
    | ex x m2 => exact .inl rfl
    | bad => exact .inl rfl
  | ex x m1 => exact .inl rfl
  | bad => exact .inl rfl
theorem tV_or {f f1 f2 : Ev} (m : Me) (h : f m = f1 m ∨ f m = f2 m ∨ f m = .bad) : Mi.tV f m = Mi.tV f1 m ∨ Mi.tV f m = Mi.tV f2 m ∨ Mi.tV f m = .bad := by
  unfold Mi.tV
  rcases h with q | q | q
  · exact .inl (by rw [q])
  · exact .inr (.inl (by rw [q]))
  · exact .inr (.inr (by rw [q]; rfl))
theorem de_orG {g h : PV → PV → Me → Option D} {fa fb : Ev} (h1 : DE X ct e (Mi.e2 g fa fb)) (h2 : DE X ct e (Mi.e2 h fa fb)) : DE X ct e (Mi.e2 (Mi.orG g h) fa fb) := de_or2 h1 h2 fun m => e2_orG m
theorem dt_orG {g h : PV → PV → Me → Option D} {fa fb : Ev} (h1 : DT X ct e (Mi.tV (Mi.e2 g fa fb))) (h2 : DT X ct e (Mi.tV (Mi.e2 h fa fb))) : DT X ct e (Mi.tV (Mi.e2 (Mi.orG g h) fa fb)) := dt_or2 h1 h2 fun m => tV_or m (e2_orG m)
theorem de_catV {fa fb : Ev} (ha : DE X ct a fa) (hb : DE X ct b fb) : DE X ct (.BinOp a .Add b pos) (Mi.e2 Mi.gCat fa fb) := by
  refine de_or2 (de_l (dl_cat ha hb)) (de_l (dl_cat ha hb)) fun m => .inl ?_
  unfold Mi.e2 Mi.eL Mi.lCat Mi.gCat
  cases fa m with
  | ok x m1 =>
    simp only [Res.bind_ok, Mi.Res.bind_ok]
    cases fb m1 with
    | ok y m2 =>
      simp only [Mi.Res.bind_ok]
      split
      · split <;> rfl
      · rfl
    | ex x m2 => rfl
    | bad => rfl
  | ex x m1 => rfl
  | bad => rfl
theorem de_addU {fa fb : Ev} (ha : DE X ct a fa) (hb : DE X ct b fb) : DE X ct (.BinOp a .Add b pos) (Mi.e2 Mi.gAddU fa fb) := de_orG (de_add ha hb) (de_catV ha hb)
theorem de_ixU (hu : X.A.units + 1 < cLine) {fa fb : Ev} (ha : DE X ct a fa) (hb : DE X ct b fb) (hs : PlainIx b := by exact fun _ _ => rfl) (hs2 : NoSl b := by exact fun _ _ => rfl) : DE X ct (.Subscript a b pos) (Mi.e2 Mi.gIxU fa fb) :=
  de_orG (de_ix ha hb hs) (de_orG (de_ixT ha hb hs) (de_key hu ha hb hs2))
theorem de_inT {fa fb : Ev} (ha : DE X ct a fa) (hb : DE X ct b fb) (hm : behindInMarks .In b = false := by rfl) : DE X ct (.Compare a [.In] [b] pos) (Mi.e2 Mi.gInT fa fb) := de_cmp op_in_sign ok_inT ha hb hm
theorem de_notInT {fa fb : Ev} (ha : DE X ct a fa) (hb : DE X ct b fb) (hm : behindInMarks .NotIn b = false := by rfl) : DE X ct (.Compare a [.NotIn] [b] pos) (Mi.e2 Mi.gNotInT fa fb) := de_cmp op_notIn_sign ok_notInT ha hb hm
theorem de_notInK (hu : X.A.units + 1 < cLine) {fa fb : Ev} (ha : DE X ct a fa) (hb : DE X ct b fb) (hm : behindInMarks .NotIn b = false := by rfl) : DE X ct (.Compare a [.NotIn] [b] pos) (Mi.e2 Mi.gNotInK fa fb) :=
  ⟨fun W tk => PE.imp (pe_cmp (pc_dnotin hu (ha.run W tk) (hb.run W tk)) hm) fun _ _ _ h => dnotin_read h⟩
theorem de_inU (hu : X.A.units + 1 < cLine) {fa fb : Ev} (ha : DE X ct a fa) (hb : DE X ct b fb) (hm : behindInMarks .In b = false := by rfl) : DE X ct (.Compare a [.In] [b] pos) (Mi.e2 Mi.gInU fa fb) :=
  de_orG (de_in ha hb hm) (de_orG (de_inT ha hb hm) (de_inK hu ha hb hm))
theorem de_notInU (hu : X.A.units + 1 < cLine) {fa fb : Ev} (ha : DE X ct a fa) (hb : DE X ct b fb) (hm : behindInMarks .NotIn b = false := by rfl) : DE X ct (.Compare a [.NotIn] [b] pos) (Mi.e2 Mi.gNotInU fa fb) :=
  de_orG (de_notIn ha hb hm) (de_orG (de_notInT ha hb hm) (de_notInK hu ha hb hm))
theorem dt_inU (hu : X.A.units + 1 < cLine) {fa fb : Ev} (ha : DE X ct a fa) (hb : DE X ct b fb) (hm : behindInMarks .In b = false := by rfl) : DT X ct (.Compare a [.In] [b] pos) (Mi.tV (Mi.e2 Mi.gInU fa fb)) :=
  dt_orG (dt_in ha hb hm) (dt_orG (dt_inT ha hb hm) (dt_inK hu ha hb hm))
theorem dt_notInU (hu : X.A.units + 1 < cLine) {fa fb : Ev} (ha : DE X ct a fa) (hb : DE X ct b fb) (hm : behindInMarks .NotIn b = false := by rfl) : DT X ct (.Compare a [.NotIn] [b] pos) (Mi.tV (Mi.e2 Mi.gNotInU fa fb)) :=
  dt_orG (dt_notIn ha hb hm) (dt_orG (dt_notInT ha hb hm) (dt_notInK hu ha hb hm))
theorem de_eqU (hu : X.A.units + 64 < cLine) {fa fb : Ev} (ha : DE X ct a fa) (hb : DE X ct b fb) : DE X ct (.Compare a [.Eq] [b] pos) (Mi.e2 Mi.gEqU fa fb) := de_orG (de_eq hu ha hb) (de_eqK hu ha hb)
theorem de_neU (hu : X.A.units + 64 < cLine) {fa fb : Ev} (ha : DE X ct a fa) (hb : DE X ct b fb) : DE X ct (.Compare a [.NotEq] [b] pos) (Mi.e2 Mi.gNeU fa fb) := de_orG (de_ne hu ha hb) (de_neK hu ha hb)
theorem dt_eqU (hu : X.A.units + 64 < cLine) {fa fb : Ev} (ha : DE X ct a fa) (hb : DE X ct b fb) : DT X ct (.Compare a [.Eq] [b] pos) (Mi.tV (Mi.e2 Mi.gEqU fa fb)) := dt_orG (dt_eq hu ha hb) (dt_eqK hu ha hb)
theorem dt_neU (hu : X.A.units + 64 < cLine) {fa fb : Ev} (ha : DE X ct a fa) (hb : DE X ct b fb) : DT X ct (.Compare a [.NotEq] [b] pos) (Mi.tV (Mi.e2 Mi.gNeU fa fb)) := dt_orG (dt_ne hu ha hb) (dt_neK hu ha hb)
theorem di_or2 {tg : Expr} {f f1 f2 : Iv} (h1 : DI X ct tg e f1) (h2 : DI X ct tg e f2) (hf : ∀ m, f m = f1 m ∨ f m = f2 m ∨ f m = .bad) : DI X ct tg e f := by
  refine ⟨fun W tk => ⟨fun pins s σ H R I ⟨w, m, S, h⟩ => ?_⟩⟩
  rcases hf m with q | q | q
  · rw [q] at h; exact (h1.run W tk).run pins s σ H R I ⟨w, m, S, h⟩
  · rw [q] at h; exact (h2.run W tk).run pins s σ H R I ⟨w, m, S, h⟩
  · rw [q] at h; exact h.elim
/-- a list or a tuple -/
def iLT (f : Ev) : Iv := fun m => (f m).bind fun x m1 => match x with
  | .v (.lst xs) => .ok xs m1
  | .v (.scr xs) => .ok xs m1
  | .v (.tup xs) => .ok xs m1
  | _ => .bad
theorem di_any {tg : Expr} {f : Ev} (he : DE X ct e f) : DI X ct tg e (Mi.iAny f) := by
  refine di_or2 (f1 := iLT f) (f2 := Mi.iStr f) (di_or2 (di_lst he) (di_tup he) fun m => ?_) (di_str he) fun m => ?_
  · unfold iLT Mi.iLst Mi.iTup
    cases f m with
    | ok x m1 =>
      cases x with
      | sl i => exact .inr (.inr rfl)
      | v d => cases d <;> first | exact .inl rfl | exact .inr (.inl rfl) | exact .inr (.inr rfl)
    | ex x m1 => exact .inl rfl
    | bad => exact .inl rfl
  · unfold iLT Mi.iAny Mi.iStr
    cases f m with
    | ok x m1 =>
      cases x with
      | sl i => exact .inr (.inr rfl)
      | v d => cases d <;> first | exact .inl rfl | exact .inr (.inl rfl) | exact .inr (.inr rfl)
    | ex x m1 => exact .inl rfl
    | bad => exact .inl rfl
end
end So

set_option Elab.async false
set_option linter.all false
set_option maxRecDepth 100000
set_option maxHeartbeats 4000000
namespace So
open PySem PySem.Spec PyProof.Rows L2
open Mi (D Cl FV SC Me Xc Res PV Ky Ev Tv Av Lv Iv Ov Sv Bd Out Tx RG Cal Tb)

theorem all_nil {α : Type} {P : α → Prop} : ∀ x ∈ ([] : List α), P x := fun x h => absurd h List.not_mem_nil
theorem all_cons {α : Type} {P : α → Prop} {a : α} {l : List α} (h : P a) (t : ∀ x ∈ l, P x) : ∀ x ∈ a :: l, P x := fun x hx => by
  rcases List.mem_cons.mp hx with rfl | hx
  · exact h
  · exact t x hx
section
variable {M : List (String × String × String)} {I F : List (String × String)}
theorem mt_all {Q : String → String → String → Prop} (h : ∀ p ∈ M, Q p.1 p.2.1 p.2.2) : ∀ c f key, (Mi.tbOf M I F).mt c f = some key → Q c f key := fun c f key e => by
  obtain ⟨p, q, rfl⟩ := opt_map (show (M.find? fun p => p.1 == c && p.2.1 == f).map (·.2.2) = some key from e)
  have h1 := List.find?_some q
  have h2 := h p (List.mem_of_find?_eq_some q)
  rw [Bool.and_eq_true, beq_iff_eq, beq_iff_eq] at h1
  rw [h1.1, h1.2] at h2
  exact h2
theorem in_all {Q : String → String → Prop} (h : ∀ p ∈ I, p.2 ≠ "" → Q p.1 p.2) : ∀ c key, (Mi.tbOf M I F).ini c = some key → key ≠ "" → Q c key := fun c key e n => by
  obtain ⟨p, q, rfl⟩ := opt_map (show (I.find? fun p => p.1 == c).map (·.2) = some key from e)
  have h1 := List.find?_some q
  have h2 := h p (List.mem_of_find?_eq_some q) n
  rw [beq_iff_eq] at h1
  rw [h1] at h2
  exact h2
theorem in0_all {Q : String → Prop} (h : ∀ p ∈ I, p.2 = "" → Q p.1) : ∀ c, (Mi.tbOf M I F).ini c = some "" → Q c := fun c e => by
  obtain ⟨p, q, e2⟩ := opt_map (show (I.find? fun p => p.1 == c).map (·.2) = some "" from e)
  have h1 := List.find?_some q
  have h2 := h p (List.mem_of_find?_eq_some q) e2.symm
  rw [beq_iff_eq] at h1
  rw [h1] at h2
  exact h2
theorem fl_all {Q : String → String → Prop} (h : ∀ p ∈ F, Q p.1 p.2) : ∀ c f, (Mi.tbOf M I F).fl c f = true → Q c f := fun c f e => by
  obtain ⟨p, q, e2⟩ := List.any_eq_true.mp (show (F.any fun p => p.1 == c && p.2 == f) = true from e)
  have h2 := h p q
  rw [Bool.and_eq_true, beq_iff_eq, beq_iff_eq] at e2
  rw [e2.1, e2.2] at h2
  exact h2
end
section
variable {P : Program} {w : World} {K : PySem.W.Frag} {mg : Str → Option Value} {base : Heap} {ct : String → Option Addr}
theorem sp_bad {vs : List V} {H : Hp} {Q : VK} {E : XK} : ¬ spOf K ct (fun _ _ => RG.bad) vs H Q E := fun ⟨_, _, _, _, _, h⟩ => h
theorem fn_bad {k : Nat} {f : Addr} {fd : FuncData} {ps : List Str} : FnOk P w K mg base (L2.CX P w) k f fd ps (spOf K ct (fun _ _ => RG.bad)) :=
  ⟨fun vs H Q E h => absurd h sp_bad, fun A outer s H args us vs Q E hr he hb hv h => absurd h sp_bad⟩
/-- the law's own promise -/
theorem law_sp {g : List D → List SC → RG} {H : Hp} {a : Addr} {ns : List Int} {Q : VK} {E : XK} (h : ∃ S, g [.scr (ns.map D.int)] [] = .ok (.bl true) S) (hS : SqL K H a (ns.map V.int)) (q : ∀ H', Q (.bl true) H') : spOf K ct g [.ref a] H Q E := by
  obtain ⟨S, h⟩ := h
  have no : ∀ (p : Pl) (c : SC), cellAt ⟨[], []⟩ p = some c → False := fun p c h => by
    cases p with
    | g i => cases h
    | f i s => cases h
    | s i => exact ((cell_nil (σm := []) h).2 i) rfl
  have nb : ¬ Bad ⟨fun _ => 0, fun _ => False⟩ ⟨[], []⟩ a := by
    rintro (z | ⟨p, c, k1, k2⟩)
    · exact z
    · exact no p c k1
  refine ⟨⟨fun _ => 0, fun _ => False⟩, [], [.scr (ns.map D.int)], ⟨fun p q c c' h1 => (no p c h1).elim, fun p c h1 => (no p c h1).elim, fun a h => h.elim, fun p c h1 => (no p c h1).elim⟩, .cons (.scr ?_ (RepL.ints ns)) .nil, ?_⟩
  · rcases hS with hS | hS
    · rcases hS with hS | ⟨o, hS⟩
      · exact .inl ⟨nb, _, ⟨_, hS, rfl⟩, .inl rfl⟩
      · exact .inl ⟨nb, _, ⟨_, hS, rfl⟩, .inr ⟨o, rfl⟩⟩
    · exact .inr hS
  · rw [h]
    intro w' v H' M e r
    cases r
    exact q H'
theorem cx_none {l : World → Program} : ∀ (w : World) (H : Hp) (s : Shared) (e : Value) (s' : Shared), L2.CX (l w) w [] H s (fun _ _ _ => False) e s' → False := fun _ _ _ _ _ h => by
  obtain ⟨_, _, _, _, _, _, _, _, _, _, _, _, z⟩ := h
  exact z.elim
end
end So

set_option Elab.async false
set_option linter.all false
set_option maxRecDepth 100000
set_option maxHeartbeats 4000000
namespace So
open PySem PySem.Spec PyProof.Rows L2
open Mi (D Cl FV SC Me Xc Res PV Ky Ev Tv Av Lv Iv Ov Sv Bd Out Tx RG Cal Tb)
theorem call_lenU {X : Cx} : CallR X (.builtin "len") (fun xs H Q => (∃ p ys, xs = [.ref p] ∧ (SqL X.K H p ys ∨ SqT X.K H p ys) ∧ Q (.int ys.length) H) ∨ ∃ z, xs = [.str z] ∧ z.length ≤ sizeLine ∧ Q (.int z.length) H) := by
  intro pins s σ H xs us Q I r h
  refine call_len pins s σ H xs us Q I r ?_
  rcases h with ⟨p, ys, rfl, h1, q⟩ | ⟨z, rfl, h1, q⟩
  · exact ⟨.ref p, ys.length, rfl, h1.imp (fun h => ⟨ys, h, rfl⟩) (fun h => ⟨ys, h, rfl⟩), q⟩
  · exact ⟨.str z, z.length, rfl, ⟨h1, rfl⟩, q⟩
end So

set_option Elab.async false
set_option linter.all false
set_option maxRecDepth 100000
set_option maxHeartbeats 4000000
namespace So
open PySem PySem.Spec PyProof.Rows L2
open Mi (D Cl FV SC Me Xc Res PV Ky Ev Tv Av Lv Iv Ov Sv Bd Out Tx RG Cal Tb)
/-! ### isinstance with built-in types -/
def tys : List String := ["NoneType", "bool", "int", "str", "list", "tuple", "dict"]
theorem kit_ty {K : PySem.W.Frag} (t T : String) (ht : t ∈ tys) (hT : T ∈ tys) : PySem.W.kitOne K (.type t) (.type T) = some (Mi.isTy t T) := by
  simp only [tys, List.mem_cons, List.not_mem_nil, or_false] at ht hT
  rcases ht with rfl | rfl | rfl | rfl | rfl | rfl | rfl <;> rcases hT with rfl | rfl | rfl | rfl | rfl | rfl | rfl <;> rfl
section
variable {X : Cx} {ct : String → Option Addr} {a b e : Expr} {pos p : Pos} {es : List Expr} {x : Str}
theorem ty_of {K : PySem.W.Frag} {w : Wd} {m : Me} {H : Hp} {d : D} {v : V} {t : String} (r : RepD K ct w m H d v) (h : Mi.tyD d = some t) : TyX K H v (.type t) ∧ t ∈ tys := by
  unfold Mi.tyD at h
  split at h <;> first | (cases h; done) | skip
  · cases h; cases r; exact ⟨.base .non, by decide⟩
  · cases h; cases r; exact ⟨.base (.bl _), by decide⟩
  · cases h; cases r; exact ⟨.base (.int _), by decide⟩
  · cases h; cases r; exact ⟨.base (.str _), by decide⟩
  · cases h
    cases r with
    | lst n g r => exact ⟨.base (.lst g.lst), by decide⟩
  · cases h
    cases r with
    | tup n g r => exact ⟨.base (.tup g.tup), by decide⟩
  · cases h
    cases r with
    | dct n g r =>
      rcases g.dK with g | ⟨o, g⟩
      · exact ⟨.base (.dK g), by decide⟩
      · exact ⟨.fDict g, by decide⟩
theorem ty_own {K : PySem.W.Frag} {w : Wd} {m : Me} {H : Hp} {σ : L2.St} (S : SR K ct w m H σ) {y : PV} {v : V} (r : PVR K ct w m H σ y v) : (∀ xs, m.own y = some (.lst xs) → TyX K H v (.type "list")) ∧ ∀ xs, m.own y = some (.dct xs) → TyX K H v (.type "dict") := by
  refine ⟨fun xs h => ?_, fun xs h => ?_⟩
  · obtain ⟨p, e, h1, ⟨vs, h2, _⟩, _⟩ := S.own r h
    subst e
    exact .base (.lst h2)
  · obtain ⟨p, e, h1, ⟨vs, h2, _⟩, _⟩ := S.own r h
    subst e
    exact .base (.dK h2)
theorem de_isT (T : String) (hT : T ∈ tys) (hg : Gl X "isinstance") (hm : X.mg "isinstance" = none) {tn : Str} (hg2 : Gl X tn) (hm2 : X.mg tn = none) (hv2 : bootBuiltins tn = some (.type T)) {fa : Ev} {p2 : Pos} (ha : DE X ct e fa)
    (hn : tn ≠ "__name__" := by decide) (hd : (tn == ("__debug__" : Str)) = false := by decide)
    (he : starEach [e, .Name tn p2] X.env = (false, eval e X.env) :: starEach [.Name tn p2] X.env := by rfl) (he2 : starEach [.Name tn p2] X.env = (false, eval (.Name tn p2) X.env) :: starEach [] X.env := by rfl)
    (hpl : (backTo pos (starEach [.Name tn p2] X.env)).any (·.1) = false := by rfl) : DE X ct (.Call (.Name "isinstance" p) [e, .Name tn p2] [] pos) (Mi.e1 (Mi.gIsT T) fa) := by
  refine ⟨fun W tk => PE.imp (pe_callB call_isi hg hm (by rfl) (pa_cons (ha.run W tk) (pa_cons (pe_bltn (v := .ty T) (u := .type T) hg2 hm2 hv2 rfl hn hd) pa_nil (by exact he2)) (by exact he)) (by decide) (by decide) he hpl) fun σ H Q ⟨w, m, S, h⟩ => ?_⟩
  refine tE.part S h fun y w1 m1 H1 v S1 e1 pv h1 => ?_
  obtain ⟨d, hd, h3⟩ := h1.opt
  have fin : ∀ (t : String), t ∈ tys → TyX X.K H1 v (.type t) → d = .bl (Mi.isTy t T) → rIsi X.K [v, .ty T] H1 Q := fun t ht ty hb => by
    subst hb
    exact ⟨v, .ty T, .type t, .type T, _, rfl, .ty _, ty, kit_ty t T ht hT, RE.ok h3 S1 (Ext.refl ..) _ (.bl _)⟩
  obtain ⟨o1, o2⟩ := ty_own S1 pv
  unfold Mi.gIsT at hd
  split at hd
  · split at hd
    · rename_i xs q; cases hd; exact fin "list" (by decide) (o1 xs q) rfl
    · rename_i xs q; cases hd; exact fin "dict" (by decide) (o2 xs q) rfl
    · cases hd
  · rename_i d' _
    obtain ⟨t, q, rfl⟩ := opt_map hd
    obtain ⟨ty, ht⟩ := ty_of pv q
    exact fin t ht ty rfl
  · split at hd
    · rename_i xs q; cases hd; exact fin "list" (by decide) (o1 xs q) rfl
    · rename_i xs q; cases hd; exact fin "dict" (by decide) (o2 xs q) rfl
    · cases hd
end
end So

set_option Elab.async false
set_option linter.all false
set_option maxRecDepth 100000
set_option maxHeartbeats 4000000
namespace So
open PySem PySem.Spec PyProof.Rows L2
open Mi (D Cl FV SC Me Xc Res PV Ky Ev Tv Av Lv Iv Ov Sv Bd Out Tx RG Cal Tb)
section
variable {X : Cx} {ct : String → Option Addr} {a b e : Expr} {pos p : Pos} {es : List Expr} {x : Str}
theorem keyInts_rep {K : PySem.W.Frag} {w : Wd} {m : Me} {H : Hp} : ∀ {kvs : List (Ky × D)} {vs : List (Key × V)} {ns : List Int}, RepK K ct w m H kvs vs → Mi.keyInts kvs = some ns → vs.map (·.1) = ns.map Sum.inl
  | _, _, _, .nil, h => by cases h; rfl
  | _, _, _, .cons (k := k) r t, h => by
    cases k with
    | i n =>
      obtain ⟨l, h1, rfl⟩ := opt_map h
      rw [List.map_cons, keyInts_rep t h1]
      rfl
    | s x => cases h
theorem dl_sort (hc : X.calm = true) (hg : Gl X "sorted") (hm : X.mg "sorted" = none) {fa : Av} (ha : DA X ct (e :: es) fa)
    (he : starEach (e :: es) X.env = (false, eval e X.env) :: starEach es X.env := by rfl) (hpl : (backTo pos (starEach es X.env)).any (·.1) = false := by rfl) : DL X ct (.Call (.Name "sorted" p) (e :: es) [] pos) (Mi.lA Mi.aSort fa) :=
  ⟨fun W tk => PE.imp (pe_callB (CallR.or2 cr_sorted (call_sortedDI hc)) hg hm (by rfl) (ha.run W tk) (by decide) (by decide) he hpl) fun σ H Q ⟨w, m, S, h⟩ => by
    refine tA.part (k := fun ps m1 => Res.opt (Mi.aSort ps m1) m1) S h fun ps w1 m1 H1 vs S1 e1 pv h1 => ?_
    cases q : Mi.aSort ps m1 with
    | none => rw [q] at h1; exact h1.elim
    | some ds =>
      rw [q] at h1
      have fin : ∀ (ns ys : List Int) (p : Addr), ds = (Mi.sortI ns).map .int → ys.Perm ns → ys.Pairwise (· ≤ ·) → H1 p = none → Q (.ref p) (upd H1 p (.lst (ys.map V.int))) := fun ns ys p hds hp hs hn => by
        have := Mi.sort_uniq (hp.trans (Mi.sortI_perm ns).symm) hs (Mi.sortI_le ns)
        subst this
        subst hds
        exact RE.ok h1 S1 (Ext.refl ..) _ p (RepL.ints _) hn
      unfold Mi.aSort at q
      split at q
      · cases pv with
        | cons r t =>
          cases t
          split at q
          · rename_i kvs q1
            split at q
            · rename_i ns q2
              split at q
              · rename_i h64
                cases q
                obtain ⟨a, us, rfl, g1, g2⟩ := S1.kvs r q1
                exact .inr ⟨a, us, ns, rfl, g1, keyInts_rep g2 q2, h64, fun ys p hp hs hn => fin ns ys p rfl hp hs hn⟩
              · cases q
            · cases q
          · split at q
            · rename_i ns q2
              split at q
              · rename_i h64
                cases q
                obtain ⟨xs, q3, q4⟩ := opt_bind q2
                obtain ⟨a, us, rfl, g1, g2⟩ := sqL_ls S1 r q3
                have := asInts_rep g2 q4
                subst this
                exact .inl ⟨a, ns, rfl, g1, h64, fun ys p hp hs hn => fin ns ys p rfl hp hs hn⟩
              · cases q
            · cases q
      · cases q⟩
theorem ok_max1 : CallOk X ct Mi.aMax1 (rMax X.K) := by
  intro w m H σ xs vs d Q S r hg k
  unfold Mi.aMax1 at hg
  split at hg
  · cases r with
    | cons r t =>
      cases t
      split at hg
      · rename_i y ys q
        cases hg
        obtain ⟨xs, q3, q4⟩ := opt_bind q
        obtain ⟨a, us, rfl, g1, g2⟩ := sqL_ls S r q3
        have := asInts_rep g2 q4
        subst this
        refine ⟨a, y :: ys, rfl, g1, by simp, fun z hz hall => ?_⟩
        obtain ⟨h1, h2⟩ := Mi.maxI_top y ys
        have : z = Mi.maxI y ys := Int.le_antisymm (h2 z hz) (hall _ h1)
        subst this
        exact k _ H S (Ext.refl ..) (.int _)
      · cases hg
  · cases hg
theorem ok_min1 : CallOk X ct Mi.aMin1 (rMin X.K) := by
  intro w m H σ xs vs d Q S r hg k
  unfold Mi.aMin1 at hg
  split at hg
  · cases r with
    | cons r t =>
      cases t
      split at hg
      · rename_i y ys q
        cases hg
        obtain ⟨xs, q3, q4⟩ := opt_bind q
        obtain ⟨a, us, rfl, g1, g2⟩ := sqL_ls S r q3
        have := asInts_rep g2 q4
        subst this
        refine ⟨a, y :: ys, rfl, g1, by simp, fun z hz hall => ?_⟩
        obtain ⟨h1, h2⟩ := Mi.minI_top y ys
        have : z = Mi.minI y ys := Int.le_antisymm (hall _ h1) (h2 z hz)
        subst this
        exact k _ H S (Ext.refl ..) (.int _)
      · cases hg
  · cases hg
end
end So

set_option Elab.async false
set_option linter.all false
set_option maxRecDepth 100000
set_option maxHeartbeats 4000000
namespace So
open PySem PySem.Spec PyProof.Rows L2
open Mi (D Cl FV SC Me Xc Res PV Ky Ev Tv Av Lv Iv Ov Sv Bd Out Tx RG Cal Tb)
/-! ### lists and dicts in the store -/
section
variable {X : Cx} {ct : String → Option Addr} {a b e : Expr} {pos p : Pos} {es : List Expr} {x : Str}
theorem new_cell {K : PySem.W.Frag} {w : Wd} {m : Me} {H : Hp} {σ : L2.St} {c : Cl} {q : Addr} {o : HO} (S : SR K ct w m H σ) (hq : H q = none)
    (hc : ∀ w' m', w'.α (.g m.S.length) = q → Ext w m H w' m' (upd H q o) → CellR K ct w' m' (upd H q o) (.g m.S.length) q (.c c)) :
    SR K ct (w.at (.g m.S.length) q) ⟨m.σ, m.S ++ [.c c]⟩ (upd H q o) σ ∧ Ext w m H (w.at (.g m.S.length) q) ⟨m.σ, m.S ++ [.c c]⟩ (upd H q o) ∧ RepD K ct (w.at (.g m.S.length) q) ⟨m.σ, m.S ++ [.c c]⟩ (upd H q o) (.ref m.S.length) (.ref q) := by
  obtain ⟨σm, Sm⟩ := m
  obtain ⟨S2, e2⟩ := SR.newG (x := .c c) S hq (fun a u h => by rw [upd_ne (ne_of_none h hq)]; exact h) (fun _ _ _ _ z _ => by cases z) upd_same hc
  refine ⟨S2, e2, ?_⟩
  have : RepD K ct (w.at (.g Sm.length) q) ⟨σm, Sm ++ [.c c]⟩ (upd H q o) (.ref Sm.length) (.ref ((w.at (.g Sm.length) q).α (.g Sm.length))) := .ref (c := .c c) (by show (Sm ++ [SC.c c])[Sm.length]? = _; simp)
  rw [Wd.at_same] at this
  exact this
theorem de_newL {f : Lv} (h : DL X ct e f) : DE X ct e (Mi.eNewL f) := ⟨fun W tk => PE.imp (h.run W tk) fun σ H Q ⟨w, m, S, hh⟩ => by
  refine ⟨w, m, S, ?_⟩
  have hh : RE X.K ct σ w m H ((f m).bind fun xs m1 => Res.ok (PV.v (.ref m1.S.length)) ⟨m1.σ, m1.S ++ [.c (.lst xs)]⟩) _ _ := hh
  cases q : f m with
  | ok xs m1 =>
    rw [q] at hh
    intro w1 H1 S1 e1 vs p r hp
    have hh2 := RE.ext e1 hh
    obtain ⟨S2, e2, r2⟩ := new_cell (c := .lst xs) (o := .lst vs) S1 hp fun w' m' _ e' => ⟨vs, upd_same, r.ext e'⟩
    exact RE.ok hh2 S2 e2 _ r2
  | ex xc m1 => rw [q] at hh; exact hh
  | bad => rw [q] at hh; exact hh.elim⟩
theorem de_newD {p2 : Pos} : DE X ct (.Dict [] [] p2) Mi.eNewD := ⟨fun W tk => PE.imp pe_dnewK fun σ H Q ⟨w, m, S, hh⟩ => by
  intro p hp
  obtain ⟨S2, e2, r2⟩ := new_cell (c := .dct []) (o := .dK []) S hp fun w' m' _ e' => ⟨[], upd_same, .nil⟩
  exact RE.ok hh S2 e2 _ r2⟩
end
end So

set_option Elab.async false
set_option linter.all false
set_option maxRecDepth 100000
set_option maxHeartbeats 4000000
namespace So
open PySem PySem.Spec PyProof.Rows L2
open Mi (D Cl FV SC Me Xc Res PV Ky Ev Tv Av Lv Iv Ov Sv Bd Out Tx RG Cal Tb)
section
variable {X : Cx} {ct : String → Option Addr} {a b e : Expr} {pos p : Pos} {es : List Expr} {x : Str}
theorem de_dpop {apos cpos : Pos} {fo fi : Ev} (ho : DE X ct a fo) (hi : DE X ct b fi) (hm : M1 X a "pop" apos b cpos) : DE X ct (.Call (.Attribute a "pop" apos) [b] [] cpos) (Mi.eDPop fo fi) :=
  ⟨fun W tk => PE.imp (pe_dpop1 (ho.run W tk) (hi.run W tk) hm) fun σ H Q ⟨w, m, S, h⟩ => by
    refine tE.part S h fun x w1 m1 H1 v S1 e1 pv h1 => ?_
    split at h1
    · rename_i hk
      have hown : ∃ xs, m1.own x = some (.dct xs) := by
        unfold Mi.isK at hk
        split at hk
        · rename_i xs q; exact ⟨xs, q⟩
        · cases hk
      obtain ⟨xs, q⟩ := hown
      obtain ⟨a, p, rfl, ⟨vs, g1, r1⟩, _⟩ := S1.put pv q
      refine ⟨a, rfl, .inl ⟨vs, .inl g1⟩, ?_⟩
      refine tE.part S1 h1 fun y w2 m2 H2 u S2 e2 pu h2 => ?_
      split at h2
      · rename_i kvs k q1 q2
        split at h2
        · rename_i d q3
          obtain ⟨a2, p2, ea, ⟨vs2, g2, r2⟩, kk⟩ := S2.put (pv.ext e2) q1
          cases ea
          obtain ⟨v2, h3, h4⟩ := r2.lookS q3
          obtain ⟨S3, e3⟩ := kk (.dct (Mi.dropKv kvs k)) (.dK (dropK vs2 (kyR k))) fun w' m' H' q e' h' => ⟨_, h', r2.drop.ext e'⟩
          exact ⟨vs2, kyR k, v2, g2, ky_rep pu q2, h3, RE.ok h2 S3 e3 _ (RepD.ext e3 h4)⟩
        · exact h2.elim
      · exact h2.elim
    · exact h1.elim⟩
end
end So

set_option Elab.async false
set_option linter.all false
set_option maxRecDepth 100000
set_option maxHeartbeats 4000000
namespace So
open PySem PySem.Spec PyProof.Rows L2
open Mi (D Cl FV SC Me Xc Res PV Ky Ev Tv Av Lv Iv Ov Sv Bd Out Tx RG Cal Tb)
section
variable {X : Cx} {ct : String → Option Addr} {a e : Expr}
theorem de_extL {apos cpos : Pos} {fo fe : Ev} (ho : DE X ct a fo) (he : DE X ct e fe) (hbase : attributeBase a "extend" X.env (eval a X.env) = eval a X.env := by rfl)
    (hfew : ((backTo cpos (starEach [e] X.env)).all (fun x => !x.1) && (backToKw cpos (keywordEach [] X.env)).all (fun x => x.1.isSome)
      && decide (([e] : List Expr).length + ([] : List Keyword).length + (if ([] : List Keyword).isEmpty then 0 else 1) < 30)) = true := by rfl)
    (hline : (apos.endLine == cpos.line) = true := by rfl) (hs : starEach [e] X.env = (false, eval e X.env) :: starEach [] X.env := by rfl) (hplain : (backTo cpos (starEach [] X.env)).any (·.1) = false := by rfl) :
    DE X ct (.Call (.Attribute a "extend" apos) [e] [] cpos) (Mi.eExtL fo fe) :=
  ⟨fun W tk => PE.imp (pe_bm PySem.F.plainAttrs_list PySem.F.slot_list_extend PySem.F.type_list_extend mt_extend (ho.run W tk) ((da_cons he da_nil hs).run W tk) hbase hfew hline hs hplain) fun σ H Q ⟨w, m, S, h⟩ => by
    refine tE.part S h fun x w1 m1 H1 v S1 e1 pv h1 => ?_
    split at h1
    · rename_i hl
      refine ⟨own_list S1 pv hl, ?_⟩
      refine ⟨w1, m1, S1, ?_⟩
      have h1 : RE X.K ct σ w1 m1 H1 ((fe m1).bind fun y m2 => (match m2.own x, m2.cl y with
        | some (.lst xs), some (.lst ys) => if xs.length + ys.length ≤ Mi.big then Res.ok (PV.v .non) (m2.put x (.lst (xs ++ ys))) else .bad
        | _, _ => .bad)) _ _ := h1
      show RE X.K ct σ w1 m1 H1 ((fe m1).bind fun y m2 => Res.ok [y] m2) _ _
      cases q : fe m1 with
      | ok y m2 =>
        rw [q] at h1
        intro w2 H2 S2 e2 us pus
        cases pus with
        | cons pu t =>
          cases t
          have h2 := RE.ext e2 h1
          rw [Mi.Res.bind_ok] at h2
          split at h2
          · rename_i xs ys q1 q2
            split at h2
            · rename_i hb
              obtain ⟨l, p, ea, ⟨vs, g1, r1⟩, kk⟩ := S2.put (pv.ext e2) q1
              obtain ⟨b, us, eb, g2, r2⟩ := S2.lst pu q2
              subst ea eb
              obtain ⟨S3, e3⟩ := kk (.lst (xs ++ ys)) (.lst (vs ++ us)) fun w' m' H' q e' h' => ⟨_, h', (r1.append r2).ext e'⟩
              exact ⟨l, b, vs, us, rfl, rfl, g1, g2, by rw [← r1.length, ← r2.length, ← big_eq]; exact hb, RE.ok h2 S3 e3 _ .non⟩
            · exact h2.elim
          · exact h2.elim
      | ex xc m2 => rw [q] at h1; exact h1
      | bad => rw [q] at h1; exact h1.elim
    · exact h1.elim⟩
end
end So

set_option linter.all false
/-! # Mj: more of the small world -/
namespace Mi
noncomputable section
/-! ### exceptions -/
/-- raise C('..') -/
def sRaise0 (c : String) : Sv := fun m => .ex ⟨c, []⟩ m
/-- raise C(e), f its field -/
def sRaiseF (c f : String) (e : Ev) : Sv := fun m => (e m).so fun x m1 => match x with | .v d => .ex ⟨c, [(f, d)]⟩ m1 | _ => .bad
/-- behind an except suite: its name goes -/
def aft (i : Nat) (r : Out) : Out := match r with
  | .nx m => .nx ⟨m.σ.set i none, m.S⟩
  | .rt d m => .rt d ⟨m.σ.set i none, m.S⟩
  | .bk m => .bk ⟨m.σ.set i none, m.S⟩
  | .ct m => .ct ⟨m.σ.set i none, m.S⟩
  | _ => .bad
/-- try: body except c as i: suite -/
def sTryAs (sub : String → String → Option Bool) (body : Sv) (i : Nat) (c : String) (suite : Xc → Sv) : Sv := fun m => match body m with
  | .ex x m1 => (match sub x.c c with
    | some true => if (m1.slot i).isNone = true ∧ i < m1.σ.length then aft i (suite x ⟨m1.σ.set i none, m1.S⟩) else .bad
    | some false => .ex x m1
    | none => .bad)
  | o => o
/-- x = e of an except suite -/
def xSet (j : Nat) (f : Xc → Me → Option D) : Xc → Sv := fun x m => match f x m with
  | some d => if j < m.σ.length ∧ (m.slot j).isNone = true then .nx ⟨m.σ.set j (some (.v d)), m.S⟩ else .bad
  | none => .bad
/-- a field of the exception -/
def xFld (f : String) : Xc → Me → Option D := fun x _ => x.fs.lookup f
def subOf (L : List (String × String × Bool)) : String → String → Option Bool := fun c d => (L.find? fun p => p.1 == c && p.2.1 == d).map (·.2.2)
/-! ### texts and numbers -/
def decT (i : Int) : Tx := (toString i).toList.map Char.toNat
/-- str(n) -/
def aStr : List PV → Me → Option D := fun ps _ => match ps with
  | [.v (.int i)] => if small64 i then some (.str (decT i)) else none
  | _ => none
def digV (z : Tx) : Nat := z.foldl (fun a c => a * 10 + (c - 48)) 0
def digs (z : Tx) : Bool := z.all fun c => decide (48 ≤ c ∧ c ≤ 57)
/-- the longest text of figures -/
def lim600 : Nat := Classical.choose (⟨600, rfl⟩ : ∃ n : Nat, n = 600)
theorem lim600_is : lim600 = 600 := Classical.choose_spec (⟨600, rfl⟩ : ∃ n : Nat, n = 600)
/-- int(x) of an int, a truth, figures -/
def aInt2 : List PV → Me → Option D := fun ps m => match ps with
  | [.v (.str z)] => if digs z ∧ z ≠ [] ∧ z.length ≤ lim600 then some (.int (digV z)) else none
  | _ => aInt ps m
/-- a text in a text -/
def inT (x z : Tx) : Bool := (List.range (z.length + 1)).any fun i => decide (i + x.length ≤ z.length ∧ (z.drop i).take x.length = x)
def gInS : PV → PV → Me → Option D := fun x y _ => match x, y with
  | .v (.str a), .v (.str z) => some (.bl (inT a z))
  | _, _ => none
def gNotInS : PV → PV → Me → Option D := fun x y _ => match x, y with
  | .v (.str a), .v (.str z) => some (.bl (!inT a z))
  | _, _ => none
def gInV := orG gInU gInS
def gNotInV := orG gNotInU gNotInS
/-- isinstance(x, C) of an own class -/
def gIsC (sub : String → String → Option Bool) (TY : List String) (T : String) : PV → Me → Option D := fun x m => match m.obj x with
  | some (c, _) => (sub c T).map .bl
  | none => (match x with
    | .v d => (tyD d).bind fun t => if t ∈ TY then some (.bl false) else none
    | .sl _ => none)
/-- enumerate of a text -/
def iEnumT (e : Ev) : Iv := fun m => (e m).bind fun x m1 => match x with | .v (.str z) => .ok (enum (z.map fun c => .str [c])) m1 | _ => .bad
def iEnumU (e : Ev) : Iv := fun m => (e m).bind fun x m1 => match x with
  | .v (.lst xs) => .ok (enum xs) m1
  | .v (.str z) => .ok (enum (z.map fun c => .str [c])) m1
  | _ => .bad
end
end Mi

set_option Elab.async false
set_option linter.all false
set_option maxRecDepth 100000
set_option maxHeartbeats 4000000
namespace So
open PySem PySem.Spec PyProof.Rows L2
open Mi (D Cl FV SC Me Xc Res PV Ky Ev Tv Av Lv Iv Ov Sv Bd Out Tx RG Cal Tb)
/-! ### exceptions of the program's own classes, raised -/
section
variable {X : Cx} {ct : String → Option Addr} {a b e : Expr} {pos p : Pos} {es : List Expr} {x : Str}
/-- what the top tells of an exception class without an __init__ of its own -/
structure Xp0 (K : PySem.W.Frag) (mg : Str → Option Value) (ct : String → Option Addr) (c : String) (C : Addr) : Prop where
  t : ct c = some C
  g : mg (nm c) = some (.ref C)
  x : PySem.W.excIn K C [.type "ValueError", .type "Exception", .type "BaseException", .type "object"] "ValueError.__new__" = true
  k : PySem.W.keepIn K (.ref C) = true
  s : PySem.W.subIn K (.ref C) (.type "BaseException") = some true
  ty : PySem.W.typeIn K (.ref C) = some (.type "type")
theorem ds_raise0 (c : String) {C : Addr} (hc : X.calm = true) (T : Xp0 X.K X.mg ct c C) {m : Str} {j : Nat} {p2 : Pos} (hx : nm c = x := by rfl) (hg : Gl X x := by rfl) (hdb : (x == ("__debug__" : Str)) = false := by decide) :
    DS X ct (.Raise (some (.Call (.Name x p) [.Constant (.str m) j p2] [] pos)) none pos') (Mi.sRaise0 c) := by
  subst hx
  refine ⟨fun W tk => PS.imp (ps_raise hc tk (pmk_own PySem.F.excBase_ValueError T.x T.g T.k (raises_own T.s T.ty) hg hdb)) fun D σ H ⟨w, m, S, h⟩ => ?_⟩
  exact h w H σ (.ref C) none S (Ext.refl ..) ⟨C, T.t, rfl, fun _ => rfl, fun z => absurd rfl z⟩
/-- what the top tells of an exception class whose __init__ takes one field -/
structure Xp1 (K : PySem.W.Frag) (mg : Str → Option Value) (ct : String → Option Addr) (c f : String) (C : Addr) : Prop where
  t : ct c = some C
  g : mg (nm c) = some (.ref C)
  o : OexC K C
  xf : XfC K C
  nf : PySem.W.findIn K (.ref C) (nm f) = some none
/-- its __init__ keeps this -/
def spX1 (K : PySem.W.Frag) (C : Addr) (f : Str) : Sp := fun vs H Q _ => ∃ (a : Addr) (v : V), vs = [.ref a, v] ∧ OexC K C ∧ PySem.W.findIn K (.ref C) f = some none ∧ H a = some (exo a C none) ∧
  ∀ d, H d = none → d ≠ a → Q .non (upd (upd H d (exd d [(f, v)])) a (exo a C (some d)))
/-- what the top tells of a class whose __init__ is ValueError's -/
structure Xpi (K : PySem.W.Frag) (B : Addr) : Prop where
  r : PySem.W.readsIn K B (.type "type") = true
  ga : PySem.W.specialIn K (.ref B) "__getattribute__" = some (some (.builtin "type.__getattribute__"))
  at_ : PySem.W.findCls K (.ref B) (.type "type") "__init__" = some (.val (.builtin "ValueError.__init__"))
theorem pe_minit {B : Addr} {p1 p2 : Pos} {ta : TA} {pl : Sem Bool} (T : Xpi X.K B) (hg : Gl X x) (hm : X.mg x = some (.ref B)) (ha : PA X (e :: es) ta) (hdb : (x == ("__debug__" : Str)) = false := by decide)
    (hc : eval (.Call (.Attribute (.Name x p1) "__init__" p2) (e :: es) [] pos) X.env = (do
      let ov ← eval (.Name x p1) X.env
      standAt p2.atName
      let (f, first) ← holding [ov] (getMethod ov "__init__" pl)
      callWith pos f first (backTo pos (starEach (e :: es) X.env)) (backToKw pos (keywordEach [] X.env))) := by rfl)
    (he : starEach (e :: es) X.env = (false, eval e X.env) :: starEach es X.env := by rfl) (hpl : (backTo pos (starEach es X.env)).any (·.1) = false := by rfl) :
    PE X (.Call (.Attribute (.Name x p1) "__init__" p2) (e :: es) [] pos) (tVeI X.K ta) := by
  refine ⟨fun pins s σ H Q I h => PySem.W.methodCall_KW (ld_glob I hg hm ?_ hdb) hc⟩
  refine PySem.W.method_cls I.kIn T.ga (PySem.W.cls_value I.kIn T.r T.at_ (by decide +kernel) ?_)
  refine PyProof.Rows.callWith_method1 (thn (ha.run pos pins _ σ H _ (I.tok _) h) fun us s1 ⟨vs, H1, I1, r1, a, C, ws, ev, hl, T, ea, q⟩ => ?_) he hpl
  subst ev
  obtain _ | ⟨ra, rw'⟩ := r1
  have ra : _ = Value.ref a := ra
  subst ra
  exact oinit_ok T I1 ea (by rw [← Paired.length rw', sizeLine_eq]; omega) fun s' J => ⟨.non, H1, J, rfl, q⟩
end
end So

set_option Elab.async false
set_option linter.all false
set_option maxRecDepth 100000
set_option maxHeartbeats 4000000
namespace So
open PySem PySem.Spec PyProof.Rows L2
open Mi (D Cl FV SC Me Xc Res PV Ky Ev Tv Av Lv Iv Ov Sv Bd Out Tx RG Cal Tb)
section
variable {X : Cx} {ct : String → Option Addr} {a b e : Expr} {pos p : Pos} {es : List Expr} {x : Str}
theorem passX {CX : CXT} {P : Program} {w : World} {E : XK} (h : CX = L2.CX P w) (hE : E = fun _ _ _ => False) : Passes CX X E := fun _ _ _ _ _ _ _ q => by
  subst h hE
  obtain ⟨_, _, _, _, _, _, _, _, _, _, _, _, z⟩ := q
  exact z.elim
theorem del_upd {H : Hp} {a d : Addr} {u o1 o2 : HO} (hd : d ≠ a) (ha : H a = none) : upd (L2.del (upd (upd (upd H a o1) d u) a o2) a) d o1 = upd H d o1 := by
  funext b
  by_cases h : b = d
  · subst h; rw [upd_same, upd_same]
  · rw [upd_ne h, upd_ne h]
    by_cases h2 : b = a
    · subst h2; rw [L2.del_same, ha]
    · rw [L2.del_ne h2, upd_ne h2, upd_ne h, upd_ne h2]
theorem del_updX {H : Hp} {a d : Addr} {u o1 o2 o3 : HO} (hd : d ≠ a) (ha : H a = none) : upd (L2.del (upd (upd (upd H a o1) d u) a o2) a) d o3 = upd H d o3 := by
  funext b
  by_cases h : b = d
  · subst h; rw [upd_same, upd_same]
  · rw [upd_ne h, upd_ne h]
    by_cases h2 : b = a
    · subst h2; rw [L2.del_same, ha]
    · rw [L2.del_ne h2, upd_ne h2, upd_ne h, upd_ne h2]
theorem ds_raiseF (c f : String) {C fI : Addr} {fd : FuncData} {ps : List Str} {k : Nat} (hc : X.calm = true) (T : Xp1 X.K X.mg ct c f C) (iC : PySem.W.findIn X.K (.ref C) "__init__" = some (some (.ref fI))) (tI : PySem.W.typeIn X.K (.ref fI) = some (.type "function"))
    (F1 : FnOk X.prog X.w X.K X.mg X.base (L2.CX X.prog X.w) k fI fd ps (spX1 X.K C (nm f))) (hr : Room (k + 1) X.A) (hb : L2.Binds X.K fd ps []) {fe : Ev} (he : DE X ct e fe) (hx : nm c = x := by rfl) (hg : Gl X x := by rfl) (hdb : (x == ("__debug__" : Str)) = false := by decide)
    (hst : starEach [e] X.env = (false, eval e X.env) :: starEach [] X.env := by rfl) (hpl : (backTo pos (starEach [] X.env)).any (·.1) = false := by rfl) :
    DS X ct (.Raise (some (.Call (.Name x p) [e] [] pos)) none pos') (Mi.sRaiseF c f fe) := by
  subst hx
  refine ⟨fun W tk => PS.imp (ps_raise hc tk (pmk_oex T.o iC tI F1 hr hb .nil (passX rfl rfl) hg T.g ((da_cons he da_nil hst).run W tk) hdb hst hpl)) fun D σ H ⟨w, m, S, h⟩ => ?_⟩
  have h : RO X.K ct W w m H ((fe m).so fun x m1 => match x with | .v d => .ex ⟨c, [(f, d)]⟩ m1 | _ => .bad) D := h
  refine ⟨w, m, S, ?_⟩
  show RE X.K ct σ w m H ((fe m).bind fun y m2 => Res.ok [y] m2) _ _
  cases q : fe m with
  | bad => rw [q] at h; exact h.elim
  | ex xc m1 => rw [q] at h; exact fun w1 H1 S1 e1 cls dx hx => h w1 H1 σ cls dx S1 e1 hx
  | ok y m1 =>
    rw [q] at h
    intro w1 H1 S1 e1 vs pvs
    have h := RO.ext e1 h
    rw [Mi.Res.so_ok] at h
    cases pvs with
    | @cons _ v _ _ pv t =>
      cases t
      split at h
      · rename_i d
        refine ⟨by simp, fun a ha => ⟨a, v, rfl, T.o, T.nf, upd_same, fun dd hd hda => ⟨rfl, dd, [(nm f, v)], upd_same, by rw [upd_ne hda, upd_same], ?_, ?_⟩⟩⟩
        · rw [upd_ne hda] at hd; exact hd
        · have hd' : H1 dd = none := by rw [upd_ne hda] at hd; exact hd
          rw [del_updX hda ha]
          refine h w1 _ σ (.ref C) (some dd) (S1.fresh hd') (Ext.fresh hd') ⟨C, T.t, rfl, nofun, fun _ => ⟨dd, _, rfl, S1.M.notBad hd', nd_same rfl, .cons (RepD.ext (Ext.fresh hd') pv) .nil⟩⟩
      · exact h.elim
/-- a slot is emptied -/
theorem SR.setN {K : PySem.W.Frag} {w : Wd} {σm : Mi.Env} {S : List SC} {H : Hp} {σ : L2.St} (R : SR K ct w ⟨σm, S⟩ H σ) (i : Nat) (v : Option V) : SR K ct w ⟨σm.set i none, S⟩ H (σ.set i v) ∧ Ext w ⟨σm, S⟩ H w ⟨σm.set i none, S⟩ H := by
  have hc : ∀ p c, cellAt ⟨σm.set i none, S⟩ p = some c → cellAt ⟨σm, S⟩ p = some c := fun p c h => by
    rcases cell_set h with ⟨_, h⟩ | ⟨_, z, h, _⟩
    · exact h
    · cases h
  have e : Ext w ⟨σm, S⟩ H w ⟨σm.set i none, S⟩ H := Ext.sub rfl hc
  exact ⟨⟨R.M.sub rfl hc, R.E.set (S' := S) e rfl (fun _ _ => rfl) trivial⟩, e⟩
/-- an except suite: slot i holds the exception -/
structure DXs (X : Cx) (ct : String → Option Addr) (i : Nat) (st : List Stmt) (f : Xc → Sv) : Prop where
  run : ∀ (a : Addr) (oe : Obj) (cls : Value) (d : Option Addr) (pn : List (Addr × Obj)), Zc cls d oe → (∃ vs, oe.data = .fields vs) →
    PSs (X.suite a ((a, oe) :: pn)) st (fun D σ H => ∃ w m x, SR X.K ct w m H σ ∧ ExR X.K ct w m H x cls d ∧ σ[i]? = some (some (.ref a)) ∧ RO X.K ct (fun _ _ _ _ => False) w m H (f x m) D)
theorem RO.aft {K : PySem.W.Frag} {W : WX} {w : Wd} {m : Me} {H : Hp} {i : Nat} {r : Out} {D : Ends} (h : RO K ct W w m H (Mi.aft i r) D) :
    RO K ct (fun _ _ _ _ => False) w m H r { nx := fun σ' H' => D.nx (σ'.set i none) H', rt := D.rt, bk := fun σ' H' => D.bk (σ'.set i none) H', ct := fun σ' H' => D.ct (σ'.set i none) H' } := by
  cases r with
  | nx m1 => exact fun w' H' σ' S' e' => h w' H' _ (SR.setN (σm := m1.σ) (S := m1.S) S' i none).1 (e'.trans (SR.setN (σm := m1.σ) (S := m1.S) S' i none).2)
  | bk m1 => exact fun w' H' σ' S' e' => h w' H' _ (SR.setN (σm := m1.σ) (S := m1.S) S' i none).1 (e'.trans (SR.setN (σm := m1.σ) (S := m1.S) S' i none).2)
  | ct m1 => exact fun w' H' σ' S' e' => h w' H' _ (SR.setN (σm := m1.σ) (S := m1.S) S' i none).1 (e'.trans (SR.setN (σm := m1.σ) (S := m1.S) S' i none).2)
  | rt d m1 => exact fun w' H' σ' v S' e' r => h w' H' _ v (SR.setN (σm := m1.σ) (S := m1.S) S' i none).1 (e'.trans (SR.setN (σm := m1.σ) (S := m1.S) S' i none).2) (RepD.ext (SR.setN (σm := m1.σ) (S := m1.S) S' i none).2 r)
  | ex xc m1 => exact h.elim
  | bad => exact h.elim
theorem ds_tryAs {n : Str} {i : Nat} {sub : String → String → Option Bool} {body suite : List Stmt} {b₀ : Stmt} {np pos' : Pos} (c : String) {C : Addr} {fb : Sv} {fs : Xc → Sv} (hs : X.stack = X.env :: X.outer) (hf : X.env.frame = some X.env.locals) (hN : X.N.Nodup) (hi : X.N[i]? = some n) (hln : X.env.kindOf n = some .local)
    (hg : Gl X x) (hm : X.mg x = some (.ref C)) (hsub : ∀ c' b, sub c' c = some b → ∃ C', ct c' = some C' ∧ PySem.W.exmOne X.K (.ref C') (.ref C) = some b)
    (hb : ∀ pn xe, DSs (X.tr pn xe) ct body fb) (hsu : DXs X ct i (b₀ :: suite) fs) (hdb : (x == ("__debug__" : Str)) = false := by decide) :
    DS X ct (.Try body [.ExceptHandler (some (.Name x np)) (some n) (b₀ :: suite) pos'] [] [] pos) (Mi.sTryAs sub fb i c fs) := by
  refine ⟨fun W tk => PS.imp (ps_try_as (tb := fun W' => tS X.K ct W' fb) hs hf hN hi hln ⟨hg, hdb, .inl hm⟩ tk (fun W' pn xe tk' _ => (hb pn xe).run W' tk') hsu.run) fun D σ H ⟨w, m, S, h⟩ => ?_⟩
  refine ⟨w, m, S, ?_⟩
  unfold Mi.sTryAs at h
  cases q : fb m with
  | nx m1 => rw [q] at h; exact h
  | rt d m1 => rw [q] at h; exact h
  | bk m1 => rw [q] at h; exact h
  | ct m1 => rw [q] at h; exact h
  | bad => rw [q] at h; exact h
  | ex xc m1 =>
    rw [q] at h
    intro w1 H1 σ1 cls dx S1 e1 hx
    obtain ⟨C', t1, t2, _, t3⟩ := id hx
    have h : RO X.K ct W w m H (match sub xc.c c with
      | some true => if (m1.slot i).isNone = true ∧ i < m1.σ.length then Mi.aft i (fs xc ⟨m1.σ.set i none, m1.S⟩) else .bad
      | some false => .ex xc m1
      | none => .bad) D := h
    split at h
    · rename_i hq
      obtain ⟨C2, g1, g2⟩ := hsub _ _ hq
      rw [t1] at g1; cases g1
      subst t2
      refine ⟨true, g2, fun _ a ha => ?_, fun z => nomatch z⟩
      split at h
      · rename_i hil
        obtain ⟨S2, e2⟩ := SR.setN (σm := m1.σ) (S := m1.S) S1 i (some (.ref a))
        refine ⟨w1, _, xc, S2, hx.ext e2, ?_, (RO.ext (e1.trans e2) h).aft⟩
        rw [List.getElem?_set_self (by rw [← S1.E.len]; exact hil.2)]
      · exact h.elim
    · rename_i hq
      obtain ⟨C2, g1, g2⟩ := hsub _ _ hq
      rw [t1] at g1; cases g1
      subst t2
      exact ⟨false, g2, (fun z => nomatch z), fun _ => h w1 H1 σ1 _ dx S1 e1 hx⟩
    · exact h.elim
/-- y = e.f in an except suite -/
theorem dx_setFld {i j : Nat} {n y fS : Str} {p1 p2 p3 : Pos} (c f : String) {C : Addr} (T : Xp1 X.K X.mg ct c f C) (hN : X.N.Nodup) (hi : ∀ a pn, PE (X.suite a pn) (.Name n p3) (tVar i)) (hj : X.N[j]? = some y) (hy : Loc X.env.scope y) (hx : nm f = fS := by rfl)
    (hb : attributeBase (.Name n p3) fS X.env (eval (.Name n p3) X.env) = eval (.Name n p3) X.env := by rfl) (hs : swapsWith (.Attribute (.Name n p3) fS p2) (some (.Name y p1)) pos.line X.env = pure false := by rfl)
    (hf : X.fn y = true ∨ X.env.scope.names.lookup y = some .local := by first | exact .inl rfl | exact .inr rfl) :
    DXs X ct i [.Assign [.Name y p1] (.Attribute (.Name n p3) fS p2) pos] (Mi.xSet j (fun x m => if x.c = c then Mi.xFld f x m else none)) := by
  subst hx
  refine ⟨fun a oe cls d pn hz hv => PSs.imp (pss_one (ps_set (X := X.suite a ((a, oe) :: pn)) hN hj hy (pe_xf T.xf T.nf hz hv (hi a _) hb) hs hf)) fun D σ H ⟨w, m, x, S, hx, ha, h⟩ => ?_⟩
  refine ⟨.ref a, ha, rfl, ?_⟩
  unfold Mi.xSet at h
  split at h
  · rename_i d' hd'
    split at h
    · rename_i hj2
      replace hd' : (if x.c = c then Mi.xFld f x m else none) = some d' := hd'
      split at hd'
      · rename_i hcc
        obtain ⟨C', t1, t2, _, t3⟩ := hx
        rw [hcc, T.t] at t1; cases t1
        have hne : x.fs ≠ [] := fun z => by unfold Mi.xFld at hd'; rw [z] at hd'; cases hd'
        obtain ⟨dd, vs, g1, g2, g3, g4⟩ := t3 hne
        obtain ⟨o, k1, k2⟩ := g3
        have k3 : o = .xd vs := by
          unfold norm at k2
          split at k2 <;> first | exact k2 | cases k2
        subst k3
        rcases g4.look f with ⟨_, z⟩ | ⟨d2, v, z1, z2, z3⟩
        · exfalso
          unfold Mi.xFld at hd'
          have : (x.fs.map fun p => (p.1, FV.v p.2)).lookup f = (x.fs.lookup f).map FV.v := by
            induction x.fs with
            | nil => rfl
            | cons p r ih => obtain ⟨k, u⟩ := p; rw [List.map_cons, lookup_s, lookup_s, ih]; split <;> rfl
          rw [this, hd'] at z; cases z
        · have : d2 = d' := by
            unfold Mi.xFld at hd'
            have : (x.fs.map fun p => (p.1, FV.v p.2)).lookup f = (x.fs.lookup f).map FV.v := by
              induction x.fs with
              | nil => rfl
              | cons p r ih => obtain ⟨k, u⟩ := p; rw [List.map_cons, lookup_s, lookup_s, ih]; split <;> rfl
            rw [this, hd'] at z2; cases z2; rfl
          subst this
          refine ⟨t2, dd, vs, v, g1, k1, z1, ?_⟩
          obtain ⟨S2, e2⟩ := SR.setV (σm := m.σ) (S := m.S) S (i := j) z3
          exact h _ _ _ S2 e2
      · cases hd'
    · exact h.elim
  · exact h.elim
end
end So

set_option Elab.async false
set_option linter.all false
set_option maxRecDepth 100000
set_option maxHeartbeats 4000000
namespace So
open PySem PySem.Spec PyProof.Rows L2 PySem.NumText
open Mi (D Cl FV SC Me Xc Res PV Ky Ev Tv Av Lv Iv Ov Sv Bd Out Tx RG Cal Tb)
section
variable {X : Cx} {ct : String → Option Addr} {a b e : Expr} {pos p : Pos} {es : List Expr} {x : Str}
theorem decT_tx (i : Int) : tx (Mi.decT i) = (toString i : Str) := by
  show tx _ = Str.ofString (toString i)
  rw [Str.ofString_eq_toList]
  rfl
theorem ok_str : CallOk X ct Mi.aStr (fun xs H Q => ∃ i, xs = [.int i] ∧ i.natAbs.log2 < 1920 ∧ Q (.str (toString i)) H) := by
  intro w m H σ xs vs d Q S r hg k
  unfold Mi.aStr at hg
  split at hg
  · rename_i i
    split at hg
    · rename_i hs
      cases hg
      cases r with
      | cons r t =>
        cases t
        cases r
        refine ⟨i, rfl, ?_, ?_⟩
        · have h64 : i.natAbs < 2 ^ 64 := by
            have := of_decide_eq_true (show decide (-Mi.lim64 < i ∧ i < Mi.lim64) = true from hs)
            rw [Mi.lim64_is] at this
            omega
          by_cases h0 : i.natAbs = 0
          · rw [h0]; decide
          · exact (Nat.log2_lt h0).mpr (Nat.lt_of_lt_of_le h64 (Nat.pow_le_pow_right (by decide) (by decide)))
        · rw [← decT_tx]
          exact k _ H S (Ext.refl ..) (.str _)
    · cases hg
  · cases hg
theorem digs_all {z : Tx} (h : Mi.digs z = true) : AllDigits z := fun c hc => by
  have := List.all_eq_true.mp h c hc
  exact of_decide_eq_true this
theorem ok_cint2 : CallOk X ct Mi.aInt2 (fun xs H Q => ((∃ i, xs = [.int i] ∧ Q (.int i) H) ∨ ∃ k, xs = [.bl k] ∧ Q (.int (if k then 1 else 0)) H) ∨ ∃ a n, xs = [.str a] ∧ PySem.intText? a = some n ∧ a.length ≤ 640 ∧ Q (.int n) H) := by
  intro w m H σ xs vs d Q S r hg k
  unfold Mi.aInt2 at hg
  split at hg
  · rename_i z
    split at hg
    · rename_i hs
      cases hg
      cases r with
      | cons r t =>
        cases t
        cases r
        obtain ⟨h1, h2, h3⟩ := hs
        rw [Mi.lim600_is] at h3
        have hl : (tx z).length = z.length := by simp [tx, Str.length]
        refine .inr ⟨tx z, (Mi.digV z : Nat), rfl, ?_, by rw [hl]; omega, k _ H S (Ext.refl ..) (.int _)⟩
        have e1 : (tx z).cps.toList = z := by simp [tx]
        have := intText_digits (x := tx z) (by rw [e1]; exact digs_all h1) (by rw [e1]; exact h2) (by rw [hl]; omega)
        rw [e1] at this
        exact this
    · cases hg
  · exact .inl (ok_cint w m H σ xs vs d Q S r hg k)
theorem inT_iff (x z : Tx) : (!(Builtin.Str.occurrences (tx z) (tx x) 0 (tx z).length 1).isEmpty) = Mi.inT x z := by
  rw [Bool.eq_iff_iff, StrLaws.found_iff]
  have e1 : (tx z).cps.toList = z := by simp [tx]
  have e2 : (tx x).cps.toList = x := by simp [tx]
  have l1 : (tx z).length = z.length := by simp [tx, Str.length]
  have l2 : (tx x).length = x.length := by simp [tx, Str.length]
  unfold Mi.inT
  rw [List.any_eq_true]
  constructor
  · rintro ⟨i, h1, h2⟩
    rw [l1, l2] at h1
    rw [StrLaws.subAt_eq, e1, e2, l2, beq_iff_eq] at h2
    exact ⟨i, List.mem_range.mpr (by omega), decide_eq_true ⟨h1, h2⟩⟩
  · rintro ⟨i, _, h⟩
    obtain ⟨h1, h2⟩ := of_decide_eq_true h
    refine ⟨i, by rw [l1, l2]; exact h1, ?_⟩
    rw [StrLaws.subAt_eq, e1, e2, l2, beq_iff_eq]
    exact h2
theorem ok_inS : OpOk X ct Mi.gInS (fun x y H Q => ∃ i j, x = .str i ∧ y = .str j ∧ Q (.bl (!(Builtin.Str.occurrences j i 0 j.length 1).isEmpty)) H) := by
  intro w m H σ x y v u d Q S r1 r2 hg k
  unfold Mi.gInS at hg
  split at hg
  · cases hg
    cases r1; cases r2
    refine ⟨_, _, rfl, rfl, ?_⟩
    rw [inT_iff]
    exact k _ H S (Ext.refl ..) (.bl _)
  · cases hg
theorem ok_notInS : OpOk X ct Mi.gNotInS (fun x y H Q => ∃ i j, x = .str i ∧ y = .str j ∧ Q (.bl (!(!(Builtin.Str.occurrences j i 0 j.length 1).isEmpty))) H) := by
  intro w m H σ x y v u d Q S r1 r2 hg k
  unfold Mi.gNotInS at hg
  split at hg
  · cases hg
    cases r1; cases r2
    refine ⟨_, _, rfl, rfl, ?_⟩
    rw [inT_iff]
    exact k _ H S (Ext.refl ..) (.bl _)
  · cases hg
theorem de_inV (hu : X.A.units + 1 < cLine) {fa fb : Ev} (ha : DE X ct a fa) (hb : DE X ct b fb) (hm : behindInMarks .In b = false := by rfl) : DE X ct (.Compare a [.In] [b] pos) (Mi.e2 Mi.gInV fa fb) :=
  de_orG (de_inU hu ha hb hm) (de_cmp op_in_str ok_inS ha hb hm)
theorem de_notInV (hu : X.A.units + 1 < cLine) {fa fb : Ev} (ha : DE X ct a fa) (hb : DE X ct b fb) (hm : behindInMarks .NotIn b = false := by rfl) : DE X ct (.Compare a [.NotIn] [b] pos) (Mi.e2 Mi.gNotInV fa fb) :=
  de_orG (de_notInU hu ha hb hm) (de_cmp op_notin_str ok_notInS ha hb hm)
theorem dt_inV (hu : X.A.units + 1 < cLine) {fa fb : Ev} (ha : DE X ct a fa) (hb : DE X ct b fb) (hm : behindInMarks .In b = false := by rfl) : DT X ct (.Compare a [.In] [b] pos) (Mi.tV (Mi.e2 Mi.gInV fa fb)) :=
  dt_orG (dt_inU hu ha hb hm) (dt_cmp op_in_str ok_inS ha hb hm)
theorem dt_notInV (hu : X.A.units + 1 < cLine) {fa fb : Ev} (ha : DE X ct a fa) (hb : DE X ct b fb) (hm : behindInMarks .NotIn b = false := by rfl) : DT X ct (.Compare a [.NotIn] [b] pos) (Mi.tV (Mi.e2 Mi.gNotInV fa fb)) :=
  dt_orG (dt_notInU hu ha hb hm) (dt_cmp op_notin_str ok_notInS ha hb hm)
end
end So

set_option Elab.async false
set_option linter.all false
set_option maxRecDepth 100000
set_option maxHeartbeats 4000000
namespace So
open PySem PySem.Spec PyProof.Rows L2
open Mi (D Cl FV SC Me Xc Res PV Ky Ev Tv Av Lv Iv Ov Sv Bd Out Tx RG Cal Tb)
section
variable {X : Cx} {ct : String → Option Addr} {a b e : Expr} {pos p : Pos} {es : List Expr} {x : Str}
/-! ### isinstance with own classes -/
/-- what the top tells of a class's instances -/
structure CWho (K : PySem.W.Frag) (C : Addr) : Prop where
  cl : Cls K C
  ha : PySem.W.findIn K (.ref C) "__class__" = some (some (.builtin "object.__class__"))
  hn : PySem.W.specialIn K (.builtin "object.__class__") "__get__" = some (some (.builtin "getset_descriptor.__get__"))
  hk : PySem.W.takesIn K (.builtin "object.__class__") = some true
  hm : PySem.W.mroIn K C (.type "object") = some true
/-- isinstance(_, T) -/
structure CIs (K : PySem.W.Frag) (mg : Str → Option Value) (ct : String → Option Addr) (sub : String → String → Option Bool) (TY : List String) (T : String) : Prop where
  ex : ∃ CT, mg (nm T) = some (.ref CT) ∧ (∀ c b, sub c T = some b → ∃ C, ct c = some C ∧ CWho K C ∧ PySem.W.kitOne K (.ref C) (.ref CT) = some b) ∧ ∀ t ∈ TY, PySem.W.kitOne K (.type t) (.ref CT) = some false
theorem de_isC {sub : String → String → Option Bool} {TY : List String} (T : String) (G : CIs X.K X.mg ct sub TY T) (hg : Gl X "isinstance") (hm : X.mg "isinstance" = none) {tn : Str} (hg2 : Gl X tn) {fa : Ev} {p2 : Pos} (ha : DE X ct e fa) (hx : nm T = tn := by rfl)
    (hd : (tn == ("__debug__" : Str)) = false := by decide)
    (he : starEach [e, .Name tn p2] X.env = (false, eval e X.env) :: starEach [.Name tn p2] X.env := by rfl) (he2 : starEach [.Name tn p2] X.env = (false, eval (.Name tn p2) X.env) :: starEach [] X.env := by rfl)
    (hpl : (backTo pos (starEach [.Name tn p2] X.env)).any (·.1) = false := by rfl) : DE X ct (.Call (.Name "isinstance" p) [e, .Name tn p2] [] pos) (Mi.e1 (Mi.gIsC sub TY T) fa) := by
  subst hx
  obtain ⟨CT, g, own, ty⟩ := G.ex
  refine ⟨fun W tk => PE.imp (pe_callB call_isi hg hm (by rfl) (pa_cons (ha.run W tk) (pa_cons (pe_glob (v := .ref CT) (u := .ref CT) hg2 g rfl hd) pa_nil (by exact he2)) (by exact he)) (by decide) (by decide) he hpl) fun σ H Q ⟨w, m, S, h⟩ => ?_⟩
  refine tE.part S h fun y w1 m1 H1 v S1 e1 pv h1 => ?_
  obtain ⟨d, hd, h3⟩ := h1.opt
  have fin : ∀ (t : Value) (bb : Bool), TyX X.K H1 v t → PySem.W.kitOne X.K t (.ref CT) = some bb → d = .bl bb → rIsi X.K [v, .ref CT] H1 Q := fun t bb ty hk hb => by
    subst hb
    exact ⟨v, .ref CT, t, .ref CT, bb, rfl, .own _, ty, hk, RE.ok h3 S1 (Ext.refl ..) _ (.bl _)⟩
  unfold Mi.gIsC at hd
  split at hd
  · rename_i c fs q
    obtain ⟨bb, q2, rfl⟩ := opt_map hd
    obtain ⟨a, Ca, dx, vs, rfl, g1, g2, _⟩ := S1.obj pv q
    obtain ⟨C, t1, t2, t3⟩ := own c bb q2
    rw [g1] at t1; cases t1
    exact fin (.ref Ca) bb (.base (.ins g2 t2.cl t2.ha t2.hn t2.hk t2.hm)) t3 rfl
  · split at hd
    · obtain ⟨t, q, q2⟩ := opt_bind hd
      split at q2
      · rename_i ht
        cases q2
        obtain ⟨ty', _⟩ := ty_of pv q
        exact fin _ false ty' (ty t ht) rfl
      · cases q2
    · cases hd
/-! ### zip of two lists -/
theorem zipD_get {xs ys : List D} {i : Nat} {d : D} (h : (Mi.zipD xs ys)[i]? = some d) : ∃ x y, xs[i]? = some x ∧ ys[i]? = some y ∧ d = .tup [x, y] := by
  unfold Mi.zipD at h
  rw [List.getElem?_map] at h
  obtain ⟨⟨x, y⟩, h1, rfl⟩ := opt_map h
  rw [List.getElem?_zip_eq_some] at h1
  exact ⟨x, y, h1.1, h1.2, rfl⟩
theorem di_zip {p tpos : Pos} {elts : List Expr} {kk : Nat} {f g : Ev} (hg : Gl X "zip") (hm : X.mg "zip" = none) (ha : DA X ct [a, b] (Mi.aCons f (Mi.aCons g Mi.aNil)))
    (hs : starEach [a, b] X.env = (false, eval a X.env) :: starEach [b] X.env := by rfl) (hpl : (backTo pos (starEach [b] X.env)).any (·.1) = false := by rfl) :
    DI X ct (.Tuple elts kk tpos) (.Call (.Name "zip" p) [a, b] [] pos) (Mi.iZip f g) :=
  ⟨fun W tk => PI.imp (pi_zip hg hm (ha.run W tk) hs hpl) fun σ H R ⟨w, m, S, h⟩ => by
    replace h : RE X.K ct σ w m H ((f m).bind fun x m1 => (g m1).bind fun y m2 => match x, y with
      | .v (.lst xs), .v (.lst ys) => Res.ok (Mi.zipD xs ys) m2
      | _, _ => .bad) _ _ := h
    refine ⟨w, m, S, ?_⟩
    show RE X.K ct σ w m H ((f m).bind fun x m1 => ((g m1).bind fun y m2 => Res.ok [y] m2).bind fun xs m2 => .ok (x :: xs) m2) _ _
    cases q : f m with
    | ok x m1 =>
      rw [q] at h
      show RE X.K ct σ w m H (((g m1).bind fun y m2 => Res.ok [y] m2).bind fun xs m2 => .ok (x :: xs) m2) _ _
      replace h : RE X.K ct σ w m H ((g m1).bind fun y m2 => match x, y with
        | .v (.lst xs), .v (.lst ys) => Res.ok (Mi.zipD xs ys) m2
        | _, _ => .bad) _ _ := h
      cases q2 : g m1 with
      | ok y m2 =>
        rw [q2] at h
        intro w1 H1 S1 e1 vs pv
        cases pv with
        | cons pv t =>
          cases t with
          | cons pu t =>
            cases t
            replace h : RE X.K ct σ w m H (match x, y with
              | .v (.lst xs), .v (.lst ys) => Res.ok (Mi.zipD xs ys) m2
              | _, _ => .bad) _ _ := h
            split at h
            · rename_i xs ys
              have pv' : RepD X.K ct w1 m2 H1 (.lst xs) _ := pv
              have pu' : RepD X.K ct w1 m2 H1 (.lst ys) _ := pu
              cases pv' with
              | @lst p1 _ us n1 g1 r1 =>
                cases pu' with
                | @lst p2 _ ws n2 g2 r2 =>
                  refine ⟨p1, p2, us, ws, rfl, SqL.of g1.lst, SqL.of g2.lst, RE.ok h S1 e1 _ ?_⟩
                  intro i w3 m3 H3 M3 e3
                  obtain ⟨us', k1, k2⟩ := list_at (.inl (.lst n1 g1 r1)) e3
                  obtain ⟨ws', k3, k4⟩ := list_at (.inl (.lst n2 g2 r2)) e3
                  refine ⟨fun d hd => ?_, fun hl => ⟨us', ws', k1, k3, ?_⟩⟩
                  · obtain ⟨x, y, z1, z2, rfl⟩ := zipD_get hd
                    obtain ⟨u, z3, z4⟩ := k2.get z1
                    obtain ⟨v, z5, z6⟩ := k4.get z2
                    refine ⟨⟨us', ws', u, v, k1, k3, z3, z5⟩, fun v' H' ⟨T, x', y', ev, hT, hH, hx, hy⟩ => ?_⟩
                    subst ev hH
                    have := hx us' k1; rw [z3] at this; cases this
                    have := hy ws' k3; rw [z5] at this; cases this
                    have ef := Ext.fresh (w := w3) (m := m3) (o := .tup [u, v]) hT
                    refine ⟨.tup (M3.notBad hT) (nd_same rfl) (.cons (RepD.ext ef z4) (.cons (RepD.ext ef z6) .nil)), .inr ⟨T, _, hT, rfl⟩⟩
                  · unfold Mi.zipD at hl
                    rw [List.length_map, List.length_zip] at hl
                    rw [← k2.length, ← k4.length]
                    omega
            · exact h.elim
      | ex x m1 => rw [q2] at h; exact h
      | bad => rw [q2] at h; exact h
    | ex x m1 => rw [q] at h; exact h
    | bad => rw [q] at h; exact h⟩
end
end So

set_option Elab.async false
set_option linter.all false
set_option maxRecDepth 100000
set_option maxHeartbeats 4000000
namespace So
open PySem PySem.Spec PyProof.Rows L2
open Mi (D Cl FV SC Me Xc Res PV Ky Ev Tv Av Lv Iv Ov Sv Bd Out Tx RG Cal Tb)
/-! ### enumerate of a text -/
/-- the signs of a text with their places, each pair a new tuple -/
def JtE (z : Str) : It :=
  ⟨fun i _ => i < z.cps.size, fun i H v H' => ∃ T c, v = .ref T ∧ H T = none ∧ z.cps[i]? = some c ∧ H' = upd H T (.tup [.int (i : Nat), .str ⟨#[c]⟩]), fun i _ => z.cps.size ≤ i⟩
section
variable {P : Program} {w : World} {K : PySem.W.Frag} {elts : List Expr} {kk : Nat} {tpos : Pos}
theorem turn_enumT (e it : Addr) (z : Str) (t : Tok) (hne : e ≠ it) :
    Turn P w K (.Tuple elts kk tpos) (JtE z) [e, it] e (fun i h => ((∃ old, IsEnum h e it ((i : Nat) : Int) old) ∧ h.IsStrIter it (strIterType z) z t i) ∧ i ≤ z.cps.size) := by
  have two : ∀ {b : Addr}, b ∈ [e, it] ↔ b = e ∨ b = it := fun {b} => by simp
  refine ⟨two.mpr (.inl rfl), fun i h st b hb => ?_, fun i h h' st k => ?_, ?_, ?_, fun A i s Q E st h => ?_⟩
  · obtain ⟨⟨⟨old, he⟩, hit⟩, _⟩ := st
    rcases two.mp hb with rfl | rfl
    · exact ⟨_, he, nofun⟩
    · obtain ⟨o, ho, hc, hd⟩ := hit
      exact ⟨o, ho, fun v q => by rw [hd] at q; cases q⟩
  · obtain ⟨⟨⟨old, he⟩, hit⟩, hl⟩ := st
    obtain ⟨o, ho, r⟩ := hit
    exact ⟨⟨⟨old, k e (two.mpr (.inl rfl)) _ he⟩, ⟨o, k it (two.mpr (.inr rfl)) o ho, r⟩⟩, hl⟩
  · rintro X rfl rfl rfl hc i pins s σ H E I hf ⟨⟨⟨old, he⟩, hit⟩, hl⟩ hg
    have hg : i < z.cps.size := hg
    have D := Draws.text (prog := X.prog) (w := X.w) (A := X.A.in1) (show X.A.in1.handled = none from I.ok.hd hc) it z t
    have hel : e < s.heap.objs.size := Heap.lt_size he
    have hil : it < s.heap.objs.size := by obtain ⟨_, q, _⟩ := hit; exact Heap.lt_size q
    refine wpAny_pyNext_enum_itemC D he hit hg hne (by simpa using hne) fun y h' tk hy ho hit' hT hsz hk => ?_
    obtain ⟨c, u, hcx, rfl⟩ := hy
    refine ⟨_, rfl, wpAny_letOwnedTupleGo_enum (s := ⟨h', s.gens, s.drawn, tk + 1, s.os⟩) ho fun h2 he2 sb => ?_⟩
    have hT2 : h2.get? s.heap.objs.size = some { cls := .type "tuple", data := .seq #[.int ((i : Nat) : Int) tk, .str ⟨#[c]⟩ u] } := (sb.2 _ (Nat.ne_of_gt hel)).trans hT
    have I1 : Inv X pins σ (upd H s.heap.objs.size (.tup [.int (i : Nat), .str ⟨#[c]⟩])) { s with heap := h2, toks := tk + 1 } := by
      refine I.turnedNew (ch := [e, it]) (fun b o hb q => ?_) hf (Nat.le_refl _) ⟨by show 2 ≤ sizeLine; decide, [.int ((i : Nat) : Int) tk, .str ⟨#[c]⟩ u], .cons ⟨_, rfl⟩ (.cons ⟨_, rfl⟩ .nil), ⟨_, hT2, rfl, _, rfl⟩⟩
      have n1 : b ≠ e := fun z => hb (two.mpr (.inl z))
      have n2 : b ≠ it := fun z => hb (two.mpr (.inr z))
      exact (sb.2 b n1).trans (hk b o n1 n2 q)
    have hit2 : h2.IsStrIter it (strIterType z) z t (i + 1) := by
      obtain ⟨o, ho', r⟩ := hit'
      exact ⟨o, (sb.2 it (Ne.symm hne)).trans ho', r⟩
    refine ⟨.ref s.heap.objs.size, _, I1, rfl, ⟨_, c, rfl, I.hok.fresh (Nat.le_refl _), hcx, rfl⟩, ⟨⟨⟨Value.str ⟨#[c]⟩ u, ?_⟩, hit2⟩, by omega⟩, fun b hb => ?_⟩
    · have e1 : ((i + 1 : Nat) : Int) = ((i : Nat) : Int) + 1 := by omega
      rw [e1]; exact he2
    · have hlt : b < s.heap.objs.size := by rcases two.mp hb with rfl | rfl <;> assumption
      rw [upd_ne (Nat.ne_of_lt hlt)]
      exact (hf b hb).1
  · rintro X rfl rfl rfl hc i pins s σ H E I hf ⟨⟨⟨old, he⟩, hit⟩, hl⟩ hg
    have hg : z.cps.size ≤ i := hg
    obtain rfl : i = z.cps.size := by omega
    have D := Draws.text (prog := X.prog) (w := X.w) (A := X.A.in1) (show X.A.in1.handled = none from I.ok.hd hc) it z t
    obtain ⟨f0, f1, f2, f3, f4, f5⟩ := hf it (two.mpr (.inr rfl))
    exact wpAny_pyNext_enum_endD D he hit fun h' eb => ⟨rfl, I.turned (t' := s.toks) (fun b o hb q => eb b o hb q) f0 f1 f3 f4 f5⟩
  · obtain ⟨⟨⟨_, he⟩, _⟩, _⟩ := st
    exact wpAny_pyIter_enum he h
end
section
variable {X : Cx} {ct : String → Option Addr} {a b e : Expr} {pos p : Pos} {es : List Expr} {x : Str}
def iEnT (ta : TA) : TI := fun σ H R => ta σ H fun vs H1 => ∃ z, vs = [.str z] ∧ R (JtE z) H1
theorem pi_enumT {ta : TA} {tpos : Pos} {elts : List Expr} {kk : Nat} (hg : Gl X "enumerate") (hm : X.mg "enumerate" = none) (ha : PA X [e] ta) (hs : starEach [e] X.env = [(false, eval e X.env)] := by rfl) :
    PI X (.Tuple elts kk tpos) (.Call (.Name "enumerate" p) [e] [] pos) (iEnT ta) := by
  refine ⟨fun pins s σ H R I h => ?_⟩
  refine Call_ (ld_blt I hg hm boot_enumerate (PyProof.Rows.callWith_type1 (thn (ha.run pos pins s σ H _ I h) fun us s1 hh => ?_) hs rfl))
  obtain ⟨vs, H1, I1, r1, z, ex, q⟩ := hh
  subst ex
  obtain ⟨u, rfl, r⟩ := vals1 r1
  obtain ⟨t, rfl⟩ := r
  refine call_enumerate_str fun h' he hit hsz hk => wpAny_pyIter_enum he ?_
  have I2 : Inv X pins σ H1 { s1 with heap := h' } := I1.kept (t' := s1.toks) hk
  refine ⟨s1.heap.objs.size + 1, [s1.heap.objs.size + 1, s1.heap.objs.size], _, _, H1, rfl, I2, turn_enumT (s1.heap.objs.size + 1) s1.heap.objs.size z t (Nat.succ_ne_self _), ⟨⟨⟨.none, he⟩, hit⟩, Nat.zero_le _⟩, fun b hb => ?_, q⟩
  have hle : s1.heap.objs.size ≤ b := by
    simp only [List.mem_cons, List.not_mem_nil, or_false] at hb
    rcases hb with rfl | rfl <;> omega
  exact I1.fpOk hle (I1.hok.fresh hle)
theorem di_enumT {tpos : Pos} {elts : List Expr} {kk : Nat} {f : Ev} (hg : Gl X "enumerate") (hm : X.mg "enumerate" = none) (ha : DA X ct [e] (Mi.aCons f Mi.aNil)) (hs : starEach [e] X.env = [(false, eval e X.env)] := by rfl) :
    DI X ct (.Tuple elts kk tpos) (.Call (.Name "enumerate" p) [e] [] pos) (Mi.iEnumT f) :=
  ⟨fun W tk => PI.imp (pi_enumT hg hm (ha.run W tk) hs) fun σ H R ⟨w, m, S, h⟩ => by
    refine ⟨w, m, S, ?_⟩
    have h2 := h.bind
    show RE X.K ct σ w m H ((f m).bind fun x m1 => Res.ok [x] m1) _ _
    cases q : f m with
    | ex x m1 => rw [q] at h2; exact h2
    | bad => rw [q] at h2; exact h2
    | ok x m1 =>
      rw [q] at h2
      intro w1 H1 S1 e1 vs pv
      have h3 := h2 w1 H1 S1 e1
      dsimp only at h3
      obtain _ | ⟨pv, t⟩ := pv
      obtain _ | _ := t
      split at h3
      case h_2 => exact h3.elim
      rename_i z
      obtain _ := pv
      rename_i pv
      cases pv
      refine ⟨tx z, rfl, RE.ok h3 S1 (Ext.refl ..) _ ?_⟩
      intro i w2 m2 H2 M2 e2
      have hz : (tx z).cps.size = z.length := by simp [tx]
      refine ⟨fun d hd => ?_, fun hl => ?_⟩
      · rw [enum_get, List.getElem?_map] at hd
        obtain ⟨y, hy, rfl⟩ := opt_map hd
        obtain ⟨c, hc, rfl⟩ := opt_map hy
        refine ⟨?_, ?_⟩
        · show i < (tx z).cps.size
          rw [hz]; exact (List.getElem?_eq_some_iff.mp hc).1
        · rintro u H3 ⟨T, c', rfl, hT, hc', rfl⟩
          have : (tx z).cps[i]? = some c := by simp only [tx, List.getElem?_toArray]; exact hc
          rw [this] at hc'; cases hc'
          exact ⟨.tup (M2.notBad hT) (nd_same rfl) (.cons (.int _) (.cons (.str [c]) .nil)), .inr ⟨T, _, hT, rfl⟩⟩
      · show (tx z).cps.size ≤ i
        rw [hz]
        unfold Mi.enum at hl
        simpa using hl⟩
theorem di_enumU {tpos : Pos} {elts : List Expr} {kk : Nat} {f : Ev} (hg : Gl X "enumerate") (hm : X.mg "enumerate" = none) (ha : DA X ct [e] (Mi.aCons f Mi.aNil)) (hs : starEach [e] X.env = [(false, eval e X.env)] := by rfl) :
    DI X ct (.Tuple elts kk tpos) (.Call (.Name "enumerate" p) [e] [] pos) (Mi.iEnumU f) := by
  refine di_or2 (di_enum hg hm ha hs) (di_enumT hg hm ha hs) fun m => ?_
  unfold Mi.iEnumU Mi.iEnum Mi.iEnumT
  cases f m with
  | ok x m1 =>
    cases x with
    | sl i => exact .inr (.inr rfl)
    | v d => cases d <;> first | exact .inl rfl | exact .inr (.inl rfl) | exact .inr (.inr rfl)
  | ex x m1 => exact .inl rfl
  | bad => exact .inl rfl
end
end So

set_option Elab.async false
set_option linter.all false
set_option maxRecDepth 100000
set_option maxHeartbeats 4000000
namespace So
open PySem PySem.Spec PyProof.Rows L2
open Mi (D Cl FV SC Me Xc Res PV Ky Ev Tv Av Lv Iv Ov Sv Bd Out Tx RG Cal Tb)
theorem sub_all {L : List (String × String × Bool)} {T : String} {Q : String → Bool → Prop} (h : ∀ p ∈ L, p.2.1 = T → Q p.1 p.2.2) : ∀ c b, Mi.subOf L c T = some b → Q c b := fun c b e => by
  obtain ⟨p, q, e2⟩ := opt_map (show (L.find? fun p => p.1 == c && p.2.1 == T).map (·.2.2) = some b from e)
  have h1 := List.find?_some q
  rw [Bool.and_eq_true, beq_iff_eq, beq_iff_eq] at h1
  have h2 := h p (List.mem_of_find?_eq_some q) h1.2
  rw [h1.1] at h2
  rw [e2]
  exact h2
section
variable {K : PySem.W.Frag} {C : Addr} {f : Str} {vs : List V} {H : Hp} {Q : VK} {E : XK}
theorem spX1_len (h : spX1 K C f vs H Q E) : vs.length = 2 := by obtain ⟨a, v, rfl, _⟩ := h; rfl
end
end So

set_option Elab.async false
set_option linter.all false
set_option maxRecDepth 100000
set_option maxHeartbeats 4000000
namespace So
open PySem PySem.Spec PyProof.Rows L2
open Mi (D Cl FV SC Me Xc Res PV Ky Ev Tv Av Lv Iv Ov Sv Bd Out Tx RG Cal Tb)
/-! ### try with any clauses and an else -/
/-- the ends of a clause with a name (at slot i), or without one -/
def offs : Option Nat → Ends → Ends
  | none, D => D
  | some i, D => ⟨fun σ H => D.nx (σ.set i none) H, D.rt, fun σ H => D.bk (σ.set i none) H, fun σ H => D.ct (σ.set i none) H⟩
def ons : Option Nat → Addr → L2.St → L2.St
  | none, _, σ => σ
  | some i, a, σ => σ.set i (some (.ref a))
abbrev HT := Option Nat × Value × (Addr → Value → Option Addr → TS)
def wGo (K : PySem.W.Frag) (W : WX) (D : Ends) : List HT → WX
  | [] => W
  | t :: r => fun cls d σ H => ∃ b, PySem.W.exmOne K cls t.2.1 = some b ∧
      (b = true → ∀ a, H a = none → t.2.2 a cls d (offs t.1 D) (ons t.1 a σ) H) ∧ (b = false → wGo K W D r cls d σ H)
/-- a suite in its place -/
def InSuite (X : Cx) (st : List Stmt) (ts : Addr → Value → Option Addr → TS) : Prop :=
  ∀ a oe cls d pn, Zc cls d oe → (∃ vs, oe.data = .fields vs) → PSs (X.suite a ((a, oe) :: pn)) st (ts a cls d)
inductive Hdl (X : Cx) : List ExceptHandler → List HT → Prop
  | nil : Hdl X [] []
  | bare {x : Str} {c : Value} {ts : Addr → Value → Option Addr → TS} {b : Stmt} {bs : List Stmt} {p q : Pos} {hs : List ExceptHandler} {l : List HT} :
      Names X x c → InSuite X (b :: bs) ts → Hdl X hs l → Hdl X (.ExceptHandler (some (.Name x p)) none (b :: bs) q :: hs) ((none, c, ts) :: l)
  | named {x n : Str} {i : Nat} {c : Value} {ts : Addr → Value → Option Addr → TS} {b : Stmt} {bs : List Stmt} {p q : Pos} {hs : List ExceptHandler} {l : List HT} :
      Names X x c → InSuite X (b :: bs) ts → X.N[i]? = some n → X.env.kindOf n = some .local → Hdl X hs l →
        Hdl X (.ExceptHandler (some (.Name x p)) (some n) (b :: bs) q :: hs) ((some i, c, ts) :: l)
section
variable {X : Cx} {pins : List (Addr × Obj)} {W : WX} {D : Ends} {B : Heap} {sI s₀ : Shared} {a : Addr} {σ : L2.St} {H : Hp} {cls : Value} {d : Option Addr}
/-- the exception has come to this frame, and flies -/
structure Here (X : Cx) (pins : List (Addr × Obj)) (B : Heap) (sI : Shared) (a : Addr) (σ : L2.St) (H : Hp) (cls : Value) (d : Option Addr) (s : Shared) : Prop where
  ok : X.Ok
  fr : X.A.frames = some (X.env :: X.outer)
  stk : X.stack = X.env :: X.outer
  loc : X.env.frame = some X.env.locals
  inv : Inv X pins σ H sI
  nb : ∀ b o, sI.heap.get? b = some o → b ∉ frs X.stack → B.get? b = some o
  up : sI.heap.UpToSlots s.heap
  fl : HandSPX.FlyingZ B (X.env :: X.outer) a (Zc cls d) s.heap
  na : H a = none
  os : s.os = sI.os
  ag : AllBare s.gens
theorem Here.now {s : Shared} (h : Here X pins B sI a σ H cls d s) : Inv X pins σ H s := h.inv.landed h.nb h.fl.1 h.up h.os h.ag
/-- as the suite's start sees it -/
theorem Here.inn {s : Shared} (h : Here X pins B sI a σ H cls d s) : ∃ oe, s.heap.get? a = some oe ∧ Zc cls d oe ∧ (∃ vs, oe.data = .fields vs) ∧ Inv (X.suite a ((a, oe) :: (X.pn ++ pins))) [] σ H s := by
  obtain ⟨oe, vs, g1, g2, g3⟩ := h.fl.there
  have out : a ∉ frs (X.env :: X.outer) := by
    intro z
    obtain ⟨_, o, e, no⟩ := h.fl.2.2.1.mem z
    rw [g1] at e
    cases e
    exact no _ g3
  refine ⟨oe, g1, g2, ⟨vs, g3⟩, h.now.suite g1 g3 h.na (fun z => ?_) fun z => ?_⟩
  · subst z
    exact out (List.mem_filterMap.mpr ⟨X.env, .head _, h.loc⟩)
  · obtain ⟨e, he, q⟩ := List.mem_filterMap.mp z
    exact out (List.mem_filterMap.mpr ⟨e, .tail _ he, q⟩)
theorem Here.moved {s : Shared} {hp : Heap} (h : Here X pins B sI a σ H cls d s) (f : HandSPX.FlyingZ B (X.env :: X.outer) a (Zc cls d) hp) (u : s.heap.UpToSlots hp) : Here X pins B sI a σ H cls d { s with heap := hp } :=
  { h with up := h.up.trans u, fl := f }
/-- a suite's end -/
theorem suite_end {o : Option Nat} {n : Option Str} {q : Pos} {f : Flow} {q' : Addr × Obj} {s : Shared} (ok : X.Ok) (hN : X.N.Nodup)
    (hn : match o, n with | none, none => True | some i, some n => X.N[i]? = some n ∧ X.env.kindOf n = some .local | _, _ => False)
    (h : SP (X.suite a (q' :: (X.pn ++ pins))) [] (offs o D) f s) :
    match n with
    | none => SP X pins D f s
    | some n => wpAny (model X.prog X.w) X.A (do bindName X.env n .none; unbindBehindTheSuite X.env n q) (fun _ s' => SP X pins D f s') X.xe s := by
  cases o with
  | none =>
    cases n with
    | none =>
      cases f with
      | ret u => obtain ⟨v, σ', H', J, r, t⟩ := h; exact ⟨v, σ', H', J.unsuite ok, r, t⟩
      | next => obtain ⟨σ', H', J, t⟩ := h; exact ⟨σ', H', J.unsuite ok, t⟩
      | brk => obtain ⟨σ', H', J, t⟩ := h; exact ⟨σ', H', J.unsuite ok, t⟩
      | cont => obtain ⟨σ', H', J, t⟩ := h; exact ⟨σ', H', J.unsuite ok, t⟩
    | some n => exact hn.elim
  | some i =>
    cases n with
    | none => exact hn.elim
    | some n =>
      obtain ⟨hi, hl⟩ := hn
      cases f with
      | ret u => obtain ⟨v, σ', H', J, r, t⟩ := h; exact gone_ok (J.unsuite ok) hN hi hl fun _ J' => ⟨v, _, H', J', r, t⟩
      | next => obtain ⟨σ', H', J, t⟩ := h; exact gone_ok (J.unsuite ok) hN hi hl fun _ J' => ⟨_, H', J', t⟩
      | brk => obtain ⟨σ', H', J, t⟩ := h; exact gone_ok (J.unsuite ok) hN hi hl fun _ J' => ⟨_, H', J', t⟩
      | cont => obtain ⟨σ', H', J, t⟩ := h; exact gone_ok (J.unsuite ok) hN hi hl fun _ J' => ⟨_, H', J', t⟩
/-- the class that a clause names is read -/
theorem Here.names {s : Shared} {x : Str} {p : Pos} {c : Value} {Q : Value → Shared → Prop} {E : Value → Shared → Prop} (h : Here X pins B sI a σ H cls d s) (hc : Names X x c) (q : Q c s) :
    wpAny (model X.prog X.w) (X.A.mark (some (.ref a))) (eval (.Name x p) X.env) Q E s := by
  obtain ⟨oe, _, _, _, J⟩ := h.inn
  rcases hc with ⟨g1, g2, g3 | ⟨g3, g4, g5⟩⟩
  · exact ld_glob (X := X.suite a ((a, oe) :: (X.pn ++ pins))) J g1 g3 q g2
  · exact ld_blt (X := X.suite a ((a, oe) :: (X.pn ++ pins))) J g1 g3 g4 q g5 g2
theorem Here.go (hN : X.N.Nodup) (tk : Takes X W) {hs : List ExceptHandler} {l : List HT} (hk : Hdl X hs l) : ∀ {s : Shared}, Here X pins B sI a σ H cls d s → wGo X.K W D l cls d σ H →
    wpAny (model X.prog X.w) X.A (handleBy (.ref a) X.env hs) (SP X pins D) X.xe s := by
  have yes : ∀ {s : Shared} {oi : Option Nat} {st : List Stmt} {ts : Addr → Value → Option Addr → TS}, Here X pins B sI a σ H cls d s → InSuite X st ts → ts a cls d (offs oi D) (ons oi a σ) H →
      ∀ {s' : Shared} {oe : Obj}, Zc cls d oe → (∃ vs, oe.data = .fields vs) → Inv (X.suite a ((a, oe) :: (X.pn ++ pins))) [] (ons oi a σ) H s' → ∀ {R : Flow → Shared → Prop} {E : Value → Shared → Prop},
      (∀ f t, SP (X.suite a ((a, oe) :: (X.pn ++ pins))) [] (offs oi D) f t → R f t) → wpAny (model X.prog X.w) (X.A.mark (some (.ref a))) (execs st X.env) R E s' :=
    fun hh su hts _ oe z1 z2 J _ _ k => wpAny_mono ((su a oe cls d (X.pn ++ pins) z1 z2).run [] _ _ H _ J hts) k fun _ _ no => no.elim
  induction hk with
  | nil =>
    intro s h w
    refine wpAny_handleBy_nil ?_
    obtain ⟨_, _, _, oe, vs, T, _, _, g1, g2, g3, g4, _⟩ := id h.fl
    unfold PySem.passOn
    refine wpAny_bind (wpAny_field g1 g3 g4 ?_)
    rw [if_neg (by simp)]
    have last : wpAny (model X.prog X.w) X.A (setFlight (.ref a) X.env.frame) (fun _ t => wpAny (model X.prog X.w) X.A (throw (.ref a) : Sem Flow) (SP X pins D) X.xe t) X.xe s := by
      rw [h.loc]
      exact HandSPX.setFlight_upZ h.fl fun hp k1 k2 => wpAny_throw (tk _ _ ⟨a, B, sI, pins, σ, H, cls, d, rfl, h.inv, h.nb, h.up.trans k2, .inr (.inr (by rw [h.stk]; exact k1)), h.na, h.os, h.ag, w⟩)
    first
      | exact wpAny_bind last
      | exact wpAny_bind (wpAny_pure (wpAny_bind last))
  | bare hc su _ ih =>
    intro s h ⟨b, e, k1, k2⟩
    have L : PySem.W.Looks (model X.prog X.w) s.heap (typeOf (.ref a)) cls := by
      obtain ⟨oe, g1, g2, _⟩ := h.inn
      exact fun _ _ _ _ k q => wpAny_typeOf_ref (k _ _ g1) (by rw [g2.1]; exact q)
    refine wpAny_handleBy_cons (codeAny_handlers_test (h.names hc ((PySem.W.exm_one h.now.kIn L e).here ?_))) nofun
    cases b with
    | false => exact ih h (k2 rfl)
    | true =>
      refine codeAny_handlers_suite (HandSPX.lands_againZ h.fl fun hp f u => ?_)
      obtain ⟨oe, _, z1, z2, J⟩ := (h.moved f u).inn
      exact yes (oi := none) h su (k1 rfl a h.na) z1 z2 J fun f t q => suite_end (o := none) (n := none) (q := default) h.ok hN trivial q
  | @named x n i c ts b bs p q hs' l' hc su hi hl _ ih =>
    intro s h ⟨b, e, k1, k2⟩
    have L : PySem.W.Looks (model X.prog X.w) s.heap (typeOf (.ref a)) cls := by
      obtain ⟨oe, g1, g2, _⟩ := h.inn
      exact fun _ _ _ _ k q => wpAny_typeOf_ref (k _ _ g1) (by rw [g2.1]; exact q)
    refine wpAny_handleBy_cons (codeAny_handlers_test (h.names hc ((PySem.W.exm_one h.now.kIn L e).here ?_))) nofun
    cases b with
    | false => exact ih h (k2 rfl)
    | true =>
      refine codeAny_handlers_suite_as (HandSPX.lands_againZ h.fl fun hp f u => ?_)
      obtain ⟨oe, _, z1, z2, J⟩ := (h.moved f u).inn
      refine store_ok (X := X.suite a ((a, oe) :: (X.pn ++ pins))) (v := .ref a) J hN hi (.inl hl) rfl (fun t J2 => ?_) (.inr hl)
      exact yes (oi := some i) h su (k1 rfl a h.na) z1 z2 J2 fun f t q => suite_end (o := some i) (n := some n) h.ok hN ⟨hi, hl⟩ q
end
section
variable {X : Cx} {body orelse : List Stmt} {h₀ : ExceptHandler} {hs : List ExceptHandler} {l : List HT} {pos : Pos} {tb : WX → TS} {W : WX} {u : TS}
theorem ps_tryG (ho : PSs X orelse u) (hst : X.stack = X.env :: X.outer) (hf : X.env.frame = some X.env.locals) (hN : X.N.Nodup) (tk : Takes X W) (hh : Hdl X (h₀ :: hs) l)
    (hb : ∀ (V : WX) (pn : List (Addr × Obj)) (xe : Value → Shared → Prop), Takes (X.tr pn xe) V → PassesOwn (model X.prog X.w) X.A X.env xe → PSs (X.tr pn xe) body (tb V)) :
    PS X (.Try body (h₀ :: hs) orelse [] pos) fun D σ H => tb (wGo X.K W D l) { D with nx := u D } σ H := by
  refine ⟨fun pins s σ H D I h => wpAny_Try_except ?_⟩
  have ok := I.ok
  have b := (hb (wGo X.K W D l) (X.pn ++ pins) (fun e t => wpAny (model X.prog X.w) X.A (noteFrame e X.env)
    (fun _ t => wpAny (model X.prog X.w) X.A (setFlight e none) (fun _ t => wpAny (model X.prog X.w) X.A (handleBy e X.env (h₀ :: hs)) (SP X pins D) X.xe t) X.xe t) X.xe t) (fun v t xx => ?_) PassesOwn.looking).run [] s σ H { D with nx := u D } (I.toTry _) h
  · refine wpAny_mono b (fun f t q => ?_) fun _ _ z => z
    cases f with
    | ret y => obtain ⟨v, σ', H', J, r, z⟩ := q; exact ⟨v, σ', H', J.ofTry ok, r, z⟩
    | brk => obtain ⟨σ', H', J, z⟩ := q; exact ⟨σ', H', J.ofTry ok, z⟩
    | cont => obtain ⟨σ', H', J, z⟩ := q; exact ⟨σ', H', J.ofTry ok, z⟩
    | next => obtain ⟨σ', H', J, z⟩ := q; exact ho.run pins t σ' H' D (J.ofTry ok) z
  · obtain ⟨a, B, sI, pins', σ', H', cls, d, rfl, J, nb, up, sky, na, os, ag, w⟩ := xx
    have sky : Sky B (X.env :: X.outer) a (Zc cls d) X.env.locals t.heap := by rw [← hst]; exact sky
    have hfr : X.A.frames = some (X.env :: X.outer) := by rw [ok.frames, hst]
    exact Sky.land (hZ := Zc.steady) hfr hf sky fun hp f k => Here.go hN tk hh ⟨ok, hfr, hst, hf, J.ofTry ok, nb, up.trans k, f, na, os, ag⟩ w
end
end So

set_option linter.all false
/-! # Mk: more of the small world: try with many clauses -/
namespace Mi
noncomputable section
/-- an except suite raises nothing -/
def aft0 (r : Out) : Out := match r with
  | .ex _ _ => .bad
  | o => o
abbrev Hcl := Option Nat × String × (Xc → Sv)
def hand (sub : String → String → Option Bool) : List Hcl → Xc → Sv
  | [], x => fun m => .ex x m
  | (oi, c, s) :: r, x => fun m => match sub x.c c with
    | some true => (match oi with
      | none => aft0 (s x m)
      | some i => if (m.slot i).isNone = true ∧ i < m.σ.length then aft i (s x ⟨m.σ.set i none, m.S⟩) else .bad)
    | some false => hand sub r x m
    | none => .bad
def sTryG (sub : String → String → Option Bool) (body : Sv) (cs : List Hcl) (els : Sv) : Sv := fun m => match body m with
  | .ex x m1 => hand sub cs x m1
  | .nx m1 => els m1
  | o => o
/-! expressions over the exception -/
def xIs (sub : String → String → Option Bool) (T : String) : Xc → Ev := fun x m => match sub x.c T with
  | some b => .ok (.v (.bl b)) m
  | none => .bad
def xF (c f : String) : Xc → Ev := fun x m => if x.c = c then (match x.fs.lookup f with | some d => .ok (.v d) m | none => .bad) else .bad
def xAnd (a b : Xc → Ev) : Xc → Ev := fun x => eAnd (a x) (b x)
def xNot (a : Xc → Ev) : Xc → Ev := fun x => e1 gNot (a x)
def xOf (a : Ev) : Xc → Ev := fun _ => a
def xTup (l : List (Xc → Ev)) : Xc → Ev := fun x => eTup (l.foldr (fun a r => aCons (a x) r) aNil)
def xEq (a b : Xc → Ev) : Xc → Ev := fun x m => (a x m).bind fun u m1 => (b x m1).bind fun v m2 => match u, v with
  | .v (.int i), .v (.int j) => .ok (.v (.bl (decide (i = j)))) m2
  | _, _ => .bad
def xPut (j : Nat) (f : Xc → Ev) : Xc → Sv := fun x => sSet j (f x)
end
end Mi

set_option Elab.async false
set_option linter.all false
set_option maxRecDepth 100000
set_option maxHeartbeats 4000000
namespace PySem.W
open PySem PySem.Spec PySem.Calls PyProof.Rows
section
variable {prog : Program} {w : World} {A : Around} {E : Value → Shared → Prop} {s : Shared} {K : Frag} {x C : Addr} {ox : Obj} {od : Option Obj}
/-- `__class__` of an exception of an own class, whatever its fields -/
theorem soClassOf {Q : Option Value → Shared → Prop} (G : L2.ExcC K C) (X : K.In s.heap) (I : InstAt s.heap x ox C od) (h : Q (some (.ref C)) { s with toks := s.toks + 1 }) :
    wpAny (model prog w) A (getAttr? (.ref x) "__class__") Q E s := by
  have found : findObj K C od "__class__" = some (.bind (.builtin "getset_descriptor.__get__") (.builtin "object.__class__")) := by
    obtain ⟨cd, e, _⟩ := any_some G.hd
    unfold findObj
    rw [show clsIn K C = some cd from e, Option.bind_some, G.ha, Option.bind_some]
    simp [G.hn, G.ht]
  obtain ⟨hp, g, dr, n, os⟩ := s
  have T0 := I.type (M := model prog w)
  have T3 := looks_find (M := model prog w) X I found
  have base : Looks (model prog w) hp (isInstance (.ref x) (.type "BaseException")) true := T0.andThen (looks_subIn X G.hs)
  have c1 : (Value.builtin "BaseException.__getattribute__" == .builtin "object.__getattribute__") = false := by decide +kernel
  have c2 : (onTheHeap (Value.ref C) && Value.builtin "BaseException.__getattribute__" == Value.builtin "object.__getattribute__") = false :=
    (congrArg (onTheHeap (Value.ref C) && ·) c1).trans (Bool.and_false _)
  unfold getAttr? getAttrBy? getAttrBy
  refine wpAny_bind (wpAny_mkText (wpAny_bind (wpAny_attempt (wpAny_holding (wpAny_bind (T0.at (wpAny_bind ((looks_findIn X G.hg).at ?_))))))))
  refine (?_ : wpAny _ _ (if (onTheHeap (Value.ref C) && Value.builtin "BaseException.__getattribute__" == Value.builtin "object.__getattribute__") = true then _ else _) _ _ _)
  rw [c2, if_neg nofun]
  unfold getAttrByItsOwn hookBefore
  refine wpAny_bind ?_
  rw [if_pos (by rfl : onTheHeap (Value.ref C) = true)]
  refine (looks_findIn X G.hk).at (wpAny_bind (wpAny_attempt (wpAny_holding ?_)))
  unfold callGetattribute
  rw [show (false && onTheHeap (Value.builtin "BaseException.__getattribute__")) = false from rfl, if_neg nofun]
  unfold boundAndCalled
  rw [F.excAttr_ValueError.ga.bind (.ref x)]
  refine wpAny_bind (wpAny_pure ?_)
  refine (?_ : wpAny _ _ (call (.builtin "BaseException.__getattribute__") [.ref x, .str "__class__" n]) _ _ _)
  refine wpAny_call (codeAny_call_builtin F.excAttr_ValueError.ga.plain F.entry_bexc_ga ?_)
  refine check_slot (s := ⟨hp, g, dr, n + 1, os⟩) (i := "BaseException.__getattribute__") (owner := "BaseException") (n := "__getattribute__") (self := .ref x)
    (rest := [.str "__class__" n]) (kw := []) (by decide +kernel) (by decide +kernel) base (F.args_bexc_ga (.ref x) (.str "__class__" n)) ?_
  unfold Builtin.«object.__getattribute__»
  refine wpAny_bind (wpAny_of_eq (a := ((Value.ref x : Value), [Value.str "__class__" n])) (by first | rfl | (simp only [slotArgs]; rfl)) ?_)
  refine wpAny_bind (wpAny_pure (wpAny_bind (T0.at (wpAny_bind (T3.at ?_)))))
  refine (?_ : wpAny _ _ (holding [Value.builtin "object.__class__"] (call (.builtin "getset_descriptor.__get__") [.builtin "object.__class__", .ref x, .ref C]) >>= ret) _ _ _)
  refine wpAny_bind (wpAny_holding (wpAny_call (class_get (s := ⟨hp, g, dr, n + 1, os⟩) (ox := ox) (od := od) X I G.hm (wpAny_pure ?_))))
  refine (?_ : wpAny _ _ (handedOut (.ref C)) _ _ _)
  rw [handedOut_of (v := .ref C) rfl]
  first
    | exact wpAny_pure (wpAny_pure h)
    | exact wpAny_pure h
    | exact wpAny_pure (wpAny_bind (wpAny_pure (wpAny_pure h)))
theorem soKit (G : L2.ExcC K C) : KitX K (.ref x) (.ref C) fun h => InstAt h x ox C od := by
  obtain ⟨cd, hc, _⟩ := any_some G.hd
  unfold clsIn at hc
  split at hc
  · rename_i c' d' cd' sl' ho
    exact {
      ty := fun _ _ _ I => I.type
      it := fun _ _ X _ _ _ _ _ k q => by
        unfold isType loadHead
        exact wpAny_bind (wpAny_loadPart (k _ _ (X _ _ ho)) (wpAny_pure q))
      ne := fun h tp _ _ _ _ X e => by
        rw [Bool.eq_false_iff]
        intro q
        obtain rfl : C = tp := Value.ref.inj (beq_iff_eq.mp q)
        cases (X _ _ ho).symm.trans e
      ca := fun X I k => soClassOf G X I k }
  · cases hc
end
end PySem.W
namespace So
open PySem PySem.Spec PyProof.Rows L2
open Mi (D Cl FV SC Me Xc Res PV Ky Ev Tv Av Lv Iv Ov Sv Bd Out Tx RG Cal Tb Hcl)
section
variable {X : Cx} {ct : String → Option Addr} {a b e : Expr} {pos p : Pos} {es : List Expr} {x : Str} {i : Nat}
/-! ### expressions over the exception of a suite -/
def tX (K : PySem.W.Frag) (ct : String → Option Addr) (i : Nat) (f : Xc → Ev) (a : Addr) (cls : Value) (d : Option Addr) : TE := fun σ H Q => ∃ w m x, SR K ct w m H σ ∧ ExR K ct w m H x cls d ∧
  σ[i]? = some (some (.ref a)) ∧ RE K ct σ w m H (f x m) (fun y w' m' H' => ∀ v, PVR K ct w' m' H' σ y v → Q v H') (PxW K ct (fun _ _ _ _ => False) σ)
def DXe (X : Cx) (ct : String → Option Addr) (i : Nat) (e : Expr) (f : Xc → Ev) : Prop := ∀ (a : Addr) (oe : Obj) (cls : Value) (d : Option Addr) (pn : List (Addr × Obj)), Zc cls d oe → (∃ vs, oe.data = .fields vs) →
  PE (X.suite a ((a, oe) :: pn)) e (tX X.K ct i f a cls d)
theorem dxe_of {f : Ev} (h : ∀ a pn, DE (X.suite a pn) ct e f) : DXe X ct i e (Mi.xOf f) := fun a oe cls d pn _ _ =>
  PE.imp ((h a ((a, oe) :: pn)).run (fun _ _ _ _ => False) takes_none5) fun σ H Q ⟨w, m, x, S, _, _, r⟩ => ⟨w, m, S, r⟩
theorem RE.xpart {K : PySem.W.Frag} {β : Type} {f : Ev} {k : PV → Me → Res β} {P : β → Wd → Me → Hp → Prop} {w : Wd} {m : Me} {H : Hp} {σ : L2.St} {Q : VK} (h : RE K ct σ w m H ((f m).bind k) P (PxW K ct (fun _ _ _ _ => False) σ))
    (g : ∀ x w1 m1 H1 v, SR K ct w1 m1 H1 σ → Ext w m H w1 m1 H1 → PVR K ct w1 m1 H1 σ x v → RE K ct σ w1 m1 H1 (k x m1) P (PxW K ct (fun _ _ _ _ => False) σ) → Q v H1) :
    RE K ct σ w m H (f m) (fun y w' m' H' => ∀ v, PVR K ct w' m' H' σ y v → Q v H') (PxW K ct (fun _ _ _ _ => False) σ) :=
  h.bind.imp (fun x w1 m1 H1 S1 e1 h1 v pv => g x w1 m1 H1 v S1 e1 pv h1) fun _ _ _ _ _ _ z => z
theorem dxe_one {op : BoolOp} {f : Xc → Ev} (h : DXe X ct i a f) : DXe X ct i (.BoolOp op [a] pos) f := fun q oe cls d pn z1 z2 => pe_one (h q oe cls d pn z1 z2)
theorem dxe_and {rest : List Expr} {fa fb : Xc → Ev} (ha : DXe X ct i a fa) (hb : DXe X ct i (.BoolOp .And (b :: rest) pos) fb) : DXe X ct i (.BoolOp .And (a :: b :: rest) pos) (Mi.xAnd fa fb) := fun q oe cls d pn z1 z2 =>
  PE.imp (pe_and (ha q oe cls d pn z1 z2) (hb q oe cls d pn z1 z2)) fun σ H Q ⟨w, m, x, S, hx, hq, h⟩ => by
    refine ⟨w, m, x, S, hx, hq, RE.xpart h fun y w1 m1 H1 v S1 e1 pv h1 => ?_⟩
    split at h1
    · cases pv
      exact ⟨true, rfl, by rw [if_pos rfl]; exact ⟨w1, m1, x, S1, hx.ext e1, hq, h1⟩⟩
    · cases pv
      exact ⟨false, rfl, by rw [if_neg nofun]; exact RE.ok h1 S1 (Ext.refl ..) _ (.bl _)⟩
    · exact h1.elim
theorem dxe_not {fa : Xc → Ev} (ha : DXe X ct i a fa) : DXe X ct i (.UnaryOp .Not a pos) (Mi.xNot fa) := fun q oe cls d pn z1 z2 =>
  PE.imp (pe_not (ha q oe cls d pn z1 z2)) fun σ H Q ⟨w, m, x, S, hx, hq, h⟩ => by
    refine ⟨w, m, x, S, hx, hq, RE.xpart h fun y w1 m1 H1 v S1 e1 pv h1 => ?_⟩
    obtain ⟨dd, hd, h3⟩ := h1.opt
    unfold Mi.gNot at hd
    split at hd
    · cases pv
      cases hd
      exact ⟨_, rfl, RE.ok h3 S1 (Ext.refl ..) _ (.bl _)⟩
    · cases hd
/-- e.f -/
theorem dxe_fld {n fS : Str} {p2 p3 : Pos} (c f : String) {C : Addr} (T : Xp1 X.K X.mg ct c f C) (hi : ∀ a pn, PE (X.suite a pn) (.Name n p3) (tVar i)) (hx : nm f = fS := by rfl)
    (hb : attributeBase (.Name n p3) fS X.env (eval (.Name n p3) X.env) = eval (.Name n p3) X.env := by rfl) : DXe X ct i (.Attribute (.Name n p3) fS p2) (Mi.xF c f) := by
  subst hx
  intro a oe cls d pn hz hv
  refine PE.imp (pe_xf T.xf T.nf hz hv (hi a _) hb) fun σ H Q ⟨w, m, x, S, hx, ha, h⟩ => ⟨.ref a, ha, rfl, ?_⟩
  unfold Mi.xF at h
  split at h
  · rename_i hcc
    cases hl : x.fs.lookup f with
    | none => rw [hl] at h; exact h.elim
    | some dd =>
      rw [hl] at h
      obtain ⟨C', t1, t2, _, t3⟩ := hx
      rw [hcc, T.t] at t1
      cases t1
      have same : (x.fs.map fun p => (p.1, FV.v p.2)).lookup f = (x.fs.lookup f).map FV.v := by
        induction x.fs with
        | nil => rfl
        | cons p r ih => obtain ⟨k, u⟩ := p; rw [List.map_cons, lookup_s, lookup_s, ih]; split <;> rfl
      obtain ⟨da, vs, g1, g2, ⟨o, k1, k2⟩, g4⟩ := t3 (fun z => by rw [z] at hl; cases hl)
      have k3 : o = .xd vs := by
        unfold norm at k2
        split at k2 <;> first | exact k2 | cases k2
      subst k3
      rcases g4.look f with ⟨_, z⟩ | ⟨d2, v, y1, y2, y3⟩
      · rw [same, hl] at z; cases z
      · rw [same, hl] at y2
        cases y2
        exact ⟨t2, da, vs, v, g1, k1, y1, RE.ok h S (Ext.refl ..) _ y3⟩
  · exact h.elim
/-- what the top tells of isinstance(e, T) -/
structure EIs (K : PySem.W.Frag) (ct : String → Option Addr) (sub : String → String → Option Bool) (T : String) (cv : Value) : Prop where
  own : ∀ c b, sub c T = some b → ∃ C, ct c = some C ∧ ExcC K C ∧ PySem.W.kitOne K (.ref C) cv = some b
theorem call_isX {a D : Addr} {oe : Obj} {pn : List (Addr × Obj)} {d : Option Addr} {x : Xc} (C : ExcC X.K D) (hz : Zc (.ref D) d oe) (hf : ∃ vs, oe.data = .fields vs) :
    CallR (X.suite a ((a, oe) :: pn)) (.builtin "isinstance") fun xs H Q => (d = none ∨ ∃ dd vs, d = some dd ∧ H dd = some (.xd vs)) ∧ ∃ c cv b, xs = [.ref a, c] ∧ (∀ u, RelV c u → u = cv) ∧ PySem.W.kitOne X.K (.ref D) cv = some b ∧ Q (.bl b) H := by
  intro pins s σ H xs us Q I r ⟨hd, c, cv, b, ex, hcv, e, q⟩
  subst ex
  cases r with
  | cons rx rr =>
    cases rr with
    | cons rt rr =>
      cases rr
      cases rx
      obtain rfl := hcv _ rt
      obtain ⟨hget, _⟩ := I.pin (a, oe) (List.mem_append_left _ (.head _))
      have no : PySem.W.notCls oe = true := by
        obtain ⟨vs, hv⟩ := hf
        unfold PySem.W.notCls
        rw [hv] <;> rfl
      have at_ : ∃ od, PySem.W.InstAt s.heap a oe D od := by
        rcases hd with rfl | ⟨dd, vs, rfl, hh⟩
        · exact ⟨none, hget, hz.1, no, by rw [hz.2]; trivial⟩
        · have hx : ObjOk X.prog X.w H s.heap dd (.xd vs) := I.hok dd _ hh
          obtain ⟨mA, hns, hr⟩ := hx
          obtain ⟨od, ho, _⟩ := lookIn_ns hns
          exact ⟨some od, hget, hz.1, no, by rw [hz.2]; exact ho⟩
      obtain ⟨od, J⟩ := at_
      exact PySem.W.kia_one (PySem.W.soKit C) I.kIn J e nofun fun tk => ⟨.bl b, H, I.kept (t' := tk) (fun _ _ z => z), rfl, q⟩
theorem dxe_is {sub : String → String → Option Bool} {T : String} {cv : Value} {n tn : Str} {p2 p3 : Pos} {cV : V} (G : EIs X.K ct sub T cv) (hg : Gl X "isinstance") (hm : X.mg "isinstance" = none) (hcv : ∀ u, RelV cV u → u = cv)
    (hi : ∀ a pn, PE (X.suite a pn) (.Name n p3) (tVar i)) (ht : ∀ a pn, PE (X.suite a pn) (.Name tn p2) (tC cV))
    (he : starEach [.Name n p3, .Name tn p2] X.env = (false, eval (.Name n p3) X.env) :: starEach [.Name tn p2] X.env := by rfl) (he2 : starEach [.Name tn p2] X.env = (false, eval (.Name tn p2) X.env) :: starEach [] X.env := by rfl)
    (hpl : (backTo pos (starEach [.Name tn p2] X.env)).any (·.1) = false := by rfl) : DXe X ct i (.Call (.Name "isinstance" p) [.Name n p3, .Name tn p2] [] pos) (Mi.xIs sub T) := by
  intro a oe cls d pn hz hv
  refine ⟨fun pins s σ H Q I ⟨w, m, x, S, hx, ha, h⟩ => ?_⟩
  unfold Mi.xIs at h
  split at h
  · rename_i bb hb
    obtain ⟨C', t1, t2, t0, t3⟩ := hx
    obtain ⟨C, g1, g2, g3⟩ := G.own _ _ hb
    rw [t1] at g1
    cases g1
    subst t2
    have P := pe_callB (X := X.suite a ((a, oe) :: pn)) (call_isX (x := x) g2 hz hv) hg hm (by rfl) (pa_cons (hi a _) (pa_cons (ht a _) pa_nil (by exact he2)) (by exact he)) (by decide) (by decide) (by exact he) (by exact hpl) (p := p)
    refine P.run pins s σ H Q I ⟨.ref a, ha, ?_, _, cv, bb, rfl, hcv, g3, RE.ok h S (Ext.refl ..) _ (.bl _)⟩
    by_cases hn : x.fs = []
    · exact .inl (t0 hn)
    · obtain ⟨da, vs, k1, k2, ⟨o, k3, k4⟩, _⟩ := t3 hn
      have : o = .xd vs := by
        unfold norm at k4
        split at k4 <;> first | exact k4 | cases k4
      exact .inr ⟨da, vs, k1, by rw [k3, this]⟩
  · exact h.elim
/-- y = an expression over e -/
theorem dx_put {j : Nat} {y : Str} {p1 : Pos} {f : Xc → Ev} (hN : X.N.Nodup) (hj : X.N[j]? = some y) (hy : Loc X.env.scope y) (he : DXe X ct i e f) (hs : swapsWith e (some (.Name y p1)) pos.line X.env = pure false := by rfl)
    (hf : X.fn y = true ∨ X.env.scope.names.lookup y = some .local := by first | exact .inl rfl | exact .inr rfl) : DXs X ct i [.Assign [.Name y p1] e pos] (Mi.xPut j f) :=
  ⟨fun a oe cls d pn hz hv => PSs.imp (pss_one (ps_set (X := X.suite a ((a, oe) :: pn)) hN hj hy (he a oe cls d pn hz hv) hs hf)) fun D σ H ⟨w, m, x, S, hx, ha, h⟩ => by
    refine ⟨w, m, x, S, hx, ha, ?_⟩
    replace h : RO X.K ct (fun _ _ _ _ => False) w m H ((f x m).so fun y m1 => match y with
      | .v dd => if j < m1.σ.length then .nx ⟨m1.σ.set j (some (.v dd)), m1.S⟩ else .bad
      | _ => .bad) D := h
    cases q : f x m with
    | bad => rw [q] at h; exact h.elim
    | ex xc m1 => rw [q] at h; exact fun w1 H1 S1 e1 cls dx => h w1 H1 σ cls dx S1 e1
    | ok y m1 =>
      rw [q] at h
      intro w1 H1 S1 e1 v pv
      have h := RO.ext e1 h
      rw [Mi.Res.so_ok] at h
      split at h
      · split at h
        · obtain ⟨S2, e2⟩ := SR.setV (σm := m1.σ) (S := m1.S) S1 (i := j) pv
          exact h _ _ _ S2 e2
        · exact h.elim
      · exact h.elim⟩
/-! ### try -/
inductive DH (X : Cx) (ct : String → Option Addr) (sub : String → String → Option Bool) : List ExceptHandler → List Hcl → Prop
  | nil : DH X ct sub [] []
  | bare {x : Str} {b : Stmt} {bs : List Stmt} {np q : Pos} {hs : List ExceptHandler} {l : List Hcl} {f : Sv} (c : String) {C : Addr} (hg : Gl X x) (hm : X.mg x = some (.ref C))
      (hsub : ∀ c' r, sub c' c = some r → ∃ C', ct c' = some C' ∧ PySem.W.exmOne X.K (.ref C') (.ref C) = some r) (hsu : ∀ a pn, DSs (X.suite a pn) ct (b :: bs) f) (r : DH X ct sub hs l)
      (hdb : (x == ("__debug__" : Str)) = false := by decide) : DH X ct sub (.ExceptHandler (some (.Name x np)) none (b :: bs) q :: hs) ((none, c, fun _ => f) :: l)
  | named {x n : Str} {b : Stmt} {bs : List Stmt} {np q : Pos} {hs : List ExceptHandler} {l : List Hcl} {f : Xc → Sv} (i : Nat) (c : String) {C : Addr} (hg : Gl X x) (hm : X.mg x = some (.ref C))
      (hsub : ∀ c' r, sub c' c = some r → ∃ C', ct c' = some C' ∧ PySem.W.exmOne X.K (.ref C') (.ref C) = some r) (hi : X.N[i]? = some n) (hk : X.env.kindOf n = some .local)
      (hsu : DXs X ct i (b :: bs) f) (r : DH X ct sub hs l)
      (hdb : (x == ("__debug__" : Str)) = false := by decide) : DH X ct sub (.ExceptHandler (some (.Name x np)) (some n) (b :: bs) q :: hs) ((some i, c, f) :: l)
theorem RO.aft0 {K : PySem.W.Frag} {W V : WX} {w : Wd} {m : Me} {H : Hp} {r : Out} {D : Ends} (h : RO K ct W w m H (Mi.aft0 r) D) : RO K ct V w m H r D := by
  cases r with
  | ex xc m1 => exact h.elim
  | nx m1 => exact h
  | bk m1 => exact h
  | ct m1 => exact h
  | rt d m1 => exact h
  | bad => exact h
theorem DH.hdl {sub : String → String → Option Bool} {hs : List ExceptHandler} {l : List Hcl} (h : DH X ct sub hs l) : ∃ t, Hdl X hs t ∧ ∀ W D σ H w m x cls d, SR X.K ct w m H σ → ExR X.K ct w m H x cls d →
    RO X.K ct W w m H (Mi.hand sub l x m) D → wGo X.K W D t cls d σ H := by
  induction h with
  | nil => exact ⟨[], .nil, fun W D σ H w m x cls d S hx h => h w H σ cls d S (Ext.refl ..) hx⟩
  | @bare x b bs np q hs l f c C hg hm hsub su r hdb ih =>
    obtain ⟨t, h1, h2⟩ := ih
    refine ⟨_, .bare (ts := fun _ _ _ => tS X.K ct (fun _ _ _ _ => False) f) ⟨hg, hdb, .inl hm⟩ (fun a oe cls d pn _ _ => (su a _).run _ takes_none5) h1, fun W D σ H w m x cls d S hx h => ?_⟩
    obtain ⟨C', t1, t2, _⟩ := id hx
    unfold Mi.hand at h
    split at h
    · rename_i hq
      obtain ⟨C2, g1, g2⟩ := hsub _ _ hq
      rw [t1] at g1; cases g1
      subst t2
      exact ⟨true, g2, fun _ a _ => ⟨w, m, S, RO.aft0 h⟩, nofun⟩
    · rename_i hq
      obtain ⟨C2, g1, g2⟩ := hsub _ _ hq
      rw [t1] at g1; cases g1
      subst t2
      exact ⟨false, g2, nofun, fun _ => h2 _ _ _ _ _ _ _ _ _ S hx h⟩
    · exact h.elim
  | @named x n b bs np q hs l f i c C hg hm hsub hi hk su r hdb ih =>
    obtain ⟨t, h1, h2⟩ := ih
    refine ⟨_, .named ⟨hg, hdb, .inl hm⟩ (fun a oe cls d pn z1 z2 => su.run a oe cls d pn z1 z2) hi hk h1, fun W D σ H w m x cls d S hx h => ?_⟩
    obtain ⟨C', t1, t2, _⟩ := id hx
    unfold Mi.hand at h
    split at h
    · rename_i hq
      obtain ⟨C2, g1, g2⟩ := hsub _ _ hq
      rw [t1] at g1; cases g1
      subst t2
      refine ⟨true, g2, fun _ a ha => ?_, nofun⟩
      dsimp only at h
      split at h
      · rename_i hil
        obtain ⟨S2, e2⟩ := SR.setN (σm := m.σ) (S := m.S) S i (some (.ref a))
        refine ⟨w, _, x, S2, hx.ext e2, ?_, (RO.ext e2 h).aft⟩
        show (σ.set i _)[i]? = _
        rw [List.getElem?_set_self (by rw [← S.E.len]; exact hil.2)]
      · exact h.elim
    · rename_i hq
      obtain ⟨C2, g1, g2⟩ := hsub _ _ hq
      rw [t1] at g1; cases g1
      subst t2
      exact ⟨false, g2, nofun, fun _ => h2 _ _ _ _ _ _ _ _ _ S hx h⟩
    · exact h.elim
theorem ds_tryG {sub : String → String → Option Bool} {body orelse : List Stmt} {h₀ : ExceptHandler} {hs : List ExceptHandler} {l : List Hcl} {fb fe : Sv} (hst : X.stack = X.env :: X.outer) (hf : X.env.frame = some X.env.locals) (hN : X.N.Nodup)
    (hh : DH X ct sub (h₀ :: hs) l) (hb : ∀ pn xe, DSs (X.tr pn xe) ct body fb) (he : DSs X ct orelse fe) : DS X ct (.Try body (h₀ :: hs) orelse [] pos) (Mi.sTryG sub fb l fe) := by
  obtain ⟨t, h1, h2⟩ := hh.hdl
  refine ⟨fun W tk => PS.imp (ps_tryG (tb := fun V => tS X.K ct V fb) (he.run W tk) hst hf hN tk h1 fun V pn xe tk' _ => (hb pn xe).run V tk') fun D σ H ⟨w, m, S, h⟩ => ?_⟩
  refine ⟨w, m, S, ?_⟩
  unfold Mi.sTryG at h
  cases q : fb m with
  | nx m1 => rw [q] at h; exact fun w' H' σ' S' e' => ⟨w', m1, S', RO.ext e' h⟩
  | rt d m1 => rw [q] at h; exact h
  | bk m1 => rw [q] at h; exact h
  | ct m1 => rw [q] at h; exact h
  | bad => rw [q] at h; exact h
  | ex xc m1 =>
    rw [q] at h
    intro w1 H1 σ1 cls dx S1 e1 hx
    exact h2 W D σ1 H1 w1 m1 xc cls dx S1 hx (RO.ext e1 h)
end
end So

set_option linter.all false
/-! # Ml: more of the small world: join, count, {k: v} -/
namespace Mi
noncomputable section
def asStrs : List D → Option (List Tx)
  | [] => some []
  | .str z :: r => (asStrs r).map fun zs => z :: zs
  | _ :: _ => none
def joinT (a : Tx) (zs : List Tx) : Tx := (zs.drop 1).foldl (fun acc z => acc ++ a ++ z) (zs.headD [])
def lim24 : Nat := Classical.choose (⟨16777216, rfl⟩ : ∃ n : Nat, n = 16777216)
theorem lim24_is : lim24 = 16777216 := Classical.choose_spec (⟨16777216, rfl⟩ : ∃ n : Nat, n = 16777216)
/-- a.join(xs) -/
def gJoin : PV → PV → Me → Option D := fun x y m => match x with
  | .v (.str a) => ((m.ls y).bind asStrs).bind fun zs => if (zs.map (·.length)).sum + zs.length * a.length ≤ lim24 then some (.str (joinT a zs)) else none
  | _ => none
/-- xs.count(a), of texts -/
def gCount : PV → PV → Me → Option D := fun x y m => match y with
  | .v (.str a) => ((m.ls x).bind asStrs).map fun zs => .int (zs.count a)
  | _ => none
def eJoin (o e : Ev) : Ev := fun m => (o m).bind fun x m1 => match x with
  | .v (.str a) => (e m1).bind fun y m2 => (Res.opt (gJoin (.v (.str a)) y m2) m2).bind fun d m3 => .ok (.v d) m3
  | _ => .bad
def eCount (o e : Ev) : Ev := fun m => (o m).bind fun x m1 => if (m1.ls x).isSome then (e m1).bind fun y m2 => (Res.opt (gCount x y m2) m2).bind fun d m3 => .ok (.v d) m3 else .bad
/-- x = {k: v}, owned -/
def sOwnD1 (i : Nat) (k : Ky) (v : D) : Sv := fun m => if i < m.σ.length then .nx ⟨m.σ.set i (some (.o (.dct [(k, v)]))), m.S⟩ else .bad
end
end Mi

set_option Elab.async false
set_option linter.all false
set_option maxRecDepth 100000
set_option maxHeartbeats 4000000
namespace So
open PySem PySem.Spec PyProof.Rows L2
open Mi (D Cl FV SC Me Xc Res PV Ky Ev Tv Av Lv Iv Ov Sv Bd Out Tx RG Cal Tb Hcl)
section
variable {X : Cx} {ct : String → Option Addr} {a b e o : Expr} {pos p : Pos} {es : List Expr} {x : Str} {i : Nat}
theorem strs_rep {K : PySem.W.Frag} {w : Wd} {m : Me} {H : Hp} : ∀ {xs : List D} {vs : List V} {zs : List Tx}, RepL K ct w m H xs vs → Mi.asStrs xs = some zs → vs = (zs.map tx).map V.str
  | [], _, zs, r, h => by cases r; cases h; rfl
  | d :: ds, _, zs, r, h => by
    cases r with
    | cons r t =>
      cases d <;> first | (cases h; done) | skip
      obtain ⟨us, h1, rfl⟩ := opt_map h
      cases r
      rw [strs_rep t h1]
      rfl
theorem glued_tx (a : Tx) : ∀ (zs : List Tx) (acc : Tx), (zs.map tx).foldl (fun acc p => acc ++ (tx a).cps ++ p.cps) acc.toArray = (zs.foldl (fun acc z => acc ++ a ++ z) acc).toArray
  | [], acc => rfl
  | z :: zs, acc => by
    rw [List.map_cons, List.foldl_cons, List.foldl_cons, ← glued_tx a zs]
    congr 1
    simp [tx]
theorem join_tx (a : Tx) (zs : List Tx) : Txt.join (tx a) (zs.map tx) = tx (Mi.joinT a zs) := by
  unfold Txt.join PySem.Builtin.Str.glued Mi.joinT
  rw [← List.map_drop]
  cases zs with
  | nil => rfl
  | cons z r =>
    show (⟨((r.map tx).foldl _ (tx z).cps)⟩ : Str) = _
    rw [show (tx z).cps = z.toArray from rfl, glued_tx]
    rfl
/-- a.join(xs) -/
theorem de_join {apos : Pos} {fo fe : Ev} (ho : DE X ct o fo) (he : DE X ct e fe) (hs : starEach [e] X.env = [(false, eval e X.env)] := by rfl) (hbase : attributeBase o "join" X.env (eval o X.env) = eval o X.env := by rfl)
    (hline : (apos.endLine == pos.line) = true := by rfl) : DE X ct (.Call (.Attribute o "join" apos) [e] [] pos) (Mi.eJoin fo fe) := by
  refine ⟨fun W tk => PE.imp (pe_join (ho.run W tk) (he.run W tk) hs hbase hline) fun σ H Q ⟨w, m, S, h⟩ => tE.part S h fun x w1 m1 H1 v S1 e1 pv h1 => ?_⟩
  split at h1
  · rename_i a
    cases pv
    refine ⟨⟨_, rfl⟩, tE.part S1 h1 fun y w2 m2 H2 u S2 e2 pu h2 => ?_⟩
    obtain ⟨d, hd, h3⟩ := h2.opt
    unfold Mi.gJoin at hd
    obtain ⟨zs, hd, hz⟩ := opt_bind hd
    obtain ⟨ys, hl, hs⟩ := opt_bind hd
    split at hz
    · rename_i hlim
      cases hz
      obtain ⟨q, us, rfl, h4, h5⟩ := S2.ls pu hl
      have e5 := strs_rep h5 hs
      subst e5
      rw [Mi.lim24_is] at hlim
      refine ⟨_, q, zs.map tx, rfl, rfl, .inl h4, ?_, ?_⟩
      · have l1 : ((zs.map tx).map (·.length)).sum = (zs.map (·.length)).sum := by
          rw [List.map_map]
          rfl
        have l2 : (tx a).length = a.length := by simp [tx, Str.length]
        rw [l1, l2, List.length_map]
        exact hlim
      · rw [join_tx]
        exact RE.ok h3 S2 (Ext.refl ..) _ (.str _)
    · cases hz
  · exact h1.elim
/-- xs.count(a) -/
theorem pe_lcount {to te : TE} {apos : Pos} (ho : PE X o to) (he : PE X e te) (hs : starEach [e] X.env = [(false, eval e X.env)] := by rfl) (hbase : attributeBase o "count" X.env (eval o X.env) = eval o X.env := by rfl)
    (hline : (apos.endLine == pos.line) = true := by rfl) : PE X (.Call (.Attribute o "count" apos) [e] [] pos)
      (fun σ H Q => to σ H fun x H1 => ∃ q ys, x = .ref q ∧ SqL X.K H1 q ys ∧ te σ H1 fun y H2 => ∃ (z : Str) (zs : List Str), y = .str z ∧ SqL X.K H2 q (zs.map V.str) ∧ Q (.int (Spec.countIn (.str z) (zs.map PyData.str))) H2) := by
  refine ⟨fun pins s σ H Q I h => ?_⟩
  refine PySem.Call_method1 hbase hs hline (thn (ho.run pins s σ H _ I h) fun v s1 ⟨x, H1, I1, r1, q, ys, ex, hq, q1⟩ => ?_)
  subst ex
  obtain rfl : v = Value.ref q := r1
  obtain ⟨its, _, ⟨ob, n, g1, g2, g3, g4⟩, _⟩ := I1.list hq
  refine ⟨"list", _, F.plainAttrs_list, F.slot_list_count, F.type_list_count, ?_, fun a ea => ?_, Calls.callWith_builtin rfl (Calls.evalArgs_plain (Calls.spliced_cons ?_))⟩
  · exact (show s1.heap.IsList q its.toArray from ⟨ob, g1, g2, n, g4⟩).typeIs
  · cases ea
    exact ⟨ob, g1, g3⟩
  refine thn (he.run pins s1 σ H1 _ I1 q1) fun u s2 ⟨y, H2, I2, r2, z, zs, ey, hz, q2⟩ => Calls.spliced_nil ?_
  subst ey
  obtain ⟨t, rfl⟩ := r2
  obtain ⟨its2, r3, ⟨o2, n2, k1, k2, k3, k4⟩, _⟩ := I2.list hz
  exact PyProof.Rows.count_list_strs (vs := its2) ⟨o2, k1, k2, n2, k4⟩ (strs_of_vals r3) ⟨.int _, H2, I2.tok _, ⟨_, rfl⟩, q2⟩
theorem countIn_strs (z : Tx) : ∀ zs : List Tx, Spec.countIn (.str (tx z)) ((zs.map tx).map PyData.str) = (zs.count z : Nat)
  | [] => rfl
  | y :: r => by
    have ih := countIn_strs z r
    rw [List.map_cons, List.map_cons, Spec.countIn, ih, List.count_cons]
    have : Spec.same (.str (tx y)) (.str (tx z)) = (y == z) := by
      show (tx y == tx z) = _
      rw [Bool.eq_iff_iff, beq_iff_eq, beq_iff_eq]
      exact ⟨tx_inj, fun h => by rw [h]⟩
    rw [this]
    split <;> omega
theorem de_count {apos : Pos} {fo fe : Ev} (ho : DE X ct o fo) (he : DE X ct e fe) (hs : starEach [e] X.env = [(false, eval e X.env)] := by rfl) (hbase : attributeBase o "count" X.env (eval o X.env) = eval o X.env := by rfl)
    (hline : (apos.endLine == pos.line) = true := by rfl) : DE X ct (.Call (.Attribute o "count" apos) [e] [] pos) (Mi.eCount fo fe) := by
  refine ⟨fun W tk => PE.imp (pe_lcount (ho.run W tk) (he.run W tk) hs hbase hline) fun σ H Q ⟨w, m, S, h⟩ => tE.part S h fun x w1 m1 H1 v S1 e1 pv h1 => ?_⟩
  split at h1
  · rename_i hsome
    obtain ⟨ys0, hy0⟩ := Option.isSome_iff_exists.mp hsome
    obtain ⟨q, us, rfl, h4, _⟩ := S1.ls pv hy0
    refine ⟨q, us, rfl, h4, tE.part S1 h1 fun y w2 m2 H2 u S2 e2 pu h2 => ?_⟩
    obtain ⟨d, hd, h3⟩ := h2.opt
    unfold Mi.gCount at hd
    split at hd
    · rename_i a
      cases pu
      obtain ⟨zs, hd1, rfl⟩ := opt_map hd
      obtain ⟨ys, hl, hs⟩ := opt_bind hd1
      obtain ⟨q2, us2, eq2, h5, h6⟩ := S2.ls (pv.ext e2) hl
      cases eq2
      have e5 := strs_rep h6 hs
      subst e5
      refine ⟨_, zs.map tx, rfl, h5, ?_⟩
      rw [countIn_strs]
      exact RE.ok h3 S2 (Ext.refl ..) _ (.int _)
    · cases hd
  · exact h1.elim
/-- x = {k: v} -/
theorem ds_ownD1 {i : Nat} {x : Str} {pos pos' p1 p2 p3 : Pos} {k1 : Nat} (k : Tx) (n : Int) {kS : Str} (hN : X.N.Nodup) (hi : X.N[i]? = some x) (hx : Loc X.env.scope x) (hk : tx k = kS := by rfl) {j2 : Nat}
    (hs : swapsWith (.Dict [some (.Constant (.str kS) k1 p1)] [.Constant (.int n) j2 p2] p3) (some (.Name x pos')) pos.line X.env = pure false := by rfl)
    (hf : X.fn x = true ∨ X.env.scope.names.lookup x = some .local := by first | exact .inl rfl | exact .inr rfl) :
    DS X ct (.Assign [.Name x pos'] (.Dict [some (.Constant (.str kS) k1 p1)] [.Constant (.int n) j2 p2] p3) pos) (Mi.sOwnD1 i (.s k) (.int n)) := by
  subst hk
  refine ⟨fun W tk => PS.imp (ps_set hN hi hx (pe_disp (pps_cons pe_str pe_int pps_nil) rfl rfl nofun (by simp)) hs hf) fun D σ H ⟨w, m, S, h⟩ => ?_⟩
  intro p hp
  refine ⟨upd_same, [(.inr (tx k), .int n)], rfl, by simp, ?_⟩
  replace h : RO X.K ct W w m H (if i < m.σ.length then .nx ⟨m.σ.set i (some (.o (.dct [(.s k, .int n)]))), m.S⟩ else .bad) D := h
  split at h
  · have e : upd (upd H p (.dK [])) p (.dK (mergeK [] [(.inr (tx k), .int n)])) = upd H p (.dK [(kyR (.s k), .int n)]) := by
      funext b
      by_cases hb : b = p
      · subst hb; rw [upd_same, upd_same]; rfl
      · rw [upd_ne hb, upd_ne hb, upd_ne hb]
    obtain ⟨S2, e2⟩ := SR.setO (σm := m.σ) (S := m.S) S (i := i) (c := .dct [(.s k, .int n)]) hp (o := .dK [(kyR (.s k), .int n)]) fun w' m' H' e' h' => ⟨[(kyR (.s k), .int n)], h', .cons (.int n) .nil⟩
    show D.nx _ _
    rw [e]
    exact h _ _ _ S2 e2
  · exact h.elim
end
end So

set_option linter.all false
/-! # Mn: more of the small world: a dict that is gone along -/
namespace Mi
noncomputable section
/-- the dict at k is open again -/
def ulk (k : Nat) (m : Me) : Option Me := match m.S[k]? with
  | some (.c (.lkd kvs)) => some ⟨m.σ, m.S.set k (.c (.dct kvs))⟩
  | _ => none
def lkEnd (k : Nat) : Out → Out
  | .nx m => (match ulk k m with | some m' => .nx m' | none => .bad)
  | .rt d m => (match ulk k m with | some m' => .rt d m' | none => .bad)
  | .bk m => (match ulk k m with | some m' => .bk m' | none => .bad)
  | .ct m => (match ulk k m with | some m' => .ct m' | none => .bad)
  | _ => .bad
/-- slot i's dict stays while st runs -/
def sLk (i : Nat) (st : Sv) : Sv := fun m => match m.σ[i]? with
  | some (some (.v (.ref k))) => (match m.S[k]? with
    | some (.c (.dct kvs)) => lkEnd k (st ⟨m.σ, m.S.set k (.c (.lkd kvs))⟩)
    | _ => .bad)
  | _ => .bad
/-- its keys -/
def iKeyR (i : Nat) : Iv := fun m => match m.σ[i]? with
  | some (some (.v (.ref k))) => (match m.S[k]? with
    | some (.c (.lkd kvs)) => .ok (kvs.map fun p => kyD p.1) m
    | _ => .bad)
  | _ => .bad
end
end Mi

set_option Elab.async false
set_option linter.all false
set_option maxRecDepth 100000
set_option maxHeartbeats 4000000
namespace So
open PySem PySem.Spec PyProof.Rows L2
open Mi (D Cl FV SC Me Xc Res PV Ky Ev Tv Av Lv Iv Ov Sv Bd Out Tx RG Cal Tb Hcl)
section
variable {X : Cx} {ct : String → Option Addr} {K : PySem.W.Frag} {w w1 : Wd} {m m1 : Me} {H H1 : Hp} {σ : L2.St} {pos p : Pos} {x : Str} {i : Nat}
theorem set_cell {σm : Mi.Env} {S : List SC} {k : Nat} {a b : Cl} (hk : S[k]? = some (.c a)) {q : Pl} {c : SC} (h : cellAt ⟨σm, S.set k (.c b)⟩ q = some c) : (q ≠ .g k ∧ cellAt ⟨σm, S⟩ q = some c) ∨ (q = .g k ∧ c = .c b) :=
  glob_set ⟨a, hk⟩ ⟨b, rfl⟩ h
/-- a cell of the store is another one at the same place; values don't see it -/
theorem mv_cell {σm : Mi.Env} {S : List SC} {k : Nat} {a b : Cl} {o : HO} (hk : S[k]? = some (.c a)) : Mv w ⟨σm, S⟩ H w ⟨σm, S.set k (.c b)⟩ (upd H (w.α (.g k)) o) := by
  have hl : k < S.length := (List.getElem?_eq_some_iff.mp hk).1
  refine ⟨fun d u n h => ?_, fun j c hj => ?_⟩
  · have hd : d ≠ w.α (.g k) := fun z => n (.inr ⟨.g k, _, hk, z.symm⟩)
    refine ⟨?_, ?_⟩
    · rintro (z | ⟨q, c, k1, k2⟩)
      · exact n (.inl z)
      · rcases set_cell hk k1 with ⟨_, h3⟩ | ⟨rfl, _⟩
        · exact n (.inr ⟨q, c, h3, k2⟩)
        · exact hd k2.symm
    · obtain ⟨u', h1, h2⟩ := h
      exact ⟨u', by rw [upd_ne hd]; exact h1, h2⟩
  · have hj : j < (S.set k (.c b)).length := by rw [List.length_set]; exact (List.getElem?_eq_some_iff.mp (show S[j]? = some c from hj)).1
    exact ⟨⟨_, List.getElem?_eq_some_iff.mpr ⟨hj, rfl⟩⟩, rfl⟩
theorem SR.cell {σm : Mi.Env} {S : List SC} {k : Nat} {a b : Cl} {o : HO} (R : SR K ct w ⟨σm, S⟩ H σ) (hk : S[k]? = some (.c a)) (hc : CellR K ct w ⟨σm, S.set k (.c b)⟩ (upd H (w.α (.g k)) o) (.g k) (w.α (.g k)) (.c b)) :
    SR K ct w ⟨σm, S.set k (.c b)⟩ (upd H (w.α (.g k)) o) σ := by
  have e := mv_cell (w := w) (H := H) (σm := σm) (b := b) (o := o) hk
  have old : ∀ {q : Pl} {c : SC}, cellAt ⟨σm, S.set k (.c b)⟩ q = some c → ∃ c', cellAt ⟨σm, S⟩ q = some c' := fun {q c} h => by
    rcases set_cell hk h with ⟨_, h3⟩ | ⟨rfl, _⟩
    · exact ⟨c, h3⟩
    · exact ⟨_, hk⟩
  refine ⟨⟨fun q1 q2 c1 c2 k1 k2 k3 => ?_, fun q c h => ?_, fun d hd => ?_, fun q c h => ?_⟩, R.E.mv e rfl fun _ => rfl⟩
  · obtain ⟨_, f1⟩ := old k1
    obtain ⟨_, f2⟩ := old k2
    exact R.M.inj _ _ _ _ f1 f2 k3
  · rcases set_cell hk h with ⟨n, h3⟩ | ⟨rfl, rfl⟩
    · exact (R.M.cells q c h3).mv e (fun _ _ _ => rfl) (upd_ne fun z => n (R.M.inj _ _ _ _ h3 hk z))
    · exact hc
  · obtain ⟨u, hu⟩ := R.M.out d hd
    by_cases z : d = w.α (.g k)
    · exact ⟨o, by rw [z, upd_same]⟩
    · exact ⟨u, by rw [upd_ne z]; exact hu⟩
  · obtain ⟨_, f⟩ := old h
    exact R.M.nout q _ f
theorem RepK.getI : ∀ {xs : List (Ky × D)} {vs : List (Key × V)} {j : Nat} {p : Ky × D}, RepK K ct w m H xs vs → xs[j]? = some p → ∃ v, vs[j]? = some (kyR p.1, v)
  | _, _, 0, p, .cons r t, h => by cases h; exact ⟨_, rfl⟩
  | _, _, j + 1, p, .cons r t, h => by
    obtain ⟨v, hv⟩ := RepK.getI t (by simpa using h)
    exact ⟨v, by simpa using hv⟩
/-- the keys of a dict that stays -/
theorem di_keyR {tg : Expr} (hv : PE X (.Name x p) (tVar i)) : DI X ct tg (.Name x p) (Mi.iKeyR i) := ⟨fun W tk => PI.imp (pi_keys hv) fun σ H R ⟨w, m, S, h⟩ => by
  unfold Mi.iKeyR at h
  split at h
  · rename_i k hk
    split at h
    · rename_i kvs hS
      have hil : i < σ.length := by rw [← S.E.len]; exact (List.getElem?_eq_some_iff.mp hk).1
      obtain ⟨u, hu, hr⟩ := S.E.at_ i _ _ hk (List.getElem?_eq_getElem hil)
      have hs : σ[i]? = some (some u) := by rw [List.getElem?_eq_getElem hil, hu]
      cases hr with
      | ref hc =>
        obtain ⟨vs, o, h1, h2⟩ := S.M.cells (.g k) _ hS
        refine ⟨_, hs, _, o, rfl, .inl ⟨vs, h1, RE.ok h S (Ext.refl ..) _ ?_⟩⟩
        intro j w2 m2 H2 _ e2
        have nm : ¬ MutA w.α m (w.α (.g k)) := by
          rintro ⟨q, c, k1, k2, k3⟩
          have := S.M.inj q (.g k) _ _ k1 hS k2
          subst this
          have k1 : m.S[k]? = some c := k1
          rw [hS] at k1
          cases k1
          cases k3
        have h4 := (e2.keep _ _ h1 nm).1
        have hl : kvs.length = vs.length := RepK.length h2
        refine ⟨fun d hd => ?_, fun hj => ⟨h4, by rw [← hl]; simpa using hj⟩⟩
        rw [List.getElem?_map] at hd
        obtain ⟨⟨ky, dd⟩, hd1, rfl⟩ := opt_map hd
        refine ⟨⟨h4, by rw [← hl]; exact (List.getElem?_eq_some_iff.mp hd1).1⟩, fun v H3 ⟨q1, kk, vv, q2, q3⟩ => ⟨?_, .inl q1⟩⟩
        subst q1 q3
        obtain ⟨v2, q4⟩ := RepK.getI h2 hd1
        rw [q2] at q4
        cases q4
        cases ky with
        | i n => exact .int n
        | s z => exact .str z
    · exact h.elim
  · exact h.elim⟩
/-- the end of a statement under the lock -/
theorem ulk_end {σm : Mi.Env} {S : List SC} {k : Nat} {kvs : List (Ky × D)} {vs : List (Key × V)} {od : Obj} (R : SR K ct w ⟨σm, S⟩ H σ) (hS : S[k]? = some (.c (.dct kvs))) (hH : H (w.α (.g k)) = some (.dK vs)) {w2 : Wd} {m2 m2' : Me} {H2 : Hp} {σ2 : L2.St} (S2 : SR K ct w2 m2 H2 σ2)
    (e : Ext w ⟨σm, S⟩ H w2 m2 H2) (e2 : Ext w ⟨σm, S.set k (.c (.lkd kvs))⟩ (upd H (w.α (.g k)) (.frz od (.dK vs))) w2 m2 H2) (hu : Mi.ulk k m2 = some m2') :
    H2 (w.α (.g k)) = some (.frz od (.dK vs)) ∧ SR K ct w2 m2' (upd H2 (w.α (.g k)) (.dK vs)) σ2 ∧ Ext w ⟨σm, S⟩ H w2 m2' (upd H2 (w.α (.g k)) (.dK vs)) ∧
      ∀ d v, RepD K ct w2 m2 H2 d v → RepD K ct w2 m2' (upd H2 (w.α (.g k)) (.dK vs)) d v := by
  obtain ⟨σ', S'⟩ := m2
  unfold Mi.ulk at hu
  split at hu
  · rename_i kvs2 hS2
    cases hu
    have ha : w2.α (.g k) = w.α (.g k) := (e.gl k _ hS).2
    obtain ⟨vs2, o2, h1, h2⟩ := S2.M.cells (.g k) _ hS2
    have hfz : H2 (w.α (.g k)) = some (.frz od (.dK vs)) := by
      refine (e2.keep _ _ upd_same ?_).1
      rintro ⟨q, c, k1, k2, k3⟩
      rcases set_cell hS k1 with ⟨n, h3⟩ | ⟨_, rfl⟩
      · exact n (R.M.inj q (.g k) _ _ h3 hS k2)
      · cases k3
    rw [ha, hfz] at h1
    cases h1
    have mv := mv_cell (w := w2) (H := H2) (σm := σ') (S := S') (k := k) (a := .lkd kvs2) (b := .dct kvs2) (o := .dK vs) hS2
    have R3 := S2.cell (b := .dct kvs2) (o := .dK vs) hS2 ⟨vs, upd_same, RepK.mv mv h2⟩
    rw [ha] at R3 mv
    have dm : MutA w.α ⟨σm, S⟩ (w.α (.g k)) := ⟨.g k, _, hS, rfl, rfl⟩
    refine ⟨hfz, R3, ⟨e.Om, e.Oa, fun j c h => ?_, fun a o h n => ?_, fun a o h n => ?_⟩, fun d v r => RepD.mv mv r⟩
    · obtain ⟨⟨c', h1⟩, h3⟩ := e.gl j c h
      have hj : j < (S'.set k (.c (.dct kvs2))).length := by rw [List.length_set]; exact (List.getElem?_eq_some_iff.mp (show S'[j]? = some c' from h1)).1
      exact ⟨⟨_, List.getElem?_eq_some_iff.mpr ⟨hj, rfl⟩⟩, h3⟩
    · have ne : a ≠ w.α (.g k) := fun z => n (by rw [z]; exact dm)
      obtain ⟨h1, h3⟩ := e.keep a o h n
      refine ⟨by rw [upd_ne ne]; exact h1, ?_⟩
      rintro ⟨q, c, k1, k2, k3⟩
      rcases set_cell hS2 k1 with ⟨_, h4⟩ | ⟨rfl, _⟩
      · exact h3 ⟨q, c, h4, k2, k3⟩
      · exact ne (by rw [← k2, ha])
    · have ne : a ≠ w.α (.g k) := fun z => n (by rw [z]; exact dm.cel)
      have h3 := e.nc a o h n
      rintro ⟨q, c, k1, k2⟩
      rcases set_cell hS2 k1 with ⟨_, h4⟩ | ⟨rfl, _⟩
      · exact h3 ⟨q, c, h4, k2⟩
      · exact ne (by rw [← k2, ha])
  · cases hu
/-- a statement while slot i's dict stays -/
theorem ds_lk {st : Stmt} {f : Sv} (i : Nat) (h : DS X ct st f) : DS X ct st (Mi.sLk i f) := ⟨fun W tk => PS.imp (ps_lock (h.run W tk)) fun D σ H ⟨w, m, S, q⟩ => by
  obtain ⟨σm, Sm⟩ := m
  unfold Mi.sLk at q
  split at q
  · rename_i k hk
    split at q
    · rename_i kvs hS
      have hS : Sm[k]? = some (.c (.dct kvs)) := hS
      obtain ⟨vs, h1, h2⟩ := S.M.cells (.g k) _ hS
      refine ⟨w.α (.g k), .dK vs, h1, ?_, fun od => ?_⟩
      · exact trivial
      · have mv := mv_cell (w := w) (H := H) (σm := σm) (S := Sm) (k := k) (a := .dct kvs) (b := .lkd kvs) (o := .frz od (.dK vs)) hS
        have R1 := S.cell (b := .lkd kvs) (o := .frz od (.dK vs)) hS ⟨vs, od, upd_same, RepK.mv mv h2⟩
        have e1 : Ext w ⟨σm, Sm⟩ H w ⟨σm, Sm.set k (.c (.lkd kvs))⟩ (upd H (w.α (.g k)) (.frz od (.dK vs))) := by
          have dm : MutA w.α ⟨σm, Sm⟩ (w.α (.g k)) := ⟨.g k, _, hS, rfl, rfl⟩
          refine ⟨fun _ h => h, fun _ _ _ _ h => h, fun j c hj => mv.gl j c hj, fun a o h n => ?_, fun a o h n => ?_⟩
          · have ne : a ≠ w.α (.g k) := fun z => n (by rw [z]; exact dm)
            refine ⟨by rw [upd_ne ne]; exact h, ?_⟩
            rintro ⟨q, c, k1, k2, k3⟩
            rcases set_cell hS k1 with ⟨_, h4⟩ | ⟨rfl, _⟩
            · exact n ⟨q, c, h4, k2, k3⟩
            · exact ne k2.symm
          · have ne : a ≠ w.α (.g k) := fun z => n (by rw [z]; exact dm.cel)
            rintro ⟨q, c, k1, k2⟩
            rcases set_cell hS k1 with ⟨_, h4⟩ | ⟨rfl, _⟩
            · exact n ⟨q, c, h4, k2⟩
            · exact ne k2.symm
        refine ⟨w, _, R1, ?_⟩
        cases r : f ⟨σm, Sm.set k (.c (.lkd kvs))⟩ with
        | nx m2 =>
          rw [r] at q
          intro w2 H2 σ2 S2 e2
          cases u : Mi.ulk k m2 with
          | none => unfold Mi.lkEnd at q; dsimp only at q; rw [u] at q; exact q.elim
          | some m2' =>
            unfold Mi.lkEnd at q; dsimp only at q; rw [u] at q
            obtain ⟨a1, a2, a3, _⟩ := ulk_end S hS h1 S2 (e1.trans e2) e2 u
            exact ⟨a1, q _ _ _ a2 a3⟩
        | bk m2 =>
          rw [r] at q
          intro w2 H2 σ2 S2 e2
          cases u : Mi.ulk k m2 with
          | none => unfold Mi.lkEnd at q; dsimp only at q; rw [u] at q; exact q.elim
          | some m2' =>
            unfold Mi.lkEnd at q; dsimp only at q; rw [u] at q
            obtain ⟨a1, a2, a3, _⟩ := ulk_end S hS h1 S2 (e1.trans e2) e2 u
            exact ⟨a1, q _ _ _ a2 a3⟩
        | ct m2 =>
          rw [r] at q
          intro w2 H2 σ2 S2 e2
          cases u : Mi.ulk k m2 with
          | none => unfold Mi.lkEnd at q; dsimp only at q; rw [u] at q; exact q.elim
          | some m2' =>
            unfold Mi.lkEnd at q; dsimp only at q; rw [u] at q
            obtain ⟨a1, a2, a3, _⟩ := ulk_end S hS h1 S2 (e1.trans e2) e2 u
            exact ⟨a1, q _ _ _ a2 a3⟩
        | rt d m2 =>
          rw [r] at q
          intro w2 H2 σ2 v S2 e2 rd
          cases u : Mi.ulk k m2 with
          | none => unfold Mi.lkEnd at q; dsimp only at q; rw [u] at q; exact q.elim
          | some m2' =>
            unfold Mi.lkEnd at q; dsimp only at q; rw [u] at q
            obtain ⟨a1, a2, a3, a4⟩ := ulk_end S hS h1 S2 (e1.trans e2) e2 u
            exact ⟨a1, q _ _ _ _ a2 a3 (a4 _ _ rd)⟩
        | ex xc m2 => rw [r] at q; exact q.elim
        | bad => rw [r] at q; exact q.elim
    · exact q.elim
  · exact q.elim⟩
end
end So

set_option linter.all false
/-! # Mo: more of the small world: values of lists, tuples and dicts that are the same -/
namespace Mi
noncomputable section
/-- all pairs of two lists -/
def all2 (f : D → D → Bool) : List D → List D → Bool
  | [], [] => true
  | x :: xs, y :: ys => f x y && all2 f xs ys
  | _, _ => false
/-- the same, at most n deep; dicts of scalars -/
def eqD : Nat → D → D → Bool
  | 0, d, e => eqF d e
  | n + 1, d, e => match d, e with
    | .lst xs, .lst ys => all2 (eqD n) xs ys
    | .tup xs, .tup ys => all2 (eqD n) xs ys
    | .dct ks, .dct ls => sameKv ks ls
    | _, _ => eqF d e
/-- == of lists that are the same -/
def gEqT : PV → PV → Me → Option D := fun x y m => match m.cl x, m.cl y with
  | some (.lst xs), some (.lst ys) => if all2 (eqD 8) xs ys then some (.bl true) else none
  | _, _ => none
def gNeT : PV → PV → Me → Option D := fun x y m => match m.cl x, m.cl y with
  | some (.lst xs), some (.lst ys) => if all2 (eqD 8) xs ys then some (.bl false) else none
  | _, _ => none
/-- == of lists that are not equally long -/
def gEqL : PV → PV → Me → Option D := fun x y m => match m.cl x, m.cl y with
  | some (.lst xs), some (.lst ys) => if xs.length = ys.length then none else some (.bl false)
  | _, _ => none
def gNeL : PV → PV → Me → Option D := fun x y m => match m.cl x, m.cl y with
  | some (.lst xs), some (.lst ys) => if xs.length = ys.length then none else some (.bl true)
  | _, _ => none
def gEqW := orG gEqU (orG gEqT gEqL)
def gNeW := orG gNeU (orG gNeT gNeL)
end
end Mi

set_option Elab.async false
set_option linter.all false
set_option maxRecDepth 100000
set_option maxHeartbeats 4000000
namespace So
open PySem PySem.Spec PyProof.Rows L2
open Mi (D Cl FV SC Me Xc Res PV Ky Ev Tv Av Lv Iv Ov Sv Bd Out Tx RG Cal Tb Hcl)
/-! ### != of two lists whose items are all equal -/
section
open PySem.AutoSeq1 (wpAny_loadPart')
open PySem.SeqAt PySem.MeetsSeq PySem.MeetsSeq2 PySem.MeetsSeq3 PySem.SeqRoads2
/-- two lists of one length, item by item equal in this model -/
structure Twin (prog : Program) (w : World) (p q : Addr) (xs ys : Array Value) (A : Around) (s : Shared) : Prop where
  one : ∃ d n sl, s.heap.get? p = some { cls := .type "list", dict := d, data := .seq xs n, slots := sl }
  two : ∃ d n sl, s.heap.get? q = some { cls := .type "list", dict := d, data := .seq ys n, slots := sl }
  all : ∀ j (h1 : j < xs.size) (h2 : j < ys.size), PySem.SeqAt.EqIn prog w A.in1 s xs[j] ys[j] true
variable {prog : Program} {w : World} {p q : Addr} {xs ys : Array Value}
theorem twin_turn (hsz : xs.size = ys.size) : ∀ (k i : Nat), i + k = xs.size →
    MeetsIn prog w (Builtin.«list.__eq__.loop» ⟨[.ref p, .ref q, rawInt i, rawInt 3], []⟩) (fun A R s => Twin prog w p q xs ys A s ∧ R (.ok (.ret (.bool false))) s)
  | 0, i, hk, A, R, s, ⟨T, r⟩ => by
    obtain ⟨d1, n1, l1, g1⟩ := T.one
    obtain ⟨d2, n2, l2, g2⟩ := T.two
    obtain ⟨hp, g, d, tk, os⟩ := s
    wp_walk using wpAny_loadPart' g1, wpAny_loadPart' g2
    have o1 : xs[((i : Nat) : Int).toNat]? = none := by simp; omega
    have o2 : ys[((i : Nat) : Int).toNat]? = none := by simp; omega
    rw [o1, o2]
    wp_walk using wpAny_loadPart' g1, wpAny_loadPart' g2
    show R (.ok (.ret (.bool (xs.size != ys.size)))) _
    rw [hsz]
    simpa using r
  | k + 1, i, hk, A, R, s, ⟨T, r⟩ => by
    obtain ⟨d1, n1, l1, g1⟩ := T.one
    obtain ⟨d2, n2, l2, g2⟩ := T.two
    have hx : i < xs.size := by omega
    have hy : i < ys.size := by omega
    have hq := T.all i hx hy
    obtain ⟨hp, g, d, tk, os⟩ := s
    wp_walk using wpAny_loadPart' g1, wpAny_loadPart' g2
    have o1 : xs[((i : Nat) : Int).toNat]? = some xs[i] := by simp [hx]
    have o2 : ys[((i : Nat) : Int).toNat]? = some ys[i] := by simp [hy]
    rw [o1, o2]
    refine wpAny_bind (hq _ _ ?_)
    wp_walk
    rw [show ((i : Int) + 1) = ((i + 1 : Nat) : Int) by push_cast; rfl]
    exact ⟨plainId_quiet plain_eq_loop _, codeAny_builtin entry_eq_loop (by
      rw [Around.under_plainId plain_eq_loop _]
      exact twin_turn hsz k (i + 1) (by omega) A R _ ⟨T, r⟩)⟩
theorem twin_ne (hsz : xs.size = ys.size) : MeetsIn prog w (Builtin.«list.__ne__» ⟨[.ref p, .ref q], []⟩) (fun A R s => Twin prog w p q xs ys A s ∧ R (.ok (.ret (.bool false))) s) := by
  intro A R s ⟨T, r⟩
  obtain ⟨d1, n1, l1, g1⟩ := T.one
  obtain ⟨d2, n2, l2, g2⟩ := T.two
  obtain ⟨hp, g, d, tk, os⟩ := s
  have sub := AutoSeq1.sub_list_list
  have ns : ¬ (xs.size != ys.size) = true := by simp [hsz]
  wp_walk using wpAny_loadPart' g1, wpAny_loadPart' g2
  exact ⟨plainId_quiet plain_eq_loop _, codeAny_builtin entry_eq_loop (by
    rw [Around.under_plainId plain_eq_loop _]
    exact twin_turn hsz xs.size 0 (by omega) A R _ ⟨T, r⟩)⟩
theorem twin_rc {A : Around} {s : Shared} (h1 : s.heap.IsList p xs) (h2 : s.heap.IsList q ys) (hsz : xs.size = ys.size) (hu : A.units < cLine) (hq : ∀ j (h1 : j < xs.size) (h2 : j < ys.size), PySem.SeqAt.EqIn prog w A.in1 s xs[j] ys[j] true)
    (E Q : Value → Shared → Prop) (k : Q (.bool false) s) : wpAny (model prog w) A (richCompare .NotEq (.ref p) (.ref q)) Q E s := by
  obtain ⟨⟨c1, d1, t1, l1⟩, g1, e1, n1, f1⟩ := h1
  obtain ⟨⟨c2, d2, t2, l2⟩, g2, e2, n2, f2⟩ := h2
  dsimp only at e1 f1 e2 f2
  subst e1 f1 e2 f2
  exact wpAny_richCompare_same_room (op := .NotEq) ⟨_, g1, rfl⟩ ⟨_, g2, rfl⟩ PySem.F.slot_list_ne (call_meetsIn PySem.F.slot_list_ne ⟨_, g1, rfl⟩ PySem.F.entry_list_ne (PySem.F.args_list_ne_2 _ _) (twin_ne hsz)
    ⟨⟨⟨_, _, _, g1⟩, ⟨_, _, _, g2⟩, hq⟩, show Value.bool false ≠ Value.notImplemented ∧ Q (.bool false) s from ⟨(fun x => nomatch x), k⟩⟩) hu
end
section
variable {X : Cx} {ct : String → Option Addr} {w : Wd} {m : Me} {pins : List (Addr × Obj)} {σ : L2.St} {H : Hp} {s : Shared} {a b : Expr} {pos : Pos}
theorem items_tree {n : Nat} {f : D → D → Bool} (ih : ∀ d e v u v' u', RepD X.K ct w m H d v → RepD X.K ct w m H e u → f d e = true → RelV v v' → RelV u u' → PySem.W.EqTree X.prog X.w s n v' u' true) :
    ∀ {xs ys : List D} {vs us : List V} {is js : List Value}, RepL X.K ct w m H xs vs → RepL X.K ct w m H ys us → Mi.all2 f xs ys = true → Vals vs is → Vals us js →
      is.length = js.length ∧ ∀ j (h1 : j < is.length) (h2 : j < js.length), PySem.W.EqTree X.prog X.w s n is[j] js[j] true
  | _, _, _, _, _, _, .nil, .nil, _, r1, r2 => by
    cases r1; cases r2
    exact ⟨rfl, fun j h1 _ => absurd h1 (Nat.not_lt_zero j)⟩
  | _, _, _, _, _, _, .nil, .cons _ _, h, _, _ => by cases h
  | _, _, _, _, _, _, .cons _ _, .nil, h, _, _ => by cases h
  | _, _, _, _, _, _, .cons d1 t1, .cons d2 t2, h, r1, r2 => by
    cases r1 with
    | cons a1 b1 =>
      cases r2 with
      | cons a2 b2 =>
        have h : (f _ _ && Mi.all2 f _ _) = true := h
        rw [Bool.and_eq_true] at h
        obtain ⟨e, k⟩ := items_tree ih t1 t2 h.2 b1 b2
        refine ⟨by simp [e], fun j h1 h2 => ?_⟩
        cases j with
        | zero => exact ih _ _ _ _ _ _ d1 d2 h.1 a1 a2
        | succ j => exact k j (Nat.lt_of_succ_lt_succ h1) (Nat.lt_of_succ_lt_succ h2)
theorem kv_mem {ks : List (Key × V)} {va : List (Key × Value)} (ra : KV ks va) : ∀ p ∈ va, ∃ q ∈ ks, q.1 = p.1 ∧ RelV q.2 p.2 := by
  unfold KV at ra
  induction ra with
  | nil => exact fun p h => absurd h List.not_mem_nil
  | @cons p q ps qs h t k =>
    intro x hx
    rcases List.mem_cons.mp hx with rfl | hx
    · exact ⟨p, List.mem_cons_self, h.1, h.2⟩
    · obtain ⟨y, h1, h2⟩ := k x hx
      exact ⟨y, List.mem_cons_of_mem _ h1, h2⟩
theorem eqF_tree {n : Nat} {d e : D} {v u : V} {v' u' : Value} (r : RepD X.K ct w m H d v) (r' : RepD X.K ct w m H e u) (h : Mi.eqF d e = true) (rv : RelV v v') (ru : RelV u u') : PySem.W.EqTree X.prog X.w s n v' u' true := by
  obtain ⟨rfl, f⟩ := eqF_flat r r' h
  exact .leaf fun A _ => eqAt_same rv ru f
theorem eqD_tree (I : Inv X pins σ H s) : ∀ (n : Nat) (d e : D) (v u : V) (v' u' : Value), RepD X.K ct w m H d v → RepD X.K ct w m H e u → Mi.eqD n d e = true → RelV v v' → RelV u u' → PySem.W.EqTree X.prog X.w s n v' u' true
  | 0, d, e, v, u, v', u', r, r', h, rv, ru => eqF_tree r r' h rv ru
  | n + 1, d, e, v, u, v', u', r, r', h, rv, ru => by
    unfold Mi.eqD at h
    split at h
    · cases r with
      | @lst a _ vs b1 n1 l1 =>
        cases r' with
        | @lst a' _ us b2 n2 l2 =>
          cases (show v' = Value.ref a from rv)
          cases (show u' = Value.ref a' from ru)
          obtain ⟨is, r1, p1, _⟩ := I.list (.inl (.inl n1.lst))
          obtain ⟨js, r2, p2, _⟩ := I.list (.inl (.inl n2.lst))
          by_cases e : a = a'
          · subst e; exact .same
          obtain ⟨hl, k⟩ := items_tree (eqD_tree I n) l1 l2 h r1 r2
          have t := PySem.W.EqTree.lists (e := fun _ => true) e p1.isList p2.isList (by simpa using hl) (fun j h1 h2 => by simpa using k j (by simpa using h1) (by simpa using h2))
          rw [show ((List.range is.toArray.size).all fun _ => true) = true from List.all_eq_true.mpr fun _ _ => rfl] at t
          exact t
    · cases r with
      | @tup a _ vs b1 n1 l1 =>
        cases r' with
        | @tup a' _ us b2 n2 l2 =>
          cases (show v' = Value.ref a from rv)
          cases (show u' = Value.ref a' from ru)
          obtain ⟨is, r1, p1, _⟩ := I.tuple (.inl (.inl n1.tup))
          obtain ⟨js, r2, p2, _⟩ := I.tuple (.inl (.inl n2.tup))
          by_cases e : a = a'
          · subst e; exact .same
          obtain ⟨hl, k⟩ := items_tree (eqD_tree I n) l1 l2 h r1 r2
          have t := PySem.W.EqTree.tuples (prog := X.prog) (w := X.w) (n := n) (e := fun _ => true) e p1 p2 (fun j h1 h2 => by simpa using k j (by simpa using h1) (by simpa using h2))
          rw [show ((List.range (min is.toArray.size js.toArray.size)).all fun _ => true) = true from List.all_eq_true.mpr fun _ _ => rfl, show (is.toArray.size == js.toArray.size) = true by simpa using hl] at t
          exact t
    · cases r with
      | @dct a _ vs b1 n1 l1 =>
        cases r' with
        | @dct a' _ us b2 n2 l2 =>
          cases (show v' = Value.ref a from rv)
          cases (show u' = Value.ref a' from ru)
          by_cases e : a = a'
          · subst e; exact .same
          unfold Mi.sameKv at h
          rw [Bool.and_eq_true] at h
          obtain ⟨_, ya, va, ra, da⟩ := dk_rd I.hok n1.dK
          obtain ⟨_, yb, vb, rb, db⟩ := dk_rd I.hok n2.dK
          have hh := same_hits l2 l1 h.2
          have get : ∀ p ∈ va, ∃ q y, valueAt vb p.1 = some y ∧ RelV q p.2 ∧ RelV q y ∧ flatB q = true := fun p hp => by
            obtain ⟨q, h1, h2, h3⟩ := kv_mem ra p hp
            obtain ⟨h4, h5⟩ := hh q h1
            have rr : RelO (some q.2) (valueAt vb p.1) := by rw [← h4, ← h2]; exact rb.val q.1
            obtain ⟨y, hy, ry⟩ := rr.some_of
            exact ⟨q.2, y, hy, h3, ry, h5⟩
          have hl : va.length = vb.length := by rw [← ra.length, ← rb.length, ← l1.length, ← l2.length]; simpa using h.1
          have t := PySem.W.EqTree.dicts (n := n) (e := fun _ => true) e ya yb da db (fun k v y hm hy => by
            obtain ⟨q, y', h1, h2, h3, h4⟩ := get _ hm
            cases (hy.symm.trans h1)
            exact .leaf fun A _ => eqAt_same h2 h3 h4)
          rw [show (va.length == vb.length) = true by simpa using hl, show (va.all fun p => (valueAt vb p.1).isSome && true) = true from List.all_eq_true.mpr fun p hp => by
            obtain ⟨q, y', h1, _⟩ := get p hp
            simp [h1]] at t
          exact t
    · exact eqF_tree r r' h rv ru
def rSameT (X : Cx) (ct : String → Option Addr) (b : Bool) : R2 := fun x y H Q => ∃ p q vs us w m xs ys, x = .ref p ∧ y = .ref q ∧ H p = some (.lst vs) ∧ H q = some (.lst us) ∧ RepL X.K ct w m H xs vs ∧ RepL X.K ct w m H ys us ∧ Mi.all2 (Mi.eqD 8) xs ys = true ∧ Q (.bl b) H
theorem same_parts (I : Inv X pins σ H s) {A : Around} (hu : A.units + 64 < cLine) {p q : Addr} {vs us : List V} {xs ys : List D} (h1 : H p = some (.lst vs)) (h2 : H q = some (.lst us)) (l1 : RepL X.K ct w m H xs vs) (l2 : RepL X.K ct w m H ys us)
    (h : Mi.all2 (Mi.eqD 8) xs ys = true) : ∃ is js : Array Value, s.heap.IsList p is ∧ s.heap.IsList q js ∧ is.size = js.size ∧ ∀ j (h1 : j < is.size) (h2 : j < js.size), PySem.SeqAt.EqIn X.prog X.w A.in1 s is[j] js[j] true := by
  obtain ⟨is, r1, p1, _⟩ := I.list (.inl (.inl h1))
  obtain ⟨js, r2, p2, _⟩ := I.list (.inl (.inl h2))
  obtain ⟨hl, k⟩ := items_tree (eqD_tree I 8) l1 l2 h r1 r2
  exact ⟨_, _, p1.isList, p2.isList, by simpa using hl, fun j h1 h2 => by simpa using (k j (by simpa using h1) (by simpa using h2)).at A.in1 (by show A.units + 1 + _ < cLine; omega)⟩
theorem op_eqT (hu : X.A.units + 64 < cLine) : OpR X (compareOp .Eq) (rSameT X ct true) := by
  intro pins s σ H x y v u Q I rx ry ⟨p, q, vs, us, w, m, xs, ys, e1, e2, h1, h2, l1, l2, h, k⟩
  subst e1 e2
  cases (show v = Value.ref p from rx)
  cases (show u = Value.ref q from ry)
  obtain ⟨is, js, g1, g2, hl, hq⟩ := same_parts I hu h1 h2 l1 l2 h
  refine PySem.SeqAt.rcIn_lists (e := fun _ => true) g1 g2 hl (by omega) hq ?_
  rw [show ((List.range is.size).all fun _ => true) = true from List.all_eq_true.mpr fun _ _ => rfl]
  exact ⟨.bl true, H, I, rfl, k⟩
theorem op_neT (hu : X.A.units + 64 < cLine) : OpR X (compareOp .NotEq) (rSameT X ct false) := by
  intro pins s σ H x y v u Q I rx ry ⟨p, q, vs, us, w, m, xs, ys, e1, e2, h1, h2, l1, l2, h, k⟩
  subst e1 e2
  cases (show v = Value.ref p from rx)
  cases (show u = Value.ref q from ry)
  obtain ⟨is, js, g1, g2, hl, hq⟩ := same_parts I hu h1 h2 l1 l2 h
  exact twin_rc g1 g2 hl (by omega) hq _ _ ⟨.bl false, H, I, rfl, k⟩
theorem ok_eqT : OpOk X ct Mi.gEqT (rSameT X ct true) := by
  intro w m H σ x y v u d Q S rx ry hg k
  unfold Mi.gEqT at hg
  split at hg
  · rename_i xs ys q1 q2
    split at hg
    · rename_i hs
      cases hg
      obtain ⟨a, us, rfl, h1, h2⟩ := S.lst rx q1
      obtain ⟨a', us', rfl, h1', h2'⟩ := S.lst ry q2
      exact ⟨_, _, us, us', w, m, xs, ys, rfl, rfl, h1, h1', h2, h2', hs, k _ H S (Ext.refl ..) (.bl _)⟩
    · cases hg
  · cases hg
theorem ok_neT : OpOk X ct Mi.gNeT (rSameT X ct false) := by
  intro w m H σ x y v u d Q S rx ry hg k
  unfold Mi.gNeT at hg
  split at hg
  · rename_i xs ys q1 q2
    split at hg
    · rename_i hs
      cases hg
      obtain ⟨a, us, rfl, h1, h2⟩ := S.lst rx q1
      obtain ⟨a', us', rfl, h1', h2'⟩ := S.lst ry q2
      exact ⟨_, _, us, us', w, m, xs, ys, rfl, rfl, h1, h1', h2, h2', hs, k _ H S (Ext.refl ..) (.bl _)⟩
    · cases hg
  · cases hg
def rLenT (b : Bool) : R2 := fun x y H Q => ∃ p q vs us, x = .ref p ∧ y = .ref q ∧ H p = some (.lst vs) ∧ H q = some (.lst us) ∧ vs.length ≠ us.length ∧ Q (.bl b) H
theorem len_parts (I : Inv X pins σ H s) {p q : Addr} {vs us : List V} (h1 : H p = some (.lst vs)) (h2 : H q = some (.lst us)) (h : vs.length ≠ us.length) : ∃ is js : Array Value, s.heap.IsList p is ∧ s.heap.IsList q js ∧ (is.size != js.size) = true := by
  obtain ⟨is, r1, p1, _⟩ := I.list (.inl (.inl h1))
  obtain ⟨js, r2, p2, _⟩ := I.list (.inl (.inl h2))
  refine ⟨_, _, p1.isList, p2.isList, ?_⟩
  have e1 := r1.length
  have e2 := r2.length
  simp
  omega
theorem op_eqL (hu : X.A.units + 64 < cLine) : OpR X (compareOp .Eq) (rLenT false) := by
  intro pins s σ H x y v u Q I rx ry ⟨p, q, vs, us, e1, e2, h1, h2, h, k⟩
  subst e1 e2
  cases (show v = Value.ref p from rx)
  cases (show u = Value.ref q from ry)
  obtain ⟨is, js, g1, g2, hl⟩ := len_parts I h1 h2 h
  exact PySem.SeqAt.RcAt.lists_lengths g1 g2 hl (by omega) _ _ _ _ ⟨.bl false, H, I, rfl, k⟩
theorem op_neL (hu : X.A.units + 64 < cLine) : OpR X (compareOp .NotEq) (rLenT true) := by
  intro pins s σ H x y v u Q I rx ry ⟨p, q, vs, us, e1, e2, h1, h2, h, k⟩
  subst e1 e2
  cases (show v = Value.ref p from rx)
  cases (show u = Value.ref q from ry)
  obtain ⟨is, js, g1, g2, hl⟩ := len_parts I h1 h2 h
  exact PySem.SeqAt.RcNeAt.lists_lengths g1 g2 hl (by omega) _ _ _ _ ⟨.bl true, H, I, rfl, k⟩
theorem ok_eqL : OpOk X ct Mi.gEqL (rLenT false) := by
  intro w m H σ x y v u d Q S rx ry hg k
  unfold Mi.gEqL at hg
  split at hg
  · rename_i xs ys q1 q2
    split at hg
    · cases hg
    · rename_i hs
      cases hg
      obtain ⟨a, us, rfl, h1, h2⟩ := S.lst rx q1
      obtain ⟨a', us', rfl, h1', h2'⟩ := S.lst ry q2
      exact ⟨_, _, us, us', rfl, rfl, h1, h1', by rw [← h2.length, ← h2'.length]; exact hs, k _ H S (Ext.refl ..) (.bl _)⟩
  · cases hg
theorem ok_neL : OpOk X ct Mi.gNeL (rLenT true) := by
  intro w m H σ x y v u d Q S rx ry hg k
  unfold Mi.gNeL at hg
  split at hg
  · rename_i xs ys q1 q2
    split at hg
    · cases hg
    · rename_i hs
      cases hg
      obtain ⟨a, us, rfl, h1, h2⟩ := S.lst rx q1
      obtain ⟨a', us', rfl, h1', h2'⟩ := S.lst ry q2
      exact ⟨_, _, us, us', rfl, rfl, h1, h1', by rw [← h2.length, ← h2'.length]; exact hs, k _ H S (Ext.refl ..) (.bl _)⟩
  · cases hg
theorem de_eqW (hu : X.A.units + 64 < cLine) {fa fb : Ev} (ha : DE X ct a fa) (hb : DE X ct b fb) : DE X ct (.Compare a [.Eq] [b] pos) (Mi.e2 Mi.gEqW fa fb) := de_orG (de_eqU hu ha hb) (de_orG (de_cmp (op_eqT hu) ok_eqT ha hb (nomark _)) (de_cmp (op_eqL hu) ok_eqL ha hb (nomark _)))
theorem de_neW (hu : X.A.units + 64 < cLine) {fa fb : Ev} (ha : DE X ct a fa) (hb : DE X ct b fb) : DE X ct (.Compare a [.NotEq] [b] pos) (Mi.e2 Mi.gNeW fa fb) := de_orG (de_neU hu ha hb) (de_orG (de_cmp (op_neT hu) ok_neT ha hb (nomark _)) (de_cmp (op_neL hu) ok_neL ha hb (nomark _)))
theorem dt_eqW (hu : X.A.units + 64 < cLine) {fa fb : Ev} (ha : DE X ct a fa) (hb : DE X ct b fb) : DT X ct (.Compare a [.Eq] [b] pos) (Mi.tV (Mi.e2 Mi.gEqW fa fb)) := dt_orG (dt_eqU hu ha hb) (dt_orG (dt_cmp (op_eqT hu) ok_eqT ha hb (nomark _)) (dt_cmp (op_eqL hu) ok_eqL ha hb (nomark _)))
theorem dt_neW (hu : X.A.units + 64 < cLine) {fa fb : Ev} (ha : DE X ct a fa) (hb : DE X ct b fb) : DT X ct (.Compare a [.NotEq] [b] pos) (Mi.tV (Mi.e2 Mi.gNeW fa fb)) := dt_orG (dt_neU hu ha hb) (dt_orG (dt_cmp (op_neT hu) ok_neT ha hb (nomark _)) (dt_cmp (op_neL hu) ok_neL ha hb (nomark _)))
end
end So

set_option linter.all false
set_option maxRecDepth 100000
namespace Pg
open Mi (D Cl FV SC Me Xc Res PV Ky Ev Tv Av Lv Iv Ov Sv Bd Out Tx RG Cal Tb)

def mtL : List (String × String × String) := [("Question", "holds", "Question.holds"), ("Question", "mentions", "Question.mentions"), ("Question", "leaves", "Question.leaves"), ("Question", "depth", "Question.depth"), ("Every", "holds", "Every.holds"), ("Every", "mentions", "Question.mentions"), ("Every", "leaves", "Question.leaves"), ("Every", "depth", "Question.depth"), ("Nobody", "holds", "Question.holds"), ("Nobody", "mentions", "Question.mentions"), ("Nobody", "leaves", "Question.leaves"), ("Nobody", "depth", "Question.depth"), ("Within", "holds", "Within.holds"), ("Within", "mentions", "Within.mentions"), ("Within", "leaves", "Question.leaves"), ("Within", "depth", "Question.depth"), ("Opposite", "holds", "Opposite.holds"), ("Opposite", "mentions", "Opposite.mentions"), ("Opposite", "leaves", "Opposite.leaves"), ("Opposite", "depth", "Opposite.depth"), ("Chain", "mentions", "Chain.mentions"), ("Chain", "leaves", "Chain.leaves"), ("Chain", "depth", "Chain.depth"), ("Chain", "holds", "Question.holds"), ("AllOf", "holds", "AllOf.holds"), ("AllOf", "mentions", "Chain.mentions"), ("AllOf", "leaves", "Chain.leaves"), ("AllOf", "depth", "Chain.depth"), ("OneOf", "holds", "OneOf.holds"), ("OneOf", "mentions", "Chain.mentions"), ("OneOf", "leaves", "Chain.leaves"), ("OneOf", "depth", "Chain.depth")]
def inL : List (String × String) := [("Every", ""), ("Nobody", ""), ("Within", "Within.__init__"), ("Opposite", "Opposite.__init__"), ("AllOf", "Chain.__init__"), ("OneOf", "Chain.__init__")]
def flL : List (String × String) := [("Within", "name"), ("Within", "low"), ("Within", "high"), ("Opposite", "one"), ("Chain", "parts"), ("AllOf", "parts"), ("OneOf", "parts")]
def T : Tb := Mi.tbOf mtL inL flL
def subL : List (String × String × Bool) := []
def subXL : List (String × String × Bool) := []
def sub := Mi.subOf subL
def subX := Mi.subOf subXL
def TY : List String := []
def fns : List String := ["plain_rows", "plain_total", "plain_least", "_law_cell_at", "_law_whole", "_law_mixed", "_law_flat", "_law_name_of", "_law_names", "_law_leaf", "_law_built", "_law_made", "_law_holds", "_law_numbers_in", "_law_measure", "_law_table", "_law_counted", "_law_summed", "law"]
noncomputable def b_plain_rows (C : Cal) : Sv :=
  (Mi.sRet (Mi.eL (Mi.lComp [2] (.n 2) (Mi.iAny (Mi.eL (Mi.lA Mi.aSort (Mi.aCons (Mi.eVar 1) Mi.aNil)))) (Mi.tTru (Mi.eMeth C T "holds" (Mi.eVar 0) (Mi.aCons (Mi.e2 Mi.gIxU (Mi.eVar 1) (Mi.eVar 2)) Mi.aNil))) (Mi.eVar 2))))
noncomputable def b_plain_total (C : Cal) : Sv :=
  (Mi.sRet (Mi.eA Mi.aSum (Mi.aCons (Mi.eL (Mi.lComp [3] (.n 3) (Mi.iAny (Mi.eCall C "plain_rows" (Mi.aCons (Mi.eVar 1) (Mi.aCons (Mi.eVar 2) Mi.aNil)))) Mi.tYes (Mi.e2 Mi.gIxU (Mi.e2 Mi.gIxU (Mi.eVar 2) (Mi.eVar 3)) (Mi.eVar 0)))) Mi.aNil)))
noncomputable def b_plain_least (C : Cal) : Sv :=
  (Mi.sSeq (Mi.sSet 3 (Mi.eCall C "plain_rows" (Mi.aCons (Mi.eVar 1) (Mi.aCons (Mi.eVar 2) Mi.aNil))))
  (Mi.sSeq (Mi.sIf (Mi.tV (Mi.e2 Mi.gEqU (Mi.eVar 3) (Mi.eL (Mi.lDisp Mi.aNil))))
    (Mi.sRet (Mi.eC .non))
    Mi.sNil)
  (Mi.sSeq (Mi.sSet 4 (Mi.eA Mi.aMin1 (Mi.aCons (Mi.eL (Mi.lComp [5] (.n 5) (Mi.iAny (Mi.eVar 3)) Mi.tYes (Mi.e2 Mi.gIxU (Mi.e2 Mi.gIxU (Mi.eVar 2) (Mi.eVar 5)) (Mi.eVar 0)))) Mi.aNil)))
  (Mi.sRet (Mi.eTup (Mi.aCons (Mi.eVar 4) (Mi.aCons (Mi.eL (Mi.lComp [5] (.n 5) (Mi.iAny (Mi.eVar 3)) (Mi.tV (Mi.e2 Mi.gEqU (Mi.e2 Mi.gIxU (Mi.e2 Mi.gIxU (Mi.eVar 2) (Mi.eVar 5)) (Mi.eVar 0)) (Mi.eVar 4))) (Mi.eVar 5))) Mi.aNil)))))))
noncomputable def b_Question_holds (C : Cal) : Sv :=
  (Mi.sRet (Mi.eC (.bl false)))
noncomputable def b_Question_mentions (C : Cal) : Sv :=
  (Mi.sRet (Mi.eNewL (Mi.lDisp Mi.aNil)))
noncomputable def b_Question_leaves (C : Cal) : Sv :=
  (Mi.sRet (Mi.eC (.int 1)))
noncomputable def b_Question_depth (C : Cal) : Sv :=
  (Mi.sRet (Mi.eC (.int 0)))
noncomputable def b_Every_holds (C : Cal) : Sv :=
  (Mi.sRet (Mi.eC (.bl true)))
noncomputable def b_Within___init__ (C : Cal) : Sv :=
  (Mi.sSeq (Mi.sFld T "name" (Mi.eVar 0) (Mi.eVar 1))
  (Mi.sSeq (Mi.sFld T "low" (Mi.eVar 0) (Mi.eVar 2))
  (Mi.sFld T "high" (Mi.eVar 0) (Mi.eVar 3))))
noncomputable def b_Within_holds (C : Cal) : Sv :=
  (Mi.sRet (Mi.eChain (fun i j => decide (i ≤ j)) (fun i j => decide (i ≤ j)) (Mi.eFld T "low" (Mi.eVar 0)) (Mi.e2 Mi.gIxU (Mi.eVar 1) (Mi.eFld T "name" (Mi.eVar 0))) (Mi.eFld T "high" (Mi.eVar 0))))
noncomputable def b_Within_mentions (C : Cal) : Sv :=
  (Mi.sRet (Mi.eNewL (Mi.lDisp (Mi.aCons (Mi.eFld T "name" (Mi.eVar 0)) Mi.aNil))))
noncomputable def b_Opposite___init__ (C : Cal) : Sv :=
  (Mi.sFld T "one" (Mi.eVar 0) (Mi.eVar 1))
noncomputable def b_Opposite_holds (C : Cal) : Sv :=
  (Mi.sRet (Mi.e1 Mi.gNot (Mi.eMeth C T "holds" (Mi.eFld T "one" (Mi.eVar 0)) (Mi.aCons (Mi.eVar 1) Mi.aNil))))
noncomputable def b_Opposite_mentions (C : Cal) : Sv :=
  (Mi.sRet (Mi.eMeth C T "mentions" (Mi.eFld T "one" (Mi.eVar 0)) Mi.aNil))
noncomputable def b_Opposite_leaves (C : Cal) : Sv :=
  (Mi.sRet (Mi.eMeth C T "leaves" (Mi.eFld T "one" (Mi.eVar 0)) Mi.aNil))
noncomputable def b_Opposite_depth (C : Cal) : Sv :=
  (Mi.sRet (Mi.e2 Mi.gAddU (Mi.eC (.int 1)) (Mi.eMeth C T "depth" (Mi.eFld T "one" (Mi.eVar 0)) Mi.aNil)))
noncomputable def b_Chain___init__ (C : Cal) : Sv :=
  (Mi.sFld T "parts" (Mi.eVar 0) (Mi.eL (Mi.lA Mi.aOf (Mi.aCons (Mi.eVar 1) Mi.aNil))))
noncomputable def lp_Chain_mentions_1 (C : Cal) : Sv :=
  (Mi.sEx (Mi.eExtL (Mi.eVar 1) (Mi.eMeth C T "mentions" (Mi.eVar 2) Mi.aNil)))
noncomputable def b_Chain_mentions (C : Cal) : Sv :=
  (Mi.sSeq (Mi.sSet 1 (Mi.eNewL (Mi.lDisp Mi.aNil)))
  (Mi.sSeq (Mi.sFor (.n 2) (Mi.iAny (Mi.eFld T "parts" (Mi.eVar 0))) (lp_Chain_mentions_1 C))
  (Mi.sRet (Mi.eVar 1))))
noncomputable def b_Chain_leaves (C : Cal) : Sv :=
  (Mi.sRet (Mi.eA Mi.aSum (Mi.aCons (Mi.eL (Mi.lComp [1] (.n 1) (Mi.iAny (Mi.eFld T "parts" (Mi.eVar 0))) Mi.tYes (Mi.eMeth C T "leaves" (Mi.eVar 1) Mi.aNil))) Mi.aNil)))
noncomputable def b_Chain_depth (C : Cal) : Sv :=
  (Mi.sRet (Mi.e2 Mi.gAddU (Mi.eC (.int 1)) (Mi.eAK Mi.aMaxD (Mi.aCons (Mi.eL (Mi.lComp [1] (.n 1) (Mi.iAny (Mi.eFld T "parts" (Mi.eVar 0))) Mi.tYes (Mi.eMeth C T "depth" (Mi.eVar 1) Mi.aNil))) Mi.aNil) (Mi.aCons (Mi.eC (.int 0)) Mi.aNil))))
noncomputable def b_AllOf_holds (C : Cal) : Sv :=
  (Mi.sRet (Mi.eA Mi.aAll (Mi.aCons (Mi.eL (Mi.lComp [2] (.n 2) (Mi.iAny (Mi.eFld T "parts" (Mi.eVar 0))) Mi.tYes (Mi.eMeth C T "holds" (Mi.eVar 2) (Mi.aCons (Mi.eVar 1) Mi.aNil)))) Mi.aNil)))
noncomputable def b_OneOf_holds (C : Cal) : Sv :=
  (Mi.sRet (Mi.eA Mi.aAny (Mi.aCons (Mi.eL (Mi.lComp [2] (.n 2) (Mi.iAny (Mi.eFld T "parts" (Mi.eVar 0))) Mi.tYes (Mi.eMeth C T "holds" (Mi.eVar 2) (Mi.aCons (Mi.eVar 1) Mi.aNil)))) Mi.aNil)))
noncomputable def b__law_cell_at (C : Cal) : Sv :=
  (Mi.sSeq (Mi.sIf (Mi.tV (Mi.e2 (Mi.gCmp fun i j => decide (i < j)) (Mi.eVar 1) (Mi.eA Mi.aLen (Mi.aCons (Mi.eVar 0) Mi.aNil))))
    (Mi.sRet (Mi.e2 Mi.gIxU (Mi.eVar 0) (Mi.eVar 1)))
    Mi.sNil)
  (Mi.sRet (Mi.eC (.int 0))))
noncomputable def b__law_whole (C : Cal) : Sv :=
  (Mi.sRet (Mi.eAnd (Mi.e1 (Mi.gIsT "int") (Mi.eVar 0)) (Mi.e1 Mi.gNot (Mi.e1 Mi.gIsB (Mi.eVar 0)))))
noncomputable def b__law_mixed (C : Cal) : Sv :=
  (Mi.sSeq (Mi.sSet 2 (Mi.e2 Mi.gMod (Mi.e2 Mi.gAddU (Mi.e2 Mi.gAddU (Mi.e2 Mi.gMul (Mi.eVar 0) (Mi.eC (.int 48271))) (Mi.e2 Mi.gMul (Mi.eVar 1) (Mi.eC (.int 7919)))) (Mi.eC (.int 104729))) (Mi.eC (.int 2147483647))))
  (Mi.sRet (Mi.e2 Mi.gMod (Mi.e2 Mi.gMul (Mi.eVar 2) (Mi.eVar 2)) (Mi.eC (.int 2147483629)))))
noncomputable def b__law_flat (C : Cal) : Sv :=
  (Mi.sSeq (Mi.sIf (Mi.tOr (Mi.tNot (Mi.tTru (Mi.e1 (Mi.gIsT "list") (Mi.eVar 0)))) (Mi.tV (Mi.e2 Mi.gNeU (Mi.eVar 0) (Mi.eVar 1))))
    (Mi.sRet (Mi.eC (.bl false)))
    Mi.sNil)
  (Mi.sRet (Mi.e2 Mi.gEqU (Mi.eA Mi.aLen (Mi.aCons (Mi.eL (Mi.lComp [2] (.n 2) (Mi.iAny (Mi.eVar 0)) (Mi.tTru (Mi.eCall C "_law_whole" (Mi.aCons (Mi.eVar 2) Mi.aNil))) (Mi.eVar 2))) Mi.aNil)) (Mi.eA Mi.aLen (Mi.aCons (Mi.eVar 1) Mi.aNil)))))
noncomputable def b__law_name_of (C : Cal) : Sv :=
  (Mi.sSeq (Mi.sIf (Mi.tV (Mi.e2 Mi.gInV (Mi.eVar 0) (Mi.eL (Mi.lDisp (Mi.aCons (Mi.eC (.str [97, 110, 100])) (Mi.aCons (Mi.eC (.str [111, 114])) (Mi.aCons (Mi.eC (.str [110, 111, 116])) (Mi.aCons (Mi.eC (.str [97, 108, 108])) (Mi.aCons (Mi.eC (.str [110, 111, 110, 101])) (Mi.aCons (Mi.eC (.str [105, 115])) (Mi.aCons (Mi.eC (.str [102, 114, 111, 109])) (Mi.aCons (Mi.eC (.str [116, 111])) Mi.aNil))))))))))))
    (Mi.sRet (Mi.e2 Mi.gAddU (Mi.eVar 0) (Mi.eC (.str [120]))))
    Mi.sNil)
  (Mi.sRet (Mi.eVar 0)))
noncomputable def lp__law_names_1 (C : Cal) : Sv :=
  (Mi.sSeq (Mi.sSet 8 (Mi.e2 Mi.gAddU (Mi.e2 Mi.gAddU (Mi.e2 Mi.gDiv (Mi.eVar 2) (Mi.e2 Mi.gAddU (Mi.eVar 7) (Mi.eC (.int 2)))) (Mi.e2 Mi.gMul (Mi.eC (.int 5)) (Mi.eVar 7))) (Mi.e2 Mi.gMul (Mi.eVar 5) (Mi.eA Mi.aInt2 (Mi.aCons (Mi.e2 Mi.gEqU (Mi.eVar 7) (Mi.e2 Mi.gMod (Mi.e2 Mi.gDiv (Mi.eVar 2) (Mi.eC (.int 64))) (Mi.eVar 3))) Mi.aNil)))))
  (Mi.sSet 6 (Mi.e2 Mi.gAddU (Mi.eVar 6) (Mi.e2 Mi.gIxU (Mi.eC (.str [97, 98, 99, 100, 101, 102, 103, 104, 105, 106, 107, 108, 109, 110, 111, 112, 113, 114, 115, 116, 117, 118, 119, 120, 121, 122])) (Mi.e2 Mi.gMod (Mi.eVar 8) (Mi.eC (.int 26)))))))
noncomputable def lp__law_names_2 (C : Cal) : Sv :=
  (Mi.sSeq (Mi.sSet 6 (Mi.eC (.str [])))
  (Mi.sSeq (Mi.sFor (.n 7) (Mi.iRg1 (Mi.eVar 3)) (lp__law_names_1 C))
  (Mi.sEx (Mi.eMut Mi.mApp (Mi.eVar 4) (Mi.aCons (Mi.eCall C "_law_name_of" (Mi.aCons (Mi.eVar 6) Mi.aNil)) Mi.aNil)))))
noncomputable def b__law_names (C : Cal) : Sv :=
  (Mi.sSeq (Mi.sSet 2 (Mi.eCall C "_law_mixed" (Mi.aCons (Mi.eCall C "_law_cell_at" (Mi.aCons (Mi.eVar 0) (Mi.aCons (Mi.eC (.int 0)) Mi.aNil))) (Mi.aCons (Mi.eC (.int 0)) Mi.aNil))))
  (Mi.sSeq (Mi.sSet 3 (Mi.e2 Mi.gAddU (Mi.eC (.int 1)) (Mi.e2 Mi.gMod (Mi.eVar 2) (Mi.eVar 1))))
  (Mi.sSeq (Mi.sOwn 4 (Mi.lDisp Mi.aNil))
  (Mi.sSeq (Mi.sFor (.n 5) (Mi.iRg1 (Mi.eC (.int 3))) (lp__law_names_2 C))
  (Mi.sRet (Mi.eFrz 4))))))
noncomputable def b__law_leaf (C : Cal) : Sv :=
  (Mi.sSeq (Mi.sSet 3 (Mi.eCall C "_law_mixed" (Mi.aCons (Mi.eVar 0) (Mi.aCons (Mi.eC (.int 2)) Mi.aNil))))
  (Mi.sSeq (Mi.sSet 4 (Mi.eCall C "_law_mixed" (Mi.aCons (Mi.eVar 0) (Mi.aCons (Mi.eC (.int 3)) Mi.aNil))))
  (Mi.sSeq (Mi.sIf (Mi.tV (Mi.e2 (Mi.gCmp fun i j => decide (i < j)) (Mi.e2 Mi.gMod (Mi.eVar 3) (Mi.eC (.int 12))) (Mi.eC (.int 2))))
    (Mi.sRet (Mi.eTup (Mi.aCons (Mi.e2 Mi.gIxU (Mi.eL (Mi.lDisp (Mi.aCons (Mi.eC (.str [97, 108, 108])) (Mi.aCons (Mi.eC (.str [110, 111, 110, 101])) Mi.aNil)))) (Mi.e2 Mi.gMod (Mi.eVar 3) (Mi.eC (.int 12)))) Mi.aNil)))
    Mi.sNil)
  (Mi.sSeq (Mi.sSet 5 (Mi.e2 Mi.gMod (Mi.e2 Mi.gDiv (Mi.eVar 3) (Mi.eC (.int 12))) (Mi.eC (.int 40))))
  (Mi.sSeq (Mi.sSet 6 (Mi.e2 Mi.gSub (Mi.e2 Mi.gAddU (Mi.eVar 5) (Mi.e2 Mi.gMod (Mi.eVar 4) (Mi.eC (.int 30)))) (Mi.eC (.int 5))))
  (Mi.sSeq (Mi.sIf (Mi.tTru (Mi.eVar 2))
    (Mi.sSeq (Mi.sSet 5 (Mi.e2 Mi.gSub (Mi.e2 Mi.gAddU (Mi.e2 Mi.gMul (Mi.eVar 5) (Mi.e2 Mi.gPow (Mi.eC (.int 10)) (Mi.eC (.int 28)))) (Mi.eVar 4)) (Mi.e2 Mi.gPow (Mi.eC (.int 10)) (Mi.eC (.int 29)))))
  (Mi.sSet 6 (Mi.e2 Mi.gSub (Mi.e2 Mi.gAddU (Mi.eVar 5) (Mi.e2 Mi.gMul (Mi.eCall C "_law_mixed" (Mi.aCons (Mi.eVar 0) (Mi.aCons (Mi.eC (.int 4)) Mi.aNil))) (Mi.e2 Mi.gPow (Mi.eC (.int 10)) (Mi.eC (.int 19))))) (Mi.eC (.int 7)))))
    Mi.sNil)
  (Mi.sSeq (Mi.sSet 7 (Mi.eTup (Mi.aCons (Mi.eC (.str [105, 110])) (Mi.aCons (Mi.e2 Mi.gIxU (Mi.eVar 1) (Mi.e2 Mi.gMod (Mi.e2 Mi.gDiv (Mi.eVar 4) (Mi.eC (.int 30))) (Mi.eC (.int 3)))) (Mi.aCons (Mi.eVar 5) (Mi.aCons (Mi.eVar 6) Mi.aNil))))))
  (Mi.sSeq (Mi.sIf (Mi.tV (Mi.e2 Mi.gEqU (Mi.e2 Mi.gMod (Mi.eVar 3) (Mi.eC (.int 12))) (Mi.eC (.int 2))))
    (Mi.sRet (Mi.eTup (Mi.aCons (Mi.e2 Mi.gIxU (Mi.eL (Mi.lDisp (Mi.aCons (Mi.eC (.str [97, 110, 100])) (Mi.aCons (Mi.eC (.str [111, 114])) Mi.aNil)))) (Mi.e2 Mi.gMod (Mi.e2 Mi.gDiv (Mi.eVar 3) (Mi.eC (.int 480))) (Mi.eC (.int 2)))) (Mi.aCons (Mi.eL (Mi.lDisp Mi.aNil)) Mi.aNil))))
    Mi.sNil)
  (Mi.sSeq (Mi.sIf (Mi.tV (Mi.e2 Mi.gEqU (Mi.e2 Mi.gMod (Mi.eVar 3) (Mi.eC (.int 12))) (Mi.eC (.int 3))))
    (Mi.sRet (Mi.eTup (Mi.aCons (Mi.e2 Mi.gIxU (Mi.eL (Mi.lDisp (Mi.aCons (Mi.eC (.str [97, 110, 100])) (Mi.aCons (Mi.eC (.str [111, 114])) Mi.aNil)))) (Mi.e2 Mi.gMod (Mi.e2 Mi.gDiv (Mi.eVar 3) (Mi.eC (.int 480))) (Mi.eC (.int 2)))) (Mi.aCons (Mi.eL (Mi.lDisp (Mi.aCons (Mi.eVar 7) Mi.aNil))) Mi.aNil))))
    Mi.sNil)
  (Mi.sRet (Mi.eVar 7)))))))))))
noncomputable def lp__law_built_1 (C : Cal) : Sv :=
  (Mi.sSeq (Mi.sSet 8 (Mi.eCall C "_law_mixed" (Mi.aCons (Mi.eVar 7) (Mi.aCons (Mi.eC (.int 1)) Mi.aNil))))
  (Mi.sSeq (Mi.sSet 9 (Mi.eA Mi.aMin (Mi.aCons (Mi.eA Mi.aLen (Mi.aCons (Mi.eVar 4) Mi.aNil)) (Mi.aCons (Mi.e2 Mi.gAddU (Mi.eC (.int 2)) (Mi.e2 Mi.gMod (Mi.e2 Mi.gDiv (Mi.eVar 8) (Mi.eC (.int 8))) (Mi.eC (.int 3)))) Mi.aNil))))
  (Mi.sSeq (Mi.sSet 10 (Mi.eAK Mi.aMaxD (Mi.aCons (Mi.eL (Mi.lComp [11] (.n 11) (Mi.iAny (Mi.eL (Mi.lCut (Mi.eVar 4) (Mi.oSome (Mi.e2 Mi.gSub (Mi.eA Mi.aLen (Mi.aCons (Mi.eVar 4) Mi.aNil)) (Mi.eVar 9))) Mi.oNone))) Mi.tYes (Mi.e2 Mi.gIxU (Mi.eVar 11) (Mi.eC (.int 1))))) Mi.aNil) (Mi.aCons (Mi.eC (.int 0)) Mi.aNil)))
  (Mi.sIf (Mi.tAnd (Mi.tV (Mi.e2 (Mi.gCmp fun i j => decide (j < i)) (Mi.e2 Mi.gMod (Mi.eVar 8) (Mi.eC (.int 8))) (Mi.eC (.int 5)))) (Mi.tAnd (Mi.tV (Mi.e2 (Mi.gCmp fun i j => decide (j < i)) (Mi.eVar 9) (Mi.eC (.int 1)))) (Mi.tV (Mi.e2 (Mi.gCmp fun i j => decide (i < j)) (Mi.eVar 10) (Mi.eC (.int 18))))))
    (Mi.sSeq (Mi.sSet 12 (Mi.eL (Mi.lComp [11] (.n 11) (Mi.iAny (Mi.eL (Mi.lCut (Mi.eVar 4) (Mi.oSome (Mi.e2 Mi.gSub (Mi.eA Mi.aLen (Mi.aCons (Mi.eVar 4) Mi.aNil)) (Mi.eVar 9))) Mi.oNone))) Mi.tYes (Mi.e2 Mi.gIxU (Mi.eVar 11) (Mi.eC (.int 0))))))
  (Mi.sOwn 4 (Mi.lCat (Mi.eL (Mi.lCut (Mi.eVar 4) Mi.oNone (Mi.oSome (Mi.e2 Mi.gSub (Mi.eA Mi.aLen (Mi.aCons (Mi.eVar 4) Mi.aNil)) (Mi.eVar 9))))) (Mi.eL (Mi.lDisp (Mi.aCons (Mi.eTup (Mi.aCons (Mi.eTup (Mi.aCons (Mi.e2 Mi.gIxU (Mi.eL (Mi.lDisp (Mi.aCons (Mi.eC (.str [97, 110, 100])) (Mi.aCons (Mi.eC (.str [111, 114])) Mi.aNil)))) (Mi.e2 Mi.gMod (Mi.e2 Mi.gDiv (Mi.eVar 8) (Mi.eC (.int 24))) (Mi.eC (.int 2)))) (Mi.aCons (Mi.eVar 12) Mi.aNil))) (Mi.aCons (Mi.e2 Mi.gAddU (Mi.eVar 10) (Mi.eC (.int 1))) Mi.aNil))) Mi.aNil))))))
    (Mi.sIf (Mi.tAnd (Mi.tV (Mi.e2 Mi.gEqU (Mi.e2 Mi.gMod (Mi.eVar 8) (Mi.eC (.int 8))) (Mi.eC (.int 5)))) (Mi.tAnd (Mi.tV (Mi.e2 (Mi.gCmp fun i j => decide (j < i)) (Mi.eVar 6) (Mi.eC (.int 0)))) (Mi.tAnd (Mi.tV (Mi.e2 (Mi.gCmp fun i j => decide (j < i)) (Mi.eVar 9) (Mi.eC (.int 0)))) (Mi.tV (Mi.e2 (Mi.gCmp fun i j => decide (i < j)) (Mi.eVar 10) (Mi.eC (.int 17)))))))
    (Mi.sSeq (Mi.sSet 6 (Mi.e2 Mi.gSub (Mi.eVar 6) (Mi.eC (.int 1))))
  (Mi.sOwn 4 (Mi.lCat (Mi.eL (Mi.lCut (Mi.eVar 4) Mi.oNone (Mi.oSome (Mi.e1 Mi.gNeg (Mi.eC (.int 1)))))) (Mi.eL (Mi.lDisp (Mi.aCons (Mi.eTup (Mi.aCons (Mi.eTup (Mi.aCons (Mi.eC (.str [110, 111, 116])) (Mi.aCons (Mi.e2 Mi.gIxU (Mi.e2 Mi.gIxU (Mi.eVar 4) (Mi.e1 Mi.gNeg (Mi.eC (.int 1)))) (Mi.eC (.int 0))) Mi.aNil))) (Mi.aCons (Mi.e2 Mi.gAddU (Mi.e2 Mi.gIxU (Mi.e2 Mi.gIxU (Mi.eVar 4) (Mi.e1 Mi.gNeg (Mi.eC (.int 1)))) (Mi.eC (.int 1))) (Mi.eC (.int 2))) Mi.aNil))) Mi.aNil))))))
    (Mi.sIf (Mi.tV (Mi.e2 (Mi.gCmp fun i j => decide (j < i)) (Mi.eVar 5) (Mi.eC (.int 0))))
    (Mi.sSeq (Mi.sSet 5 (Mi.e2 Mi.gSub (Mi.eVar 5) (Mi.eC (.int 1))))
  (Mi.sEx (Mi.eMut Mi.mApp (Mi.eVar 4) (Mi.aCons (Mi.eTup (Mi.aCons (Mi.eCall C "_law_leaf" (Mi.aCons (Mi.eVar 7) (Mi.aCons (Mi.eVar 3) (Mi.aCons (Mi.eVar 2) Mi.aNil)))) (Mi.aCons (Mi.eC (.int 1)) Mi.aNil))) Mi.aNil))))
    Mi.sNil))))))
noncomputable def b__law_built (C : Cal) : Sv :=
  (Mi.sSeq (Mi.sSet 2 (Mi.e2 Mi.gEqU (Mi.e2 Mi.gMod (Mi.eCall C "_law_cell_at" (Mi.aCons (Mi.eVar 0) (Mi.aCons (Mi.eC (.int 1)) Mi.aNil))) (Mi.eC (.int 3))) (Mi.eC (.int 0))))
  (Mi.sSeq (Mi.sSet 3 (Mi.eCall C "_law_names" (Mi.aCons (Mi.eVar 0) (Mi.aCons (Mi.e2 Mi.gIxU (Mi.eL (Mi.lDisp (Mi.aCons (Mi.eC (.int 3)) (Mi.aCons (Mi.eC (.int 8)) Mi.aNil)))) (Mi.eA Mi.aInt2 (Mi.aCons (Mi.eVar 2) Mi.aNil))) Mi.aNil))))
  (Mi.sSeq (Mi.sOwn 4 (Mi.lDisp Mi.aNil))
  (Mi.sSeq (Mi.sSet 5 (Mi.e2 Mi.gIxU (Mi.eL (Mi.lDisp (Mi.aCons (Mi.eVar 1) (Mi.aCons (Mi.eA Mi.aMin (Mi.aCons (Mi.eVar 1) (Mi.aCons (Mi.eC (.int 9)) Mi.aNil))) Mi.aNil)))) (Mi.eA Mi.aInt2 (Mi.aCons (Mi.eVar 2) Mi.aNil))))
  (Mi.sSeq (Mi.sSet 6 (Mi.eC (.int 6)))
  (Mi.sSeq (Mi.sFor (.n 7) (Mi.iAny (Mi.eL (Mi.lCut (Mi.eVar 0) (Mi.oSome (Mi.eC (.int 3))) (Mi.oSome (Mi.eC (.int 63)))))) (lp__law_built_1 C))
  (Mi.sSeq (Mi.sIf (Mi.tV (Mi.e2 Mi.gEqU (Mi.eA Mi.aLen (Mi.aCons (Mi.eVar 4) Mi.aNil)) (Mi.eC (.int 1))))
    (Mi.sRet (Mi.e2 Mi.gIxU (Mi.e2 Mi.gIxU (Mi.eVar 4) (Mi.eC (.int 0))) (Mi.eC (.int 0))))
    Mi.sNil)
  (Mi.sSeq (Mi.sIf (Mi.tV (Mi.e2 Mi.gEqU (Mi.eVar 4) (Mi.eL (Mi.lDisp Mi.aNil))))
    (Mi.sRet (Mi.eTup (Mi.aCons (Mi.eC (.str [97, 108, 108])) Mi.aNil)))
    Mi.sNil)
  (Mi.sRet (Mi.eTup (Mi.aCons (Mi.e2 Mi.gIxU (Mi.eL (Mi.lDisp (Mi.aCons (Mi.eC (.str [97, 110, 100])) (Mi.aCons (Mi.eC (.str [111, 114])) Mi.aNil)))) (Mi.e2 Mi.gMod (Mi.eCall C "_law_cell_at" (Mi.aCons (Mi.eVar 0) (Mi.aCons (Mi.eC (.int 2)) Mi.aNil))) (Mi.eC (.int 2)))) (Mi.aCons (Mi.eL (Mi.lComp [11] (.n 11) (Mi.iAny (Mi.eFrz 4)) Mi.tYes (Mi.e2 Mi.gIxU (Mi.eVar 11) (Mi.eC (.int 0))))) Mi.aNil))))))))))))
noncomputable def b__law_made (C : Cal) : Sv :=
  (Mi.sSeq (Mi.sIf (Mi.tV (Mi.e2 Mi.gEqU (Mi.e2 Mi.gIxU (Mi.eVar 0) (Mi.eC (.int 0))) (Mi.eC (.str [97, 108, 108]))))
    (Mi.sRet (Mi.eMake0 T "Every"))
    Mi.sNil)
  (Mi.sSeq (Mi.sIf (Mi.tV (Mi.e2 Mi.gEqU (Mi.e2 Mi.gIxU (Mi.eVar 0) (Mi.eC (.int 0))) (Mi.eC (.str [110, 111, 110, 101]))))
    (Mi.sRet (Mi.eMake0 T "Nobody"))
    Mi.sNil)
  (Mi.sSeq (Mi.sIf (Mi.tV (Mi.e2 Mi.gEqU (Mi.e2 Mi.gIxU (Mi.eVar 0) (Mi.eC (.int 0))) (Mi.eC (.str [105, 110]))))
    (Mi.sRet (Mi.eMakeF C T "Within" (Mi.aCons (Mi.e2 Mi.gIxU (Mi.eVar 0) (Mi.eC (.int 1))) (Mi.aCons (Mi.e2 Mi.gIxU (Mi.eVar 0) (Mi.eC (.int 2))) (Mi.aCons (Mi.e2 Mi.gIxU (Mi.eVar 0) (Mi.eC (.int 3))) Mi.aNil)))))
    Mi.sNil)
  (Mi.sSeq (Mi.sIf (Mi.tV (Mi.e2 Mi.gEqU (Mi.e2 Mi.gIxU (Mi.eVar 0) (Mi.eC (.int 0))) (Mi.eC (.str [110, 111, 116]))))
    (Mi.sRet (Mi.eMakeF C T "Opposite" (Mi.aCons (Mi.eCall C "_law_made" (Mi.aCons (Mi.e2 Mi.gIxU (Mi.eVar 0) (Mi.eC (.int 1))) Mi.aNil)) Mi.aNil)))
    Mi.sNil)
  (Mi.sSeq (Mi.sSet 1 (Mi.eL (Mi.lComp [2] (.n 2) (Mi.iAny (Mi.e2 Mi.gIxU (Mi.eVar 0) (Mi.eC (.int 1)))) Mi.tYes (Mi.eCall C "_law_made" (Mi.aCons (Mi.eVar 2) Mi.aNil)))))
  (Mi.sSeq (Mi.sIf (Mi.tV (Mi.e2 Mi.gEqU (Mi.e2 Mi.gIxU (Mi.eVar 0) (Mi.eC (.int 0))) (Mi.eC (.str [97, 110, 100]))))
    (Mi.sRet (Mi.eMakeF C T "AllOf" (Mi.aCons (Mi.eVar 1) Mi.aNil)))
    Mi.sNil)
  (Mi.sRet (Mi.eMakeF C T "OneOf" (Mi.aCons (Mi.eVar 1) Mi.aNil)))))))))
noncomputable def b__law_holds (C : Cal) : Sv :=
  (Mi.sSeq (Mi.sIf (Mi.tV (Mi.e2 Mi.gEqU (Mi.e2 Mi.gIxU (Mi.eVar 0) (Mi.eC (.int 0))) (Mi.eC (.str [105, 110]))))
    (Mi.sRet (Mi.eChain (fun i j => decide (i ≤ j)) (fun i j => decide (i ≤ j)) (Mi.e2 Mi.gIxU (Mi.eVar 0) (Mi.eC (.int 2))) (Mi.e2 Mi.gIxU (Mi.eVar 1) (Mi.e2 Mi.gIxU (Mi.eVar 0) (Mi.eC (.int 1)))) (Mi.e2 Mi.gIxU (Mi.eVar 0) (Mi.eC (.int 3)))))
    Mi.sNil)
  (Mi.sSeq (Mi.sIf (Mi.tV (Mi.e2 Mi.gEqU (Mi.e2 Mi.gIxU (Mi.eVar 0) (Mi.eC (.int 0))) (Mi.eC (.str [110, 111, 116]))))
    (Mi.sRet (Mi.e1 Mi.gNot (Mi.eCall C "_law_holds" (Mi.aCons (Mi.e2 Mi.gIxU (Mi.eVar 0) (Mi.eC (.int 1))) (Mi.aCons (Mi.eVar 1) Mi.aNil)))))
    Mi.sNil)
  (Mi.sSeq (Mi.sIf (Mi.tV (Mi.e2 Mi.gEqU (Mi.e2 Mi.gIxU (Mi.eVar 0) (Mi.eC (.int 0))) (Mi.eC (.str [97, 110, 100]))))
    (Mi.sRet (Mi.e2 Mi.gEqU (Mi.eA Mi.aLen (Mi.aCons (Mi.eL (Mi.lComp [2] (.n 2) (Mi.iAny (Mi.e2 Mi.gIxU (Mi.eVar 0) (Mi.eC (.int 1)))) (Mi.tTru (Mi.eCall C "_law_holds" (Mi.aCons (Mi.eVar 2) (Mi.aCons (Mi.eVar 1) Mi.aNil)))) (Mi.eVar 2))) Mi.aNil)) (Mi.eA Mi.aLen (Mi.aCons (Mi.e2 Mi.gIxU (Mi.eVar 0) (Mi.eC (.int 1))) Mi.aNil))))
    Mi.sNil)
  (Mi.sSeq (Mi.sIf (Mi.tV (Mi.e2 Mi.gEqU (Mi.e2 Mi.gIxU (Mi.eVar 0) (Mi.eC (.int 0))) (Mi.eC (.str [111, 114]))))
    (Mi.sRet (Mi.e2 Mi.gNeU (Mi.eL (Mi.lComp [2] (.n 2) (Mi.iAny (Mi.e2 Mi.gIxU (Mi.eVar 0) (Mi.eC (.int 1)))) (Mi.tTru (Mi.eCall C "_law_holds" (Mi.aCons (Mi.eVar 2) (Mi.aCons (Mi.eVar 1) Mi.aNil)))) (Mi.eVar 2))) (Mi.eL (Mi.lDisp Mi.aNil))))
    Mi.sNil)
  (Mi.sRet (Mi.e2 Mi.gEqU (Mi.e2 Mi.gIxU (Mi.eVar 0) (Mi.eC (.int 0))) (Mi.eC (.str [97, 108, 108]))))))))
noncomputable def lp__law_numbers_in_1 (C : Cal) : Sv :=
  (Mi.sSet 1 (Mi.e2 Mi.gAddU (Mi.eVar 1) (Mi.eCall C "_law_numbers_in" (Mi.aCons (Mi.eVar 2) Mi.aNil))))
noncomputable def b__law_numbers_in (C : Cal) : Sv :=
  (Mi.sSeq (Mi.sIf (Mi.tV (Mi.e2 Mi.gEqU (Mi.e2 Mi.gIxU (Mi.eVar 0) (Mi.eC (.int 0))) (Mi.eC (.str [105, 110]))))
    (Mi.sRet (Mi.eL (Mi.lDisp (Mi.aCons (Mi.e2 Mi.gIxU (Mi.eVar 0) (Mi.eC (.int 2))) (Mi.aCons (Mi.e2 Mi.gIxU (Mi.eVar 0) (Mi.eC (.int 3))) Mi.aNil)))))
    Mi.sNil)
  (Mi.sSeq (Mi.sIf (Mi.tV (Mi.e2 Mi.gEqU (Mi.e2 Mi.gIxU (Mi.eVar 0) (Mi.eC (.int 0))) (Mi.eC (.str [110, 111, 116]))))
    (Mi.sRet (Mi.eCall C "_law_numbers_in" (Mi.aCons (Mi.e2 Mi.gIxU (Mi.eVar 0) (Mi.eC (.int 1))) Mi.aNil)))
    Mi.sNil)
  (Mi.sSeq (Mi.sSet 1 (Mi.eL (Mi.lDisp Mi.aNil)))
  (Mi.sSeq (Mi.sIf (Mi.tOr (Mi.tV (Mi.e2 Mi.gEqU (Mi.e2 Mi.gIxU (Mi.eVar 0) (Mi.eC (.int 0))) (Mi.eC (.str [97, 110, 100])))) (Mi.tV (Mi.e2 Mi.gEqU (Mi.e2 Mi.gIxU (Mi.eVar 0) (Mi.eC (.int 0))) (Mi.eC (.str [111, 114])))))
    (Mi.sFor (.n 2) (Mi.iAny (Mi.e2 Mi.gIxU (Mi.eVar 0) (Mi.eC (.int 1)))) (lp__law_numbers_in_1 C))
    Mi.sNil)
  (Mi.sRet (Mi.eVar 1))))))
noncomputable def lp__law_measure_1 (C : Cal) : Sv :=
  (Mi.sSeq (Mi.sBd (.t [1, 2, 3]) (Mi.eCall C "_law_measure" (Mi.aCons (Mi.eVar 5) Mi.aNil)))
  (Mi.sSet 4 (Mi.eL (Mi.lDisp (Mi.aCons (Mi.e2 Mi.gAddU (Mi.e2 Mi.gIxU (Mi.eVar 4) (Mi.eC (.int 0))) (Mi.eVar 1)) (Mi.aCons (Mi.eA Mi.aMax (Mi.aCons (Mi.e2 Mi.gIxU (Mi.eVar 4) (Mi.eC (.int 1))) (Mi.aCons (Mi.eVar 2) Mi.aNil))) (Mi.aCons (Mi.e2 Mi.gAddU (Mi.e2 Mi.gIxU (Mi.eVar 4) (Mi.eC (.int 2))) (Mi.eVar 3)) Mi.aNil)))))))
noncomputable def b__law_measure (C : Cal) : Sv :=
  (Mi.sSeq (Mi.sIf (Mi.tOr (Mi.tV (Mi.e2 Mi.gEqU (Mi.e2 Mi.gIxU (Mi.eVar 0) (Mi.eC (.int 0))) (Mi.eC (.str [97, 108, 108])))) (Mi.tV (Mi.e2 Mi.gEqU (Mi.e2 Mi.gIxU (Mi.eVar 0) (Mi.eC (.int 0))) (Mi.eC (.str [110, 111, 110, 101])))))
    (Mi.sRet (Mi.eTup (Mi.aCons (Mi.eC (.int 1)) (Mi.aCons (Mi.eC (.int 0)) (Mi.aCons (Mi.eL (Mi.lDisp Mi.aNil)) Mi.aNil)))))
    Mi.sNil)
  (Mi.sSeq (Mi.sIf (Mi.tV (Mi.e2 Mi.gEqU (Mi.e2 Mi.gIxU (Mi.eVar 0) (Mi.eC (.int 0))) (Mi.eC (.str [105, 110]))))
    (Mi.sRet (Mi.eTup (Mi.aCons (Mi.eC (.int 1)) (Mi.aCons (Mi.eC (.int 0)) (Mi.aCons (Mi.eL (Mi.lDisp (Mi.aCons (Mi.e2 Mi.gIxU (Mi.eVar 0) (Mi.eC (.int 1))) Mi.aNil))) Mi.aNil)))))
    Mi.sNil)
  (Mi.sSeq (Mi.sIf (Mi.tV (Mi.e2 Mi.gEqU (Mi.e2 Mi.gIxU (Mi.eVar 0) (Mi.eC (.int 0))) (Mi.eC (.str [110, 111, 116]))))
    (Mi.sSeq (Mi.sBd (.t [1, 2, 3]) (Mi.eCall C "_law_measure" (Mi.aCons (Mi.e2 Mi.gIxU (Mi.eVar 0) (Mi.eC (.int 1))) Mi.aNil)))
  (Mi.sRet (Mi.eTup (Mi.aCons (Mi.eVar 1) (Mi.aCons (Mi.e2 Mi.gAddU (Mi.eVar 2) (Mi.eC (.int 1))) (Mi.aCons (Mi.eVar 3) Mi.aNil))))))
    Mi.sNil)
  (Mi.sSeq (Mi.sSet 4 (Mi.eL (Mi.lDisp (Mi.aCons (Mi.eC (.int 0)) (Mi.aCons (Mi.eC (.int 0)) (Mi.aCons (Mi.eL (Mi.lDisp Mi.aNil)) Mi.aNil))))))
  (Mi.sSeq (Mi.sFor (.n 5) (Mi.iAny (Mi.e2 Mi.gIxU (Mi.eVar 0) (Mi.eC (.int 1)))) (lp__law_measure_1 C))
  (Mi.sRet (Mi.eTup (Mi.aCons (Mi.e2 Mi.gIxU (Mi.eVar 4) (Mi.eC (.int 0))) (Mi.aCons (Mi.e2 Mi.gAddU (Mi.e2 Mi.gIxU (Mi.eVar 4) (Mi.eC (.int 1))) (Mi.eC (.int 1))) (Mi.aCons (Mi.e2 Mi.gIxU (Mi.eVar 4) (Mi.eC (.int 2))) Mi.aNil))))))))))
noncomputable def lp__law_table_1 (C : Cal) : Sv :=
  (Mi.sSeq (Mi.sSet 9 (Mi.eCall C "_law_mixed" (Mi.aCons (Mi.eVar 4) (Mi.aCons (Mi.e2 Mi.gAddU (Mi.eC (.int 5)) (Mi.eVar 8)) Mi.aNil))))
  (Mi.sSeq (Mi.sPutK (Mi.eVar 7) (Mi.e2 Mi.gIxU (Mi.eVar 1) (Mi.eVar 8)) (Mi.e2 Mi.gMod (Mi.e2 Mi.gDiv (Mi.eVar 9) (Mi.eC (.int 8))) (Mi.eC (.int 45))))
  (Mi.sIf (Mi.tAnd (Mi.tV (Mi.e2 (Mi.gCmp fun i j => decide (j < i)) (Mi.e2 Mi.gMod (Mi.eVar 9) (Mi.eC (.int 8))) (Mi.eC (.int 1)))) (Mi.tV (Mi.e2 Mi.gNeU (Mi.eVar 2) (Mi.eL (Mi.lDisp Mi.aNil)))))
    (Mi.sPutK (Mi.eVar 7) (Mi.e2 Mi.gIxU (Mi.eVar 1) (Mi.eVar 8)) (Mi.e2 Mi.gAddU (Mi.e2 Mi.gIxU (Mi.eVar 2) (Mi.e2 Mi.gMod (Mi.e2 Mi.gDiv (Mi.eVar 9) (Mi.eC (.int 8))) (Mi.eA Mi.aLen (Mi.aCons (Mi.eVar 2) Mi.aNil)))) (Mi.e2 Mi.gIxU (Mi.eL (Mi.lDisp (Mi.aCons (Mi.eC (.int 0)) (Mi.aCons (Mi.eC (.int 0)) (Mi.aCons (Mi.eC (.int 0)) (Mi.aCons (Mi.eC (.int 1)) (Mi.aCons (Mi.e1 Mi.gNeg (Mi.eC (.int 1))) (Mi.aCons (Mi.eC (.int 0)) Mi.aNil)))))))) (Mi.e2 Mi.gSub (Mi.e2 Mi.gMod (Mi.eVar 9) (Mi.eC (.int 8))) (Mi.eC (.int 2))))))
    Mi.sNil)))
noncomputable def lp__law_table_2 (C : Cal) : Sv :=
  (Mi.sSeq (Mi.sSet 5 (Mi.eCall C "_law_mixed" (Mi.aCons (Mi.eVar 4) (Mi.aCons (Mi.eC (.int 9)) Mi.aNil))))
  (Mi.sSeq (Mi.sSet 6 (Mi.e2 Mi.gMod (Mi.e2 Mi.gDiv (Mi.eVar 5) (Mi.eC (.int 2))) (Mi.eC (.int 65536))))
  (Mi.sSeq (Mi.sIf (Mi.tV (Mi.e2 Mi.gEqU (Mi.e2 Mi.gMod (Mi.eVar 5) (Mi.eC (.int 2))) (Mi.eC (.int 1))))
    (Mi.sSet 6 (Mi.e2 Mi.gMod (Mi.e2 Mi.gDiv (Mi.eVar 5) (Mi.eC (.int 2))) (Mi.eC (.int 60))))
    Mi.sNil)
  (Mi.sSeq (Mi.sOwnD 7)
  (Mi.sSeq (Mi.sFor (.n 8) (Mi.iRg1 (Mi.eC (.int 3))) (lp__law_table_1 C))
  (Mi.sPutK (Mi.eVar 3) (Mi.eVar 6) (Mi.eFrz 7)))))))
noncomputable def b__law_table (C : Cal) : Sv :=
  (Mi.sSeq (Mi.sSet 3 Mi.eNewD)
  (Mi.sSeq (Mi.sFor (.n 4) (Mi.iAny (Mi.eL (Mi.lCut (Mi.eVar 0) (Mi.oSome (Mi.eC (.int 2))) (Mi.oSome (Mi.eC (.int 22)))))) (lp__law_table_2 C))
  (Mi.sRet (Mi.eVar 3))))
noncomputable def b__law_counted (C : Cal) : Sv :=
  (Mi.sSeq (Mi.sBd (.t [2, 3, 4]) (Mi.eCall C "_law_measure" (Mi.aCons (Mi.eVar 1) Mi.aNil)))
  (Mi.sSeq (Mi.sIf (Mi.tOr (Mi.tNot (Mi.tTru (Mi.eCall C "_law_whole" (Mi.aCons (Mi.eMeth C T "leaves" (Mi.eVar 0) Mi.aNil) Mi.aNil)))) (Mi.tV (Mi.e2 Mi.gNeU (Mi.eMeth C T "leaves" (Mi.eVar 0) Mi.aNil) (Mi.eVar 2))))
    (Mi.sRet (Mi.eC (.bl false)))
    Mi.sNil)
  (Mi.sSeq (Mi.sIf (Mi.tOr (Mi.tNot (Mi.tTru (Mi.eCall C "_law_whole" (Mi.aCons (Mi.eMeth C T "depth" (Mi.eVar 0) Mi.aNil) Mi.aNil)))) (Mi.tV (Mi.e2 Mi.gNeU (Mi.eMeth C T "depth" (Mi.eVar 0) Mi.aNil) (Mi.eVar 3))))
    (Mi.sRet (Mi.eC (.bl false)))
    Mi.sNil)
  (Mi.sSeq (Mi.sSet 5 (Mi.eMeth C T "mentions" (Mi.eVar 0) Mi.aNil))
  (Mi.sSeq (Mi.sIf (Mi.tOr (Mi.tNot (Mi.tTru (Mi.e1 (Mi.gIsT "list") (Mi.eVar 5)))) (Mi.tV (Mi.e2 Mi.gNeU (Mi.eVar 5) (Mi.eVar 4))))
    (Mi.sRet (Mi.eC (.bl false)))
    Mi.sNil)
  (Mi.sSeq (Mi.sEx (Mi.eMut Mi.mApp (Mi.eVar 5) (Mi.aCons (Mi.eC (.str [97])) Mi.aNil)))
  (Mi.sRet (Mi.e2 Mi.gEqU (Mi.eMeth C T "mentions" (Mi.eVar 0) Mi.aNil) (Mi.eVar 4)))))))))
noncomputable def b__law_summed (C : Cal) : Sv :=
  (Mi.sSeq (Mi.sSet 4 (Mi.eCall C "plain_total" (Mi.aCons (Mi.eVar 0) (Mi.aCons (Mi.eVar 1) (Mi.aCons (Mi.eVar 2) Mi.aNil)))))
  (Mi.sSeq (Mi.sIf (Mi.tOr (Mi.tNot (Mi.tTru (Mi.eCall C "_law_whole" (Mi.aCons (Mi.eVar 4) Mi.aNil)))) (Mi.tV (Mi.e2 Mi.gNeU (Mi.eVar 4) (Mi.eA Mi.aSum (Mi.aCons (Mi.eL (Mi.lComp [5] (.n 5) (Mi.iAny (Mi.eVar 3)) Mi.tYes (Mi.e2 Mi.gIxU (Mi.e2 Mi.gIxU (Mi.eVar 2) (Mi.eVar 5)) (Mi.eVar 0)))) Mi.aNil)))))
    (Mi.sRet (Mi.eC (.bl false)))
    Mi.sNil)
  (Mi.sSeq (Mi.sSet 4 (Mi.eCall C "plain_least" (Mi.aCons (Mi.eVar 0) (Mi.aCons (Mi.eVar 1) (Mi.aCons (Mi.eVar 2) Mi.aNil)))))
  (Mi.sSeq (Mi.sIf (Mi.tV (Mi.e2 Mi.gEqU (Mi.eVar 3) (Mi.eL (Mi.lDisp Mi.aNil))))
    (Mi.sRet (Mi.e2 Mi.gIsN (Mi.eVar 4) (Mi.eC .non)))
    Mi.sNil)
  (Mi.sSeq (Mi.sSet 6 (Mi.eA Mi.aMin1 (Mi.aCons (Mi.eL (Mi.lComp [5] (.n 5) (Mi.iAny (Mi.eVar 3)) Mi.tYes (Mi.e2 Mi.gIxU (Mi.e2 Mi.gIxU (Mi.eVar 2) (Mi.eVar 5)) (Mi.eVar 0)))) Mi.aNil)))
  (Mi.sSeq (Mi.sIf (Mi.tOr (Mi.tNot (Mi.tTru (Mi.e1 (Mi.gIsT "tuple") (Mi.eVar 4)))) (Mi.tOr (Mi.tV (Mi.e2 Mi.gNeU (Mi.eA Mi.aLen (Mi.aCons (Mi.eVar 4) Mi.aNil)) (Mi.eC (.int 2)))) (Mi.tOr (Mi.tNot (Mi.tTru (Mi.eCall C "_law_whole" (Mi.aCons (Mi.e2 Mi.gIxU (Mi.eVar 4) (Mi.eC (.int 0))) Mi.aNil)))) (Mi.tV (Mi.e2 Mi.gNeU (Mi.e2 Mi.gIxU (Mi.eVar 4) (Mi.eC (.int 0))) (Mi.eVar 6))))))
    (Mi.sRet (Mi.eC (.bl false)))
    Mi.sNil)
  (Mi.sRet (Mi.eCall C "_law_flat" (Mi.aCons (Mi.e2 Mi.gIxU (Mi.eVar 4) (Mi.eC (.int 1))) (Mi.aCons (Mi.eL (Mi.lComp [5] (.n 5) (Mi.iAny (Mi.eVar 3)) (Mi.tV (Mi.e2 Mi.gEqU (Mi.e2 Mi.gIxU (Mi.e2 Mi.gIxU (Mi.eVar 2) (Mi.eVar 5)) (Mi.eVar 0)) (Mi.eVar 6))) (Mi.eVar 5))) Mi.aNil))))))))))
noncomputable def lp_law_1 (C : Cal) : Sv :=
  (Mi.sIf (Mi.tNot (Mi.tTru (Mi.eCall C "_law_summed" (Mi.aCons (Mi.eVar 8) (Mi.aCons (Mi.eVar 3) (Mi.aCons (Mi.eVar 4) (Mi.aCons (Mi.eVar 7) Mi.aNil)))))))
    (Mi.sRet (Mi.eC (.bl false)))
    Mi.sNil)
noncomputable def b_law (C : Cal) : Sv :=
  (Mi.sSeq (Mi.sSet 1 (Mi.eCall C "_law_built" (Mi.aCons (Mi.eVar 0) (Mi.aCons (Mi.eC (.int 16)) Mi.aNil))))
  (Mi.sSeq (Mi.sSet 2 (Mi.eCall C "_law_names" (Mi.aCons (Mi.eVar 0) (Mi.aCons (Mi.e2 Mi.gIxU (Mi.eL (Mi.lDisp (Mi.aCons (Mi.eC (.int 3)) (Mi.aCons (Mi.eC (.int 8)) Mi.aNil)))) (Mi.eA Mi.aInt2 (Mi.aCons (Mi.e2 Mi.gEqU (Mi.e2 Mi.gMod (Mi.eCall C "_law_cell_at" (Mi.aCons (Mi.eVar 0) (Mi.aCons (Mi.eC (.int 1)) Mi.aNil))) (Mi.eC (.int 3))) (Mi.eC (.int 0))) Mi.aNil))) Mi.aNil))))
  (Mi.sSeq (Mi.sSet 3 (Mi.eCall C "_law_made" (Mi.aCons (Mi.eVar 1) Mi.aNil)))
  (Mi.sSeq (Mi.sIf (Mi.tNot (Mi.tTru (Mi.eCall C "_law_counted" (Mi.aCons (Mi.eVar 3) (Mi.aCons (Mi.eVar 1) Mi.aNil)))))
    (Mi.sRet (Mi.eC (.bl false)))
    Mi.sNil)
  (Mi.sSeq (Mi.sSet 4 (Mi.eCall C "_law_table" (Mi.aCons (Mi.eVar 0) (Mi.aCons (Mi.eVar 2) (Mi.aCons (Mi.eCall C "_law_numbers_in" (Mi.aCons (Mi.eVar 1) Mi.aNil)) Mi.aNil)))))
  (Mi.sSeq (Mi.sLk 4 (Mi.sSet 5 (Mi.eL (Mi.lComp [6] (.n 6) (Mi.iKeyR 4) Mi.tYes (Mi.eTup (Mi.aCons (Mi.eVar 6) (Mi.aCons (Mi.eA Mi.aDict (Mi.aCons (Mi.e2 Mi.gIxU (Mi.eVar 4) (Mi.eVar 6)) Mi.aNil)) Mi.aNil)))))))
  (Mi.sSeq (Mi.sSet 7 (Mi.eL (Mi.lComp [6] (.n 6) (Mi.iAny (Mi.eL (Mi.lA Mi.aSort (Mi.aCons (Mi.eVar 4) Mi.aNil)))) (Mi.tTru (Mi.eCall C "_law_holds" (Mi.aCons (Mi.eVar 1) (Mi.aCons (Mi.e2 Mi.gIxU (Mi.eVar 4) (Mi.eVar 6)) Mi.aNil)))) (Mi.eVar 6))))
  (Mi.sSeq (Mi.sFor (.n 8) (Mi.iAny (Mi.eVar 2)) (lp_law_1 C))
  (Mi.sSeq (Mi.sSet 9 (Mi.eL (Mi.lComp [6] (.n 6) (Mi.iAny (Mi.eL (Mi.lA Mi.aSort (Mi.aCons (Mi.eVar 4) Mi.aNil)))) (Mi.tV (Mi.e2 Mi.gNotInV (Mi.eVar 6) (Mi.eVar 7))) (Mi.eVar 6))))
  (Mi.sSeq (Mi.sIf (Mi.tOr (Mi.tNot (Mi.tTru (Mi.eCall C "_law_flat" (Mi.aCons (Mi.eCall C "plain_rows" (Mi.aCons (Mi.eVar 3) (Mi.aCons (Mi.eVar 4) Mi.aNil))) (Mi.aCons (Mi.eVar 7) Mi.aNil))))) (Mi.tNot (Mi.tTru (Mi.eCall C "_law_flat" (Mi.aCons (Mi.eCall C "plain_rows" (Mi.aCons (Mi.eMakeF C T "Opposite" (Mi.aCons (Mi.eVar 3) Mi.aNil)) (Mi.aCons (Mi.eVar 4) Mi.aNil))) (Mi.aCons (Mi.eVar 9) Mi.aNil))))))
    (Mi.sRet (Mi.eC (.bl false)))
    Mi.sNil)
  (Mi.sSeq (Mi.sLk 4 (Mi.sIf (Mi.tV (Mi.e2 Mi.gNeW (Mi.eL (Mi.lComp [6] (.n 6) (Mi.iKeyR 4) Mi.tYes (Mi.eTup (Mi.aCons (Mi.eVar 6) (Mi.aCons (Mi.e2 Mi.gIxU (Mi.eVar 4) (Mi.eVar 6)) Mi.aNil))))) (Mi.eVar 5)))
    (Mi.sRet (Mi.eC (.bl false)))
    Mi.sNil))
  (Mi.sSeq (Mi.sIf (Mi.tV (Mi.e2 Mi.gNeW (Mi.eVar 5) (Mi.eL (Mi.lDisp Mi.aNil))))
    (Mi.sSeq (Mi.sSet 10 (Mi.e2 Mi.gIxU (Mi.e2 Mi.gIxU (Mi.eVar 5) (Mi.e2 Mi.gMod (Mi.eCall C "_law_cell_at" (Mi.aCons (Mi.eVar 0) (Mi.aCons (Mi.eC (.int 0)) Mi.aNil))) (Mi.eA Mi.aLen (Mi.aCons (Mi.eVar 5) Mi.aNil)))) (Mi.eC (.int 0))))
  (Mi.sSeq (Mi.sEx (Mi.eDPop (Mi.eVar 4) (Mi.eVar 10)))
  (Mi.sSet 7 (Mi.eL (Mi.lComp [6] (.n 6) (Mi.iAny (Mi.eVar 7)) (Mi.tV (Mi.e2 Mi.gNeU (Mi.eVar 6) (Mi.eVar 10))) (Mi.eVar 6))))))
    Mi.sNil)
  (Mi.sRet (Mi.eCall C "_law_flat" (Mi.aCons (Mi.eCall C "plain_rows" (Mi.aCons (Mi.eVar 3) (Mi.aCons (Mi.eVar 4) Mi.aNil))) (Mi.aCons (Mi.eVar 7) Mi.aNil))))))))))))))))
noncomputable def step (C : Cal) : Cal := fun f => if f = "plain_rows" then Mi.runF 2 3 (b_plain_rows C) else if f = "plain_total" then Mi.runF 3 4 (b_plain_total C) else if f = "plain_least" then Mi.runF 3 6 (b_plain_least C) else if f = "Question.holds" then Mi.runF 2 2 (b_Question_holds C) else if f = "Question.mentions" then Mi.runF 1 1 (b_Question_mentions C) else if f = "Question.leaves" then Mi.runF 1 1 (b_Question_leaves C) else if f = "Question.depth" then Mi.runF 1 1 (b_Question_depth C) else if f = "Every.holds" then Mi.runF 2 2 (b_Every_holds C) else if f = "Within.__init__" then Mi.runF 4 4 (b_Within___init__ C) else if f = "Within.holds" then Mi.runF 2 2 (b_Within_holds C) else if f = "Within.mentions" then Mi.runF 1 1 (b_Within_mentions C) else if f = "Opposite.__init__" then Mi.runF 2 2 (b_Opposite___init__ C) else if f = "Opposite.holds" then Mi.runF 2 2 (b_Opposite_holds C) else if f = "Opposite.mentions" then Mi.runF 1 1 (b_Opposite_mentions C) else if f = "Opposite.leaves" then Mi.runF 1 1 (b_Opposite_leaves C) else if f = "Opposite.depth" then Mi.runF 1 1 (b_Opposite_depth C) else if f = "Chain.__init__" then Mi.runF 2 2 (b_Chain___init__ C) else if f = "Chain.mentions" then Mi.runF 1 3 (b_Chain_mentions C) else if f = "Chain.leaves" then Mi.runF 1 2 (b_Chain_leaves C) else if f = "Chain.depth" then Mi.runF 1 2 (b_Chain_depth C) else if f = "AllOf.holds" then Mi.runF 2 3 (b_AllOf_holds C) else if f = "OneOf.holds" then Mi.runF 2 3 (b_OneOf_holds C) else if f = "_law_cell_at" then Mi.runF 2 2 (b__law_cell_at C) else if f = "_law_whole" then Mi.runF 1 1 (b__law_whole C) else if f = "_law_mixed" then Mi.runF 2 3 (b__law_mixed C) else if f = "_law_flat" then Mi.runF 2 3 (b__law_flat C) else if f = "_law_name_of" then Mi.runF 1 1 (b__law_name_of C) else if f = "_law_names" then Mi.runF 2 9 (b__law_names C) else if f = "_law_leaf" then Mi.runF 3 8 (b__law_leaf C) else if f = "_law_built" then Mi.runF 2 13 (b__law_built C) else if f = "_law_made" then Mi.runF 1 3 (b__law_made C) else if f = "_law_holds" then Mi.runF 2 3 (b__law_holds C) else if f = "_law_numbers_in" then Mi.runF 1 3 (b__law_numbers_in C) else if f = "_law_measure" then Mi.runF 1 6 (b__law_measure C) else if f = "_law_table" then Mi.runF 3 10 (b__law_table C) else if f = "_law_counted" then Mi.runF 2 6 (b__law_counted C) else if f = "_law_summed" then Mi.runF 4 7 (b__law_summed C) else if f = "law" then Mi.runF 1 11 (b_law C) else fun _ _ => .bad
noncomputable def call : Nat → Cal
  | 0 => fun _ _ _ => .bad
  | n + 1 => step (call n)
theorem c_plain_rows (n : Nat) : call (n + 1) "plain_rows" = Mi.runF 2 3 (b_plain_rows (call n)) := by simp [call, step]
theorem c_plain_total (n : Nat) : call (n + 1) "plain_total" = Mi.runF 3 4 (b_plain_total (call n)) := by simp [call, step]
theorem c_plain_least (n : Nat) : call (n + 1) "plain_least" = Mi.runF 3 6 (b_plain_least (call n)) := by simp [call, step]
theorem c_Question_holds (n : Nat) : call (n + 1) "Question.holds" = Mi.runF 2 2 (b_Question_holds (call n)) := by simp [call, step]
theorem c_Question_mentions (n : Nat) : call (n + 1) "Question.mentions" = Mi.runF 1 1 (b_Question_mentions (call n)) := by simp [call, step]
theorem c_Question_leaves (n : Nat) : call (n + 1) "Question.leaves" = Mi.runF 1 1 (b_Question_leaves (call n)) := by simp [call, step]
theorem c_Question_depth (n : Nat) : call (n + 1) "Question.depth" = Mi.runF 1 1 (b_Question_depth (call n)) := by simp [call, step]
theorem c_Every_holds (n : Nat) : call (n + 1) "Every.holds" = Mi.runF 2 2 (b_Every_holds (call n)) := by simp [call, step]
theorem c_Within___init__ (n : Nat) : call (n + 1) "Within.__init__" = Mi.runF 4 4 (b_Within___init__ (call n)) := by simp [call, step]
theorem c_Within_holds (n : Nat) : call (n + 1) "Within.holds" = Mi.runF 2 2 (b_Within_holds (call n)) := by simp [call, step]
theorem c_Within_mentions (n : Nat) : call (n + 1) "Within.mentions" = Mi.runF 1 1 (b_Within_mentions (call n)) := by simp [call, step]
theorem c_Opposite___init__ (n : Nat) : call (n + 1) "Opposite.__init__" = Mi.runF 2 2 (b_Opposite___init__ (call n)) := by simp [call, step]
theorem c_Opposite_holds (n : Nat) : call (n + 1) "Opposite.holds" = Mi.runF 2 2 (b_Opposite_holds (call n)) := by simp [call, step]
theorem c_Opposite_mentions (n : Nat) : call (n + 1) "Opposite.mentions" = Mi.runF 1 1 (b_Opposite_mentions (call n)) := by simp [call, step]
theorem c_Opposite_leaves (n : Nat) : call (n + 1) "Opposite.leaves" = Mi.runF 1 1 (b_Opposite_leaves (call n)) := by simp [call, step]
theorem c_Opposite_depth (n : Nat) : call (n + 1) "Opposite.depth" = Mi.runF 1 1 (b_Opposite_depth (call n)) := by simp [call, step]
theorem c_Chain___init__ (n : Nat) : call (n + 1) "Chain.__init__" = Mi.runF 2 2 (b_Chain___init__ (call n)) := by simp [call, step]
theorem c_Chain_mentions (n : Nat) : call (n + 1) "Chain.mentions" = Mi.runF 1 3 (b_Chain_mentions (call n)) := by simp [call, step]
theorem c_Chain_leaves (n : Nat) : call (n + 1) "Chain.leaves" = Mi.runF 1 2 (b_Chain_leaves (call n)) := by simp [call, step]
theorem c_Chain_depth (n : Nat) : call (n + 1) "Chain.depth" = Mi.runF 1 2 (b_Chain_depth (call n)) := by simp [call, step]
theorem c_AllOf_holds (n : Nat) : call (n + 1) "AllOf.holds" = Mi.runF 2 3 (b_AllOf_holds (call n)) := by simp [call, step]
theorem c_OneOf_holds (n : Nat) : call (n + 1) "OneOf.holds" = Mi.runF 2 3 (b_OneOf_holds (call n)) := by simp [call, step]
theorem c__law_cell_at (n : Nat) : call (n + 1) "_law_cell_at" = Mi.runF 2 2 (b__law_cell_at (call n)) := by simp [call, step]
theorem c__law_whole (n : Nat) : call (n + 1) "_law_whole" = Mi.runF 1 1 (b__law_whole (call n)) := by simp [call, step]
theorem c__law_mixed (n : Nat) : call (n + 1) "_law_mixed" = Mi.runF 2 3 (b__law_mixed (call n)) := by simp [call, step]
theorem c__law_flat (n : Nat) : call (n + 1) "_law_flat" = Mi.runF 2 3 (b__law_flat (call n)) := by simp [call, step]
theorem c__law_name_of (n : Nat) : call (n + 1) "_law_name_of" = Mi.runF 1 1 (b__law_name_of (call n)) := by simp [call, step]
theorem c__law_names (n : Nat) : call (n + 1) "_law_names" = Mi.runF 2 9 (b__law_names (call n)) := by simp [call, step]
theorem c__law_leaf (n : Nat) : call (n + 1) "_law_leaf" = Mi.runF 3 8 (b__law_leaf (call n)) := by simp [call, step]
theorem c__law_built (n : Nat) : call (n + 1) "_law_built" = Mi.runF 2 13 (b__law_built (call n)) := by simp [call, step]
theorem c__law_made (n : Nat) : call (n + 1) "_law_made" = Mi.runF 1 3 (b__law_made (call n)) := by simp [call, step]
theorem c__law_holds (n : Nat) : call (n + 1) "_law_holds" = Mi.runF 2 3 (b__law_holds (call n)) := by simp [call, step]
theorem c__law_numbers_in (n : Nat) : call (n + 1) "_law_numbers_in" = Mi.runF 1 3 (b__law_numbers_in (call n)) := by simp [call, step]
theorem c__law_measure (n : Nat) : call (n + 1) "_law_measure" = Mi.runF 1 6 (b__law_measure (call n)) := by simp [call, step]
theorem c__law_table (n : Nat) : call (n + 1) "_law_table" = Mi.runF 3 10 (b__law_table (call n)) := by simp [call, step]
theorem c__law_counted (n : Nat) : call (n + 1) "_law_counted" = Mi.runF 2 6 (b__law_counted (call n)) := by simp [call, step]
theorem c__law_summed (n : Nat) : call (n + 1) "_law_summed" = Mi.runF 4 7 (b__law_summed (call n)) := by simp [call, step]
theorem c_law (n : Nat) : call (n + 1) "law" = Mi.runF 1 11 (b_law (call n)) := by simp [call, step]
end Pg

set_option linter.all false
/-! # Ms: how the small world's words are read -/
namespace Mi
theorem le_big {n : Nat} (h : n ≤ 1000000) : n ≤ big := by rw [big_is]; omega
@[simp] theorem le_big_t {n : Nat} (h : n ≤ 1000000) : (n ≤ big) = True := eq_true (le_big h)
@[simp] theorem lim30_t {n : Nat} (h : n < 1073741824) : (n < lim30) = True := eq_true (by rw [lim30_is]; exact h)
@[simp] theorem lim64N_t {n : Nat} (h : n < 2 ^ 64) : (n < lim64N) = True := eq_true (by rw [lim64N_is]; exact h)
@[simp] theorem limE_t {n : Int} (h : n ≤ 1000000) : (n ≤ limE) = True := eq_true (by rw [limE_is]; exact h)
theorem small_of {i : Int} (h : -(2 ^ 64) < i) (h2 : i < 2 ^ 64) : small64 i = true := by unfold small64; rw [lim64_is]; exact decide_eq_true ⟨h, h2⟩
theorem small_nn {i : Int} (h : 0 ≤ i) (h2 : i < 18446744073709551616) : small64 i = true := small_of (by omega) (by omega)
theorem in62_of {i : Int} (h : 0 ≤ i) (h2 : i < 4611686018427387904) : in62 i = true := by unfold in62; rw [lim62_is]; exact decide_eq_true ⟨by omega, by omega⟩
@[simp] theorem lt_big_t {n : Nat} (h : n ≤ 1000000) : (n < big) = True := eq_true (by rw [big_is]; omega)
@[simp] theorem sSeq_ap (s t : Sv) (m : Me) : sSeq s t m = (s m).seq t := rfl
@[simp] theorem sNil_ap (m : Me) : sNil m = .nx m := rfl
@[simp] theorem sSet_ap (i : Nat) (e : Ev) (m : Me) : sSet i e m = (e m).so fun x m1 => match x with | .v d => if i < m1.σ.length then .nx ⟨m1.σ.set i (some (.v d)), m1.S⟩ else .bad | _ => .bad := rfl
@[simp] theorem sOwn_ap (i : Nat) (l : Lv) (m : Me) : sOwn i l m = (l m).so fun xs m1 => if i < m1.σ.length then .nx ⟨m1.σ.set i (some (.o (.lst xs))), m1.S⟩ else .bad := rfl
@[simp] theorem sOwnD_ap (i : Nat) (m : Me) : sOwnD i m = if i < m.σ.length then .nx ⟨m.σ.set i (some (.o (.dct []))), m.S⟩ else .bad := rfl
@[simp] theorem sBd_ap (b : Bd) (e : Ev) (m : Me) : sBd b e m = (e m).so fun x m1 => match x with | .v d => (match b.set d m1.σ with | some σ => .nx ⟨σ, m1.S⟩ | none => .bad) | _ => .bad := rfl
@[simp] theorem sEx_ap (e : Ev) (m : Me) : sEx e m = (e m).so fun _ m1 => .nx m1 := rfl
@[simp] theorem sRet_ap (e : Ev) (m : Me) : sRet e m = (e m).so fun x m1 => match x with | .v d => .rt d m1 | _ => .bad := rfl
@[simp] theorem sRetN_ap (m : Me) : sRetN m = .rt .non m := rfl
@[simp] theorem sIf_ap (t : Tv) (a b : Sv) (m : Me) : sIf t a b m = (t m).so fun x m1 => if x then a m1 else b m1 := rfl
@[simp] theorem sBk_ap (m : Me) : sBk m = .bk m := rfl
@[simp] theorem sCt_ap (m : Me) : sCt m = .ct m := rfl
@[simp] theorem sFor_ap (b : Bd) (it : Iv) (body : Sv) (m : Me) : sFor b it body m = (it m).so fun xs m1 => forL b body xs m1 := rfl
@[simp] theorem eC_ap (d : D) (m : Me) : eC d m = .ok (.v d) m := rfl
@[simp] theorem eVar_ap (i : Nat) (σ : Env) (S : List SC) : eVar i ⟨σ, S⟩ = match σ[i]? with | some (some (.v d)) => .ok (.v d) ⟨σ, S⟩ | some (some (.o _)) => .ok (.sl i) ⟨σ, S⟩ | _ => .bad := rfl
@[simp] theorem eFrz_ap (i : Nat) (σ : Env) (S : List SC) : eFrz i ⟨σ, S⟩ = match σ[i]? with | some (some (.o (.lst xs))) => .ok (.v (.lst xs)) ⟨σ.set i (some (.v (.lst xs))), S⟩ | some (some (.o (.dct kvs))) => .ok (.v (.dct kvs)) ⟨σ.set i (some (.v (.dct kvs))), S⟩ | _ => .bad := rfl
@[simp] theorem e2_ap (g) (a b : Ev) (m : Me) : e2 g a b m = (a m).bind fun x m1 => (b m1).bind fun y m2 => (Res.opt (g x y m2) m2).bind fun d m3 => .ok (.v d) m3 := rfl
@[simp] theorem e1_ap (g) (a : Ev) (m : Me) : e1 g a m = (a m).bind fun x m1 => (Res.opt (g x m1) m1).bind fun d m3 => .ok (.v d) m3 := rfl
@[simp] theorem eA_ap (g) (a : Av) (m : Me) : eA g a m = (a m).bind fun ps m1 => (Res.opt (g ps m1) m1).bind fun d m2 => .ok (.v d) m2 := rfl
@[simp] theorem lA_ap (g) (a : Av) (m : Me) : lA g a m = (a m).bind fun ps m1 => Res.opt (g ps m1) m1 := rfl
@[simp] theorem eAK_ap (g) (a k : Av) (m : Me) : eAK g a k m = (a m).bind fun ps m1 => (k m1).bind fun zs m2 => (Res.opt (g ps zs m2) m2).bind fun d m3 => .ok (.v d) m3 := rfl
@[simp] theorem aNil_ap (m : Me) : aNil m = .ok [] m := rfl
@[simp] theorem aCons_ap (a : Ev) (r : Av) (m : Me) : aCons a r m = (a m).bind fun x m1 => (r m1).bind fun xs m2 => .ok (x :: xs) m2 := rfl
@[simp] theorem eTup_ap (a : Av) (m : Me) : eTup a m = (a m).bind fun ps m1 => match PV.ds ps with | some xs => if xs.length ≤ big then .ok (.v (.tup xs)) m1 else .bad | none => .bad := rfl
@[simp] theorem lDisp_ap (a : Av) (m : Me) : lDisp a m = (a m).bind fun ps m1 => match PV.ds ps with | some xs => if xs.length ≤ big then .ok xs m1 else .bad | none => .bad := rfl
@[simp] theorem eL_ap (l : Lv) (m : Me) : eL l m = (l m).bind fun xs m1 => .ok (.v (.lst xs)) m1 := rfl
@[simp] theorem lCat_ap (a b : Ev) (m : Me) : lCat a b m = (a m).bind fun x m1 => (b m1).bind fun y m2 => match m2.cl x, m2.cl y with
  | some (.lst xs), some (.lst ys) => if xs.length + ys.length ≤ big then .ok (xs ++ ys) m2 else .bad
  | _, _ => .bad := rfl
@[simp] theorem oNone_ap (m : Me) : oNone m = .ok none m := rfl
@[simp] theorem oSome_ap (e : Ev) (m : Me) : oSome e m = (e m).bind fun x m1 => match x with | .v (.int i) => .ok (some i) m1 | _ => .bad := rfl
@[simp] theorem lCut_ap (a : Ev) (lo hi : Ov) (m : Me) : lCut a lo hi m = (a m).bind fun x m1 => (lo m1).bind fun l m2 => (hi m2).bind fun h m3 => match x, m3.cl x with
  | .v (.scr xs), _ => .ok (cut xs l h) m3
  | _, some (.lst xs) => .ok (cut xs l h) m3
  | _, _ => .bad := rfl
@[simp] theorem eCutT_ap (a : Ev) (lo hi : Ov) (m : Me) : eCutT a lo hi m = (a m).bind fun x m1 => (lo m1).bind fun l m2 => (hi m2).bind fun h m3 => match x with
  | .v (.str z) => if z.length ≤ big then .ok (.v (.str (cut z l h))) m3 else .bad
  | _ => .bad := rfl
@[simp] theorem tV_ap (e : Ev) (m : Me) : tV e m = (e m).bind fun x m1 => match x with | .v (.bl b) => .ok b m1 | _ => .bad := rfl
@[simp] theorem tAnd_ap (a b : Tv) (m : Me) : tAnd a b m = (a m).bind fun x m1 => if x then b m1 else .ok false m1 := rfl
@[simp] theorem tOr_ap (a b : Tv) (m : Me) : tOr a b m = (a m).bind fun x m1 => if x then .ok true m1 else b m1 := rfl
@[simp] theorem tNot_ap (a : Tv) (m : Me) : tNot a m = (a m).bind fun x m1 => .ok (!x) m1 := rfl
@[simp] theorem tTru_ap (e : Ev) (m : Me) : tTru e m = (e m).bind fun x m1 => match x with
  | .v (.bl b) => .ok b m1
  | .v (.int i) => .ok (i != 0) m1
  | .v .non => .ok false m1
  | _ => match m1.items x with | some xs => .ok (!xs.isEmpty) m1 | none => .bad := rfl
@[simp] theorem tYes_ap (m : Me) : tYes m = .ok true m := rfl
@[simp] theorem eIf_ap (t : Tv) (a b : Ev) (m : Me) : eIf t a b m = (t m).bind fun x m1 => if x then a m1 else b m1 := rfl
@[simp] theorem eAnd_ap (a b : Ev) (m : Me) : eAnd a b m = (a m).bind fun x m1 => match x with | .v (.bl true) => b m1 | .v (.bl false) => .ok (.v (.bl false)) m1 | _ => .bad := rfl
@[simp] theorem eOr_ap (a b : Ev) (m : Me) : eOr a b m = (a m).bind fun x m1 => match x with | .v (.bl true) => .ok (.v (.bl true)) m1 | .v (.bl false) => b m1 | _ => .bad := rfl
@[simp] theorem eChain_ap (p q : Int → Int → Bool) (a b c : Ev) (m : Me) : eChain p q a b c m = (a m).bind fun x m1 => (b m1).bind fun y m2 => match x, y with
  | .v (.int i), .v (.int j) => if p i j then (c m2).bind fun z m3 => (match z with
      | .v (.int k) => .ok (.v (.bl (q j k))) m3
      | _ => .bad) else .ok (.v (.bl false)) m2
  | _, _ => .bad := rfl
@[simp] theorem iRg1_ap (a : Ev) (m : Me) : iRg1 a m = (a m).bind fun x m1 => match x with | .v (.int j) => if in62 j then .ok (intsL 0 j.toNat) m1 else .bad | _ => .bad := rfl
@[simp] theorem iRg2_ap (a b : Ev) (m : Me) : iRg2 a b m = (a m).bind fun x m1 => (b m1).bind fun y m2 => match x, y with
  | .v (.int i), .v (.int j) => if in62 i && in62 j then .ok (intsL i (j - i).toNat) m2 else .bad
  | _, _ => .bad := rfl
@[simp] theorem iAny_ap (e : Ev) (m : Me) : iAny e m = (e m).bind fun x m1 => match x with
  | .v (.lst xs) => .ok xs m1
  | .v (.scr xs) => .ok xs m1
  | .v (.tup xs) => .ok xs m1
  | .v (.str z) => .ok (z.map fun c => .str [c]) m1
  | _ => .bad := rfl
@[simp] theorem iEnum_ap (e : Ev) (m : Me) : iEnum e m = (e m).bind fun x m1 => match x with | .v (.lst xs) => .ok (enum xs) m1 | _ => .bad := rfl
@[simp] theorem eCall_ap (C : Cal) (f : String) (a : Av) (m : Me) : eCall C f a m = (a m).bind fun ps m1 => match PV.ds ps with | some ds => (C f ds m1.S).res m1.σ | none => .bad := rfl
@[simp] theorem eMeth_ap (C : Cal) (T : Tb) (f : String) (o : Ev) (a : Av) (m : Me) : eMeth C T f o a m = match o m with
  | .ok x m1 => (match m1.obj x, x.d with
    | some (c, fs), some d => (match T.mt c f, fs.lookup f with
      | some key, none => (a m1).bind fun ps m2 => (match PV.ds ps with
        | some ds => (C key (d :: ds) m2.S).res m2.σ
        | none => .bad)
      | _, _ => .bad)
    | _, _ => .bad)
  | _ => .bad := rfl
@[simp] theorem eFld_ap (T : Tb) (f : String) (o : Ev) (m : Me) : eFld T f o m = (o m).bind fun x m1 => match m1.obj x with
  | some (c, fs) => if T.fl c f then (match fs.lookup f with | some (.v d) => .ok (.v d) m1 | _ => .bad) else .bad
  | none => .bad := rfl
@[simp] theorem eMake0_ap (T : Tb) (c : String) (m : Me) : eMake0 T c m = if T.ini c = some "" then .ok (.v (.obj c [])) m else .bad := rfl
@[simp] theorem eMut_ap (g) (a : Ev) (as : Av) (m : Me) : eMut g a as m = (a m).bind fun x m1 => if isL (m1.own x) then (as m1).bind fun ps m2 => (match m2.own x, PV.ds ps with
  | some (.lst xs), some ds => (match g xs ds with | some (d, ys) => .ok (.v d) (m2.put x (.lst ys)) | none => .bad)
  | _, _ => .bad) else .bad := rfl
@[simp] theorem sPutK_ap (a i e : Ev) (m : Me) : sPutK a i e m = (e m).so fun v m1 => (a m1).so fun x m2 => (i m2).so fun y m3 => match m3.own x, ky y, v with
  | some (.dct kvs), some k, .v d => if kvs.length < big then .nx (m3.put x (.dct (putKv kvs k d))) else .bad
  | _, _, _ => .bad := rfl
@[simp] theorem sSetIx_ap (a i e : Ev) (m : Me) : sSetIx a i e m = (e m).so fun v m1 => (a m1).so fun x m2 => (i m2).so fun y m3 => match m3.own x, y, v with
  | some (.lst xs), .v (.int k), .v d => (match ixN xs.length k with | some j => .nx (m3.put x (.lst (xs.set j d))) | none => .bad)
  | _, _, _ => .bad := rfl
@[simp] theorem sFld_ap (T : Tb) (f : String) (o e : Ev) (m : Me) : sFld T f o e m = (e m).so fun y m1 => (o m1).so fun x m2 => match x, y with
  | .v (.ref n), .v d => (match m2.S[n]? with
    | some (.ins c fs) => if T.fl c f ∧ fs.length < 1000 ∧ (fs.all fun p => match p.2 with | .v _ => true | _ => false) then .nx ⟨m2.σ, m2.S.set n (.ins c (putF fs f (.v d)))⟩ else .bad
    | _ => .bad)
  | _, _ => .bad := rfl
/-! ### operators -/
@[simp] theorem gAddU_int (i j : Int) (m : Me) : gAddU (.v (.int i)) (.v (.int j)) m = some (.int (i + j)) := rfl
theorem gAddU_str (a b : Tx) (m : Me) (h : a.length + b.length ≤ big) : gAddU (.v (.str a)) (.v (.str b)) m = some (.str (a ++ b)) := by simp [gAddU, orG, gAdd, h]
theorem gAddU_lst (a b : List D) (m : Me) (h : a.length + b.length ≤ big) : gAddU (.v (.lst a)) (.v (.lst b)) m = some (.lst (a ++ b)) := by simp [gAddU, orG, gAdd, gCat, Me.cl, h]
@[simp] theorem gSub_int (i j : Int) (m : Me) : gSub (.v (.int i)) (.v (.int j)) m = some (.int (i - j)) := rfl
theorem gMul_int (i j : Int) (m : Me) (h : (small64 i || small64 j) = true) : gMul (.v (.int i)) (.v (.int j)) m = some (.int (i * j)) := by simp [gMul, gI, h]
theorem gMod_int (i j : Int) (m : Me) (h : j ≠ 0) : gMod (.v (.int i)) (.v (.int j)) m = some (.int (i.fmod j)) := by simp [gMod, gI, h]
theorem gDiv_int (i j : Int) (m : Me) (h : j ≠ 0) (h2 : j.natAbs < lim30) : gDiv (.v (.int i)) (.v (.int j)) m = some (.int (i.fdiv j)) := by simp [gDiv, gI, h, h2]
theorem gPow_int (i j : Int) (m : Me) (h : 0 ≤ j) (h1 : j ≤ limE) (h2 : i.natAbs < lim64N) : gPow (.v (.int i)) (.v (.int j)) m = some (.int (i ^ j.toNat)) := by simp [gPow, gI, h, h1, h2]
@[simp] theorem gNeg_int (i : Int) (m : Me) : gNeg (.v (.int i)) m = some (.int (-i)) := rfl
@[simp] theorem gCmp_int (p) (i j : Int) (m : Me) : gCmp p (.v (.int i)) (.v (.int j)) m = some (.bl (p i j)) := rfl
@[simp] theorem gNot_bl (b : Bool) (m : Me) : gNot (.v (.bl b)) m = some (.bl (!b)) := rfl
@[simp] theorem gEqU_int (i j : Int) (m : Me) : gEqU (.v (.int i)) (.v (.int j)) m = some (.bl (i == j)) := rfl
@[simp] theorem gNeU_int (i j : Int) (m : Me) : gNeU (.v (.int i)) (.v (.int j)) m = some (.bl (!(i == j))) := rfl
@[simp] theorem gEqU_bl (i j : Bool) (m : Me) : gEqU (.v (.bl i)) (.v (.bl j)) m = some (.bl (i == j)) := rfl
@[simp] theorem gNeU_bl (i j : Bool) (m : Me) : gNeU (.v (.bl i)) (.v (.bl j)) m = some (.bl (!(i == j))) := rfl
@[simp] theorem gEqU_str (i j : Tx) (m : Me) : gEqU (.v (.str i)) (.v (.str j)) m = some (.bl (i == j)) := rfl
@[simp] theorem gNeU_str (i j : Tx) (m : Me) : gNeU (.v (.str i)) (.v (.str j)) m = some (.bl (!(i == j))) := rfl
@[simp] theorem gIxU_lst (xs : List D) (i : Int) (m : Me) : gIxU (.v (.lst xs)) (.v (.int i)) m = atI xs i := by
  show (match atI xs i with | some d => some d | none => none) = _
  cases atI xs i <;> rfl
@[simp] theorem gIxU_tup (xs : List D) (i : Int) (m : Me) : gIxU (.v (.tup xs)) (.v (.int i)) m = atI xs i := by
  show (match atI xs i with | some d => some d | none => none) = _
  cases atI xs i <;> rfl
@[simp] theorem gIxU_scr (xs : List D) (i : Int) (m : Me) : gIxU (.v (.scr xs)) (.v (.int i)) m = atI xs i := by
  show (match atI xs i with | some d => some d | none => none) = _
  cases atI xs i <;> rfl
theorem gIxU_str (z : Tx) (i : Int) (m : Me) (h : z.length ≤ big) : gIxU (.v (.str z)) (.v (.int i)) m = (atI z i).map fun c => .str [c] := by
  unfold gIxU orG gIxT
  show (match (if z.length ≤ big then (atI z i).map fun c => D.str [c] else none) with | some d => some d | none => none) = _
  rw [if_pos h]
  cases (atI z i).map fun c => D.str [c] <;> rfl
theorem gIxU_dct (kvs : List (Ky × D)) (k : D) (m : Me) {q : Ky} (hk : kyOf k = some q) : gIxU (.v (.dct kvs)) (.v k) m = look kvs q := by
  unfold gIxU orG
  have h1 : gIx (.v (.dct kvs)) (.v k) m = none := by unfold gIx; rfl
  have h2 : gIxT (.v (.dct kvs)) (.v k) m = none := by cases k <;> rfl
  rw [h1, h2]
  show (match m.kvs (.v (.dct kvs)), ky (.v k) with | some kvs, some k => look kvs k | _, _ => none) = _
  rw [show ky (.v k) = some q from hk]
  rfl
theorem gIxU_sl (i : Nat) (j : Int) (m : Me) {xs : List D} (h : m.slot i = some (.lst xs)) : gIxU (.sl i) (.v (.int j)) m = atI xs j := by
  unfold gIxU orG gIx
  have h0 : m.items (.sl i) = some xs := by unfold Me.items Me.cl; simp only [h]
  rw [h0]
  show (match atI xs j with | some d => some d | none => orG gIxT gKey (.sl i) (.v (.int j)) m) = _
  cases q : atI xs j with
  | some d => rfl
  | none =>
    unfold orG gIxT gKey Me.kvs Me.cl
    simp only [h]
end Mi
namespace Mi
/-! ### loops -/
/-- the body comes to its end, and there P holds -/
def Out.go (o : Out) (P : Me → Prop) : Prop := match o with | .nx m => P m | .ct m => P m | _ => False
@[simp] theorem Out.go_nx (m : Me) (P : Me → Prop) : (Out.nx m).go P = P m := rfl
@[simp] theorem Out.go_ct (m : Me) (P : Me → Prop) : (Out.ct m).go P = P m := rfl
def Bd.go (b : Bd) (x : D) (body : Sv) (m : Me) (P : Me → Prop) : Prop := match b.set x m.σ with | some σ1 => (body ⟨σ1, m.S⟩).go P | none => False
@[simp] theorem Bd.go_n (i : Nat) (x : D) (body : Sv) (σ : Env) (S : List SC) (P : Me → Prop) : (Bd.n i).go x body ⟨σ, S⟩ P = if i < σ.length then (body ⟨σ.set i (some (.v x)), S⟩).go P else False := by
  unfold Bd.go Bd.set
  by_cases h : i < σ.length <;> simp [h]
theorem forL_inv {b : Bd} {body : Sv} (I : Nat → Me → Prop) : ∀ (xs : List D) (m : Me) (k : Nat), I k m →
    (∀ i x m, xs[i]? = some x → I (k + i) m → b.go x body m (I (k + i + 1))) → ∃ m', forL b body xs m = .nx m' ∧ I (k + xs.length) m'
  | [], m, k, h0, _ => ⟨m, rfl, h0⟩
  | x :: xs, m, k, h0, hs => by
    have h1 := hs 0 x m rfl h0
    unfold Bd.go at h1
    cases q : b.set x m.σ with
    | none => rw [q] at h1; exact h1.elim
    | some σ1 =>
      rw [q] at h1
      dsimp only at h1
      have fin : ∀ m2, I (k + 0 + 1) m2 → (body ⟨σ1, m.S⟩ = .nx m2 ∨ body ⟨σ1, m.S⟩ = .ct m2) → ∃ m', forL b body (x :: xs) m = .nx m' ∧ I (k + (x :: xs).length) m' := fun m2 h2 e2 => by
        obtain ⟨m', e3, h3⟩ := forL_inv I xs m2 (k + 1) h2 fun i y m hy hi => by
          have q : k + 1 + i = k + (i + 1) := by omega
          rw [q] at hi ⊢
          exact hs (i + 1) y m (by simpa using hy) hi
        refine ⟨m', ?_, by rw [show k + (x :: xs).length = k + 1 + xs.length by simp; omega]; exact h3⟩
        unfold forL
        rw [q]
        rcases e2 with e2 | e2 <;> simp only [e2, e3]
      cases q2 : body ⟨σ1, m.S⟩ with
      | nx m2 => rw [q2] at h1; exact fin m2 h1 (.inl q2)
      | ct m2 => rw [q2] at h1; exact fin m2 h1 (.inr q2)
      | rt d m2 => rw [q2] at h1; exact h1.elim
      | bk m2 => rw [q2] at h1; exact h1.elim
      | ex x m2 => rw [q2] at h1; exact h1.elim
      | bad => rw [q2] at h1; exact h1.elim
/-- a loop over 0 .. n-1 -/
theorem for_range {b : Bd} {body : Sv} (I : Nat → Me → Prop) (n : Nat) (m : Me) (h0 : I 0 m)
    (hs : ∀ (i : Nat) m, i < n → I i m → b.go (.int i) body m (I (i + 1))) : ∃ m', forL b body (intsL 0 n) m = .nx m' ∧ I n m' := by
  have := forL_inv (b := b) (body := body) I (intsL 0 n) m 0 h0 fun i x m hx hi => by
    unfold intsL at hx
    rw [List.getElem?_map] at hx
    obtain ⟨j, hj, rfl⟩ := Option.map_eq_some_iff.mp hx
    obtain ⟨hl, rfl⟩ := List.getElem?_eq_some_iff.mp hj
    simp only [List.getElem_range, Int.zero_add, Nat.zero_add, List.length_range] at hi hl ⊢
    exact hs i m hl hi
  simpa [intsL] using this
theorem comp_map {b : Bd} {e : Ev} {σ : Env} {S : List SC} (f : D → D) : ∀ (xs acc : List D), (∀ x ∈ xs, ∃ σ1, b.set x σ = some σ1 ∧ e ⟨σ1, S⟩ = .ok (.v (f x)) ⟨σ1, S⟩) → acc.length + xs.length ≤ big → comp b tYes e σ xs S acc = .ok (acc ++ xs.map f) ⟨σ, S⟩
  | [], acc, _, _ => by simp [comp]
  | x :: xs, acc, h, hl => by
    obtain ⟨σ1, e1, e2⟩ := h x List.mem_cons_self
    rw [List.length_cons] at hl
    have := comp_map f xs (acc ++ [f x]) (fun y hy => h y (List.mem_cons_of_mem _ hy)) (by rw [List.length_append, List.length_singleton]; omega)
    unfold comp
    rw [e1]
    simp only [tYes_ap]
    rw [if_pos trivial, e2]
    dsimp only
    rw [if_pos ⟨rfl, by omega⟩, this]
    simp
theorem comp_filter {b : Bd} {t : Tv} {e : Ev} {σ : Env} {S : List SC} (p : D → Bool) (f : D → D) : ∀ (xs acc : List D), (∀ x ∈ xs, ∃ σ1, b.set x σ = some σ1 ∧ t ⟨σ1, S⟩ = .ok (p x) ⟨σ1, S⟩ ∧ (p x = true → e ⟨σ1, S⟩ = .ok (.v (f x)) ⟨σ1, S⟩)) → acc.length + xs.length ≤ big → comp b t e σ xs S acc = .ok (acc ++ (xs.filter p).map f) ⟨σ, S⟩
  | [], acc, _, _ => by simp [comp]
  | x :: xs, acc, h, hl => by
    obtain ⟨σ1, e1, e2, e3⟩ := h x List.mem_cons_self
    rw [List.length_cons] at hl
    unfold comp
    rw [e1]
    dsimp only
    rw [e2]
    cases q : p x with
    | true =>
      have := comp_filter p f xs (acc ++ [f x]) (fun y hy => h y (List.mem_cons_of_mem _ hy)) (by rw [List.length_append, List.length_singleton]; omega)
      dsimp only
      rw [if_pos rfl, e3 q]
      dsimp only
      rw [if_pos ⟨rfl, by omega⟩, this]
      simp [q]
    | false =>
      have := comp_filter p f xs acc (fun y hy => h y (List.mem_cons_of_mem _ hy)) (by omega)
      dsimp only
      rw [if_pos rfl, this]
      simp [q]
end Mi
namespace Mi
/-! ### lists that are made item by item -/
inductive Two {α β : Type} (P : α → β → Prop) : List α → List β → Prop
  | nil : Two P [] []
  | cons {a b as bs} : P a b → Two P as bs → Two P (a :: as) (b :: bs)
theorem Two.length {α β : Type} {P : α → β → Prop} {xs : List α} {ys : List β} (h : Two P xs ys) : xs.length = ys.length := by
  induction h with
  | nil => rfl
  | cons _ _ ih => simp [ih]
theorem comp_two {b : Bd} {e : Ev} {σ : Env} {S : List SC} : ∀ {xs ys : List D} (acc : List D), Two (fun x y => ∃ σ1, b.set x σ = some σ1 ∧ e ⟨σ1, S⟩ = .ok (.v y) ⟨σ1, S⟩) xs ys → acc.length + xs.length ≤ big → comp b tYes e σ xs S acc = .ok (acc ++ ys) ⟨σ, S⟩
  | _, _, acc, .nil, _ => by simp [comp]
  | _, _, acc, .cons (a := x) (b := y) (as := xs) (bs := ys) ⟨σ1, e1, e2⟩ t, hl => by
    rw [List.length_cons] at hl
    have := comp_two (acc ++ [y]) t (by rw [List.length_append, List.length_singleton]; omega)
    unfold comp
    rw [e1]
    simp only [tYes_ap]
    rw [if_pos trivial, e2]
    dsimp only
    rw [if_pos ⟨rfl, by omega⟩, this]
    simp
theorem two_imp {α β : Type} {P R : α → β → Prop} (h : ∀ a b, P a b → R a b) : ∀ {xs : List α} {ys : List β}, Two P xs ys → Two R xs ys
  | _, _, .nil => .nil
  | _, _, .cons p t => .cons (h _ _ p) (two_imp h t)
/-- the items whose mark is true -/
def sel {α : Type} : List α → List Bool → List α
  | x :: xs, true :: bs => x :: sel xs bs
  | _ :: xs, false :: bs => sel xs bs
  | _, _ => []
theorem comp_sel {b : Bd} {t : Tv} {e : Ev} {σ : Env} {S : List SC} : ∀ {xs : List D} {bs : List Bool} (acc : List D), Two (fun x c => ∃ σ1, b.set x σ = some σ1 ∧ t ⟨σ1, S⟩ = .ok c ⟨σ1, S⟩ ∧ e ⟨σ1, S⟩ = .ok (.v x) ⟨σ1, S⟩) xs bs → acc.length + xs.length ≤ big → comp b t e σ xs S acc = .ok (acc ++ sel xs bs) ⟨σ, S⟩
  | _, _, acc, .nil, _ => by simp [comp, sel]
  | _, _, acc, .cons (a := x) (b := c) (as := xs) (bs := bs) ⟨σ1, e1, e2, e3⟩ t, hl => by
    rw [List.length_cons] at hl
    unfold comp
    rw [e1]
    dsimp only
    rw [e2]
    cases c with
    | true =>
      have := comp_sel (acc ++ [x]) t (by rw [List.length_append, List.length_singleton]; omega)
      dsimp only
      rw [if_pos rfl, e3]
      dsimp only
      rw [if_pos ⟨rfl, by omega⟩, this]
      simp [sel]
    | false =>
      have := comp_sel acc t (by omega)
      dsimp only
      rw [if_pos rfl, this]
      rfl
theorem sel_le {α : Type} : ∀ (xs : List α) (bs : List Bool), (sel xs bs).length ≤ xs.length
  | [], [] => Nat.le_refl _
  | [], _ :: _ => Nat.le_refl _
  | _ :: _, [] => Nat.zero_le _
  | _ :: xs, true :: bs => by simp [sel]; exact sel_le xs bs
  | _ :: xs, false :: bs => by simp [sel]; exact Nat.le_succ_of_le (sel_le xs bs)
theorem sel_all {α : Type} : ∀ {xs : List α} {bs : List Bool}, xs.length = bs.length → ((sel xs bs).length = xs.length ↔ bs.all id = true)
  | [], [], _ => by simp [sel]
  | _ :: xs, true :: bs, h => by simpa [sel] using sel_all (xs := xs) (bs := bs) (by simpa using h)
  | _ :: xs, false :: bs, h => by
    have := sel_le xs bs
    simp [sel]; omega
theorem sel_nil {α : Type} : ∀ {xs : List α} {bs : List Bool}, xs.length = bs.length → (sel xs bs = [] ↔ bs.any id = false)
  | [], [], _ => by simp [sel]
  | _ :: xs, true :: bs, h => by simp [sel]
  | _ :: xs, false :: bs, h => by simpa [sel] using sel_nil (xs := xs) (bs := bs) (by simpa using h)
theorem lComp_ok {own : List Nat} {b : Bd} {it : Iv} {t : Tv} {e : Ev} {m m1 : Me} {xs ys : List D} {S2 : List SC} (h1 : it m = .ok xs m1) (h2 : own.all (fun j => (m1.slot j).isNone) = true) (h3 : comp b t e (wipe m1.σ own) xs m1.S [] = .ok ys ⟨wipe m1.σ own, S2⟩) : lComp own b it t e m = .ok ys ⟨m1.σ, S2⟩ := by
  unfold lComp
  rw [h1]
  simp only [Res.bind_ok]
  rw [if_pos h2, h3]
@[simp] theorem set_last {α : Type} (S : List α) (x y : α) : (S ++ [x]).set S.length y = S ++ [y] := by
  rw [List.set_append_right _ _ (Nat.le_refl _)]; simp
@[simp] theorem get_last {α : Type} (S : List α) (x : α) : (S ++ [x])[S.length]? = some x := by simp
theorem eMakeF_ok {C : Cal} {T : Tb} {c key : String} {a : Av} {m m1 : Me} {ps : List PV} {ds : List D} {fs : List (String × FV)} {l : List (String × D)} (ha : a m = .ok ps m1) (hd : PV.ds ps = some ds) (hk : T.ini c = some key)
    (hc : C key (.ref m1.S.length :: ds) (m1.S ++ [.ins c []]) = .ok .non (m1.S ++ [.ins c fs])) (hp : plainF fs = some l) (hb : D.blwf m1.S.length l = true) : eMakeF C T c a m = .ok (.v (.obj c l)) m1 := by
  unfold eMakeF
  rw [ha]
  simp only [Res.bind_ok, hd, hk, hc]
  simp [hp, hb]
theorem eLend_ok {i : Nat} {e : Ev} {m : Me} {c c' : Cl} {d : D} (hs : m.slot i = some c) (he : e ⟨m.σ.set i (some (.v (.ref m.S.length))), m.S ++ [.c c]⟩ = .ok (.v d) ⟨m.σ.set i (some (.v (.ref m.S.length))), m.S ++ [.c c']⟩)
    (hd : d.blw m.S.length = true) (hc : c'.blw m.S.length = true) : eLend i e m = .ok (.v d) ⟨m.σ.set i (some (.o c')), m.S⟩ := by
  unfold eLend
  rw [hs]
  simp only [he]
  simp [hd, hc]
end Mi
namespace Mi
theorem forL_cons {b : Bd} {body : Sv} {x : D} {xs : List D} {m m2 : Me} {σ1 : Env} (h1 : b.set x m.σ = some σ1) (h2 : body ⟨σ1, m.S⟩ = .nx m2) : forL b body (x :: xs) m = forL b body xs m2 := by
  rw [forL, h1]; simp only [h2]
end Mi

set_option linter.all false
/-! # Mt: how the further words are read -/
namespace Mi
@[simp] theorem sRaise0_ap (c : String) (m : Me) : sRaise0 c m = .ex ⟨c, []⟩ m := rfl
@[simp] theorem sRaiseF_ap (c f : String) (e : Ev) (m : Me) : sRaiseF c f e m = (e m).so fun x m1 => match x with | .v d => .ex ⟨c, [(f, d)]⟩ m1 | _ => .bad := rfl
@[simp] theorem iEnumU_ap (e : Ev) (m : Me) : iEnumU e m = (e m).bind fun x m1 => match x with
  | .v (.lst xs) => .ok (enum xs) m1
  | .v (.str z) => .ok (enum (z.map fun c => .str [c])) m1
  | _ => .bad := rfl
@[simp] theorem iZip_ap (a b : Ev) (m : Me) : iZip a b m = (a m).bind fun x m1 => (b m1).bind fun y m2 => match x, y with
  | .v (.lst xs), .v (.lst ys) => .ok (zipD xs ys) m2
  | _, _ => .bad := rfl
@[simp] theorem lRep_ap (a b : Ev) (m : Me) : lRep a b m = (a m).bind fun x m1 => (b m1).bind fun y m2 => match m2.cl x, y with
  | some (.lst xs), .v (.int k) => if -lim63 ≤ k ∧ k < lim63 ∧ xs.length * k.toNat ≤ big then .ok ((List.replicate k.toNat xs).flatten) m2 else .bad
  | _, _ => .bad := rfl
@[simp] theorem eMake_ap (C : Cal) (T : Tb) (c : String) (a : Av) (m : Me) : eMake C T c a m = (a m).bind fun ps m1 => match PV.ds ps, T.ini c with
  | some ds, some key => (match C key (.ref m1.S.length :: ds) (m1.S ++ [.ins c []]) with
    | .ok .non S' => .ok (.v (.ref m1.S.length)) ⟨m1.σ, S'⟩
    | .ex x S' => .ex x ⟨m1.σ, S'⟩
    | _ => .bad)
  | _, _ => .bad := rfl
@[simp] theorem sWhile_ap (t : Tv) (body : Sv) (m : Me) : sWhile t body m = whileN t body wlim m := rfl
theorem sTryAs_nx {sub} {body : Sv} {i : Nat} {c : String} {su : Xc → Sv} {m m1 : Me} (h : body m = .nx m1) : sTryAs sub body i c su m = .nx m1 := by unfold sTryAs; rw [h]
theorem sTryAs_ex {sub} {body : Sv} {i : Nat} {c : String} {su : Xc → Sv} {m m1 : Me} {x : Xc} (h : body m = .ex x m1) (hs : sub x.c c = some true) (h1 : (m1.slot i).isNone = true ∧ i < m1.σ.length) : sTryAs sub body i c su m = aft i (su x ⟨m1.σ.set i none, m1.S⟩) := by
  unfold sTryAs; rw [h]; simp only [hs]; rw [if_pos h1]
/-! ### operators -/
theorem inT_one (c : Nat) (z : Tx) : inT [c] z = decide (c ∈ z) := by
  unfold inT
  rw [Bool.eq_iff_iff, List.any_eq_true, decide_eq_true_iff]
  constructor
  · rintro ⟨i, _, h⟩
    obtain ⟨h1, h2⟩ := of_decide_eq_true h
    have : c ∈ (z.drop i).take 1 := by
      have h2 : List.take 1 (List.drop i z) = [c] := h2
      rw [h2]; exact List.mem_singleton.mpr rfl
    exact List.mem_of_mem_drop (List.mem_of_mem_take this)
  · intro h
    obtain ⟨i, hi, e⟩ := List.getElem_of_mem h
    refine ⟨i, List.mem_range.mpr (by omega), decide_eq_true ⟨by simp; omega, ?_⟩⟩
    show List.take 1 (List.drop i z) = [c]
    rw [List.drop_eq_getElem_cons hi, e]; rfl
theorem inT_long {x z : Tx} (h : z.length < x.length) : inT x z = false := by
  unfold inT
  rw [List.any_eq_false]
  intro i _ h2
  have := (of_decide_eq_true h2).1
  omega
theorem gInV_str (x z : Tx) (m : Me) : gInV (.v (.str x)) (.v (.str z)) m = some (.bl (inT x z)) := by
  unfold gInV orG
  cases q : gInU (.v (.str x)) (.v (.str z)) m with
  | none => rfl
  | some d =>
    unfold gInU orG gIn at q
    simp only [Me.items, Me.cl] at q
    unfold gInT at q
    cases x with
    | nil => simp [gInK, Me.kvs, Me.cl] at q
    | cons c r =>
      cases r with
      | nil => simp at q; subst q; rw [inT_one]
      | cons c2 r => simp [gInK, Me.kvs, Me.cl] at q
theorem gNotInV_str (x z : Tx) (m : Me) : gNotInV (.v (.str x)) (.v (.str z)) m = some (.bl (!inT x z)) := by
  unfold gNotInV orG
  cases q : gNotInU (.v (.str x)) (.v (.str z)) m with
  | none => rfl
  | some d =>
    unfold gNotInU orG gNotIn at q
    simp only [Me.items, Me.cl] at q
    unfold gNotInT at q
    cases x with
    | nil => simp [gNotInK, Me.kvs, Me.cl] at q
    | cons c r =>
      cases r with
      | nil => simp at q; subst q; rw [inT_one]
      | cons c2 r => simp [gNotInK, Me.kvs, Me.cl] at q
theorem gInV_lst {a : D} {xs : List D} {m : Me} (h1 : flat a = true) (h2 : xs.all flat = true) : gInV (.v a) (.v (.lst xs)) m = some (.bl (xs.any fun y => eqv y a)) := by
  have : gInU (.v a) (.v (.lst xs)) m = some (.bl (xs.any fun y => eqv y a)) := by
    unfold gInU orG gIn
    simp [Me.items, Me.cl, h1, h2]
  unfold gInV orG
  rw [this]
theorem gNotInV_lst {a : D} {xs : List D} {m : Me} (h1 : flat a = true) (h2 : xs.all flat = true) : gNotInV (.v a) (.v (.lst xs)) m = some (.bl (!xs.any fun y => eqv y a)) := by
  have : gNotInU (.v a) (.v (.lst xs)) m = some (.bl (!xs.any fun y => eqv y a)) := by
    unfold gNotInU orG gNotIn
    simp [Me.items, Me.cl, h1, h2]
  unfold gNotInV orG
  rw [this]
theorem any_str (xs : List Tx) (z : Tx) : ((xs.map D.str).any fun y => eqv y (.str z)) = decide (z ∈ xs) := by
  induction xs with
  | nil => rfl
  | cons x r ih =>
    rw [List.map_cons, List.any_cons, ih]
    show (x == z || decide (z ∈ r)) = _
    by_cases h : z = x
    · subst h; simp
    · have : (x == z) = false := by simpa using fun q => h q.symm
      rw [this]; simp [h]
theorem flat_strs (xs : List Tx) : (xs.map D.str).all flat = true := by
  rw [List.all_eq_true]
  intro d hd
  obtain ⟨x, _, rfl⟩ := List.mem_map.mp hd
  rfl
theorem gInV_strs (z : Tx) (xs : List Tx) (m : Me) : gInV (.v (.str z)) (.v (.lst (xs.map D.str))) m = some (.bl (decide (z ∈ xs))) := by
  rw [gInV_lst rfl (flat_strs xs), any_str]
theorem gNotInV_strs (z : Tx) (xs : List Tx) (m : Me) : gNotInV (.v (.str z)) (.v (.lst (xs.map D.str))) m = some (.bl (!decide (z ∈ xs))) := by
  rw [gNotInV_lst rfl (flat_strs xs), any_str]
/-! ### objects of the store -/
@[simp] theorem look_nil {α : Type} (f : String) : List.lookup f ([] : List (String × α)) = none := rfl
@[simp] theorem look_cons {α : Type} (f k : String) (a : α) (r : List (String × α)) : List.lookup f ((k, a) :: r) = if f = k then some a else List.lookup f r := by
  rw [List.lookup_cons]
  by_cases h : f = k
  · subst h; simp
  · have : (f == k) = false := by simpa using h
    rw [this, if_neg h]
theorem obj_ref {σ : Env} {S : List SC} {n : Nat} {c : String} {fs : List (String × FV)} (h : S[n]? = some (.ins c fs)) : (Me.mk σ S).obj (.v (.ref n)) = some (c, fs) := by
  unfold Me.obj; simp only [h]
end Mi


set_option linter.all false
set_option maxRecDepth 100000
namespace Lw
open Mi
def cellF (ns : List Int) (k : Nat) : Int := ns.getD k 0
theorem cell_at (ns : List Int) (k n : Nat) (S : List SC) : Pg.call (n + 1) "_law_cell_at" [.scr (ns.map D.int), .int k] S = .ok (.int (cellF ns k)) S := by
  rw [Pg.c__law_cell_at]
  by_cases h : k < ns.length
  · simp [runF, Pg.b__law_cell_at, Me.items, aLen, gLen, h, atI, ixN, cellF]
  · simp [runF, Pg.b__law_cell_at, Me.items, aLen, gLen, h, cellF]
def mixF (c k : Int) : Int := (((c * 48271 + k * 7919 + 104729).fmod 2147483647) * ((c * 48271 + k * 7919 + 104729).fmod 2147483647)).fmod 2147483629
theorem mixed (c k : Int) (n : Nat) (S : List SC) : Pg.call (n + 1) "_law_mixed" [.int c, .int k] S = .ok (.int (mixF c k)) S := by
  rw [Pg.c__law_mixed]
  have h1 : ∀ i : Int, (small64 i || small64 48271) = true := fun i => by simp [small_of]
  have h2 : ∀ i : Int, (small64 i || small64 7919) = true := fun i => by simp [small_of]
  have h3 : small64 ((c * 48271 + k * 7919 + 104729).fmod 2147483647) = true := by
    have a := Int.fmod_nonneg_of_pos (c * 48271 + k * 7919 + 104729) (b := 2147483647) (by decide)
    have b := Int.fmod_lt_of_pos (c * 48271 + k * 7919 + 104729) (b := 2147483647) (by decide)
    exact small_nn a (by omega)
  simp [runF, Pg.b__law_mixed, gMul_int, gMod_int, h1, h2, h3, mixF]

theorem fm_nn (a : Int) {b : Int} (h : 0 < b) : 0 ≤ a.fmod b := Int.fmod_nonneg_of_pos a h
theorem fm_lt (a : Int) {b : Int} (h : 0 < b) : a.fmod b < b := Int.fmod_lt_of_pos a h
theorem mix_nn (c k : Int) : 0 ≤ mixF c k := fm_nn _ (by decide)
theorem mix_lt (c k : Int) : mixF c k < 2147483629 := fm_lt _ (by decide)
/-! ### names -/
def resv : List Tx := [[97, 110, 100], [111, 114], [110, 111, 116], [97, 108, 108], [110, 111, 110, 101], [105, 115], [102, 114, 111, 109], [116, 111]]
def nameF (z : Tx) : Tx := if z ∈ resv then z ++ [120] else z
theorem name_of (z : Tx) (hz : z.length ≤ 8) (n : Nat) (S : List SC) : Pg.call (n + 1) "_law_name_of" [.str z] S = .ok (.str (nameF z)) S := by
  rw [Pg.c__law_name_of]
  have e : ∀ m : Me, gInV (.v (.str z)) (.v (.lst (resv.map D.str))) m = some (.bl (decide (z ∈ resv))) := fun m => gInV_strs z resv m
  have e' : ∀ m : Me, gInV (.v (.str z)) (.v (.lst [.str [97, 110, 100], .str [111, 114], .str [110, 111, 116], .str [97, 108, 108], .str [110, 111, 110, 101], .str [105, 115], .str [102, 114, 111, 109], .str [116, 111]])) m = some (.bl (decide (z ∈ resv))) := e
  have hb : z.length + 1 ≤ big := by rw [big_is]; omega
  have g : ∀ m, gAddU (.v (.str z)) (.v (.str [120])) m = some (.str (z ++ [120])) := fun m => gAddU_str z [120] m hb
  by_cases h : z ∈ resv
  · simp [runF, Pg.b__law_name_of, e', h, nameF, g]
  · simp [runF, Pg.b__law_name_of, e', h, nameF, g]

def alph : Tx := [97, 98, 99, 100, 101, 102, 103, 104, 105, 106, 107, 108, 109, 110, 111, 112, 113, 114, 115, 116, 117, 118, 119, 120, 121, 122]
theorem alph_at (i : Int) (h0 : 0 ≤ i) (h1 : i < 26) : atI alph i = some (97 + i.toNat) := by
  obtain ⟨k, rfl⟩ := Int.eq_ofNat_of_zero_le h0
  have hk : k < 26 := by omega
  have : ∀ k : Fin 26, atI alph ((k : Nat) : Int) = some (97 + ((k : Nat) : Int).toNat) := by decide
  exact this ⟨k, hk⟩
def numF (x size : Int) (k j : Nat) : Int := x.fdiv (j + 2) + 5 * j + k * (if (j : Int) = (x.fdiv 64).fmod size then 1 else 0)
def letF (x size : Int) (k j : Nat) : Nat := 97 + ((numF x size k j).fmod 26).toNat
def wordF (x size : Int) (k : Nat) : Tx := (List.range size.toNat).map (letF x size k)
def sizeF (ns : List Int) (most : Int) : Int := 1 + (mixF (cellF ns 0) 0).fmod most
def namesF (ns : List Int) (most : Int) : List Tx := (List.range 3).map fun k => nameF (wordF (mixF (cellF ns 0) 0) (sizeF ns most) k)
theorem names_in (ns : List Int) (most x size : Int) (b1 : 1 ≤ size) (b2 : size ≤ 8) (n : Nat) (S : List SC) (k : Nat) (hk : k < 3) (acc : List D) (i : Nat) (hi : i < size.toNat) (j1 n1 : Option FV) (P : Me → Prop)
    (hP : P ⟨[some (.v (.scr (ns.map D.int))), some (.v (.int most)), some (.v (.int x)), some (.v (.int size)), some (.o (.lst acc)), some (.v (.int k)), some (.v (.str ((List.range i).map (letF x size k) ++ [letF x size k i]))), some (.v (.int i)), some (.v (.int (numF x size k i)))], S⟩) :
    (Bd.n 7).go (.int i) (Pg.lp__law_names_1 (Pg.call n)) ⟨[some (.v (.scr (ns.map D.int))), some (.v (.int most)), some (.v (.int x)), some (.v (.int size)), some (.o (.lst acc)), some (.v (.int k)), some (.v (.str ((List.range i).map (letF x size k)))), j1, n1], S⟩ P := by
  have hi8 : i < 8 := by omega
  have d1 : ((i : Int) + 2) ≠ 0 := by omega
  have d2 : ((i : Int) + 2).natAbs < lim30 := by rw [lim30_is]; omega
  have s1 : (small64 5 || small64 (i : Int)) = true := by simp [small_of]
  have s2 : ∀ z : Int, (small64 (k : Int) || small64 z) = true := fun z => by
    have : small64 (k : Int) = true := small_nn (by omega) (by omega)
    simp [this]
  have hsz0 : size ≠ 0 := by omega
  have q1 : 0 ≤ (numF x size k i).fmod 26 := fm_nn _ (by decide)
  have q2 : (numF x size k i).fmod 26 < 26 := fm_lt _ (by decide)
  have q3 := alph_at _ q1 q2
  have hal : alph.length ≤ big := by rw [show alph.length = 26 from rfl]; rw [big_is]; omega
  have g := fun m => gAddU_str ((List.range i).map (letF x size k)) [letF x size k i] m (by simp; rw [big_is]; omega)
  have al : ([97, 98, 99, 100, 101, 102, 103, 104, 105, 106, 107, 108, 109, 110, 111, 112, 113, 114, 115, 116, 117, 118, 119, 120, 121, 122] : Tx) = alph := rfl
  simp only [letF, numF] at g
  unfold numF at q3
  simp only [Pg.lp__law_names_1, al]
  simp [gDiv_int, gMul_int, gMod_int, d1, d2, s1, s2, hsz0, aInt2, aInt, gInt, gIxU_str, hal, q3, g]
  simpa [letF, numF] using hP

theorem names (ns : List Int) (most : Int) (hm : 0 < most) (hm2 : most ≤ 8) (n : Nat) (S : List SC) : Pg.call (n + 2) "_law_names" [.scr (ns.map D.int), .int most] S = .ok (.lst ((namesF ns most).map D.str)) S := by
  rw [Pg.c__law_names]
  have hs0 : 0 ≤ (mixF (cellF ns 0) 0).fmod most := fm_nn _ hm
  have hs1 : (mixF (cellF ns 0) 0).fmod most < most := fm_lt _ hm
  have e0 := cell_at ns 0 n S
  have hmost : most ≠ 0 := by omega
  have hsz : sizeF ns most = 1 + (mixF (cellF ns 0) 0).fmod most := rfl
  have hw : namesF ns most = (List.range 3).map fun k => nameF (wordF (mixF (cellF ns 0) 0) (sizeF ns most) k) := rfl
  have emix : mixF (cellF ns 0) 0 = mixF (cellF ns 0) 0 := rfl
  generalize hx : mixF (cellF ns 0) 0 = x at hs0 hs1 hsz hw
  generalize hz : sizeF ns most = size at hsz hw
  have b1 : 1 ≤ size := by omega
  have b2 : size ≤ 8 := by omega
  have hin : in62 size = true := in62_of (by omega) (by omega)
  have inner : ∀ (k : Nat) (acc : List D) (j0 n0 : Option FV), k < 3 → ∃ j1 n1, forL (.n 7) (Pg.lp__law_names_1 (Pg.call (n + 1)))
      (intsL 0 size.toNat) ⟨[some (.v (.scr (ns.map D.int))), some (.v (.int most)), some (.v (.int x)), some (.v (.int size)), some (.o (.lst acc)), some (.v (.int k)), some (.v (.str [])), j0, n0], S⟩ =
      .nx ⟨[some (.v (.scr (ns.map D.int))), some (.v (.int most)), some (.v (.int x)), some (.v (.int size)), some (.o (.lst acc)), some (.v (.int k)), some (.v (.str (wordF x size k))), j1, n1], S⟩ := by
    intro k acc j0 n0 hk
    obtain ⟨m', e, j1, n1, rfl⟩ := for_range (b := .n 7) (body := Pg.lp__law_names_1 (Pg.call (n + 1))) (fun i m => ∃ j1 n1, m = ⟨[some (.v (.scr (ns.map D.int))), some (.v (.int most)), some (.v (.int x)), some (.v (.int size)), some (.o (.lst acc)), some (.v (.int k)), some (.v (.str ((List.range i).map (letF x size k)))), j1, n1], S⟩) size.toNat _ ⟨j0, n0, rfl⟩ (by
      rintro i m hi ⟨j1, n1, rfl⟩
      exact names_in ns most x size b1 b2 (n + 1) S k hk acc i hi j1 n1 _ ⟨_, _, by rw [List.range_succ, List.map_append]; rfl⟩)
    exact ⟨j1, n1, e⟩
  have outer : ∃ k1 l1 j1 n1, forL (.n 5) (Pg.lp__law_names_2 (Pg.call (n + 1))) (intsL 0 3) ⟨[some (.v (.scr (ns.map D.int))), some (.v (.int most)), some (.v (.int x)), some (.v (.int size)), some (.o (.lst [])), none, none, none, none], S⟩ =
      .nx ⟨[some (.v (.scr (ns.map D.int))), some (.v (.int most)), some (.v (.int x)), some (.v (.int size)), some (.o (.lst ((namesF ns most).map D.str))), k1, l1, j1, n1], S⟩ := by
    obtain ⟨m', e, k1, l1, j1, n1, rfl⟩ := for_range (b := .n 5) (body := Pg.lp__law_names_2 (Pg.call (n + 1))) (fun i m => ∃ k1 l1 j1 n1, m = ⟨[some (.v (.scr (ns.map D.int))), some (.v (.int most)), some (.v (.int x)), some (.v (.int size)), some (.o (.lst (((List.range i).map fun k => nameF (wordF x size k)).map D.str))), k1, l1, j1, n1], S⟩) 3 _ ⟨none, none, none, none, rfl⟩ (by
      rintro i m hi ⟨k1, l1, j1, n1, rfl⟩
      have hsucc : ((List.range (i + 1)).map fun k => nameF (wordF x size k)).map D.str = ((List.range i).map fun k => nameF (wordF x size k)).map D.str ++ [D.str (nameF (wordF x size i))] := by simp [List.range_succ]
      have hlen : (((List.range i).map fun k => nameF (wordF x size k)).map D.str).length ≤ 1000 := by simp; omega
      rw [hsucc]
      generalize ((List.range i).map fun k => nameF (wordF x size k)).map D.str = acc at hlen ⊢
      obtain ⟨j2, n2, e⟩ := inner i acc j1 n1 hi
      have en := name_of (wordF x size i) (by simp [wordF]; omega) n S
      have hl2 : acc.length ≤ 1000000 := by omega
      simp only [Pg.lp__law_names_2]
      simp [hin, e, isL, Me.own, Me.slot, en, mApp, Me.put, hl2])
    refine ⟨k1, l1, j1, n1, ?_⟩
    rw [hw]; exact e
  obtain ⟨k1, l1, j1, n1, outer⟩ := outer
  have e0' : Pg.call (n + 1) "_law_cell_at" [.scr (ns.map D.int), .int 0] S = .ok (.int (cellF ns 0)) S := e0
  have h3 : in62 3 = true := in62_of (by omega) (by omega)
  have h3' : (3 : Int).toNat = 3 := rfl
  simp [runF, Pg.b__law_names, e0', mixed, hx, gMod_int, hmost, ← hsz, h3, h3', outer]
end Lw

set_option linter.all false
set_option maxRecDepth 100000
namespace Lw
open Mi
/-! # questions as trees -/
inductive Q where
  | all | none | leaf (x : Tx) (lo hi : Int) | not (q : Q) | bin (an : Bool) (qs : List Q)
def sAll : Tx := [97, 108, 108]
def sNone : Tx := [110, 111, 110, 101]
def sIn : Tx := [105, 110]
def sNot : Tx := [110, 111, 116]
def sAnd : Tx := [97, 110, 100]
def sOr : Tx := [111, 114]
def sBin (an : Bool) : Tx := if an then sAnd else sOr
def cBin (an : Bool) : String := if an then "AllOf" else "OneOf"
mutual
def tD : Q → D
  | .all => .tup [.str sAll] | .none => .tup [.str sNone]
  | .leaf x lo hi => .tup [.str sIn, .str x, .int lo, .int hi]
  | .not q => .tup [.str sNot, tD q]
  | .bin an qs => .tup [.str (sBin an), .lst (tDs qs)]
def tDs : List Q → List D
  | [] => [] | q :: r => tD q :: tDs r
end
mutual
def oD : Q → D
  | .all => .obj "Every" [] | .none => .obj "Nobody" []
  | .leaf x lo hi => .obj "Within" [("name", .str x), ("low", .int lo), ("high", .int hi)]
  | .not q => .obj "Opposite" [("one", oD q)]
  | .bin an qs => .obj (cBin an) [("parts", .lst (oDs qs))]
def oDs : List Q → List D
  | [] => [] | q :: r => oD q :: oDs r
end
mutual
def ev (f : Tx → Int) : Q → Bool
  | .all => true | .none => false
  | .leaf x lo hi => decide (lo ≤ f x) && decide (f x ≤ hi)
  | .not q => !ev f q
  | .bin true qs => (evs f qs).all id
  | .bin false qs => (evs f qs).any id
def evs (f : Tx → Int) : List Q → List Bool
  | [] => [] | q :: r => ev f q :: evs f r
end
mutual
def dp : Q → Nat
  | .not q => dp q + 1
  | .bin _ qs => dps qs + 1
  | _ => 0
def dps : List Q → Nat
  | [] => 0 | q :: r => max (dp q) (dps r)
end
mutual
/-- how many nodes -/
def sz : Q → Nat
  | .not q => sz q + 1
  | .bin _ qs => szs qs + 1
  | _ => 1
def szs : List Q → Nat
  | [] => 0 | q :: r => sz q + szs r
end
mutual
def nms : Q → List Tx
  | .leaf x _ _ => [x]
  | .not q => nms q
  | .bin _ qs => nmss qs
  | _ => []
def nmss : List Q → List Tx
  | [] => [] | q :: r => nms q ++ nmss r
end
mutual
def nums : Q → List Int
  | .leaf _ lo hi => [lo, hi]
  | .not q => nums q
  | .bin _ qs => numss qs
  | _ => []
def numss : List Q → List Int
  | [] => [] | q :: r => nums q ++ numss r
end
theorem len_tDs : ∀ qs, (tDs qs).length = qs.length
  | [] => rfl | q :: r => by simp [tDs, len_tDs r]
theorem len_oDs : ∀ qs, (oDs qs).length = qs.length
  | [] => rfl | q :: r => by simp [oDs, len_oDs r]
theorem len_evs (f) : ∀ qs, (evs f qs).length = qs.length
  | [] => rfl | q :: r => by simp [evs, len_evs f r]
theorem len_szs : ∀ qs, qs.length ≤ szs qs
  | [] => Nat.le_refl _
  | q :: r => by
    have := len_szs r
    have : 1 ≤ sz q := by cases q <;> simp [sz]
    simp [szs]; omega
mutual
theorem oD_blw (n : Nat) : ∀ q, (oD q).blw n = true
  | .all => rfl | .none => rfl | .leaf _ _ _ => rfl
  | .not q => by simp [oD, D.blw, D.blwf, oD_blw n q]
  | .bin an qs => by simp [oD, D.blw, D.blwf, oDs_blw n qs]
theorem oDs_blw (n : Nat) : ∀ qs, D.blws n (oDs qs) = true
  | [] => rfl
  | q :: r => by simp [oDs, D.blws, oD_blw n q, oDs_blw n r]
end
/-! ### made -/
theorem ini_within (x lo hi : D) (n : Nat) (S : List SC) : Pg.call (n + 1) "Within.__init__" [.ref S.length, x, lo, hi] (S ++ [.ins "Within" []]) = .ok .non (S ++ [.ins "Within" [("name", .v x), ("low", .v lo), ("high", .v hi)]]) := by
  rw [Pg.c_Within___init__]
  simp [runF, Pg.b_Within___init__, Pg.T, tbOf, Pg.flL, putF]
theorem ini_opp (x : D) (n : Nat) (S : List SC) : Pg.call (n + 1) "Opposite.__init__" [.ref S.length, x] (S ++ [.ins "Opposite" []]) = .ok .non (S ++ [.ins "Opposite" [("one", .v x)]]) := by
  rw [Pg.c_Opposite___init__]
  simp [runF, Pg.b_Opposite___init__, Pg.T, tbOf, Pg.flL, putF]
theorem ini_chain (an : Bool) (xs : List D) (n : Nat) (S : List SC) : Pg.call (n + 1) "Chain.__init__" [.ref S.length, .lst xs] (S ++ [.ins (cBin an) []]) = .ok .non (S ++ [.ins (cBin an) [("parts", .v (.lst xs))]]) := by
  rw [Pg.c_Chain___init__]
  have e4 : Pg.T.fl (cBin an) "parts" = true := by cases an <;> simp [Pg.T, tbOf, Pg.flL, cBin]
  simp [runF, Pg.b_Chain___init__, putF, aOf, Me.items, Me.cl, e4]

theorem ix_tup (xs : List D) (i : Nat) : atI xs (i : Int) = xs[i]? := by
  unfold atI ixN
  by_cases h : (i : Int) < xs.length
  · have : i < xs.length := by omega
    simp [h]
  · have : xs.length ≤ i := by omega
    simp [h, List.getElem?_eq_none this]
@[simp] theorem at0 (x : D) (xs : List D) : atI (x :: xs) 0 = some x := by simpa using ix_tup (x :: xs) 0
@[simp] theorem at1 (x y : D) (xs : List D) : atI (x :: y :: xs) 1 = some y := by simpa using ix_tup (x :: y :: xs) 1
@[simp] theorem at2 (x y z : D) (xs : List D) : atI (x :: y :: z :: xs) 2 = some z := by simpa using ix_tup (x :: y :: z :: xs) 2
@[simp] theorem at3 (x y z u : D) (xs : List D) : atI (x :: y :: z :: u :: xs) 3 = some u := by simpa using ix_tup (x :: y :: z :: u :: xs) 3
mutual
theorem made : ∀ (q : Q) (n : Nat) (S : List SC), dp q ≤ n → sz q ≤ 1000 → Pg.call (n + 2) "_law_made" [tD q] S = .ok (oD q) S
  | .all, n, S, _, _ => by
    rw [Pg.c__law_made]; simp [runF, Pg.b__law_made, tD, oD, sAll, Pg.T, tbOf, Pg.inL]
  | .none, n, S, _, _ => by
    rw [Pg.c__law_made]; simp [runF, Pg.b__law_made, tD, oD, sNone, Pg.T, tbOf, Pg.inL]
  | .leaf x lo hi, n, S, _, _ => by
    rw [Pg.c__law_made]
    have e : ∀ (σ : Env), eMakeF (Pg.call (n + 1)) Pg.T "Within" (aCons (e2 gIxU (eVar 0) (eC (.int 1))) (aCons (e2 gIxU (eVar 0) (eC (.int 2))) (aCons (e2 gIxU (eVar 0) (eC (.int 3))) aNil))) ⟨some (.v (.tup [.str sIn, .str x, .int lo, .int hi])) :: σ, S⟩ = .ok (.v (.obj "Within" [("name", .str x), ("low", .int lo), ("high", .int hi)])) ⟨some (.v (.tup [.str sIn, .str x, .int lo, .int hi])) :: σ, S⟩ := fun σ =>
      eMakeF_ok (ps := [.v (.str x), .v (.int lo), .v (.int hi)]) (ds := [.str x, .int lo, .int hi]) (key := "Within.__init__") (fs := [("name", .v (.str x)), ("low", .v (.int lo)), ("high", .v (.int hi))]) (by simp) (by simp) (by simp [Pg.T, tbOf, Pg.inL]) (ini_within _ _ _ n S) (by simp [plainF]) (by simp [D.blwf, D.blw])
    simp [runF, Pg.b__law_made, tD, oD, sIn]
    rw [show ([105, 110] : Tx) = sIn from rfl, e]
    simp
  | .not q, n, S, hd, hz => by
    rw [Pg.c__law_made]
    obtain ⟨n, rfl⟩ : ∃ k, n = k + 1 := ⟨n - 1, by simp [dp] at hd; omega⟩
    have ih := made q n S (by simp [dp] at hd; omega) (by simp [sz] at hz; omega)
    have e : ∀ (σ : Env), eMakeF (Pg.call (n + 2)) Pg.T "Opposite" (aCons (eCall (Pg.call (n + 2)) "_law_made" (aCons (e2 gIxU (eVar 0) (eC (.int 1))) aNil)) aNil) ⟨some (.v (.tup [.str sNot, tD q])) :: σ, S⟩ = .ok (.v (.obj "Opposite" [("one", oD q)])) ⟨some (.v (.tup [.str sNot, tD q])) :: σ, S⟩ := fun σ =>
      eMakeF_ok (ps := [.v (oD q)]) (ds := [oD q]) (key := "Opposite.__init__") (fs := [("one", .v (oD q))]) (by simp [ih]) (by simp) (by simp [Pg.T, tbOf, Pg.inL]) (ini_opp _ (n + 1) S) (by simp [plainF]) (by simp [D.blwf, oD_blw])
    simp [runF, Pg.b__law_made, tD, oD, sNot]
    rw [show ([110, 111, 116] : Tx) = sNot from rfl, e]
    simp
  | .bin an qs, n, S, hd, hz => by
    rw [Pg.c__law_made]
    obtain ⟨n, rfl⟩ : ∃ k, n = k + 1 := ⟨n - 1, by simp [dp] at hd; omega⟩
    have hz' : szs qs + 1 ≤ 1000 := hz
    have ih := mades qs n S (by simp [dp] at hd; omega) (by omega)
    have hl := len_szs qs
    have hcomp : comp (.n 2) tYes (eCall (Pg.call (n + 2)) "_law_made" (aCons (eVar 2) aNil)) [some (.v (.tup [.str (sBin an), .lst (tDs qs)])), none, none] (tDs qs) S [] = .ok (oDs qs) ⟨[some (.v (.tup [.str (sBin an), .lst (tDs qs)])), none, none], S⟩ := by
      have := comp_two (b := .n 2) (e := eCall (Pg.call (n + 2)) "_law_made" (aCons (eVar 2) aNil)) (σ := [some (.v (.tup [.str (sBin an), .lst (tDs qs)])), none, none]) (S := S) (xs := tDs qs) (ys := oDs qs) [] ?_ (le_big (by rw [len_tDs]; simp; omega))
      · simpa using this
      · refine two_imp (fun t o h => ⟨_, rfl, ?_⟩) ih
        simp [h]
    have hL : lComp [2] (.n 2) (iAny (e2 gIxU (eVar 0) (eC (.int 1)))) tYes (eCall (Pg.call (n + 2)) "_law_made" (aCons (eVar 2) aNil)) ⟨[some (.v (.tup [.str (sBin an), .lst (tDs qs)])), none, none], S⟩ = .ok (oDs qs) ⟨[some (.v (.tup [.str (sBin an), .lst (tDs qs)])), none, none], S⟩ := by
      refine lComp_ok (m1 := ⟨[some (.v (.tup [.str (sBin an), .lst (tDs qs)])), none, none], S⟩) (xs := tDs qs) (by simp) (by simp [Me.slot]) ?_
      simpa [wipe] using hcomp
    have hmk : ∀ (ab : Bool) (a2 : Option FV), eMakeF (Pg.call (n + 2)) Pg.T (cBin ab) (aCons (eVar 1) aNil) ⟨[some (.v (.tup [.str (sBin an), .lst (tDs qs)])), some (.v (.lst (oDs qs))), a2], S⟩ = .ok (.v (.obj (cBin ab) [("parts", .lst (oDs qs))])) ⟨[some (.v (.tup [.str (sBin an), .lst (tDs qs)])), some (.v (.lst (oDs qs))), a2], S⟩ := fun ab a2 => by
      refine eMakeF_ok (ps := [.v (.lst (oDs qs))]) (ds := [.lst (oDs qs)]) (key := "Chain.__init__") (fs := [("parts", .v (.lst (oDs qs)))]) (by simp) (by simp) ?_ (ini_chain ab (oDs qs) (n + 1) S) (by simp [plainF]) (by simp [D.blwf, D.blw, oDs_blw])
      cases ab <;> simp [Pg.T, tbOf, Pg.inL, cBin]
    have h1 := hmk false none
    have h2 := hmk true none
    cases an with
    | true =>
      simp [cBin] at h1 h2
      simp [runF, Pg.b__law_made, tD, oD, sBin, sAnd] at hL h1 h2 ⊢
      simp [hL, h1, h2, cBin]
    | false =>
      simp [cBin] at h1
      simp [runF, Pg.b__law_made, tD, oD, sBin, sOr] at hL h1 ⊢
      simp [hL, h1, cBin]
theorem mades : ∀ (qs : List Q) (n : Nat) (S : List SC), dps qs ≤ n → szs qs ≤ 1000 → Two (fun t o => Pg.call (n + 2) "_law_made" [t] S = .ok o S) (tDs qs) (oDs qs)
  | [], _, _, _, _ => .nil
  | q :: r, n, S, hd, hz => .cons (made q n S (by simp [dps] at hd; omega) (by simp [szs] at hz; omega)) (mades r n S (by simp [dps] at hd; omega) (by simp [szs] at hz; omega))
end
end Lw

set_option linter.all false
set_option maxRecDepth 100000
namespace Lw
open Mi
/-- the values by name -/
def Has (kvs : List (Ky × D)) (f : Tx → Int) (xs : List Tx) : Prop := ∀ x ∈ xs, look kvs (.s x) = some (.int (f x))
def hKey : Q → String
  | .all => "Every.holds" | .none => "Question.holds" | .leaf _ _ _ => "Within.holds" | .not _ => "Opposite.holds" | .bin an _ => if an then "AllOf.holds" else "OneOf.holds"
theorem asBls_map : ∀ bs : List Bool, asBls (bs.map D.bl) = some bs
  | [] => rfl
  | b :: r => by simp [asBls, asBls_map r]
section
variable {kvs : List (Ky × D)} {f : Tx → Int}
/-- o.holds(values) -/
theorem meth_holds {n : Nat} {S : List SC} {σ : Env} {q : Q} {o a : Ev} {b : Bool} (ho : o ⟨σ, S⟩ = .ok (.v (oD q)) ⟨σ, S⟩) (ha : a ⟨σ, S⟩ = .ok (.v (.dct kvs)) ⟨σ, S⟩) (h : Pg.call n (hKey q) [oD q, .dct kvs] S = .ok (.bl b) S) :
    eMeth (Pg.call n) Pg.T "holds" o (aCons a aNil) ⟨σ, S⟩ = .ok (.v (.bl b)) ⟨σ, S⟩ := by
  rw [eMeth_ap, ho]
  cases q with
  | all => simp [hKey, oD] at h; simp [oD, Me.obj, Pg.T, tbOf, Pg.mtL, ha, h]
  | none => simp [hKey, oD] at h; simp [oD, Me.obj, Pg.T, tbOf, Pg.mtL, ha, h]
  | leaf x lo hi => simp [hKey, oD] at h; simp [oD, Me.obj, Pg.T, tbOf, Pg.mtL, ha, h, List.lookup]
  | not q => simp [hKey, oD] at h; simp [oD, Me.obj, Pg.T, tbOf, Pg.mtL, ha, h, List.lookup]
  | bin an qs => cases an <;> (simp [hKey, oD, cBin] at h; simp [oD, Me.obj, Pg.T, tbOf, Pg.mtL, ha, h, List.lookup, cBin])
mutual
theorem holds : ∀ (q : Q) (n : Nat) (S : List SC), dp q ≤ n → sz q ≤ 1000 → Has kvs f (nms q) → Pg.call (n + 1) (hKey q) [oD q, .dct kvs] S = .ok (.bl (ev f q)) S
  | .all, n, S, _, _, _ => by
    show Pg.call (n + 1) "Every.holds" _ S = _
    rw [Pg.c_Every_holds]; simp [runF, Pg.b_Every_holds, ev]
  | .none, n, S, _, _, _ => by
    show Pg.call (n + 1) "Question.holds" _ S = _
    rw [Pg.c_Question_holds]; simp [runF, Pg.b_Question_holds, ev]
  | .leaf x lo hi, n, S, _, _, hk => by
    show Pg.call (n + 1) "Within.holds" _ S = _
    have h := hk x (by simp [nms])
    have e : ∀ m, gIxU (.v (.dct kvs)) (.v (.str x)) m = some (.int (f x)) := fun m => by rw [gIxU_dct kvs (.str x) m (q := .s x) rfl, h]
    rw [Pg.c_Within_holds]
    by_cases h1 : lo ≤ f x
    · simp [runF, Pg.b_Within_holds, oD, ev, Me.obj, Pg.T, tbOf, Pg.flL, e, List.lookup, h1]
    · simp [runF, Pg.b_Within_holds, oD, ev, Me.obj, Pg.T, tbOf, Pg.flL, e, List.lookup, h1]
  | .not q, n, S, hd, hz, hk => by
    show Pg.call (n + 1) "Opposite.holds" _ S = _
    obtain ⟨n, rfl⟩ : ∃ k, n = k + 1 := ⟨n - 1, by simp [dp] at hd; omega⟩
    have ih := holds q n S (by simp [dp] at hd; omega) (by simp [sz] at hz; omega) (by simpa [nms] using hk)
    rw [Pg.c_Opposite_holds]
    have e := meth_holds (n := n + 1) (S := S) (σ := [some (.v (oD (.not q))), some (.v (.dct kvs))]) (q := q) (o := eFld Pg.T "one" (eVar 0)) (a := eVar 1) (by simp [oD, Me.obj, Pg.T, tbOf, Pg.flL, List.lookup]) (by simp) ih
    simp [runF, Pg.b_Opposite_holds, ev, -eMeth_ap, e]
  | .bin an qs, n, S, hd, hz, hk => by
    obtain ⟨n, rfl⟩ : ∃ k, n = k + 1 := ⟨n - 1, by simp [dp] at hd; omega⟩
    have hz' : szs qs + 1 ≤ 1000 := hz
    have hl := len_szs qs
    have ih := holdss qs n S (by simp [dp] at hd; omega) (by omega) (by simpa [nms] using hk)
    have hcomp : comp (.n 2) tYes (eMeth (Pg.call (n + 1)) Pg.T "holds" (eVar 2) (aCons (eVar 1) aNil)) [some (.v (oD (.bin an qs))), some (.v (.dct kvs)), none] (oDs qs) S [] = .ok ((evs f qs).map D.bl) ⟨[some (.v (oD (.bin an qs))), some (.v (.dct kvs)), none], S⟩ := by
      have := comp_two (b := .n 2) (e := eMeth (Pg.call (n + 1)) Pg.T "holds" (eVar 2) (aCons (eVar 1) aNil)) (σ := [some (.v (oD (.bin an qs))), some (.v (.dct kvs)), none]) (S := S) (xs := oDs qs) (ys := (evs f qs).map D.bl) [] ?_ (le_big (by rw [len_oDs]; simp; omega))
      · simpa using this
      · refine two_imp (fun t o ⟨q, b, h1, h2, h3⟩ => ⟨_, rfl, ?_⟩) ih
        subst h1 h2
        exact meth_holds (q := q) (by simp) (by simp) h3
    have hL : lComp [2] (.n 2) (iAny (eFld Pg.T "parts" (eVar 0))) tYes (eMeth (Pg.call (n + 1)) Pg.T "holds" (eVar 2) (aCons (eVar 1) aNil)) ⟨[some (.v (oD (.bin an qs))), some (.v (.dct kvs)), none], S⟩ = .ok ((evs f qs).map D.bl) ⟨[some (.v (oD (.bin an qs))), some (.v (.dct kvs)), none], S⟩ := by
      refine lComp_ok (m1 := ⟨[some (.v (oD (.bin an qs))), some (.v (.dct kvs)), none], S⟩) (xs := oDs qs) ?_ (by simp [Me.slot]) ?_
      · cases an <;> simp [oD, cBin, Me.obj, Pg.T, tbOf, Pg.flL, List.lookup]
      · simpa [wipe] using hcomp
    cases an with
    | true =>
      show Pg.call (n + 2) "AllOf.holds" _ S = _
      rw [Pg.c_AllOf_holds]
      simp [runF, Pg.b_AllOf_holds, ev, hL, aAll, Me.ls, Me.cl, asBls_map]
    | false =>
      show Pg.call (n + 2) "OneOf.holds" _ S = _
      rw [Pg.c_OneOf_holds]
      simp [runF, Pg.b_OneOf_holds, ev, hL, aAny, Me.ls, Me.cl, asBls_map]
theorem holdss : ∀ (qs : List Q) (n : Nat) (S : List SC), dps qs ≤ n → szs qs ≤ 1000 → Has kvs f (nmss qs) → Two (fun o d => ∃ q b, o = oD q ∧ d = D.bl b ∧ Pg.call (n + 1) (hKey q) [oD q, .dct kvs] S = .ok (.bl b) S) (oDs qs) ((evs f qs).map D.bl)
  | [], _, _, _, _, _ => .nil
  | q :: r, n, S, hd, hz, hk => .cons ⟨q, ev f q, rfl, rfl, holds q n S (by simp [dps] at hd; omega) (by simp [szs] at hz; omega) (fun x hx => hk x (by simp [nmss, hx]))⟩ (holdss r n S (by simp [dps] at hd; omega) (by simp [szs] at hz; omega) (fun x hx => hk x (by simp [nmss, hx])))
end
end

/-! ### what the law itself says of a tree -/
theorem dep_sel : ∀ (xs : List D) (bs : List Bool) {k : Nat}, deps xs = some k → ∃ j, deps (sel xs bs) = some j ∧ j ≤ k
  | [], bs, k, h => ⟨0, by cases bs <;> rfl, Nat.zero_le _⟩
  | x :: xs, [], k, h => ⟨0, rfl, Nat.zero_le _⟩
  | x :: xs, b :: bs, k, h => by
    unfold deps at h
    cases h1 : dep x with
    | none => rw [h1] at h; cases h
    | some a =>
      cases h2 : deps xs with
      | none => rw [h1, h2] at h; cases h
      | some c =>
        rw [h1, h2] at h
        cases h
        obtain ⟨j, e, hj⟩ := dep_sel xs bs h2
        cases b with
        | true => exact ⟨max a j, by simp [sel, deps, h1, e], by omega⟩
        | false => exact ⟨j, by simpa [sel] using e, by omega⟩
def okTx (x : Tx) : Prop := x.all (fun c => decide (c < 1114112)) = true
theorem ok_bin (an : Bool) : okTx (sBin an) := by cases an <;> rfl
mutual
theorem dep_tD : ∀ q : Q, (∀ x ∈ nms q, okTx x) → ∃ k, dep (tD q) = some k ∧ k ≤ 2 * dp q + 1
  | .all, _ => ⟨1, by simp [tD, dep, deps, sAll], by simp [dp]⟩
  | .none, _ => ⟨1, by simp [tD, dep, deps, sNone], by simp [dp]⟩
  | .leaf x lo hi, h => ⟨1, by
      have := h x (by simp [nms])
      simp only [okTx] at this
      simp [tD, dep, deps, sIn, this], by simp [dp]⟩
  | .not q, h => by
    obtain ⟨k, e, hk⟩ := dep_tD q (by simpa [nms] using h)
    exact ⟨k + 1, by simp [tD, dep, deps, sNot, e], by simp [dp]; omega⟩
  | .bin an qs, h => by
    obtain ⟨k, e, hk⟩ := deps_tD qs (by simpa [nms] using h)
    refine ⟨k + 2, ?_, by simp [dp]; omega⟩
    have := ok_bin an
    simp only [okTx] at this
    simp [tD, dep, deps, e, this]
theorem deps_tD : ∀ qs : List Q, (∀ x ∈ nmss qs, okTx x) → ∃ k, deps (tDs qs) = some k ∧ k ≤ 2 * dps qs + 1
  | [], _ => ⟨0, rfl, by simp⟩
  | q :: r, h => by
    obtain ⟨k, e, hk⟩ := dep_tD q (fun x hx => h x (by simp [nmss, hx]))
    obtain ⟨j, e2, hj⟩ := deps_tD r (fun x hx => h x (by simp [nmss, hx]))
    exact ⟨max k j, by simp [tDs, deps, e, e2], by simp [dps]; omega⟩
end
theorem gNeU_nil (xs : List D) (m : Me) {k : Nat} (h : deps xs = some k) (hk : k ≤ 59) : gNeU (.v (.lst xs)) (.v (.lst [])) m = some (.bl (!xs.isEmpty)) := by
  have h1 : datum (.lst xs) = true := by simp [datum, dep, h]; omega
  have h2 : datum (.lst []) = true := by simp [datum, dep, deps]
  have h3 : eqv (.lst xs) (.lst []) = xs.isEmpty := by cases xs <;> rfl
  unfold gNeU orG gNe
  simp [Me.dat, Me.cl, h1, h2, h3]
theorem gEqU_nil_sl (i : Nat) (xs : List D) (m : Me) (hs : m.slot i = some (.lst xs)) {k : Nat} (h : deps xs = some k) (hk : k ≤ 59) : gEqU (.sl i) (.v (.lst [])) m = some (.bl xs.isEmpty) := by
  have h1 : datum (.lst xs) = true := by simp [datum, dep, h]; omega
  have h2 : datum (.lst []) = true := by simp [datum, dep, deps]
  have h3 : eqv (.lst xs) (.lst []) = xs.isEmpty := by cases xs <;> rfl
  unfold gEqU orG gEq
  simp [Me.dat, Me.cl, hs, h1, h2, h3]
section
variable {kvs : List (Ky × D)} {f : Tx → Int}
mutual
theorem lholds : ∀ (q : Q) (n : Nat) (S : List SC), dp q ≤ n → dp q ≤ 25 → sz q ≤ 1000 → (∀ x ∈ nms q, okTx x) → Has kvs f (nms q) → Pg.call (n + 1) "_law_holds" [tD q, .dct kvs] S = .ok (.bl (ev f q)) S
  | .all, n, S, _, _, _, _, _ => by
    rw [Pg.c__law_holds]; simp [runF, Pg.b__law_holds, ev, tD, sAll]
  | .none, n, S, _, _, _, _, _ => by
    rw [Pg.c__law_holds]; simp [runF, Pg.b__law_holds, ev, tD, sNone]
  | .leaf x lo hi, n, S, _, _, _, _, hk => by
    have h := hk x (by simp [nms])
    have e : ∀ m, gIxU (.v (.dct kvs)) (.v (.str x)) m = some (.int (f x)) := fun m => by rw [gIxU_dct kvs (.str x) m (q := .s x) rfl, h]
    rw [Pg.c__law_holds]
    by_cases h1 : lo ≤ f x
    · simp [runF, Pg.b__law_holds, ev, tD, sIn, e, h1]
    · simp [runF, Pg.b__law_holds, ev, tD, sIn, e, h1]
  | .not q, n, S, hd, h25, hz, hn, hk => by
    obtain ⟨n, rfl⟩ : ∃ k, n = k + 1 := ⟨n - 1, by simp [dp] at hd; omega⟩
    have ih := lholds q n S (by simp [dp] at hd; omega) (by simp [dp] at h25; omega) (by simp [sz] at hz; omega) (by simpa [nms] using hn) (by simpa [nms] using hk)
    rw [Pg.c__law_holds]; simp [runF, Pg.b__law_holds, ev, tD, sNot, ih]
  | .bin an qs, n, S, hd, h25, hz, hn, hk => by
    obtain ⟨n, rfl⟩ : ∃ k, n = k + 1 := ⟨n - 1, by simp [dp] at hd; omega⟩
    have hz' : szs qs + 1 ≤ 1000 := hz
    have hl := len_szs qs
    have h25' : dps qs + 1 ≤ 25 := h25
    have ih := lholdss qs n S (by simp [dp] at hd; omega) (by omega) (by omega) (by simpa [nms] using hn) (by simpa [nms] using hk)
    have hcomp : comp (.n 2) (tTru (eCall (Pg.call (n + 1)) "_law_holds" (aCons (eVar 2) (aCons (eVar 1) aNil)))) (eVar 2) [some (.v (.tup [.str (sBin an), .lst (tDs qs)])), some (.v (.dct kvs)), none] (tDs qs) S [] = .ok (sel (tDs qs) (evs f qs)) ⟨[some (.v (.tup [.str (sBin an), .lst (tDs qs)])), some (.v (.dct kvs)), none], S⟩ := by
      have := comp_sel (b := .n 2) (t := tTru (eCall (Pg.call (n + 1)) "_law_holds" (aCons (eVar 2) (aCons (eVar 1) aNil)))) (e := eVar 2) (σ := [some (.v (.tup [.str (sBin an), .lst (tDs qs)])), some (.v (.dct kvs)), none]) (S := S) (xs := tDs qs) (bs := evs f qs) [] ?_ (le_big (by rw [len_tDs]; simp; omega))
      · simpa using this
      · refine two_imp (fun t o h => ⟨_, rfl, ?_, ?_⟩) ih
        · simp [h]
        · simp
    have hL : lComp [2] (.n 2) (iAny (e2 gIxU (eVar 0) (eC (.int 1)))) (tTru (eCall (Pg.call (n + 1)) "_law_holds" (aCons (eVar 2) (aCons (eVar 1) aNil)))) (eVar 2) ⟨[some (.v (.tup [.str (sBin an), .lst (tDs qs)])), some (.v (.dct kvs)), none], S⟩ = .ok (sel (tDs qs) (evs f qs)) ⟨[some (.v (.tup [.str (sBin an), .lst (tDs qs)])), some (.v (.dct kvs)), none], S⟩ := by
      refine lComp_ok (m1 := ⟨[some (.v (.tup [.str (sBin an), .lst (tDs qs)])), some (.v (.dct kvs)), none], S⟩) (xs := tDs qs) (by simp) (by simp [Me.slot]) ?_
      simpa [wipe] using hcomp
    have hlen : (tDs qs).length = (evs f qs).length := by rw [len_tDs, len_evs]
    rw [Pg.c__law_holds]
    cases an with
    | true =>
      have ha := sel_all (xs := tDs qs) (bs := evs f qs) hlen
      simp [sBin, sAnd] at hL
      simp [runF, Pg.b__law_holds, ev, tD, sBin, sAnd, hL, aLen, gLen, Me.items, Me.cl]
      rw [Bool.eq_iff_iff]
      simp only [beq_iff_eq]
      exact (Int.ofNat_inj (m := (sel (tDs qs) (evs f qs)).length) (n := (tDs qs).length)).trans ha
    | false =>
      obtain ⟨k, e, hk2⟩ := deps_tD qs (by simpa [nms] using hn)
      obtain ⟨j, e2, hj⟩ := dep_sel (tDs qs) (evs f qs) e
      have hne := fun m => gNeU_nil (sel (tDs qs) (evs f qs)) m e2 (by omega)
      have ha := sel_nil (xs := tDs qs) (bs := evs f qs) hlen
      simp [sBin, sOr] at hL
      simp [runF, Pg.b__law_holds, ev, tD, sBin, sOr, hL, hne]
      cases q : (evs f qs).any id with
      | false => rw [ha.mpr q]; rfl
      | true =>
        cases h0 : sel (tDs qs) (evs f qs) with
        | nil => rw [ha.mp h0] at q; cases q
        | cons _ _ => rfl
theorem lholdss : ∀ (qs : List Q) (n : Nat) (S : List SC), dps qs ≤ n → dps qs ≤ 25 → szs qs ≤ 1000 → (∀ x ∈ nmss qs, okTx x) → Has kvs f (nmss qs) → Two (fun t b => Pg.call (n + 1) "_law_holds" [t, .dct kvs] S = .ok (.bl b) S) (tDs qs) (evs f qs)
  | [], _, _, _, _, _, _, _ => .nil
  | q :: r, n, S, hd, h25, hz, hn, hk => .cons (lholds q n S (by simp [dps] at hd; omega) (by simp [dps] at h25; omega) (by simp [szs] at hz; omega) (fun x hx => hn x (by simp [nmss, hx])) (fun x hx => hk x (by simp [nmss, hx]))) (lholdss r n S (by simp [dps] at hd; omega) (by simp [dps] at h25; omega) (by simp [szs] at hz; omega) (fun x hx => hn x (by simp [nmss, hx])) (fun x hx => hk x (by simp [nmss, hx])))
end
end
end Lw

set_option linter.all false
set_option maxRecDepth 100000
namespace Lw
open Mi
mutual
theorem len_nums : ∀ q, (nums q).length ≤ 2 * sz q
  | .all => by simp [nums] | .none => by simp [nums] | .leaf _ _ _ => by simp [nums, sz]
  | .not q => by have := len_nums q; simp [nums, sz]; omega
  | .bin _ qs => by have := len_numss qs; simp [nums, sz]; omega
theorem len_numss : ∀ qs, (numss qs).length ≤ 2 * szs qs
  | [] => by simp [numss]
  | q :: r => by have := len_nums q; have := len_numss r; simp [numss, szs]; omega
end
mutual
theorem numbers : ∀ (q : Q) (n : Nat) (S : List SC), dp q ≤ n → sz q ≤ 1000 → Pg.call (n + 1) "_law_numbers_in" [tD q] S = .ok (.lst ((nums q).map D.int)) S
  | .all, n, S, _, _ => by rw [Pg.c__law_numbers_in]; simp [runF, Pg.b__law_numbers_in, tD, sAll, nums]
  | .none, n, S, _, _ => by rw [Pg.c__law_numbers_in]; simp [runF, Pg.b__law_numbers_in, tD, sNone, nums]
  | .leaf x lo hi, n, S, _, _ => by rw [Pg.c__law_numbers_in]; simp [runF, Pg.b__law_numbers_in, tD, sIn, nums]
  | .not q, n, S, hd, hz => by
    obtain ⟨n, rfl⟩ : ∃ k, n = k + 1 := ⟨n - 1, by simp [dp] at hd; omega⟩
    have ih := numbers q n S (by simp [dp] at hd; omega) (by simp [sz] at hz; omega)
    rw [Pg.c__law_numbers_in]; simp [runF, Pg.b__law_numbers_in, tD, sNot, nums, ih]
  | .bin an qs, n, S, hd, hz => by
    obtain ⟨n, rfl⟩ : ∃ k, n = k + 1 := ⟨n - 1, by simp [dp] at hd; omega⟩
    have hz' : szs qs + 1 ≤ 1000 := hz
    obtain ⟨a3, e⟩ := numbersF qs n S (by simp [dp] at hd; omega) (by omega) (.tup [.str (sBin an), .lst (tDs qs)]) [] none (by simp; omega)
    rw [Pg.c__law_numbers_in]
    cases an with
    | true => simp [sBin, sAnd] at e; simp [runF, Pg.b__law_numbers_in, tD, sBin, sAnd, nums, e]
    | false => simp [sBin, sOr] at e; simp [runF, Pg.b__law_numbers_in, tD, sBin, sOr, nums, e]
theorem numbersF : ∀ (qs : List Q) (n : Nat) (S : List SC), dps qs ≤ n → szs qs ≤ 1000 → ∀ (t : D) (acc : List Int) (a2 : Option FV), acc.length + 2 * szs qs ≤ 10000 → ∃ a3, forL (.n 2) (Pg.lp__law_numbers_in_1 (Pg.call (n + 1))) (tDs qs) ⟨[some (.v t), some (.v (.lst (acc.map D.int))), a2], S⟩ = .nx ⟨[some (.v t), some (.v (.lst ((acc ++ numss qs).map D.int))), a3], S⟩
  | [], n, S, _, _, t, acc, a2, _ => ⟨a2, by simp [tDs, forL, numss]⟩
  | q :: r, n, S, hd, hz, t, acc, a2, ha => by
    have ih := numbers q n S (by simp [dps] at hd; omega) (by simp [szs] at hz; omega)
    have hl := len_nums q
    have hz' : sz q + szs r ≤ 1000 := hz
    have ha' : acc.length + 2 * (sz q + szs r) ≤ 10000 := ha
    obtain ⟨a3, e⟩ := numbersF r n S (by simp [dps] at hd; omega) (by omega) t (acc ++ nums q) (some (.v (tD q))) (by rw [List.length_append]; omega)
    have g := fun m => gAddU_lst (acc.map D.int) ((nums q).map D.int) m (le_big (by simp; omega))
    refine ⟨a3, ?_⟩
    rw [show tDs (q :: r) = tD q :: tDs r from rfl, forL_cons (σ1 := [some (.v t), some (.v (.lst (acc.map D.int))), some (.v (tD q))]) (m2 := ⟨[some (.v t), some (.v (.lst ((acc ++ nums q).map D.int))), some (.v (tD q))], S⟩) (by rfl) (by simp [Pg.lp__law_numbers_in_1, ih, g]), e]
    simp [numss]
end
end Lw

set_option linter.all false
set_option maxRecDepth 100000
namespace Lw
open Mi
/-! ### dicts -/
theorem look_nil (k : Ky) : look [] k = none := rfl
theorem look_cons (k : Ky) (d : D) (r : List (Ky × D)) (j : Ky) : look ((k, d) :: r) j = if k = j then some d else look r j := by
  unfold look
  rw [List.find?_cons]
  by_cases h : k = j <;> simp [h]
theorem look_app (kvs : List (Ky × D)) (k : Ky) (d : D) (j : Ky) : look (kvs ++ [(k, d)]) j = match look kvs j with | some x => some x | none => if k = j then some d else none := by
  induction kvs with
  | nil => rw [List.nil_append, look_cons]; rfl
  | cons p r ih =>
    obtain ⟨a, b⟩ := p
    rw [List.cons_append, look_cons, look_cons, ih]
    by_cases h : a = j <;> simp [h]
theorem look_repl (kvs : List (Ky × D)) (k : Ky) (d : D) (j : Ky) : look (kvs.map fun kv => if kv.1 = k then (kv.1, d) else kv) j = if k = j then (look kvs j).map fun _ => d else look kvs j := by
  induction kvs with
  | nil => by_cases h : k = j <;> simp [h, look_nil]
  | cons p r ih =>
    obtain ⟨a, b⟩ := p
    rw [List.map_cons]
    by_cases h : a = k
    · subst h
      rw [if_pos rfl, look_cons, look_cons, ih]
      by_cases h2 : a = j <;> simp [h2]
    · rw [if_neg h, look_cons, look_cons, ih]
      by_cases h2 : a = j
      · subst h2
        have : ¬ k = a := fun z => h z.symm
        simp [this]
      · simp [h2]
theorem any_look (kvs : List (Ky × D)) (k : Ky) : (kvs.any fun kv => decide (kv.1 = k)) = (look kvs k).isSome := by
  induction kvs with
  | nil => rfl
  | cons p r ih =>
    obtain ⟨a, b⟩ := p
    rw [List.any_cons, look_cons, ih]
    by_cases h : a = k <;> simp [h]
theorem look_put (kvs : List (Ky × D)) (k : Ky) (d : D) (j : Ky) : look (putKv kvs k d) j = if k = j then some d else look kvs j := by
  unfold putKv
  rw [any_look]
  by_cases h : (look kvs k).isSome = true
  · rw [if_pos h, look_repl]
    by_cases h2 : k = j
    · subst h2
      rw [if_pos rfl, if_pos rfl]
      cases q : look kvs k with
      | none => rw [q] at h; cases h
      | some x => rfl
    · rw [if_neg h2, if_neg h2]
  · rw [if_neg h, look_app]
    by_cases h2 : k = j
    · subst h2
      rw [if_pos rfl]
      cases q : look kvs k with
      | none => simp
      | some x => rw [q] at h; exact absurd rfl h
    · rw [if_neg h2, if_neg h2]
      cases look kvs j <;> rfl
/-- each key once, numbers under them -/
structure KvI (kvs : List (Ky × D)) : Prop where
  nd : (kvs.map (·.1)).Nodup
  int : ∀ p ∈ kvs, ∃ v : Int, p.2 = .int v
theorem KvI.nil : KvI [] := ⟨List.nodup_nil, fun p h => absurd h List.not_mem_nil⟩
theorem KvI.put {kvs : List (Ky × D)} (h : KvI kvs) (k : Ky) (v : Int) : KvI (putKv kvs k (.int v)) ∧ (putKv kvs k (.int v)).length ≤ kvs.length + 1 := by
  unfold putKv
  by_cases q : (kvs.any fun kv => decide (kv.1 = k)) = true
  · rw [if_pos q]
    refine ⟨⟨?_, ?_⟩, by simp⟩
    · have : (kvs.map fun kv => if kv.1 = k then (kv.1, D.int v) else kv).map (·.1) = kvs.map (·.1) := by
        rw [List.map_map]
        apply List.map_congr_left
        intro p _
        show (if p.1 = k then (p.1, D.int v) else p).1 = p.1
        split <;> rfl
      rw [this]; exact h.nd
    · intro p hp
      obtain ⟨r, hr, rfl⟩ := List.mem_map.mp hp
      split
      · exact ⟨v, rfl⟩
      · exact h.int r hr
  · rw [if_neg q]
    refine ⟨⟨?_, ?_⟩, by simp⟩
    · rw [List.map_append, List.nodup_append]
      refine ⟨h.nd, by simp, ?_⟩
      intro a ha b hb e
      simp at hb
      subst hb
      subst e
      obtain ⟨p, hp, rfl⟩ := List.mem_map.mp ha
      exact q (List.any_eq_true.mpr ⟨p, hp, by simp⟩)
    · intro p hp
      rcases List.mem_append.mp hp with hp | hp
      · exact h.int p hp
      · simp at hp; subst hp; exact ⟨v, rfl⟩
theorem look_mem {kvs : List (Ky × D)} (nd : (kvs.map (·.1)).Nodup) : ∀ p ∈ kvs, look kvs p.1 = some p.2 := by
  induction kvs with
  | nil => intro p hp; exact absurd hp List.not_mem_nil
  | cons q r ih =>
    obtain ⟨a, b⟩ := q
    rw [List.map_cons, List.nodup_cons] at nd
    intro p hp
    rw [look_cons]
    rcases List.mem_cons.mp hp with rfl | hp
    · simp
    · have : ¬ a = p.1 := fun z => nd.1 (List.mem_map.mpr ⟨p, hp, z.symm⟩)
      rw [if_neg this]; exact ih nd.2 p hp
theorem KvI.same {kvs : List (Ky × D)} (h : KvI kvs) : sameKv kvs kvs = true := by
  unfold sameKv
  rw [Bool.and_eq_true]
  refine ⟨by simp, List.all_eq_true.mpr fun p hp => ?_⟩
  rw [look_mem h.nd p hp]
  obtain ⟨v, e⟩ := h.int p hp
  simp [e, eqF]
theorem gNeU_same {kvs : List (Ky × D)} (h : KvI kvs) (m : Me) : gNeU (.v (.dct kvs)) (.v (.dct kvs)) m = some (.bl false) := by
  unfold gNeU orG gNe gNeK
  simp [Me.dat, Me.cl, Me.kvs, h.same]
theorem atI_map (ns : List Int) (i : Int) (h0 : 0 ≤ i) (h1 : i < ns.length) : ∃ v : Int, atI (ns.map D.int) i = some (.int v) := by
  obtain ⟨k, rfl⟩ := Int.eq_ofNat_of_zero_le h0
  have hk : k < ns.length := by omega
  refine ⟨ns[k], ?_⟩
  have := ix_tup (ns.map D.int) k
  rw [this]
  simp [hk]
theorem ints_dep : ∀ ns : List Int, deps (ns.map D.int) = some 0
  | [] => rfl
  | n :: r => by simp [deps, dep, ints_dep r]
theorem six_at (i : Int) (h0 : 0 ≤ i) (h1 : i < 6) : ∃ v : Int, atI [D.int 0, .int 0, .int 0, .int 1, .int (-1), .int 0] i = some (.int v) := by
  have : atI [D.int 0, .int 0, .int 0, .int 1, .int (-1), .int 0] i = atI (([0, 0, 0, 1, -1, 0] : List Int).map D.int) i := rfl
  rw [this]
  exact atI_map _ i h0 h1
end Lw

set_option linter.all false
set_option maxRecDepth 100000
namespace Lw
open Mi
theorem two_at (a b : D) (i : Int) (h0 : 0 ≤ i) (h1 : i < 2) : atI [a, b] i = some (if i = 0 then a else b) := by
  obtain rfl | rfl : i = 0 ∨ i = 1 := by omega
  · simp
  · simp
theorem name_at (L : List Tx) (hL : L.length = 3) (i : Int) (h0 : 0 ≤ i) (h1 : i < 3) : ∃ x ∈ L, atI (L.map D.str) i = some (.str x) := by
  obtain ⟨k, rfl⟩ := Int.eq_ofNat_of_zero_le h0
  have hk : k < L.length := by omega
  refine ⟨L[k], List.getElem_mem hk, ?_⟩
  rw [ix_tup]
  simp [hk]
def loF (c : Int) (wide : Bool) : Int := if wide then ((mixF c 2).fdiv 12).fmod 40 * 10 ^ 28 + mixF c 3 - 10 ^ 29 else ((mixF c 2).fdiv 12).fmod 40
def hiF (c : Int) (wide : Bool) : Int := if wide then loF c true + mixF c 4 * 10 ^ 19 - 7 else loF c false + (mixF c 3).fmod 30 - 5
theorem leaf (L : List Tx) (hL : L.length = 3) (c : Int) (wide : Bool) : ∃ q : Q, dp q ≤ 1 ∧ sz q ≤ 2 ∧ (∀ x ∈ nms q, x ∈ L) ∧ ∀ n S, Pg.call (n + 2) "_law_leaf" [.int c, .lst (L.map D.str), .bl wide] S = .ok (tD q) S := by
  obtain ⟨nm, hnm, en⟩ := name_at L hL (((mixF c 3).fdiv 30).fmod 3) (fm_nn _ (by decide)) (fm_lt _ (by decide))
  have hs1 : ∀ j, (small64 (((mixF c 2).fdiv 12).fmod 40) || small64 j) = true := fun j => by
    rw [small_nn (fm_nn _ (by decide)) (by have := fm_lt ((mixF c 2).fdiv 12) (b := 40) (by decide); omega)]; rfl
  have hs2 : ∀ j, (small64 (mixF c 4) || small64 j) = true := fun j => by
    rw [small_nn (mix_nn _ _) (by have := mix_lt c 4; omega)]; rfl
  have x0 := fm_nn (mixF c 2) (b := 12) (by decide)
  have x1 := fm_lt (mixF c 2) (b := 12) (by decide)
  have i0 := fm_nn ((mixF c 2).fdiv 480) (b := 2) (by decide)
  have i1 := fm_lt ((mixF c 2).fdiv 480) (b := 2) (by decide)
  have e2 := two_at (.str sAnd) (.str sOr) _ i0 i1
  have e2' : atI [D.str [97, 110, 100], D.str [111, 114]] (((mixF c 2).fdiv 480).fmod 2) = some (D.str (sBin (decide (((mixF c 2).fdiv 480).fmod 2 = 0)))) := by
    rw [show ([97, 110, 100] : Tx) = sAnd from rfl, show ([111, 114] : Tx) = sOr from rfl, e2]
    by_cases h : ((mixF c 2).fdiv 480).fmod 2 = 0 <;> simp [h, sBin]
  have p1 : ∀ m, gPow (.v (.int 10)) (.v (.int 28)) m = some (.int (10 ^ 28)) := fun m => by rw [gPow_int] <;> simp
  have p2 : ∀ m, gPow (.v (.int 10)) (.v (.int 29)) m = some (.int (10 ^ 29)) := fun m => by rw [gPow_int] <;> simp
  have p3 : ∀ m, gPow (.v (.int 10)) (.v (.int 19)) m = some (.int (10 ^ 19)) := fun m => by rw [gPow_int] <;> simp
  generalize hx : mixF c 2 = x at *
  generalize hy : mixF c 3 = y at *
  generalize hz : mixF c 4 = z at *
  by_cases h1 : x.fmod 12 < 2
  · have e1 := two_at (.str sAll) (.str sNone) _ x0 h1
    refine ⟨if x.fmod 12 = 0 then .all else .none, by split <;> simp [dp], by split <;> simp [sz], by split <;> simp [nms], fun n S => ?_⟩
    rw [Pg.c__law_leaf]
    simp [sAll, sNone] at e1
    by_cases h : x.fmod 12 = 0
    · simp [h] at e1
      simp [runF, Pg.b__law_leaf, mixed, hx, hy, gMod_int, h, tD, sAll]
    · simp [h] at e1
      simp [runF, Pg.b__law_leaf, mixed, hx, hy, gMod_int, h1, h, tD, sNone, e1]
  · skip
    by_cases h2 : x.fmod 12 = 2
    · refine ⟨.bin (decide ((x.fdiv 480).fmod 2 = 0)) [], by simp [dp, dps], by simp [sz, szs], by simp [nms, nmss], fun n S => ?_⟩
      rw [Pg.c__law_leaf]
      cases wide with
      | true => simp [runF, Pg.b__law_leaf, mixed, hx, hy, hz, gMod_int, gDiv_int, gMul_int, h2, tD, tDs, e2', en, p1, p2, p3, hs1, hs2]
      | false => simp [runF, Pg.b__law_leaf, mixed, hx, hy, hz, gMod_int, gDiv_int, gMul_int, h2, tD, tDs, e2', en, p1, p2, p3, hs1, hs2]
    · by_cases h3 : x.fmod 12 = 3
      · refine ⟨.bin (decide ((x.fdiv 480).fmod 2 = 0)) [.leaf nm (loF c wide) (hiF c wide)], by simp [dp, dps], by simp [sz, szs], by simpa [nms, nmss] using hnm, fun n S => ?_⟩
        rw [Pg.c__law_leaf]
        cases wide with
        | true => simp [runF, Pg.b__law_leaf, mixed, hx, hy, hz, gMod_int, gDiv_int, gMul_int, h3, tD, tDs, e2', en, p1, p2, p3, hs1, hs2, sIn, loF, hiF]
        | false => simp [runF, Pg.b__law_leaf, mixed, hx, hy, hz, gMod_int, gDiv_int, gMul_int, h3, tD, tDs, e2', en, p1, p2, p3, hs1, hs2, sIn, loF, hiF]
      · refine ⟨.leaf nm (loF c wide) (hiF c wide), by simp [dp], by simp [sz], by simpa [nms] using hnm, fun n S => ?_⟩
        rw [Pg.c__law_leaf]
        cases wide with
        | true => simp [runF, Pg.b__law_leaf, mixed, hx, hy, hz, gMod_int, gDiv_int, gMul_int, h1, h2, h3, tD, tDs, e2', en, p1, p2, p3, hs1, hs2, sIn, loF, hiF]
        | false => simp [runF, Pg.b__law_leaf, mixed, hx, hy, hz, gMod_int, gDiv_int, gMul_int, h1, h2, h3, tD, tDs, e2', en, p1, p2, p3, hs1, hs2, sIn, loF, hiF]
end Lw

set_option linter.all false
set_option maxRecDepth 100000
namespace Lw
open Mi
theorem two_map {α β γ : Type} {P : β → γ → Prop} {f : α → β} {g : α → γ} : ∀ {l : List α}, (∀ a ∈ l, P (f a) (g a)) → Two P (l.map f) (l.map g)
  | [], _ => .nil
  | a :: r, h => .cons (h a List.mem_cons_self) (two_map fun b hb => h b (List.mem_cons_of_mem _ hb))
theorem cut_from {α : Type} (xs : List α) (k : Nat) (h : k ≤ xs.length) : cut xs (some (k : Int)) none = xs.drop k := by
  unfold cut sIx
  have : ¬ (k : Int) < 0 := by omega
  simp only [this, if_false, Int.toNat_natCast, Nat.min_eq_left h]
  rw [List.take_of_length_le (by simp)]
theorem cut_to {α : Type} (xs : List α) (k : Nat) (h : k ≤ xs.length) : cut xs none (some (k : Int)) = xs.take k := by
  unfold cut sIx
  have : ¬ (k : Int) < 0 := by omega
  simp [this, Nat.min_eq_left h]
theorem cut_last {α : Type} (xs : List α) : cut xs none (some (-1)) = xs.take (xs.length - 1) := by
  unfold cut sIx
  simp only [show (-1 : Int) < 0 by omega, if_true]
  have : ((-1 : Int) + (xs.length : Int)).toNat = xs.length - 1 := by omega
  rw [this]; simp
theorem maxI_ge (y : Int) (ys : List Int) : (y ≤ maxI y ys) ∧ ∀ z ∈ ys, z ≤ maxI y ys := by
  unfold maxI
  induction ys generalizing y with
  | nil => exact ⟨Int.le_refl _, fun z h => absurd h List.not_mem_nil⟩
  | cons a r ih =>
    rw [List.foldl_cons]
    obtain ⟨h1, h2⟩ := ih (if y < a then a else y)
    refine ⟨?_, fun z hz => ?_⟩
    · split at h1 <;> split <;> omega
    · rcases List.mem_cons.mp hz with rfl | hz
      · split at h1 <;> split <;> omega
      · exact h2 z hz
theorem asInts_map {α : Type} (f : α → Int) : ∀ l : List α, asInts (l.map fun a => D.int (f a)) = some (l.map f)
  | [] => rfl
  | a :: r => by simp [asInts, asInts_map f r]
abbrev It := Q × Int
def itD (p : It) : D := .tup [tD p.1, .int p.2]
theorem szs_app : ∀ a b : List Q, szs (a ++ b) = szs a + szs b
  | [], b => by simp [szs]
  | q :: r, b => by simp [szs, szs_app r b]; omega
theorem tDs_map : ∀ l : List It, tDs (l.map (·.1)) = l.map fun p => tD p.1
  | [] => rfl
  | p :: r => by simp [tDs, tDs_map r]
theorem nmss_mem {x : Tx} : ∀ {qs : List Q}, x ∈ nmss qs → ∃ q ∈ qs, x ∈ nms q
  | [], h => by simp [nmss] at h
  | q :: r, h => by
    rcases List.mem_append.mp (show x ∈ nms q ++ nmss r from h) with h | h
    · exact ⟨q, List.mem_cons_self, h⟩
    · obtain ⟨p, h1, h2⟩ := nmss_mem h
      exact ⟨p, List.mem_cons_of_mem _ h1, h2⟩
theorem dps_le {k : Nat} : ∀ {qs : List Q}, (∀ q ∈ qs, dp q ≤ k) → dps qs ≤ k
  | [], _ => Nat.zero_le _
  | q :: r, h => by
    have := h q List.mem_cons_self
    have := dps_le fun p hp => h p (List.mem_cons_of_mem _ hp)
    simp [dps]; omega
/-- an item of the list that is built -/
structure ItOk (L : List Tx) (p : It) : Prop where
  lo : 1 ≤ p.2
  hi : p.2 ≤ 18
  dp : (dp p.1 : Int) ≤ p.2
  nm : ∀ x ∈ nms p.1, x ∈ L
/-- the items so far, by i cells -/
structure ItsOk (L : List Tx) (i : Nat) (its : List It) : Prop where
  all : ∀ p ∈ its, ItOk L p
  len : its.length ≤ i
  sz : szs (its.map (·.1)) ≤ 3 * i
/-- the greatest depth of the last ones -/
def deepF (J : List It) : Int := match J.map (·.2) with | [] => 0 | y :: ys => maxI y ys
theorem deep_ge {J : List It} : ∀ p ∈ J, p.2 ≤ deepF J := fun p hp => by
  unfold deepF
  cases J with
  | nil => exact absurd hp List.not_mem_nil
  | cons q r =>
    obtain ⟨h1, h2⟩ := maxI_ge q.2 (r.map (·.2))
    rcases List.mem_cons.mp hp with rfl | hp
    · exact h1
    · exact h2 _ (List.mem_map.mpr ⟨p, hp, rfl⟩)
theorem deep_nn {L : List Tx} {J : List It} (h : ∀ p ∈ J, ItOk L p) : 0 ≤ deepF J := by
  cases J with
  | nil => exact Int.le_refl _
  | cons q r =>
    have := deep_ge (J := q :: r) q List.mem_cons_self
    have := (h q List.mem_cons_self).lo
    omega
theorem ItsOk.bin {L : List Tx} {i : Nat} {its : List It} (h : ItsOk L i its) (k : Nat) (b : Bool) (hk : k < its.length) (hd : deepF (its.drop k) < 18) : ItsOk L (i + 1) (its.take k ++ [(.bin b ((its.drop k).map (·.1)), deepF (its.drop k) + 1)]) := by
  have hd0 := deep_nn (L := L) (J := its.drop k) fun p hp => h.all p (List.mem_of_mem_drop hp)
  have hs : szs (its.map (·.1)) = szs ((its.take k).map (·.1)) + szs ((its.drop k).map (·.1)) := by
    rw [← szs_app, ← List.map_append, List.take_append_drop]
  have h1 := h.sz
  have h2 := h.len
  refine ⟨fun p hp => ?_, by simp; omega, ?_⟩
  · rcases List.mem_append.mp hp with hp | hp
    · exact h.all p (List.mem_of_mem_take hp)
    · rw [List.mem_singleton] at hp
      subst hp
      refine ⟨by show 1 ≤ deepF _ + 1; omega, by show deepF _ + 1 ≤ 18; omega, ?_, fun x hx => ?_⟩
      · show ((dps ((its.drop k).map (·.1)) + 1 : Nat) : Int) ≤ deepF (its.drop k) + 1
        have : dps ((its.drop k).map (·.1)) ≤ (deepF (its.drop k)).toNat := dps_le fun q hq => by
          obtain ⟨p, hp, rfl⟩ := List.mem_map.mp hq
          have a := (h.all p (List.mem_of_mem_drop hp)).dp
          have b := deep_ge p hp
          omega
        omega
      · obtain ⟨q, hq, hx⟩ := nmss_mem (show x ∈ nmss ((its.drop k).map (·.1)) from hx)
        obtain ⟨p, hp, rfl⟩ := List.mem_map.mp hq
        exact (h.all p (List.mem_of_mem_drop hp)).nm x hx
  · rw [List.map_append, szs_app]
    simp only [List.map_cons, List.map_nil, szs, Lw.sz]
    omega
theorem ItsOk.leaf {L : List Tx} {i : Nat} {its : List It} (h : ItsOk L i its) {q : Q} (h1 : Lw.dp q ≤ 1) (h2 : Lw.sz q ≤ 2) (h3 : ∀ x ∈ nms q, x ∈ L) : ItsOk L (i + 1) (its ++ [(q, 1)]) := by
  have a := h.sz
  have b := h.len
  refine ⟨fun p hp => ?_, by simp; omega, ?_⟩
  · rcases List.mem_append.mp hp with hp | hp
    · exact h.all p hp
    · rw [List.mem_singleton] at hp
      subst hp
      exact ⟨Int.le_refl _, by show (1 : Int) ≤ 18; decide, by show (Lw.dp q : Int) ≤ 1; omega, h3⟩
  · rw [List.map_append, szs_app]
    simp only [List.map_cons, List.map_nil, szs]
    omega
theorem ItsOk.not {L : List Tx} {i : Nat} {its : List It} {p : It} (h : ItsOk L i (its ++ [p])) (hd : p.2 < 17) : ItsOk L (i + 1) (its ++ [(.not p.1, p.2 + 2)]) := by
  have a := h.sz
  have b := h.len
  have hp0 := h.all p (by simp)
  refine ⟨fun r hp => ?_, by simp at b ⊢; omega, ?_⟩
  · rcases List.mem_append.mp hp with hp | hp
    · exact h.all r (List.mem_append_left _ hp)
    · rw [List.mem_singleton] at hp
      subst hp
      have := hp0.dp
      have := hp0.lo
      exact ⟨by show 1 ≤ p.2 + 2; omega, by show p.2 + 2 ≤ 18; omega, by show ((Lw.dp p.1 + 1 : Nat) : Int) ≤ p.2 + 2; omega, hp0.nm⟩
  · rw [List.map_append, szs_app] at a ⊢
    simp only [List.map_cons, List.map_nil, szs, Lw.sz] at a ⊢
    omega
theorem ItsOk.up {L : List Tx} {i : Nat} {its : List It} (h : ItsOk L i its) : ItsOk L (i + 1) its := ⟨h.all, Nat.le_succ_of_le h.len, by have := h.sz; omega⟩
end Lw

set_option linter.all false
set_option maxRecDepth 100000
namespace Lw
open Mi
abbrev stB (ns : List Int) (most : Int) (wide : Bool) (L : List Tx) (its : List It) (left nots : Int) (a7 a8 a9 a10 a12 : Option FV) : Env :=
  [some (.v (.scr (ns.map D.int))), some (.v (.int most)), some (.v (.bl wide)), some (.v (.lst (L.map D.str))), some (.o (.lst (its.map itD))), some (.v (.int left)), some (.v (.int nots)), a7, a8, a9, a10, none, a12]
/-- the last ones, their trees or depths -/
theorem built_comp (ns : List Int) (most : Int) (wide : Bool) (L : List Tx) (its : List It) (left nots : Int) (a7 a8 a10 a12 : Option FV) (S : List SC) (mn : Nat) (hm : mn ≤ its.length) (hl : its.length ≤ 1000) (w : Bool) :
    lComp [11] (.n 11) (iAny (eL (lCut (eVar 4) (oSome (e2 gSub (eA aLen (aCons (eVar 4) aNil)) (eVar 9))) oNone))) tYes (e2 gIxU (eVar 11) (eC (.int (if w then 1 else 0)))) ⟨stB ns most wide L its left nots a7 a8 (some (.v (.int mn))) a10 a12, S⟩ =
      .ok ((its.drop (its.length - mn)).map fun p => if w then D.int p.2 else tD p.1) ⟨stB ns most wide L its left nots a7 a8 (some (.v (.int mn))) a10 a12, S⟩ := by
  have hsub : (its.length : Int) - (mn : Int) = ((its.length - mn : Nat) : Int) := by omega
  refine lComp_ok (m1 := ⟨stB ns most wide L its left nots a7 a8 (some (.v (.int mn))) a10 a12, S⟩) (xs := (its.drop (its.length - mn)).map itD) ?_ (by simp [Me.slot]) ?_
  · simp only [iAny_ap, eL_ap, lCut_ap, eVar_ap, oSome_ap, e2_ap, eA_ap, aCons_ap, aNil_ap, oNone_ap, stB]
    simp [aLen, gLen, Me.items, Me.cl, Me.slot, hsub]
    rw [cut_from _ _ (by simp)]
  · have := comp_two (b := .n 11) (e := e2 gIxU (eVar 11) (eC (.int (if w then 1 else 0)))) (σ := stB ns most wide L its left nots a7 a8 (some (.v (.int mn))) a10 a12) (S := S) (xs := (its.drop (its.length - mn)).map itD) (ys := (its.drop (its.length - mn)).map fun p => if w then D.int p.2 else tD p.1) [] ?_ (le_big (by simp; omega))
    · simpa [wipe] using this
    · refine two_map fun p _ => ⟨_, rfl, ?_⟩
      cases w <;> simp [itD]
theorem built_max (ns : List Int) (most : Int) (wide : Bool) (L : List Tx) (its : List It) (left nots : Int) (a7 a8 a10 a12 : Option FV) (S : List SC) (mn : Nat) (hm : mn ≤ its.length) (hl : its.length ≤ 1000) :
    eAK aMaxD (aCons (eL (lComp [11] (.n 11) (iAny (eL (lCut (eVar 4) (oSome (e2 gSub (eA aLen (aCons (eVar 4) aNil)) (eVar 9))) oNone))) tYes (e2 gIxU (eVar 11) (eC (.int 1))))) aNil) (aCons (eC (.int 0)) aNil) ⟨stB ns most wide L its left nots a7 a8 (some (.v (.int mn))) a10 a12, S⟩ =
      .ok (.v (.int (deepF (its.drop (its.length - mn))))) ⟨stB ns most wide L its left nots a7 a8 (some (.v (.int mn))) a10 a12, S⟩ := by
  have h := built_comp ns most wide L its left nots a7 a8 a10 a12 S mn hm hl true
  simp only [if_true] at h
  simp only [eAK_ap, aCons_ap, eL_ap, h, aNil_ap, eC_ap, Res.bind_ok]
  have e : aMaxD [.v (.lst ((its.drop (its.length - mn)).map fun p => D.int p.2))] [.v (.int 0)] ⟨stB ns most wide L its left nots a7 a8 (some (.v (.int mn))) a10 a12, S⟩ = some (.int (deepF (its.drop (its.length - mn)))) := by
    unfold aMaxD deepF
    have : (Me.ls ⟨stB ns most wide L its left nots a7 a8 (some (.v (.int mn))) a10 a12, S⟩ (.v (.lst ((its.drop (its.length - mn)).map fun p => D.int p.2)))).bind asInts = some ((its.drop (its.length - mn)).map (·.2)) := by
      simp only [Me.ls, Me.cl, Option.bind_some]
      exact asInts_map (fun p : It => p.2) _
    simp only [this]
    cases (its.drop (its.length - mn)).map (·.2) <;> rfl
  rw [e]; rfl
theorem built_step (ns : List Int) (most : Int) (wide : Bool) (L : List Tx) (hL : L.length = 3) (its : List It) (left nots : Int) (a7 a8 a9 a10 a12 : Option FV) (n : Nat) (S : List SC) (i : Nat) (hi : i < 60) (h : ItsOk L i its) (c : Int) :
    (Bd.n 7).go (.int c) (Pg.lp__law_built_1 (Pg.call (n + 2))) ⟨stB ns most wide L its left nots a7 a8 a9 a10 a12, S⟩
      (fun m => ∃ its left nots a7 a8 a9 a10 a12, m = ⟨stB ns most wide L its left nots a7 a8 a9 a10 a12, S⟩ ∧ ItsOk L (i + 1) its) := by
  have hlen := h.len
  generalize hx : mixF c 1 = x
  have t0 := fm_nn (x.fdiv 8) (b := 3) (by decide)
  have t1 := fm_lt (x.fdiv 8) (b := 3) (by decide)
  obtain ⟨mn, hmn, hm1, hm2⟩ : ∃ mn : Nat, (if 2 + (x.fdiv 8).fmod 3 < (its.length : Int) then 2 + (x.fdiv 8).fmod 3 else (its.length : Int)) = (mn : Int) ∧ mn ≤ its.length ∧ (0 < mn → 0 < its.length) := by
    by_cases q : 2 + (x.fdiv 8).fmod 3 < (its.length : Int)
    · exact ⟨(2 + (x.fdiv 8).fmod 3).toNat, by rw [if_pos q]; omega, by omega, by omega⟩
    · exact ⟨its.length, by rw [if_neg q], by omega, by omega⟩
  have hmax := fun a7 a8 a10 a12 => built_max ns most wide L its left nots a7 a8 a10 a12 S mn hm1 (by omega)
  have hpar := fun a7 a8 a10 a12 => built_comp ns most wide L its left nots a7 a8 a10 a12 S mn hm1 (by omega) false
  simp only [Bool.false_eq_true, if_false] at hpar
  have hmin : ∀ m : Me, aMin [.v (.int (its.length : Int)), .v (.int (2 + (x.fdiv 8).fmod 3))] m = some (.int (mn : Int)) := fun m => by
    unfold aMin gMin2
    simp only [hmn]
  have hdeep := deep_nn (L := L) (J := its.drop (its.length - mn)) fun p hp => h.all p (List.mem_of_mem_drop hp)
  have hbin := fun b hk hd => h.bin (its.length - mn) b hk hd
  have hge := deep_ge (J := its.drop (its.length - mn))
  generalize hdp : deepF (its.drop (its.length - mn)) = dep at *
  have i0 := fm_nn (x.fdiv 24) (b := 2) (by decide)
  have i1 := fm_lt (x.fdiv 24) (b := 2) (by decide)
  have e2 := two_at (.str sAnd) (.str sOr) _ i0 i1
  have e2' : atI [D.str [97, 110, 100], D.str [111, 114]] ((x.fdiv 24).fmod 2) = some (D.str (sBin (decide ((x.fdiv 24).fmod 2 = 0)))) := by
    rw [show ([97, 110, 100] : Tx) = sAnd from rfl, show ([111, 114] : Tx) = sOr from rfl, e2]
    by_cases h : (x.fdiv 24).fmod 2 = 0 <;> simp [h, sBin]
  have hsub : (its.length : Int) - (mn : Int) = ((its.length - mn : Nat) : Int) := by omega
  have hcut : cut (its.map itD) none (some ((its.length - mn : Nat) : Int)) = (its.take (its.length - mn)).map itD := by rw [cut_to _ _ (by simp), List.map_take]
  have hbig : its.length ≤ 1000000 := by omega
  by_cases c1 : 5 < x.fmod 8 ∧ 1 < (mn : Int) ∧ dep < 18
  · obtain ⟨c1, c2, c3⟩ := c1
    have hb := hbin (decide ((x.fdiv 24).fmod 2 = 0)) (by omega) c3
    have hlc : (List.take (its.length - mn) (List.map itD its)).length + 1 ≤ big := le_big (by simp; omega)
    have hT : (its.take (its.length - mn) ++ [((Q.bin (decide ((x.fdiv 24).fmod 2 = 0)) ((its.drop (its.length - mn)).map (·.1)), dep + 1) : It)]).map itD = (its.take (its.length - mn)).map itD ++ [.tup [.tup [.str (sBin (decide ((x.fdiv 24).fmod 2 = 0))), .lst ((its.drop (its.length - mn)).map fun p => tD p.1)], .int (dep + 1)]] := by
      simp only [List.map_append, List.map_cons, List.map_nil, itD, tD, tDs_map]
    have hl3 : its.length - mn + 1 ≤ 1000000 := by omega
    simp only [Pg.lp__law_built_1]
    simp [-eAK_ap, mixed, hx, gDiv_int, gMod_int, aLen, gLen, Me.items, Me.cl, Me.slot, hmin, hmax, c1, c2, c3, hpar, e2', hsub, hcut, hlc, -List.length_take, -List.length_drop]
    have ht : tDs (List.drop (its.length - mn) (List.map (fun x : It => x.1) its)) = List.drop (its.length - mn) (List.map (fun p : It => tD p.1) its) := by rw [← List.map_drop, tDs_map, List.map_drop]
    refine ⟨_, ?_, hb⟩
    simp [itD, tD, ht]
  · have m3 : ¬ (3 : Int) < 2 := by omega
    obtain ⟨q, q1, q2, q3, q4⟩ := leaf L hL c wide
    have hbig2 : its.length < big := by rw [big_is]; omega
    by_cases k1 : 5 < x.fmod 8
    · have d1 : ¬ x.fmod 8 = 5 := by omega
      by_cases k2 : 1 < (mn : Int)
      · have k3 : ¬ dep < 18 := fun z => c1 ⟨k1, k2, z⟩
        by_cases c3 : 0 < left
        · simp only [Pg.lp__law_built_1]
          simp [-eAK_ap, mixed, hx, gDiv_int, gMod_int, aLen, gLen, Me.items, Me.cl, Me.slot, hmin, hmax, k1, k2, k3, d1, c3, q4 n S, isL, Me.own, mApp, Me.put, hbig, hbig2]
          refine ⟨its ++ [(q, 1)], ?_, h.leaf q1 q2 q3⟩
          simp [itD]
        · simp only [Pg.lp__law_built_1]
          simp [-eAK_ap, mixed, hx, gDiv_int, gMod_int, aLen, gLen, Me.items, Me.cl, Me.slot, hmin, hmax, k1, k2, k3, d1, c3]
          exact ⟨its, rfl, h.up⟩
      · skip
        by_cases c3 : 0 < left
        · simp only [Pg.lp__law_built_1]
          simp [-eAK_ap, mixed, hx, gDiv_int, gMod_int, aLen, gLen, Me.items, Me.cl, Me.slot, hmin, hmax, k1, k2, d1, c3, q4 n S, isL, Me.own, mApp, Me.put, hbig, hbig2]
          refine ⟨its ++ [(q, 1)], ?_, h.leaf q1 q2 q3⟩
          simp [itD]
        · simp only [Pg.lp__law_built_1]
          simp [-eAK_ap, mixed, hx, gDiv_int, gMod_int, aLen, gLen, Me.items, Me.cl, Me.slot, hmin, hmax, k1, k2, d1, c3]
          exact ⟨its, rfl, h.up⟩
    · by_cases d1 : x.fmod 8 = 5
      · by_cases d2 : 0 < nots
        · by_cases d3 : 0 < mn
          · by_cases d4 : dep < 17
            · have hpos := hm2 (by omega)
              have hne : its ≠ [] := by intro z; rw [z] at hpos; simp at hpos
              obtain ⟨its0, p, hits⟩ : ∃ its0 p, its = its0 ++ [p] := ⟨its.dropLast, its.getLast hne, (List.dropLast_concat_getLast hne).symm⟩
              have hp : p.2 < 17 := by
                have : p.2 ≤ dep := hge p (by
                  rw [hits]
                  have : (its0 ++ [p]).length - mn ≤ its0.length := by simp; omega
                  rw [List.drop_append_of_le_length this]
                  simp)
                omega
              have hn := ItsOk.not (its := its0) (p := p) (by rw [← hits]; exact h) hp
              have hneg : atI (its.map itD) (-1) = some (itD p) := by
                rw [hits]
                have g1 : (1 : Int) ≤ (its0.length : Int) + 1 := by omega
                have g2 : ((-1 : Int) + ((its0.length : Int) + 1)).toNat = its0.length := by omega
                unfold atI ixN
                simp [g1, g2]
              have hcl : cut (its.map itD) none (some (-1)) = its0.map itD := by rw [cut_last, hits]; simp
              have hlc : its0.length + 1 ≤ 1000000 := by rw [hits] at hbig; simpa using hbig
              have hsl : ∀ (m : Me) (j : Int), m.slot 4 = some (.lst (its.map itD)) → gIxU (.sl 4) (.v (.int j)) m = atI (its.map itD) j := fun m j h => gIxU_sl 4 j m h
              simp only [Pg.lp__law_built_1]
              simp [-eAK_ap, mixed, hx, gDiv_int, gMod_int, aLen, gLen, Me.items, Me.cl, Me.slot, hmin, hmax, k1, d1, d2, d3, d4, hsl, hneg, hcl, hlc, itD]
              refine ⟨_, ?_, hn⟩
              simp [itD, tD, sNot]
            · skip
              by_cases c3 : 0 < left
              · simp only [Pg.lp__law_built_1]
                simp [-eAK_ap, mixed, hx, gDiv_int, gMod_int, aLen, gLen, Me.items, Me.cl, Me.slot, hmin, hmax, k1, d1, d2, d3, d4, c3, q4 n S, isL, Me.own, mApp, Me.put, hbig, hbig2]
                refine ⟨its ++ [(q, 1)], ?_, h.leaf q1 q2 q3⟩
                simp [itD]
              · simp only [Pg.lp__law_built_1]
                simp [-eAK_ap, mixed, hx, gDiv_int, gMod_int, aLen, gLen, Me.items, Me.cl, Me.slot, hmin, hmax, k1, d1, d2, d3, d4, c3]
                exact ⟨its, rfl, h.up⟩
          · skip
            by_cases c3 : 0 < left
            · simp only [Pg.lp__law_built_1]
              simp [-eAK_ap, mixed, hx, gDiv_int, gMod_int, aLen, gLen, Me.items, Me.cl, Me.slot, hmin, hmax, k1, d1, d2, d3, c3, q4 n S, isL, Me.own, mApp, Me.put, hbig, hbig2]
              refine ⟨its ++ [(q, 1)], ?_, h.leaf q1 q2 q3⟩
              simp [itD]
            · simp only [Pg.lp__law_built_1]
              simp [-eAK_ap, mixed, hx, gDiv_int, gMod_int, aLen, gLen, Me.items, Me.cl, Me.slot, hmin, hmax, k1, d1, d2, d3, c3]
              exact ⟨its, rfl, h.up⟩
        · skip
          by_cases c3 : 0 < left
          · simp only [Pg.lp__law_built_1]
            simp [-eAK_ap, mixed, hx, gDiv_int, gMod_int, aLen, gLen, Me.items, Me.cl, Me.slot, hmin, hmax, k1, d1, d2, c3, q4 n S, isL, Me.own, mApp, Me.put, hbig, hbig2]
            refine ⟨its ++ [(q, 1)], ?_, h.leaf q1 q2 q3⟩
            simp [itD]
          · simp only [Pg.lp__law_built_1]
            simp [-eAK_ap, mixed, hx, gDiv_int, gMod_int, aLen, gLen, Me.items, Me.cl, Me.slot, hmin, hmax, k1, d1, d2, c3]
            exact ⟨its, rfl, h.up⟩
      · skip
        by_cases c3 : 0 < left
        · simp only [Pg.lp__law_built_1]
          simp [-eAK_ap, mixed, hx, gDiv_int, gMod_int, aLen, gLen, Me.items, Me.cl, Me.slot, hmin, hmax, k1, d1, c3, q4 n S, isL, Me.own, mApp, Me.put, hbig, hbig2]
          refine ⟨its ++ [(q, 1)], ?_, h.leaf q1 q2 q3⟩
          simp [itD]
        · simp only [Pg.lp__law_built_1]
          simp [-eAK_ap, mixed, hx, gDiv_int, gMod_int, aLen, gLen, Me.items, Me.cl, Me.slot, hmin, hmax, k1, d1, c3]
          exact ⟨its, rfl, h.up⟩
end Lw

set_option linter.all false
set_option maxRecDepth 100000
namespace Lw
open Mi
theorem okTx_name (x size : Int) (k : Nat) : okTx (nameF (wordF x size k)) := by
  have hw : ∀ c ∈ wordF x size k, c < 1114112 := fun c hc => by
    obtain ⟨j, _, rfl⟩ := List.mem_map.mp hc
    have a := fm_nn (numF x size k j) (b := 26) (by decide)
    have b := fm_lt (numF x size k j) (b := 26) (by decide)
    show 97 + ((numF x size k j).fmod 26).toNat < 1114112
    omega
  unfold okTx nameF
  split
  · rw [List.all_append, Bool.and_eq_true]
    exact ⟨List.all_eq_true.mpr fun c hc => decide_eq_true (hw c hc), by decide⟩
  · exact List.all_eq_true.mpr fun c hc => decide_eq_true (hw c hc)
theorem names_ok {ns : List Int} {most : Int} : ∀ x ∈ namesF ns most, okTx x := fun x hx => by
  obtain ⟨k, _, rfl⟩ := List.mem_map.mp hx
  exact okTx_name _ _ _
theorem names_len {ns : List Int} {most : Int} : (namesF ns most).length = 3 := by simp [namesF]
def wideF (ns : List Int) : Bool := (cellF ns 1).fmod 3 == 0
def mostF (ns : List Int) : Int := if wideF ns then 8 else 3
theorem deps_it {L : List Tx} (hok : ∀ x ∈ L, okTx x) : ∀ {its : List It}, (∀ p ∈ its, ItOk L p) → ∃ k, deps (its.map itD) = some k ∧ k ≤ 59
  | [], _ => ⟨0, rfl, by omega⟩
  | p :: r, h => by
    obtain ⟨k, e, hk⟩ := deps_it hok (its := r) fun q hq => h q (List.mem_cons_of_mem _ hq)
    have hp := h p List.mem_cons_self
    obtain ⟨j, e2, hj⟩ := dep_tD p.1 fun x hx => hok x (hp.nm x hx)
    have := hp.dp
    have := hp.hi
    refine ⟨max (max j 0 + 1) k, ?_, by omega⟩
    simp [deps, itD, dep, e, e2]
theorem cut_ints (ns : List Int) : (∀ x ∈ cut (ns.map D.int) (some 3) (some 63), ∃ c : Int, x = .int c) ∧ (cut (ns.map D.int) (some 3) (some 63)).length ≤ 60 := by
  refine ⟨fun x hx => ?_, ?_⟩
  · have := List.mem_of_mem_drop (List.mem_of_mem_take hx)
    obtain ⟨c, _, rfl⟩ := List.mem_map.mp this
    exact ⟨c, rfl⟩
  · unfold cut sIx
    simp
    omega
theorem built (ns : List Int) (n : Nat) (S : List SC) : ∃ q : Q, dp q ≤ 19 ∧ sz q ≤ 200 ∧ (∀ x ∈ nms q, x ∈ namesF ns (mostF ns)) ∧ Pg.call (n + 3) "_law_built" [.scr (ns.map D.int), .int 16] S = .ok (tD q) S := by
  rw [Pg.c__law_built]
  have hL := names_len (ns := ns) (most := mostF ns)
  have hok := names_ok (ns := ns) (most := mostF ns)
  have enames : Pg.call (n + 2) "_law_names" [.scr (ns.map D.int), .int (mostF ns)] S = .ok (.lst ((namesF ns (mostF ns)).map D.str)) S := names ns (mostF ns) (by unfold mostF; split <;> omega) (by unfold mostF; split <;> omega) n S
  have ec1 : Pg.call (n + 2) "_law_cell_at" [.scr (ns.map D.int), .int 1] S = .ok (.int (cellF ns 1)) S := cell_at ns 1 (n + 1) S
  have ec2 : Pg.call (n + 2) "_law_cell_at" [.scr (ns.map D.int), .int 2] S = .ok (.int (cellF ns 2)) S := cell_at ns 2 (n + 1) S
  have ew : ((cellF ns 1).fmod 3 == 0) = wideF ns := rfl
  have em : atI [D.int 3, .int 8] (if wideF ns then 1 else 0) = some (.int (mostF ns)) := by
    unfold mostF; cases wideF ns <;> simp
  obtain ⟨left, el⟩ : ∃ left : Int, atI [D.int 16, .int 9] (if wideF ns then 1 else 0) = some (.int left) := by
    cases wideF ns
    · exact ⟨16, by simp⟩
    · exact ⟨9, by simp⟩
  have emin : ∀ m : Me, aMin [.v (.int 16), .v (.int 9)] m = some (.int 9) := fun m => rfl
  generalize hLd : namesF ns (mostF ns) = L at *
  generalize hwd : wideF ns = wide at *
  obtain ⟨hc1, hc2⟩ := cut_ints ns
  obtain ⟨m', e, its, left', nots', a7, a8, a9, a10, a12, rfl, hi⟩ := forL_inv (b := .n 7) (body := Pg.lp__law_built_1 (Pg.call (n + 2))) (fun i m => ∃ its left nots a7 a8 a9 a10 a12, m = ⟨stB ns 16 wide L its left nots a7 a8 a9 a10 a12, S⟩ ∧ ItsOk L i its)
    (cut (ns.map D.int) (some 3) (some 63)) ⟨stB ns 16 wide L [] left 6 none none none none none, S⟩ 0 ⟨[], left, 6, none, none, none, none, none, rfl, fun p h => absurd h List.not_mem_nil, Nat.le_refl _, Nat.le_refl _⟩ (by
    rintro i x m hx ⟨its, left, nots, a7, a8, a9, a10, a12, rfl, hi⟩
    have hlt := (List.getElem?_eq_some_iff.mp hx).1
    obtain ⟨c, rfl⟩ := hc1 x (List.mem_of_getElem? hx)
    exact built_step ns 16 wide L hL its left nots a7 a8 a9 a10 a12 n S (0 + i) (by omega) hi c)
  rw [Nat.zero_add] at hi
  unfold stB at e
  rw [show ([] : List It).map itD = [] from rfl] at e
  have hlen := hi.len
  have hsz := hi.sz
  have hbig : its.length ≤ 1000000 := by omega
  obtain ⟨k, ed, hk⟩ := deps_it hok hi.all
  have enil : ∀ m : Me, m.slot 4 = some (.lst (its.map itD)) → gEqU (.sl 4) (.v (.lst [])) m = some (.bl (its.map itD).isEmpty) := fun m h => gEqU_nil_sl 4 _ m h ed hk
  have esl : ∀ (m : Me) (j : Int), m.slot 4 = some (.lst (its.map itD)) → gIxU (.sl 4) (.v (.int j)) m = atI (its.map itD) j := fun m j h => gIxU_sl 4 j m h
  have c0 := fm_nn (cellF ns 2) (b := 2) (by decide)
  have c1 := fm_lt (cellF ns 2) (b := 2) (by decide)
  have ea2 := two_at (.str sAnd) (.str sOr) _ c0 c1
  have e2' : atI [D.str [97, 110, 100], D.str [111, 114]] ((cellF ns 2).fmod 2) = some (D.str (sBin (decide ((cellF ns 2).fmod 2 = 0)))) := by
    rw [show ([97, 110, 100] : Tx) = sAnd from rfl, show ([111, 114] : Tx) = sOr from rfl, ea2]
    by_cases h : (cellF ns 2).fmod 2 = 0 <;> simp [h, sBin]
  by_cases h0 : its = []
  · subst h0
    refine ⟨.all, by simp [dp], by simp [sz], by simp [nms], ?_⟩
    simp only [List.map_nil, List.isEmpty_nil] at e enil
    simp [runF, Pg.b__law_built, ec1, gMod_int, ew, hwd, enames, aInt2, aInt, gInt, em, emin, el, e, aLen, gLen, Me.items, Me.cl, Me.slot, enil, tD, sAll]
  · by_cases h1 : its.length = 1
    · obtain ⟨p, rfl⟩ : ∃ p, its = [p] := List.length_eq_one_iff.mp h1
      have hp := hi.all p List.mem_cons_self
      have := hp.dp
      have := hp.hi
      refine ⟨p.1, by omega, by simp [szs] at hsz; omega, hp.nm, ?_⟩
      simp only [List.map_cons, List.map_nil, itD] at e esl
      simp [runF, Pg.b__law_built, ec1, gMod_int, ew, hwd, enames, aInt2, aInt, gInt, em, emin, el, e, aLen, gLen, Me.items, Me.cl, Me.slot, esl]
    · have hne : (its.map itD).isEmpty = false := by cases its with
        | nil => exact absurd rfl h0
        | cons _ _ => rfl
      rw [hne] at enil
      have h1' : ¬ (its.length : Int) = 1 := by omega
      have hL2 : lComp [11] (.n 11) (iAny (eFrz 4)) tYes (e2 gIxU (eVar 11) (eC (.int 0))) ⟨stB ns 16 wide L its left' nots' a7 a8 a9 a10 a12, S⟩ = .ok (its.map fun p => tD p.1) ⟨[some (.v (.scr (ns.map D.int))), some (.v (.int 16)), some (.v (.bl wide)), some (.v (.lst (L.map D.str))), some (.v (.lst (its.map itD))), some (.v (.int left')), some (.v (.int nots')), a7, a8, a9, a10, none, a12], S⟩ := by
        refine lComp_ok (m1 := ⟨[some (.v (.scr (ns.map D.int))), some (.v (.int 16)), some (.v (.bl wide)), some (.v (.lst (L.map D.str))), some (.v (.lst (its.map itD))), some (.v (.int left')), some (.v (.int nots')), a7, a8, a9, a10, none, a12], S⟩) (xs := its.map itD) (by simp) (by simp [Me.slot]) ?_
        have := comp_two (b := .n 11) (e := e2 gIxU (eVar 11) (eC (.int 0))) (σ := [some (.v (.scr (ns.map D.int))), some (.v (.int 16)), some (.v (.bl wide)), some (.v (.lst (L.map D.str))), some (.v (.lst (its.map itD))), some (.v (.int left')), some (.v (.int nots')), a7, a8, a9, a10, none, a12]) (S := S) (xs := its.map itD) (ys := its.map fun p => tD p.1) [] ?_ (le_big (by simp; omega))
        · simpa [wipe] using this
        · exact two_map fun p _ => ⟨_, rfl, by simp [itD]⟩
      refine ⟨.bin (decide ((cellF ns 2).fmod 2 = 0)) (its.map (·.1)), ?_, by simp [sz]; omega, fun x hx => ?_, ?_⟩
      · have : dps (its.map (·.1)) ≤ 18 := dps_le fun q hq => by
          obtain ⟨p, hp, rfl⟩ := List.mem_map.mp hq
          have a := (hi.all p hp).dp
          have b := (hi.all p hp).hi
          omega
        simp [dp]; omega
      · obtain ⟨q, hq, hx⟩ := nmss_mem (show x ∈ nmss (its.map (·.1)) from hx)
        obtain ⟨p, hp, rfl⟩ := List.mem_map.mp hq
        exact (hi.all p hp).nm x hx
      · simp [runF, Pg.b__law_built, ec1, ec2, gMod_int, ew, hwd, enames, aInt2, aInt, gInt, em, emin, el, e, aLen, gLen, Me.items, Me.cl, Me.slot, enil, h1, h1', hL2, e2', tD, tDs_map]
end Lw

set_option linter.all false
set_option maxRecDepth 100000
namespace Lw
open Mi
mutual
def lvN : Q → Nat
  | .not q => lvN q
  | .bin _ qs => lvNs qs
  | _ => 1
def lvNs : List Q → Nat
  | [] => 0 | q :: r => lvN q + lvNs r
end
theorem oDs_map : ∀ qs : List Q, oDs qs = qs.map oD
  | [] => rfl
  | q :: r => by simp [oDs, oDs_map r]
/-! ### methods -/
def clsQ : Q → String
  | .all => "Every" | .none => "Nobody" | .leaf _ _ _ => "Within" | .not _ => "Opposite" | .bin an _ => cBin an
theorem obj_q (q : Q) (m : Me) : ∃ fs, m.obj (.v (oD q)) = some (clsQ q, fs) ∧ ∀ f, f ≠ "name" → f ≠ "low" → f ≠ "high" → f ≠ "one" → f ≠ "parts" → fs.lookup f = none := by
  cases q with
  | all => exact ⟨[], by simp [oD, Me.obj, clsQ], fun f _ _ _ _ _ => rfl⟩
  | none => exact ⟨[], by simp [oD, Me.obj, clsQ], fun f _ _ _ _ _ => rfl⟩
  | leaf x lo hi => exact ⟨_, by simp [oD, Me.obj, clsQ]; rfl, fun f h1 h2 h3 _ _ => by simp [h1, h2, h3]⟩
  | not q => exact ⟨_, by simp [oD, Me.obj, clsQ]; rfl, fun f _ _ _ h _ => by simp [h]⟩
  | bin an qs => exact ⟨_, by simp [oD, Me.obj, clsQ]; rfl, fun f _ _ _ _ h => by simp [h]⟩
theorem meth_q {n : Nat} {S : List SC} {σ : Env} {q : Q} {o : Ev} {a : Av} {ps : List PV} {ds : List D} {d : D} (f key : String) (ho : o ⟨σ, S⟩ = .ok (.v (oD q)) ⟨σ, S⟩) (hk : Pg.T.mt (clsQ q) f = some key)
    (hf : f ≠ "name" ∧ f ≠ "low" ∧ f ≠ "high" ∧ f ≠ "one" ∧ f ≠ "parts") (ha : a ⟨σ, S⟩ = .ok ps ⟨σ, S⟩) (hd : PV.ds ps = some ds) (h : Pg.call n key (oD q :: ds) S = .ok d S) : eMeth (Pg.call n) Pg.T f o a ⟨σ, S⟩ = .ok (.v d) ⟨σ, S⟩ := by
  obtain ⟨fs, h1, h2⟩ := obj_q q ⟨σ, S⟩
  have h2 := h2 f hf.1 hf.2.1 hf.2.2.1 hf.2.2.2.1 hf.2.2.2.2
  rw [eMeth_ap, ho]
  simp only [h1, PV.d_v, hk, h2, ha, Res.bind_ok, hd, h]
  rfl
def mKey : Q → String
  | .leaf _ _ _ => "Within.mentions" | .not _ => "Opposite.mentions" | .bin _ _ => "Chain.mentions" | _ => "Question.mentions"
def lKey : Q → String
  | .not _ => "Opposite.leaves" | .bin _ _ => "Chain.leaves" | _ => "Question.leaves"
def dKey : Q → String
  | .not _ => "Opposite.depth" | .bin _ _ => "Chain.depth" | _ => "Question.depth"
theorem mt_h (q : Q) : Pg.T.mt (clsQ q) "holds" = some (hKey q) := by
  cases q with
  | bin an qs => cases an <;> simp [clsQ, cBin, hKey, Pg.T, tbOf, Pg.mtL]
  | _ => simp [clsQ, hKey, Pg.T, tbOf, Pg.mtL]
theorem mt_m (q : Q) : Pg.T.mt (clsQ q) "mentions" = some (mKey q) := by
  cases q with
  | bin an qs => cases an <;> simp [clsQ, cBin, mKey, Pg.T, tbOf, Pg.mtL]
  | _ => simp [clsQ, mKey, Pg.T, tbOf, Pg.mtL]
theorem mt_l (q : Q) : Pg.T.mt (clsQ q) "leaves" = some (lKey q) := by
  cases q with
  | bin an qs => cases an <;> simp [clsQ, cBin, lKey, Pg.T, tbOf, Pg.mtL]
  | _ => simp [clsQ, lKey, Pg.T, tbOf, Pg.mtL]
theorem mt_d (q : Q) : Pg.T.mt (clsQ q) "depth" = some (dKey q) := by
  cases q with
  | bin an qs => cases an <;> simp [clsQ, cBin, dKey, Pg.T, tbOf, Pg.mtL]
  | _ => simp [clsQ, dKey, Pg.T, tbOf, Pg.mtL]
theorem nf_h : ("holds" : String) ≠ "name" ∧ ("holds" : String) ≠ "low" ∧ ("holds" : String) ≠ "high" ∧ ("holds" : String) ≠ "one" ∧ ("holds" : String) ≠ "parts" := by decide
theorem nf_m : ("mentions" : String) ≠ "name" ∧ ("mentions" : String) ≠ "low" ∧ ("mentions" : String) ≠ "high" ∧ ("mentions" : String) ≠ "one" ∧ ("mentions" : String) ≠ "parts" := by decide
theorem nf_l : ("leaves" : String) ≠ "name" ∧ ("leaves" : String) ≠ "low" ∧ ("leaves" : String) ≠ "high" ∧ ("leaves" : String) ≠ "one" ∧ ("leaves" : String) ≠ "parts" := by decide
theorem nf_d : ("depth" : String) ≠ "name" ∧ ("depth" : String) ≠ "low" ∧ ("depth" : String) ≠ "high" ∧ ("depth" : String) ≠ "one" ∧ ("depth" : String) ≠ "parts" := by decide
/-- the fields -/
theorem fl_one (q : Q) (σ : Env) (S : List SC) (h : σ[0]? = some (some (.v (oD (.not q))))) : eFld Pg.T "one" (eVar 0) ⟨σ, S⟩ = .ok (.v (oD q)) ⟨σ, S⟩ := by
  simp [h, oD, Me.obj, Pg.T, tbOf, Pg.flL]
theorem fl_parts (an : Bool) (qs : List Q) (σ : Env) (S : List SC) (h : σ[0]? = some (some (.v (oD (.bin an qs))))) : eFld Pg.T "parts" (eVar 0) ⟨σ, S⟩ = .ok (.v (.lst (oDs qs))) ⟨σ, S⟩ := by
  cases an <;> simp [h, oD, Me.obj, Pg.T, tbOf, Pg.flL, cBin]
theorem asInts_ints : ∀ l : List Int, asInts (l.map D.int) = some l
  | [] => rfl
  | a :: r => by simp [asInts, asInts_ints r]
/-- a list of what each part tells -/
theorem parts_comp {e : Ev} {qs : List Q} {S : List SC} {σ : Env} (j : Nat) (hj : j < σ.length) (hj2 : (⟨σ, S⟩ : Me).slot j = none) (an : Bool) (h0 : σ[0]? = some (some (.v (oD (.bin an qs))))) (ys : List D) (hl : qs.length ≤ 10000)
    (he : Two (fun q y => e ⟨(σ.set j none).set j (some (.v (oD q))), S⟩ = .ok (.v y) ⟨(σ.set j none).set j (some (.v (oD q))), S⟩) qs ys) :
    lComp [j] (.n j) (iAny (eFld Pg.T "parts" (eVar 0))) tYes e ⟨σ, S⟩ = .ok ys ⟨σ, S⟩ := by
  refine lComp_ok (m1 := ⟨σ, S⟩) (xs := oDs qs) ?_ (by simp [hj2]) ?_
  · rw [iAny_ap, fl_parts an qs σ S h0]; rfl
  · have := comp_two (b := .n j) (e := e) (σ := σ.set j none) (S := S) (xs := oDs qs) (ys := ys) [] ?_ (le_big (by rw [oDs_map]; simp; omega))
    · simpa [wipe] using this
    · rw [oDs_map]
      clear h0
      induction he with
      | nil => exact .nil
      | cons h _ ih => exact .cons ⟨_, by simp [Bd.set, hj], h⟩ (ih (by simp at hl; omega))
mutual
theorem leaves : ∀ (q : Q) (n : Nat) (S : List SC), dp q ≤ n → sz q ≤ 1000 → Pg.call (n + 1) (lKey q) [oD q] S = .ok (.int (lvN q)) S
  | .all, n, S, _, _ => by
    show Pg.call (n + 1) "Question.leaves" _ S = _
    rw [Pg.c_Question_leaves]; simp [runF, Pg.b_Question_leaves, lvN]
  | .none, n, S, _, _ => by
    show Pg.call (n + 1) "Question.leaves" _ S = _
    rw [Pg.c_Question_leaves]; simp [runF, Pg.b_Question_leaves, lvN]
  | .leaf x lo hi, n, S, _, _ => by
    show Pg.call (n + 1) "Question.leaves" _ S = _
    rw [Pg.c_Question_leaves]; simp [runF, Pg.b_Question_leaves, lvN]
  | .not q, n, S, hd, hz => by
    show Pg.call (n + 1) "Opposite.leaves" _ S = _
    obtain ⟨n, rfl⟩ : ∃ k, n = k + 1 := ⟨n - 1, by simp [dp] at hd; omega⟩
    have ih := leaves q n S (by simp [dp] at hd; omega) (by simp [sz] at hz; omega)
    rw [Pg.c_Opposite_leaves]
    have e := meth_q (n := n + 1) (S := S) (σ := [some (.v (oD (.not q)))]) (q := q) (o := eFld Pg.T "one" (eVar 0)) (a := aNil) "leaves" (lKey q) (fl_one q _ S rfl) (mt_l q) nf_l rfl rfl ih
    simp [runF, Pg.b_Opposite_leaves, lvN, -eMeth_ap, e]
  | .bin an qs, n, S, hd, hz => by
    obtain ⟨n, rfl⟩ : ∃ k, n = k + 1 := ⟨n - 1, by simp [dp] at hd; omega⟩
    have hz' : szs qs + 1 ≤ 1000 := hz
    have hl := len_szs qs
    obtain ⟨ys, hy, ih⟩ := leavess qs n S (by simp [dp] at hd; omega) (by omega)
    have hL : lComp [1] (.n 1) (iAny (eFld Pg.T "parts" (eVar 0))) tYes (eMeth (Pg.call (n + 1)) Pg.T "leaves" (eVar 1) aNil) ⟨[some (.v (oD (.bin an qs))), none], S⟩ = .ok (ys.map D.int) ⟨[some (.v (oD (.bin an qs))), none], S⟩ :=
      parts_comp 1 (by simp) rfl an rfl _ (by omega) (two_imp (fun q y h => meth_q (q := q) "leaves" (lKey q) (by simp) (mt_l q) nf_l rfl rfl h) ih)
    show Pg.call (n + 2) "Chain.leaves" _ S = _
    rw [Pg.c_Chain_leaves]
    simp [runF, Pg.b_Chain_leaves, lvN, hL, aSum, Me.ls, Me.cl, asInts_ints, hy]
theorem leavess : ∀ (qs : List Q) (n : Nat) (S : List SC), dps qs ≤ n → szs qs ≤ 1000 → ∃ ys : List Int, ys.sum = (lvNs qs : Nat) ∧ Two (fun q y => Pg.call (n + 1) (lKey q) [oD q] S = .ok y S) qs (ys.map D.int)
  | [], _, _, _, _ => ⟨[], rfl, .nil⟩
  | q :: r, n, S, hd, hz => by
    obtain ⟨ys, h1, h2⟩ := leavess r n S (by simp [dps] at hd; omega) (by simp [szs] at hz; omega)
    exact ⟨(lvN q : Nat) :: ys, by simp [lvNs, h1], .cons (leaves q n S (by simp [dps] at hd; omega) (by simp [szs] at hz; omega)) h2⟩
end
def mxI : List Int → Int
  | [] => 0
  | y :: ys => maxI y ys
mutual
def dI : Q → Int
  | .not q => 1 + dI q
  | .bin _ qs => 1 + mxI (dIs qs)
  | _ => 0
def dIs : List Q → List Int
  | [] => [] | q :: r => dI q :: dIs r
end
mutual
theorem depth : ∀ (q : Q) (n : Nat) (S : List SC), dp q ≤ n → sz q ≤ 1000 → Pg.call (n + 1) (dKey q) [oD q] S = .ok (.int (dI q)) S
  | .all, n, S, _, _ => by
    show Pg.call (n + 1) "Question.depth" _ S = _
    rw [Pg.c_Question_depth]; simp [runF, Pg.b_Question_depth, dI]
  | .none, n, S, _, _ => by
    show Pg.call (n + 1) "Question.depth" _ S = _
    rw [Pg.c_Question_depth]; simp [runF, Pg.b_Question_depth, dI]
  | .leaf x lo hi, n, S, _, _ => by
    show Pg.call (n + 1) "Question.depth" _ S = _
    rw [Pg.c_Question_depth]; simp [runF, Pg.b_Question_depth, dI]
  | .not q, n, S, hd, hz => by
    show Pg.call (n + 1) "Opposite.depth" _ S = _
    obtain ⟨n, rfl⟩ : ∃ k, n = k + 1 := ⟨n - 1, by simp [dp] at hd; omega⟩
    have ih := depth q n S (by simp [dp] at hd; omega) (by simp [sz] at hz; omega)
    rw [Pg.c_Opposite_depth]
    have e := meth_q (n := n + 1) (S := S) (σ := [some (.v (oD (.not q)))]) (q := q) (o := eFld Pg.T "one" (eVar 0)) (a := aNil) "depth" (dKey q) (fl_one q _ S rfl) (mt_d q) nf_d rfl rfl ih
    simp [runF, Pg.b_Opposite_depth, dI, -eMeth_ap, e]
  | .bin an qs, n, S, hd, hz => by
    obtain ⟨n, rfl⟩ : ∃ k, n = k + 1 := ⟨n - 1, by simp [dp] at hd; omega⟩
    have hz' : szs qs + 1 ≤ 1000 := hz
    have hl := len_szs qs
    have ih := depths qs n S (by simp [dp] at hd; omega) (by omega)
    have hL : lComp [1] (.n 1) (iAny (eFld Pg.T "parts" (eVar 0))) tYes (eMeth (Pg.call (n + 1)) Pg.T "depth" (eVar 1) aNil) ⟨[some (.v (oD (.bin an qs))), none], S⟩ = .ok ((dIs qs).map D.int) ⟨[some (.v (oD (.bin an qs))), none], S⟩ :=
      parts_comp 1 (by simp) rfl an rfl _ (by omega) (two_imp (fun q y h => meth_q (q := q) "depth" (dKey q) (by simp) (mt_d q) nf_d rfl rfl h) ih)
    show Pg.call (n + 2) "Chain.depth" _ S = _
    rw [Pg.c_Chain_depth]
    have hm : ∀ m : Me, aMaxD [.v (.lst ((dIs qs).map D.int))] [.v (.int 0)] m = some (.int (mxI (dIs qs))) := fun m => by
      unfold aMaxD
      have : (Me.ls m (.v (.lst ((dIs qs).map D.int)))).bind asInts = some (dIs qs) := by
        simp only [Me.ls, Me.cl, Option.bind_some]
        exact asInts_ints _
      simp only [this]
      cases dIs qs <;> rfl
    simp [runF, Pg.b_Chain_depth, dI, hL, hm]
theorem depths : ∀ (qs : List Q) (n : Nat) (S : List SC), dps qs ≤ n → szs qs ≤ 1000 → Two (fun q y => Pg.call (n + 1) (dKey q) [oD q] S = .ok y S) qs ((dIs qs).map D.int)
  | [], _, _, _, _ => .nil
  | q :: r, n, S, hd, hz => .cons (depth q n S (by simp [dps] at hd; omega) (by simp [szs] at hz; omega)) (depths r n S (by simp [dps] at hd; omega) (by simp [szs] at hz; omega))
end
end Lw

set_option linter.all false
set_option maxRecDepth 100000
namespace Lw
open Mi
/-! # names told, by lists in the store -/
theorem nms_len (q : Q) : (nms q).length ≤ sz q := go q
where
  go : ∀ q : Q, (nms q).length ≤ sz q
    | .all => by simp [nms, sz]
    | .none => by simp [nms, sz]
    | .leaf _ _ _ => by simp [nms, sz]
    | .not q => by have := go q; simp [nms, sz]; omega
    | .bin an qs => by have := gos qs; simp [nms, sz]; omega
  gos : ∀ qs : List Q, (nmss qs).length ≤ szs qs
    | [] => by simp [nmss, szs]
    | q :: r => by have := go q; have := gos r; simp [nmss, szs]; omega
theorem meth_qS {n : Nat} {S S' : List SC} {σ : Env} {q : Q} {o : Ev} {a : Av} {ps : List PV} {ds : List D} {d : D} (f key : String) (ho : o ⟨σ, S⟩ = .ok (.v (oD q)) ⟨σ, S⟩) (hk : Pg.T.mt (clsQ q) f = some key)
    (hf : f ≠ "name" ∧ f ≠ "low" ∧ f ≠ "high" ∧ f ≠ "one" ∧ f ≠ "parts") (ha : a ⟨σ, S⟩ = .ok ps ⟨σ, S⟩) (hd : PV.ds ps = some ds) (h : Pg.call n key (oD q :: ds) S = .ok d S') : eMeth (Pg.call n) Pg.T f o a ⟨σ, S⟩ = .ok (.v d) ⟨σ, S'⟩ := by
  obtain ⟨fs, h1, h2⟩ := obj_q q ⟨σ, S⟩
  have h2 := h2 f hf.1 hf.2.1 hf.2.2.1 hf.2.2.2.1 hf.2.2.2.2
  rw [eMeth_ap, ho]
  simp only [h1, PV.d_v, hk, h2, ha, Res.bind_ok, hd, h]
  rfl
/-- a new list of the store, at k -/
structure NewL (S S' : List SC) (k : Nat) (xs : List D) : Prop where
  at_ : S'[k]? = some (.c (.lst xs))
  ge : S.length ≤ k
  ext : ∃ R, S' = S ++ R
mutual
theorem mentions : ∀ (q : Q) (n : Nat) (S : List SC), dp q ≤ n → sz q ≤ 1000 → ∃ S' k, Pg.call (n + 1) (mKey q) [oD q] S = .ok (.ref k) S' ∧ NewL S S' k ((nms q).map D.str)
  | .all, n, S, _, _ => by
    show ∃ S' k, Pg.call (n + 1) "Question.mentions" _ S = _ ∧ _
    rw [Pg.c_Question_mentions]
    exact ⟨S ++ [.c (.lst [])], S.length, by simp [runF, Pg.b_Question_mentions, eNewL], by simp [nms], Nat.le_refl _, _, rfl⟩
  | .none, n, S, _, _ => by
    show ∃ S' k, Pg.call (n + 1) "Question.mentions" _ S = _ ∧ _
    rw [Pg.c_Question_mentions]
    exact ⟨S ++ [.c (.lst [])], S.length, by simp [runF, Pg.b_Question_mentions, eNewL], by simp [nms], Nat.le_refl _, _, rfl⟩
  | .leaf x lo hi, n, S, _, _ => by
    show ∃ S' k, Pg.call (n + 1) "Within.mentions" _ S = _ ∧ _
    rw [Pg.c_Within_mentions]
    exact ⟨S ++ [.c (.lst [.str x])], S.length, by simp [runF, Pg.b_Within_mentions, eNewL, oD, Me.obj, Pg.T, tbOf, Pg.flL], by simp [nms], Nat.le_refl _, _, rfl⟩
  | .not q, n, S, hd, hz => by
    show ∃ S' k, Pg.call (n + 1) "Opposite.mentions" _ S = _ ∧ _
    obtain ⟨n, rfl⟩ : ∃ k, n = k + 1 := ⟨n - 1, by simp [dp] at hd; omega⟩
    obtain ⟨S', k, ih, h⟩ := mentions q n S (by simp [dp] at hd; omega) (by simp [sz] at hz; omega)
    refine ⟨S', k, ?_, h⟩
    rw [Pg.c_Opposite_mentions]
    have e := meth_qS (n := n + 1) (S := S) (σ := [some (.v (oD (.not q)))]) (q := q) (o := eFld Pg.T "one" (eVar 0)) (a := aNil) "mentions" (mKey q) (fl_one q _ S rfl) (mt_m q) nf_m rfl rfl ih
    simp [runF, Pg.b_Opposite_mentions, -eMeth_ap, e]
  | .bin an qs, n, S, hd, hz => by
    obtain ⟨n, rfl⟩ : ∃ k, n = k + 1 := ⟨n - 1, by simp [dp] at hd; omega⟩
    have hz' : szs qs + 1 ≤ 1000 := hz
    obtain ⟨y2, R, e⟩ := mentionss qs n S (by simp [dp] at hd; omega) (oD (.bin an qs)) [] [] (by simp; omega) none
    show ∃ S' k, Pg.call (n + 2) "Chain.mentions" _ S = _ ∧ _
    rw [Pg.c_Chain_mentions]
    have hp := fl_parts an qs [some (.v (oD (.bin an qs))), some (.v (.ref S.length)), none] (S ++ [.c (.lst [])]) rfl
    have hI : iAny (eFld Pg.T "parts" (eVar 0)) ⟨[some (.v (oD (.bin an qs))), some (.v (.ref S.length)), none], S ++ [.c (.lst [])]⟩ = .ok (oDs qs) ⟨[some (.v (oD (.bin an qs))), some (.v (.ref S.length)), none], S ++ [.c (.lst [])]⟩ := by rw [iAny_ap, hp]; rfl
    simp only [List.map_nil, List.nil_append] at e
    exact ⟨S ++ .c (.lst ((nmss qs).map D.str)) :: R, S.length, by simp [runF, Pg.b_Chain_mentions, eNewL, -iAny_ap, hI, e], by simp [nms], Nat.le_refl _, _, rfl⟩
theorem mentionss : ∀ (qs : List Q) (n : Nat) (S : List SC), dps qs ≤ n → ∀ (s0 : D) (acc : List Tx) (R : List SC), acc.length + szs qs ≤ 1000 → ∀ x2 : Option FV,
    ∃ y2 R', forL (.n 2) (Pg.lp_Chain_mentions_1 (Pg.call (n + 1))) (oDs qs) ⟨[some (.v s0), some (.v (.ref S.length)), x2], S ++ .c (.lst (acc.map D.str)) :: R⟩ = .nx ⟨[some (.v s0), some (.v (.ref S.length)), y2], S ++ .c (.lst ((acc ++ nmss qs).map D.str)) :: R'⟩
  | [], n, S, _, s0, acc, R, _, x2 => ⟨x2, R, by simp [oDs, forL, nmss]⟩
  | q :: r, n, S, hd, s0, acc, R, ha, x2 => by
    simp only [szs] at ha
    have hq := nms_len q
    obtain ⟨S', k, ih, h1, h2, R1, rfl⟩ := mentions q n (S ++ .c (.lst (acc.map D.str)) :: R) (by simp [dps] at hd; omega) (by omega)
    obtain ⟨y2, R2, e2⟩ := mentionss r n S (by simp [dps] at hd; omega) s0 (acc ++ nms q) (R ++ R1) (by simp; omega) (some (.v (oD q)))
    refine ⟨y2, R2, ?_⟩
    have ew : acc ++ nmss (q :: r) = acc ++ nms q ++ nmss r := by rw [nmss]; simp
    rw [ew, ← e2, oDs]
    refine forL_cons (σ1 := [some (.v s0), some (.v (.ref S.length)), some (.v (oD q))]) (by simp [Bd.set]) ?_
    have e := meth_qS (n := n + 1) (S := S ++ .c (.lst (acc.map D.str)) :: R) (σ := [some (.v s0), some (.v (.ref S.length)), some (.v (oD q))]) (q := q) (o := eVar 2) (a := aNil) "mentions" (mKey q) rfl (mt_m q) nf_m rfl rfl ih
    have hb : (acc.map D.str).length + ((nms q).map D.str).length ≤ big := le_big (by simp; omega)
    simp only [Pg.lp_Chain_mentions_1]
    rw [List.map_append]
    generalize acc.map D.str = A at *
    generalize (nms q).map D.str = B at *
    simp only [List.append_assoc, List.cons_append] at h1 e
    simp [eExtL, -eMeth_ap, e, Me.own, Me.glob, Me.cl, isL, hb, Me.put, h1]
end
end Lw

set_option linter.all false
set_option maxRecDepth 100000
namespace Lw
open Mi
/-! # what is measured -/
theorem mxI_nn : ∀ xs : List Int, (∀ x ∈ xs, 0 ≤ x) → 0 ≤ mxI xs
  | [], _ => Int.le_refl _
  | y :: ys, h => Int.le_trans (h y List.mem_cons_self) (maxI_ge y ys).1
mutual
theorem dI_nn : ∀ q : Q, 0 ≤ dI q
  | .all => Int.le_refl _
  | .none => Int.le_refl _
  | .leaf _ _ _ => Int.le_refl _
  | .not q => by have := dI_nn q; simp [dI]; omega
  | .bin _ qs => by have := mxI_nn (dIs qs) (dIs_nn qs); simp [dI]; omega
theorem dIs_nn : ∀ qs : List Q, ∀ x ∈ dIs qs, 0 ≤ x
  | [], x, h => absurd h List.not_mem_nil
  | q :: r, x, h => by
    rcases List.mem_cons.mp h with rfl | h
    · exact dI_nn q
    · exact dIs_nn r x h
end
/-- the greatest so far -/
def mxF (a : Int) (xs : List Int) : Int := xs.foldl (fun a y => if y > a then y else a) a
theorem mxF_mxI : ∀ xs : List Int, (∀ x ∈ xs, 0 ≤ x) → mxF 0 xs = mxI xs
  | [], _ => rfl
  | y :: ys, h => by
    have h0 := h y List.mem_cons_self
    show List.foldl _ (if y > 0 then y else 0) ys = _
    have : (if y > 0 then y else 0) = y := by split <;> omega
    rw [this]
    rfl
mutual
theorem measure : ∀ (q : Q) (n : Nat) (S : List SC), dp q ≤ n → sz q ≤ 1000 → Pg.call (n + 1) "_law_measure" [tD q] S = .ok (.tup [.int (lvN q), .int (dI q), .lst ((nms q).map D.str)]) S
  | .all, n, S, _, _ => by
    rw [Pg.c__law_measure]; simp [runF, Pg.b__law_measure, tD, sAll, lvN, dI, nms]
  | .none, n, S, _, _ => by
    rw [Pg.c__law_measure]; simp [runF, Pg.b__law_measure, tD, sNone, lvN, dI, nms]
  | .leaf x lo hi, n, S, _, _ => by
    rw [Pg.c__law_measure]; simp [runF, Pg.b__law_measure, tD, sIn, lvN, dI, nms]
  | .not q, n, S, hd, hz => by
    obtain ⟨n, rfl⟩ : ∃ k, n = k + 1 := ⟨n - 1, by simp [dp] at hd; omega⟩
    have ih := measure q n S (by simp [dp] at hd; omega) (by simp [sz] at hz; omega)
    rw [Pg.c__law_measure]; simp [runF, Pg.b__law_measure, tD, sNot, lvN, dI, nms, ih, Bd.set, bTs, Int.add_comm]
  | .bin an qs, n, S, hd, hz => by
    obtain ⟨n, rfl⟩ : ∃ k, n = k + 1 := ⟨n - 1, by simp [dp] at hd; omega⟩
    have hz' : szs qs + 1 ≤ 1000 := hz
    obtain ⟨y1, y2, y3, y5, e⟩ := measures qs n S (by simp [dp] at hd; omega) (tD (.bin an qs)) 0 0 [] (by simp; omega) none none none none
    rw [Pg.c__law_measure]
    have hm := mxF_mxI _ (dIs_nn qs)
    simp only [List.map_nil, List.nil_append, Int.zero_add, hm] at e
    cases an with
    | true =>
      simp only [tD, sBin, sAnd] at e
      simp [runF, Pg.b__law_measure, tD, sBin, sAnd, lvN, dI, nms]
      simp at e
      simp [e, Int.add_comm]
    | false =>
      simp only [tD, sBin, sOr] at e
      simp [runF, Pg.b__law_measure, tD, sBin, sOr, lvN, dI, nms]
      simp at e
      simp [e, Int.add_comm]
theorem measures : ∀ (qs : List Q) (n : Nat) (S : List SC), dps qs ≤ n → ∀ (s0 : D) (a b : Int) (acc : List Tx), acc.length + szs qs ≤ 1000 → ∀ x1 x2 x3 x5 : Option FV,
    ∃ y1 y2 y3 y5, forL (.n 5) (Pg.lp__law_measure_1 (Pg.call (n + 1))) (tDs qs) ⟨[some (.v s0), x1, x2, x3, some (.v (.lst [.int a, .int b, .lst (acc.map D.str)])), x5], S⟩ = .nx ⟨[some (.v s0), y1, y2, y3, some (.v (.lst [.int (a + lvNs qs), .int (mxF b (dIs qs)), .lst ((acc ++ nmss qs).map D.str)])), y5], S⟩
  | [], n, S, _, s0, a, b, acc, _, x1, x2, x3, x5 => ⟨x1, x2, x3, x5, by simp [tDs, forL, nmss, lvNs, dIs, mxF]⟩
  | q :: r, n, S, hd, s0, a, b, acc, ha, x1, x2, x3, x5 => by
    simp only [szs] at ha
    have hq := nms_len q
    have ih := measure q n S (by simp [dps] at hd; omega) (by omega)
    obtain ⟨y1, y2, y3, y5, e2⟩ := measures r n S (by simp [dps] at hd; omega) s0 (a + lvN q) (if dI q > b then dI q else b) (acc ++ nms q) (by simp; omega) (some (.v (.int (lvN q)))) (some (.v (.int (dI q)))) (some (.v (.lst ((nms q).map D.str)))) (some (.v (tD q)))
    refine ⟨y1, y2, y3, y5, ?_⟩
    have ew : acc ++ nmss (q :: r) = acc ++ nms q ++ nmss r := by rw [nmss]; simp
    have ew2 : a + (lvNs (q :: r) : Nat) = a + lvN q + lvNs r := by rw [lvNs]; push_cast; omega
    have ew3 : mxF b (dIs (q :: r)) = mxF (if dI q > b then dI q else b) (dIs r) := rfl
    rw [ew, ew2, ew3, ← e2, tDs]
    refine forL_cons (σ1 := [some (.v s0), x1, x2, x3, some (.v (.lst [.int a, .int b, .lst (acc.map D.str)])), some (.v (tD q))]) (by simp [Bd.set]) ?_
    have hb : (acc.map D.str).length + ((nms q).map D.str).length ≤ big := le_big (by simp; omega)
    have hg := fun m => gAddU_lst (acc.map D.str) ((nms q).map D.str) m hb
    simp only [Pg.lp__law_measure_1]
    rw [List.map_append]
    generalize acc.map D.str = A at *
    generalize (nms q).map D.str = B at *
    simp [ih, Bd.set, bTs, aMax, gMax2, hg]
end
theorem law_whole (i : Int) (n : Nat) (S : List SC) : Pg.call (n + 1) "_law_whole" [.int i] S = .ok (.bl true) S := by
  rw [Pg.c__law_whole]
  simp [runF, Pg.b__law_whole, gIsT, tyD, isTy, gIsB]
/-- a list of numbers is the same list -/
theorem law_flat (xs : List Int) (hl : xs.length ≤ 1000) (n : Nat) (S : List SC) : Pg.call (n + 2) "_law_flat" [.lst (xs.map D.int), .lst (xs.map D.int)] S = .ok (.bl true) S := by
  rw [Pg.c__law_flat]
  have ed := ints_dep xs
  have hne : ∀ m : Me, gNeU (.v (.lst (xs.map D.int))) (.v (.lst (xs.map D.int))) m = some (.bl false) := fun m => by
    have e1 : datum (.lst (xs.map D.int)) = true := by simp [datum, dep, ed]
    have e2 : eqv (.lst (xs.map D.int)) (.lst (xs.map D.int)) = true := by
      show eqvs _ _ = true
      clear hl ed e1
      induction xs with
      | nil => rfl
      | cons a r ih => simp only [List.map_cons, eqvs, eqv, ih]; simp
    simp [gNeU, orG, gNe, Me.dat, Me.cl, e1, e2]
  have hc : lComp [2] (.n 2) (iAny (eVar 0)) (tTru (eCall (Pg.call (n + 1)) "_law_whole" (aCons (eVar 2) aNil))) (eVar 2) ⟨[some (.v (.lst (xs.map D.int))), some (.v (.lst (xs.map D.int))), none], S⟩ = .ok (sel (xs.map D.int) (xs.map fun _ => true)) ⟨[some (.v (.lst (xs.map D.int))), some (.v (.lst (xs.map D.int))), none], S⟩ := by
    refine lComp_ok (m1 := ⟨[some (.v (.lst (xs.map D.int))), some (.v (.lst (xs.map D.int))), none], S⟩) (xs := xs.map D.int) (by simp) (by simp [Me.slot]) ?_
    have := comp_sel (b := .n 2) (t := tTru (eCall (Pg.call (n + 1)) "_law_whole" (aCons (eVar 2) aNil))) (e := eVar 2) (σ := [some (.v (.lst (xs.map D.int))), some (.v (.lst (xs.map D.int))), none]) (S := S) (xs := xs.map D.int) (bs := xs.map fun _ => true) [] ?_ (le_big (by simp; omega))
    · simpa [wipe] using this
    · exact two_map fun i _ => ⟨_, rfl, by simp [law_whole], by simp⟩
  have hs : sel (xs.map D.int) (xs.map fun _ => true) = xs.map D.int := by
    clear hc hne ed hl
    induction xs with
    | nil => rfl
    | cons a r ih => simp only [List.map_cons, sel, ih]
  rw [hs] at hc
  simp [runF, Pg.b__law_flat, gIsT, tyD, isTy, hne, hc, aLen, gLen, Me.items, Me.cl]
end Lw

set_option linter.all false
set_option maxRecDepth 100000
namespace Lw
open Mi
/-! # counted -/
theorem strs_dep : ∀ xs : List Tx, (∀ x ∈ xs, okTx x) → deps (xs.map D.str) = some 0
  | [], _ => rfl
  | x :: r, h => by
    have hx : x.all (fun c => decide (c < 1114112)) = true := h x List.mem_cons_self
    have := strs_dep r fun y hy => h y (List.mem_cons_of_mem _ hy)
    rw [List.map_cons, deps, this, dep, if_pos hx]
    rfl
theorem strs_eqv : ∀ xs : List Tx, eqvs (xs.map D.str) (xs.map D.str) = true
  | [] => rfl
  | x :: r => by simp only [List.map_cons, eqvs, eqv, strs_eqv r]; simp
theorem ne_refs {xs : List Tx} (h : ∀ x ∈ xs, okTx x) {m : Me} {k : Nat} (hk : m.S[k]? = some (.c (.lst (xs.map D.str)))) : gNeU (.v (.ref k)) (.v (.lst (xs.map D.str))) m = some (.bl false) := by
  have e1 : datum (.lst (xs.map D.str)) = true := by simp [datum, dep, strs_dep xs h]
  have e2 : eqv (.lst (xs.map D.str)) (.lst (xs.map D.str)) = true := strs_eqv xs
  simp [gNeU, orG, gNe, Me.dat, Me.cl, Me.glob, hk, e1, e2]
theorem eq_refs {xs : List Tx} (h : ∀ x ∈ xs, okTx x) {m : Me} {k : Nat} (hk : m.S[k]? = some (.c (.lst (xs.map D.str)))) : gEqU (.v (.ref k)) (.v (.lst (xs.map D.str))) m = some (.bl true) := by
  have e1 : datum (.lst (xs.map D.str)) = true := by simp [datum, dep, strs_dep xs h]
  have e2 : eqv (.lst (xs.map D.str)) (.lst (xs.map D.str)) = true := strs_eqv xs
  simp [gEqU, orG, gEq, Me.dat, Me.cl, Me.glob, hk, e1, e2]
theorem counted (q : Q) (n : Nat) (S : List SC) (hd : dp q ≤ n) (hz : sz q ≤ 1000) (hok : ∀ x ∈ nms q, okTx x) : ∃ R, Pg.call (n + 2) "_law_counted" [oD q, tD q] S = .ok (.bl true) (S ++ R) := by
  obtain ⟨S1, k, e1, h1, h2, R1, rfl⟩ := mentions q n S hd hz
  have hlen := nms_len q
  have hset : (S ++ R1).set k (.c (.lst ((nms q).map D.str ++ [.str [97]]))) = S ++ R1.set (k - S.length) (.c (.lst ((nms q).map D.str ++ [.str [97]]))) := List.set_append_right _ _ h2
  obtain ⟨S3, k3, e3, h3, h4, R3, hS3⟩ := mentions q n ((S ++ R1).set k (.c (.lst ((nms q).map D.str ++ [.str [97]])))) hd hz
  refine ⟨R1.set (k - S.length) (.c (.lst ((nms q).map D.str ++ [.str [97]]))) ++ R3, ?_⟩
  rw [← List.append_assoc, ← hset, ← hS3]
  rw [Pg.c__law_counted]
  have em := measure q n S hd hz
  have el := leaves q n S hd hz
  have ed := depth q n S hd hz
  have ew := fun i S => law_whole i n S
  have ml : ∀ σ : Env, σ[0]? = some (some (.v (oD q))) → eMeth (Pg.call (n + 1)) Pg.T "leaves" (eVar 0) aNil ⟨σ, S⟩ = .ok (.v (.int (lvN q))) ⟨σ, S⟩ := fun σ h => meth_q (q := q) "leaves" (lKey q) (by simp [h]) (mt_l q) nf_l rfl rfl el
  have md : ∀ σ : Env, σ[0]? = some (some (.v (oD q))) → eMeth (Pg.call (n + 1)) Pg.T "depth" (eVar 0) aNil ⟨σ, S⟩ = .ok (.v (.int (dI q))) ⟨σ, S⟩ := fun σ h => meth_q (q := q) "depth" (dKey q) (by simp [h]) (mt_d q) nf_d rfl rfl ed
  have mm : ∀ σ : Env, σ[0]? = some (some (.v (oD q))) → eMeth (Pg.call (n + 1)) Pg.T "mentions" (eVar 0) aNil ⟨σ, S⟩ = .ok (.v (.ref k)) ⟨σ, S ++ R1⟩ := fun σ h => meth_qS (q := q) "mentions" (mKey q) (by simp [h]) (mt_m q) nf_m rfl rfl e1
  have mm3 : ∀ σ : Env, σ[0]? = some (some (.v (oD q))) → eMeth (Pg.call (n + 1)) Pg.T "mentions" (eVar 0) aNil ⟨σ, (S ++ R1).set k (.c (.lst ((nms q).map D.str ++ [.str [97]])))⟩ = .ok (.v (.ref k3)) ⟨σ, S3⟩ := fun σ h => meth_qS (q := q) "mentions" (mKey q) (by simp [h]) (mt_m q) nf_m rfl rfl e3
  have hb : ((nms q).map D.str).length < big := by simp; rw [big_is]; omega
  have hne := fun (σ : Env) => ne_refs hok (m := ⟨σ, S ++ R1⟩) h1
  have heq := fun (σ : Env) => eq_refs hok (m := ⟨σ, S3⟩) h3
  have hty : ∀ σ : Env, gIsT "list" (.v (.ref k)) ⟨σ, S ++ R1⟩ = some (.bl true) := fun σ => by simp [gIsT, Me.glob, h1, isTy]
  clear e1 e3 h2 h3 h4 hS3 hset
  generalize (nms q).map D.str = N at *
  simp [runF, Pg.b__law_counted, em, Bd.set, bTs, -eMeth_ap, ml, md, mm, mm3, ew, hne, heq, hty, Me.own, Me.glob, h1, isL, mApp, hb, Me.put]
end Lw

set_option linter.all false
set_option maxRecDepth 100000
namespace Lw
open Mi
/-! # the table -/
theorem cut_cells (ns : List Int) : (∀ x ∈ cut (ns.map D.int) (some 2) (some 22), ∃ c : Int, x = .int c) ∧ (cut (ns.map D.int) (some 2) (some 22)).length ≤ 20 := by
  refine ⟨fun x hx => ?_, ?_⟩
  · have := List.mem_of_mem_drop (List.mem_of_mem_take hx)
    obtain ⟨c, _, rfl⟩ := List.mem_map.mp this
    exact ⟨c, rfl⟩
  · unfold cut sIx
    simp
    omega
/-- a row -/
def RowOk (L : List Tx) (y : D) : Prop := ∃ kvs, y = .dct kvs ∧ KvI kvs ∧ ∀ x ∈ L, ∃ v : Int, look kvs (.s x) = some (.int v)
/-- the row's values -/
structure TabOk (L : List Tx) (T : List (Ky × D)) : Prop where
  nd : (T.map (·.1)).Nodup
  row : ∀ p ∈ T, ∃ r : Int, p.1 = .i r
  ok : ∀ p ∈ T, RowOk L p.2
theorem put_keys (T : List (Ky × D)) (k : Ky) (d : D) : (putKv T k d).map (·.1) = if k ∈ T.map (·.1) then T.map (·.1) else T.map (·.1) ++ [k] := by
  unfold putKv
  by_cases q : (T.any fun kv => decide (kv.1 = k)) = true
  · have hm : k ∈ T.map (·.1) := by
      obtain ⟨p, hp, e⟩ := List.any_eq_true.mp q
      exact List.mem_map.mpr ⟨p, hp, by simpa using e⟩
    rw [if_pos q, if_pos hm, List.map_map]
    apply List.map_congr_left
    intro p _
    show (if p.1 = k then (p.1, d) else p).1 = p.1
    split <;> rfl
  · have hm : ¬ k ∈ T.map (·.1) := fun h => by
      obtain ⟨p, hp, e⟩ := List.mem_map.mp h
      exact q (List.any_eq_true.mpr ⟨p, hp, by simpa using e⟩)
    rw [if_neg q, if_neg hm]; simp
theorem put_mem {T : List (Ky × D)} {k : Ky} {d : D} {p : Ky × D} (h : p ∈ putKv T k d) : p = (k, d) ∨ p ∈ T := by
  unfold putKv at h
  split at h
  · obtain ⟨r, hr, rfl⟩ := List.mem_map.mp h
    split
    · rename_i e; exact .inl (by rw [e])
    · exact .inr hr
  · rcases List.mem_append.mp h with h | h
    · exact .inr h
    · exact .inl (by simpa using h)
theorem TabOk.put {L : List Tx} {T : List (Ky × D)} (h : TabOk L T) (r : Int) {d : D} (hd : RowOk L d) : TabOk L (putKv T (.i r) d) ∧ (putKv T (.i r) d).length ≤ T.length + 1 := by
  refine ⟨⟨?_, ?_, ?_⟩, ?_⟩
  · rw [put_keys]
    split
    · exact h.nd
    · rename_i hm
      rw [List.nodup_append]
      exact ⟨h.nd, by simp, fun a ha b hb e => hm (by simp at hb; rw [← hb, ← e]; exact ha)⟩
  · intro p hp
    rcases put_mem hp with rfl | hp
    · exact ⟨r, rfl⟩
    · exact h.row p hp
  · intro p hp
    rcases put_mem hp with rfl | hp
    · exact hd
    · exact h.ok p hp
  · have : (putKv T (.i r) d).length = ((putKv T (.i r) d).map (·.1)).length := by simp
    rw [this, put_keys]
    split <;> simp
theorem TabOk.nil {L : List Tx} : TabOk L [] := ⟨List.nodup_nil, fun p h => absurd h List.not_mem_nil, fun p h => absurd h List.not_mem_nil⟩
/-- the values of one row -/
theorem row_values (ns : List Int) (L : List Tx) (hL : L.length = 3) (nu : List Int) (hn : nu.length ≤ 10000) (c : Int) (n : Nat) (S : List SC) (k : Nat) (x5 x6 x8 x9 : Option FV) :
    ∃ kvs a8 a9, forL (.n 8) (Pg.lp__law_table_1 (Pg.call (n + 1))) (intsL 0 3) ⟨[some (.v (.scr (ns.map D.int))), some (.v (.lst (L.map D.str))), some (.v (.lst (nu.map D.int))), some (.v (.ref k)), some (.v (.int c)), x5, x6, some (.o (.dct [])), x8, x9], S⟩ =
      .nx ⟨[some (.v (.scr (ns.map D.int))), some (.v (.lst (L.map D.str))), some (.v (.lst (nu.map D.int))), some (.v (.ref k)), some (.v (.int c)), x5, x6, some (.o (.dct kvs)), a8, a9], S⟩ ∧ RowOk L (.dct kvs) := by
  obtain ⟨m', e, kvs, a8, a9, rfl, hk, hl, hh⟩ := for_range (b := .n 8) (body := Pg.lp__law_table_1 (Pg.call (n + 1))) (fun i m => ∃ kvs a8 a9, m = ⟨[some (.v (.scr (ns.map D.int))), some (.v (.lst (L.map D.str))), some (.v (.lst (nu.map D.int))), some (.v (.ref k)), some (.v (.int c)), x5, x6, some (.o (.dct kvs)), a8, a9], S⟩ ∧ KvI kvs ∧ kvs.length ≤ 2 * i ∧ ∀ j x, j < i → L[j]? = some x → ∃ v : Int, look kvs (.s x) = some (.int v)) 3
    _ ⟨[], x8, x9, rfl, .nil, Nat.le_refl _, fun j x h => absurd h (Nat.not_lt_zero _)⟩ (by
    rintro i m hi ⟨kvs, a8, a9, rfl, hk, hl, hh⟩
    obtain ⟨x, hx⟩ : ∃ x, L[i]? = some x := ⟨L[i]'(by omega), by simp [List.getElem?_eq_getElem (show i < L.length by omega)]⟩
    have ex : atI (L.map D.str) (i : Int) = some (.str x) := by rw [ix_tup]; simp [hx]
    have hb : kvs.length < big := by rw [big_is]; omega
    have up : ∀ v : Int, KvI (putKv kvs (.s x) (.int v)) ∧ (putKv kvs (.s x) (.int v)).length ≤ 2 * i + 1 ∧ ∀ j y, j < i + 1 → L[j]? = some y → ∃ u : Int, look (putKv kvs (.s x) (.int v)) (.s y) = some (.int u) := fun v => by
      obtain ⟨hk2, hl2⟩ := hk.put (.s x) v
      refine ⟨hk2, by omega, fun j y hj hy => ?_⟩
      rw [look_put]
      by_cases q : Ky.s x = Ky.s y
      · rw [if_pos q]; exact ⟨v, rfl⟩
      · rw [if_neg q]
        refine hh j y ?_ hy
        rcases Nat.lt_succ_iff_lt_or_eq.mp hj with h | h
        · exact h
        · subst h; rw [hx] at hy; cases hy; exact absurd rfl q
    have up2 : ∀ kvs : List (Ky × D), (KvI kvs ∧ kvs.length ≤ 2 * i + 1 ∧ ∀ j y, j < i + 1 → L[j]? = some y → ∃ v : Int, look kvs (.s y) = some (.int v)) → ∀ v : Int, KvI (putKv kvs (.s x) (.int v)) ∧ (putKv kvs (.s x) (.int v)).length ≤ 2 * (i + 1) ∧ ∀ j y, j < i + 1 → L[j]? = some y → ∃ u : Int, look (putKv kvs (.s x) (.int v)) (.s y) = some (.int u) := fun kvs h v => by
      obtain ⟨hk2, hl2⟩ := h.1.put (.s x) v
      refine ⟨hk2, by omega, fun j y hj hy => ?_⟩
      rw [look_put]
      by_cases q : Ky.s x = Ky.s y
      · rw [if_pos q]; exact ⟨v, rfl⟩
      · rw [if_neg q]; exact h.2.2 j y hj hy
    generalize hc : mixF c (5 + i) = z
    have z0 : 0 ≤ z := by rw [← hc]; exact mix_nn _ _
    have hne := fun m => gNeU_nil (nu.map D.int) m (ints_dep nu) (by omega)
    obtain ⟨u1, u2, u3⟩ := up ((z.fdiv 8).fmod 45)
    have hb2 : (putKv kvs (.s x) (.int ((z.fdiv 8).fmod 45))).length < big := by rw [big_is]; omega
    simp only [Pg.lp__law_table_1]
    by_cases h1 : 1 < z.fmod 8
    · by_cases h2 : nu = []
      · subst h2
        simp at hne
        simp [mixed, hc, gMod_int, gDiv_int, h1, hne, ex, Me.own, Me.slot, ky, kyOf, hb, Me.put]
        exact ⟨u1, by omega, u3⟩
      · have hlen : 0 < nu.length := List.length_pos_iff.mpr h2
        have hlen2 : ¬ (nu.length : Int) = 0 := by omega
        obtain ⟨v1, e1⟩ := atI_map nu ((z.fdiv 8).fmod nu.length) (fm_nn _ (by omega)) (fm_lt _ (by omega))
        obtain ⟨v2, e2⟩ := six_at (z.fmod 8 - 2) (by omega) (by have := fm_lt z (b := 8) (by decide); omega)
        simp [h2] at hne
        obtain ⟨w1, w2, w3⟩ := up2 _ ⟨u1, u2, u3⟩ (v1 + v2)
        simp [mixed, hc, gMod_int, gDiv_int, h1, hne, h2, aLen, gLen, Me.items, Me.cl, hlen2, e1, e2, ex, Me.own, Me.slot, ky, kyOf, hb, hb2, Me.put]
        exact ⟨w1, by omega, w3⟩
    · simp [mixed, hc, gMod_int, gDiv_int, h1, ex, Me.own, Me.slot, ky, kyOf, hb, Me.put]
      exact ⟨u1, by omega, u3⟩)
  refine ⟨kvs, a8, a9, e, kvs, rfl, hk, fun x hx => ?_⟩
  obtain ⟨j, hj, rfl⟩ := List.getElem_of_mem hx
  exact hh j _ (by omega) (List.getElem?_eq_getElem hj)
theorem table (ns : List Int) (L : List Tx) (hL : L.length = 3) (nu : List Int) (hn : nu.length ≤ 10000) (n : Nat) (S : List SC) : ∃ T, TabOk L T ∧ T.length ≤ 20 ∧
    Pg.call (n + 2) "_law_table" [.scr (ns.map D.int), .lst (L.map D.str), .lst (nu.map D.int)] S = .ok (.ref S.length) (S ++ [.c (.dct T)]) := by
  obtain ⟨hc1, hc2⟩ := cut_cells ns
  obtain ⟨m', e, T, a4, a5, a6, a7, a8, a9, rfl, hT, hl⟩ := forL_inv (b := .n 4) (body := Pg.lp__law_table_2 (Pg.call (n + 1))) (fun i m => ∃ T a4 a5 a6 a7 a8 a9, m = ⟨[some (.v (.scr (ns.map D.int))), some (.v (.lst (L.map D.str))), some (.v (.lst (nu.map D.int))), some (.v (.ref S.length)), a4, a5, a6, a7, a8, a9], S ++ [.c (.dct T)]⟩ ∧ TabOk L T ∧ T.length ≤ i)
    (cut (ns.map D.int) (some 2) (some 22)) ⟨[some (.v (.scr (ns.map D.int))), some (.v (.lst (L.map D.str))), some (.v (.lst (nu.map D.int))), some (.v (.ref S.length)), none, none, none, none, none, none], S ++ [.c (.dct [])]⟩ 0 ⟨[], none, none, none, none, none, none, rfl, .nil, Nat.le_refl _⟩ (by
    rintro i x m hx ⟨T, a4, a5, a6, a7, a8, a9, rfl, hT, hl⟩
    have hlt := (List.getElem?_eq_some_iff.mp hx).1
    obtain ⟨c, rfl⟩ := hc1 x (List.mem_of_getElem? hx)
    have hb : T.length < big := by rw [big_is]; omega
    have h3 : in62 3 = true := in62_of (by omega) (by omega)
    have h3' : (3 : Int).toNat = 3 := rfl
    have key : ∀ r : Int, ∃ kvs a8' a9', forL (.n 8) (Pg.lp__law_table_1 (Pg.call (n + 1))) (intsL 0 3) ⟨[some (.v (.scr (ns.map D.int))), some (.v (.lst (L.map D.str))), some (.v (.lst (nu.map D.int))), some (.v (.ref S.length)), some (.v (.int c)), some (.v (.int (mixF c 9))), some (.v (.int r)), some (.o (.dct [])), a8, a9], S ++ [.c (.dct T)]⟩ =
      .nx ⟨[some (.v (.scr (ns.map D.int))), some (.v (.lst (L.map D.str))), some (.v (.lst (nu.map D.int))), some (.v (.ref S.length)), some (.v (.int c)), some (.v (.int (mixF c 9))), some (.v (.int r)), some (.o (.dct kvs)), a8', a9'], S ++ [.c (.dct T)]⟩ ∧ RowOk L (.dct kvs) := fun r =>
      row_values ns L hL nu hn c n _ S.length _ _ _ _
    simp only [Pg.lp__law_table_2]
    by_cases h1 : (mixF c 9).fmod 2 = 1
    · obtain ⟨kvs, a8', a9', e, hr⟩ := key (((mixF c 9).fdiv 2).fmod 60)
      obtain ⟨p1, p2⟩ := hT.put (((mixF c 9).fdiv 2).fmod 60) hr
      simp [mixed, gMod_int, gDiv_int, h1, h3, h3', e, Me.own, Me.glob, ky, kyOf, hb, Me.put]
      exact ⟨p1, by omega⟩
    · obtain ⟨kvs, a8', a9', e, hr⟩ := key (((mixF c 9).fdiv 2).fmod 65536)
      obtain ⟨p1, p2⟩ := hT.put (((mixF c 9).fdiv 2).fmod 65536) hr
      simp [mixed, gMod_int, gDiv_int, h1, h3, h3', e, Me.own, Me.glob, ky, kyOf, hb, Me.put]
      exact ⟨p1, by omega⟩)
  refine ⟨T, hT, by omega, ?_⟩
  rw [Pg.c__law_table]
  simp [runF, Pg.b__law_table, eNewD, e]
end Lw

set_option linter.all false
set_option maxRecDepth 100000
namespace Lw
open Mi
/-! # rows picked -/
def keysI : List (Ky × D) → List Int
  | [] => []
  | (.i n, _) :: r => n :: keysI r
  | _ :: r => keysI r
theorem keys_ok : ∀ {T : List (Ky × D)}, (∀ p ∈ T, ∃ r : Int, p.1 = .i r) → keyInts T = some (keysI T) ∧ T.map (·.1) = (keysI T).map Ky.i
  | [], _ => ⟨rfl, rfl⟩
  | (k, d) :: r, h => by
    obtain ⟨i, e⟩ := h _ List.mem_cons_self
    obtain ⟨e1, e2⟩ := keys_ok (T := r) fun p hp => h p (List.mem_cons_of_mem _ hp)
    have e : k = .i i := e
    subst e
    exact ⟨by simp [keyInts, keysI, e1], by simp [keysI, e2]⟩
def rowsF (T : List (Ky × D)) : List Int := sortI (keysI T)
def vals (T : List (Ky × D)) (r : Int) : List (Ky × D) := match look T (.i r) with | some (.dct kvs) => kvs | _ => []
def valF (kvs : List (Ky × D)) (x : Tx) : Int := match look kvs (.s x) with | some (.int v) => v | _ => 0
def hit (T : List (Ky × D)) (q : Q) (r : Int) : Bool := ev (valF (vals T r)) q
def cellV (T : List (Ky × D)) (x : Tx) (r : Int) : Int := valF (vals T r) x
section
variable {L : List Tx} {T : List (Ky × D)} (hT : TabOk L T)
include hT
theorem TabOk.keys : keyInts T = some (keysI T) := (keys_ok hT.row).1
theorem TabOk.len : (rowsF T).length = T.length := by
  have := congrArg List.length (keys_ok hT.row).2
  simp at this
  unfold rowsF
  rw [(sortI_perm _).length_eq]; omega
theorem TabOk.mem {r : Int} : r ∈ rowsF T ↔ Ky.i r ∈ T.map (·.1) := by
  unfold rowsF
  rw [(sortI_perm _).mem_iff, (keys_ok hT.row).2]
  simp
theorem TabOk.at_ {r : Int} (hr : r ∈ rowsF T) : look T (.i r) = some (.dct (vals T r)) ∧ KvI (vals T r) ∧ ∀ x ∈ L, look (vals T r) (.s x) = some (.int (valF (vals T r) x)) := by
  obtain ⟨p, hp, e⟩ := List.mem_map.mp (hT.mem.mp hr)
  obtain ⟨kvs, e2, h1, h2⟩ := hT.ok p hp
  have e3 := look_mem hT.nd p hp
  rw [e, e2] at e3
  have e4 : vals T r = kvs := by unfold vals; rw [e3]
  rw [e4]
  refine ⟨e3, h1, fun x hx => ?_⟩
  obtain ⟨v, ev⟩ := h2 x hx
  unfold valF; rw [ev]
end
theorem ix_ref {m : Me} {k : Nat} {T : List (Ky × D)} (h : m.S[k]? = some (.c (.dct T))) (r : Int) : gIxU (.v (.ref k)) (.v (.int r)) m = look T (.i r) := by
  simp [gIxU, orG, gIx, gIxT, gKey, Me.items, Me.cl, Me.glob, Me.kvs, h, ky, kyOf]
theorem ix_lk {m : Me} {k : Nat} {T : List (Ky × D)} (h : m.S[k]? = some (.c (.lkd T))) (r : Int) : gIxU (.v (.ref k)) (.v (.int r)) m = look T (.i r) := by
  simp [gIxU, orG, gIx, gIxT, gKey, Me.items, Me.cl, Me.glob, Me.kvs, h, ky, kyOf]
theorem sort_ref {L : List Tx} {T : List (Ky × D)} (hT : TabOk L T) (hl : T.length ≤ 20) {m : Me} {k : Nat} (h : m.S[k]? = some (.c (.dct T))) : aSort [.v (.ref k)] m = some ((rowsF T).map D.int) := by
  have h1 := hT.keys
  have h2 := hT.len
  have h3 : (keysI T).length < 64 := by
    unfold rowsF at h2; rw [(sortI_perm _).length_eq] at h2; omega
  have h4 : m.kvs (.v (.ref k)) = some T := by simp [Me.kvs, Me.cl, Me.glob, h]
  simp [aSort, h4, h1, h3, rowsF]
theorem sel_ints (p : Int → Bool) : ∀ rs : List Int, sel (rs.map D.int) (rs.map p) = (rs.filter p).map D.int
  | [] => rfl
  | a :: r => by
    simp only [List.map_cons]
    cases h : p a <;> simp [sel, h, sel_ints p r]
section
variable {σ : Env} {S : List SC} {j : Nat} {it : Iv} {rs : List Int}
theorem pick {t : Tv} {p : Int → Bool} (hj : j < σ.length) (hj2 : (⟨σ, S⟩ : Me).slot j = none) (hit : it ⟨σ, S⟩ = .ok (rs.map D.int) ⟨σ, S⟩) (hl : rs.length ≤ 1000)
    (ht : ∀ r ∈ rs, t ⟨(σ.set j none).set j (some (.v (.int r))), S⟩ = .ok (p r) ⟨(σ.set j none).set j (some (.v (.int r))), S⟩) : lComp [j] (.n j) it t (eVar j) ⟨σ, S⟩ = .ok ((rs.filter p).map D.int) ⟨σ, S⟩ := by
  refine lComp_ok (m1 := ⟨σ, S⟩) hit (by simp [hj2]) ?_
  have := comp_sel (b := .n j) (t := t) (e := eVar j) (σ := σ.set j none) (S := S) (xs := rs.map D.int) (bs := rs.map p) [] ?_ (le_big (by simp; omega))
  · rw [sel_ints] at this; simpa [wipe] using this
  · exact two_map fun i hi => ⟨_, by simp [Bd.set, hj]; rfl, by simpa using ht i hi, by simp [hj]⟩
theorem told {e : Ev} {f : Int → D} (hj : j < σ.length) (hj2 : (⟨σ, S⟩ : Me).slot j = none) (hit : it ⟨σ, S⟩ = .ok (rs.map D.int) ⟨σ, S⟩) (hl : rs.length ≤ 1000)
    (he : ∀ r ∈ rs, e ⟨(σ.set j none).set j (some (.v (.int r))), S⟩ = .ok (.v (f r)) ⟨(σ.set j none).set j (some (.v (.int r))), S⟩) : lComp [j] (.n j) it tYes e ⟨σ, S⟩ = .ok (rs.map f) ⟨σ, S⟩ := by
  refine lComp_ok (m1 := ⟨σ, S⟩) hit (by simp [hj2]) ?_
  have := comp_two (b := .n j) (e := e) (σ := σ.set j none) (S := S) (xs := rs.map D.int) (ys := rs.map f) [] ?_ (le_big (by simp; omega))
  · simpa [wipe] using this
  · exact two_map fun i hi => ⟨_, by simp [Bd.set, hj]; rfl, by simpa using he i hi⟩
end
section
variable {L : List Tx} {T : List (Ky × D)} (hT : TabOk L T) (hl : T.length ≤ 20) {S : List SC} {k : Nat} (hS : S[k]? = some (.c (.dct T))) {q : Q} (hz : sz q ≤ 1000) (hn : ∀ x ∈ nms q, x ∈ L)
include hT hl hS hz hn
theorem plain_rows (n : Nat) (hd : dp q ≤ n) : Pg.call (n + 2) "plain_rows" [oD q, .ref k] S = .ok (.lst (((rowsF T).filter (hit T q)).map D.int)) S := by
  have hr := hT.len
  have hs := sort_ref hT hl (m := ⟨[some (.v (oD q)), some (.v (.ref k)), none], S⟩) hS
  have := pick (σ := [some (.v (oD q)), some (.v (.ref k)), none]) (S := S) (j := 2) (rs := rowsF T) (p := hit T q) (it := iAny (eL (lA aSort (aCons (eVar 1) aNil)))) (t := tTru (eMeth (Pg.call (n + 1)) Pg.T "holds" (eVar 0) (aCons (e2 gIxU (eVar 1) (eVar 2)) aNil))) (by simp) rfl (by simp [hs]) (by omega) (fun r hr => by
    obtain ⟨g1, g2, g3⟩ := hT.at_ hr
    have hh := holds q n S hd hz (f := valF (vals T r)) (kvs := vals T r) fun x hx => g3 x (hn x hx)
    have ei := ix_ref (m := ⟨[some (.v (oD q)), some (.v (.ref k)), some (.v (.int r))], S⟩) hS r
    have := meth_holds (n := n + 1) (S := S) (σ := [some (.v (oD q)), some (.v (.ref k)), some (.v (.int r))]) (q := q) (o := eVar 0) (a := e2 gIxU (eVar 1) (eVar 2)) (by simp) (by simp [ei, g1]) hh
    simp [-eMeth_ap, this, hit])
  rw [Pg.c_plain_rows]
  simp only [runF, Pg.b_plain_rows]
  simp [this]
end
end Lw

set_option linter.all false
set_option maxRecDepth 100000
namespace Lw
open Mi
/-! # sums and least values -/
theorem eq_nil_ints (xs : List Int) (m : Me) : gEqU (.v (.lst (xs.map D.int))) (.v (.lst [])) m = some (.bl xs.isEmpty) := by
  have e1 : datum (.lst (xs.map D.int)) = true := by simp [datum, dep, ints_dep xs]
  have e2 : datum (.lst []) = true := by simp [datum, dep, deps]
  cases xs with
  | nil => simp [gEqU, orG, gEq, Me.dat, Me.cl, e2, eqv, eqvs]
  | cons a r => rw [List.map_cons] at e1; simp [gEqU, orG, gEq, Me.dat, Me.cl, e1, e2, eqv, eqvs]
def minL : List Int → Int
  | [] => 0
  | y :: ys => minI y ys
theorem min1_ints {xs : List Int} (h : xs ≠ []) (m : Me) : aMin1 [.v (.lst (xs.map D.int))] m = some (.int (minL xs)) := by
  have := asInts_ints xs
  cases xs with
  | nil => exact absurd rfl h
  | cons a r => simp only [aMin1, Me.ls, Me.cl, Option.bind_some, this, minL]
theorem sum_ints (xs : List Int) (m : Me) : aSum [.v (.lst (xs.map D.int))] m = some (.int xs.sum) := by
  simp only [aSum, Me.ls, Me.cl, Option.bind_some, asInts_ints xs, Option.map_some]
section
variable {L : List Tx} {T : List (Ky × D)} (hT : TabOk L T) (hl : T.length ≤ 20) {S : List SC} {k : Nat} (hS : S[k]? = some (.c (.dct T)))
include hT hl hS
/-- table[row][name] -/
theorem cell_val {σ : Env} {a b c : Nat} {x : Tx} (hx : x ∈ L) {r : Int} (hr : r ∈ rowsF T) (h1 : σ[a]? = some (some (.v (.ref k)))) (h2 : σ[b]? = some (some (.v (.int r)))) (h3 : σ[c]? = some (some (.v (.str x)))) :
    (Mi.e2 gIxU (Mi.e2 gIxU (eVar a) (eVar b)) (eVar c)) ⟨σ, S⟩ = .ok (.v (.int (cellV T x r))) ⟨σ, S⟩ := by
  obtain ⟨g1, _, g3⟩ := hT.at_ hr
  have ei := ix_ref (m := ⟨σ, S⟩) hS r
  have ex := gIxU_dct (vals T r) (.str x) ⟨σ, S⟩ (q := .s x) rfl
  rw [g3 x hx] at ex
  simp [h1, h2, h3, ei, g1, ex, cellV]
variable {q : Q} (hz : sz q ≤ 1000) (hn : ∀ x ∈ nms q, x ∈ L) {x : Tx} (hx : x ∈ L)
include hz hn hx
theorem plain_total (n : Nat) (hd : dp q ≤ n) : Pg.call (n + 3) "plain_total" [.str x, oD q, .ref k] S = .ok (.int (((rowsF T).filter (hit T q)).map (cellV T x)).sum) S := by
  have hr := hT.len
  have hp := plain_rows hT hl hS hz hn n hd
  have hf := List.length_filter_le (hit T q) (rowsF T)
  have := told (σ := [some (.v (.str x)), some (.v (oD q)), some (.v (.ref k)), none]) (S := S) (j := 3) (rs := (rowsF T).filter (hit T q)) (f := fun r => D.int (cellV T x r)) (it := iAny (eCall (Pg.call (n + 2)) "plain_rows" (aCons (eVar 1) (aCons (eVar 2) aNil)))) (e := Mi.e2 gIxU (Mi.e2 gIxU (eVar 2) (eVar 3)) (eVar 0)) (by simp) rfl (by simp [hp]) (by omega) (fun r hr =>
    cell_val hT hl hS hx ((List.mem_filter.mp hr).1) (by simp) (by simp) (by simp))
  have e : ((rowsF T).filter (hit T q)).map (fun r => D.int (cellV T x r)) = (((rowsF T).filter (hit T q)).map (cellV T x)).map D.int := by simp
  rw [e] at this
  have hs := sum_ints (((rowsF T).filter (hit T q)).map (cellV T x))
  rw [Pg.c_plain_total]
  simp only [runF, Pg.b_plain_total]
  simp [-List.map_map, this, hs]
def leastD (T : List (Ky × D)) (x : Tx) (R : List Int) : D := if R = [] then .non else .tup [.int (minL (R.map (cellV T x))), .lst ((R.filter fun r => cellV T x r == minL (R.map (cellV T x))).map D.int)]
theorem plain_least (n : Nat) (hd : dp q ≤ n) : Pg.call (n + 3) "plain_least" [.str x, oD q, .ref k] S = .ok (leastD T x ((rowsF T).filter (hit T q))) S := by
  have hr := hT.len
  have hp := plain_rows hT hl hS hz hn n hd
  have hf := List.length_filter_le (hit T q) (rowsF T)
  have hm : ∀ r ∈ (rowsF T).filter (hit T q), r ∈ rowsF T := fun r h => (List.mem_filter.mp h).1
  generalize (rowsF T).filter (hit T q) = R at *
  have en := eq_nil_ints R
  rw [Pg.c_plain_least]
  by_cases h : R = []
  · subst h
    simp only [List.map_nil, List.isEmpty_nil] at en hp
    simp [runF, Pg.b_plain_least, hp, en, leastD]
  · have hne : R.isEmpty = false := by cases R with
      | nil => exact absurd rfl h
      | cons _ _ => rfl
    rw [hne] at en
    have t1 := told (σ := [some (.v (.str x)), some (.v (oD q)), some (.v (.ref k)), some (.v (.lst (R.map D.int))), none, none]) (S := S) (j := 5) (rs := R) (f := fun r => D.int (cellV T x r)) (it := iAny (eVar 3)) (e := Mi.e2 gIxU (Mi.e2 gIxU (eVar 2) (eVar 5)) (eVar 0)) (by simp) rfl (by simp) (by omega) (fun r hr =>
      cell_val hT hl hS hx (hm r hr) (by simp) (by simp) (by simp))
    have e : R.map (fun r => D.int (cellV T x r)) = (R.map (cellV T x)).map D.int := by simp
    rw [e] at t1
    have hs := min1_ints (xs := R.map (cellV T x)) (by simpa using h)
    have t2 := pick (σ := [some (.v (.str x)), some (.v (oD q)), some (.v (.ref k)), some (.v (.lst (R.map D.int))), some (.v (.int (minL (R.map (cellV T x))))), none]) (S := S) (j := 5) (rs := R) (p := fun r => cellV T x r == minL (R.map (cellV T x))) (it := iAny (eVar 3)) (t := tV (Mi.e2 gEqU (Mi.e2 gIxU (Mi.e2 gIxU (eVar 2) (eVar 5)) (eVar 0)) (eVar 4))) (by simp) rfl (by simp) (by omega) (fun r hr => by
      have := cell_val hT hl hS (σ := [some (.v (.str x)), some (.v (oD q)), some (.v (.ref k)), some (.v (.lst (R.map D.int))), some (.v (.int (minL (R.map (cellV T x))))), some (.v (.int r))]) (a := 2) (b := 5) (c := 0) hx (hm r hr) (by simp) (by simp) (by simp)
      simp only [List.set_cons_succ, List.set_cons_zero]
      rw [tV_ap, e2_ap, this]
      simp)
    simp only [runF, Pg.b_plain_least]
    simp [-List.map_map, hp, en, t1, hs, t2, leastD, h]
end
end Lw

set_option linter.all false
set_option maxRecDepth 100000
namespace Lw
open Mi
section
variable {L : List Tx} {T : List (Ky × D)} (hT : TabOk L T) (hl : T.length ≤ 20) {S : List SC} {k : Nat} (hS : S[k]? = some (.c (.dct T)))
variable {q : Q} (hz : sz q ≤ 1000) (hn : ∀ x ∈ nms q, x ∈ L) {x : Tx} (hx : x ∈ L)
include hT hl hS hz hn hx
theorem summed (n : Nat) (hd : dp q ≤ n) : Pg.call (n + 4) "_law_summed" [.str x, oD q, .ref k, .lst (((rowsF T).filter (hit T q)).map D.int)] S = .ok (.bl true) S := by
  have hr := hT.len
  have hp := plain_total hT hl hS hz hn hx n hd
  have hp2 := plain_least hT hl hS hz hn hx n hd
  have hf := List.length_filter_le (hit T q) (rowsF T)
  have hm : ∀ r ∈ (rowsF T).filter (hit T q), r ∈ rowsF T := fun r h => (List.mem_filter.mp h).1
  generalize (rowsF T).filter (hit T q) = R at *
  have en := eq_nil_ints R
  have lw := fun i S => law_whole i (n + 2) S
  have t0 : ∀ (a4 : Option FV), lComp [5] (.n 5) (iAny (eVar 3)) tYes (Mi.e2 gIxU (Mi.e2 gIxU (eVar 2) (eVar 5)) (eVar 0)) ⟨[some (.v (.str x)), some (.v (oD q)), some (.v (.ref k)), some (.v (.lst (R.map D.int))), a4, none, none], S⟩ = .ok ((R.map (cellV T x)).map D.int) ⟨[some (.v (.str x)), some (.v (oD q)), some (.v (.ref k)), some (.v (.lst (R.map D.int))), a4, none, none], S⟩ := fun a4 => by
    have := told (σ := [some (.v (.str x)), some (.v (oD q)), some (.v (.ref k)), some (.v (.lst (R.map D.int))), a4, none, none]) (S := S) (j := 5) (rs := R) (f := fun r => D.int (cellV T x r)) (it := iAny (eVar 3)) (e := Mi.e2 gIxU (Mi.e2 gIxU (eVar 2) (eVar 5)) (eVar 0)) (by simp) rfl (by simp) (by omega) (fun r hr =>
      cell_val hT hl hS hx (hm r hr) (by simp) (by simp) (by simp))
    rw [this]; simp
  have hs := sum_ints (R.map (cellV T x))
  rw [Pg.c__law_summed]
  by_cases h : R = []
  · subst h
    simp only [List.map_nil, List.isEmpty_nil] at en hp hp2 t0 hs
    have hd0 : leastD T x [] = .non := rfl
    simp [runF, Pg.b__law_summed, -List.map_map, hp, lw, t0, hs, hp2, hd0, en, gIsN, isN]
  · have hne : R.isEmpty = false := by cases R with
      | nil => exact absurd rfl h
      | cons _ _ => rfl
    rw [hne] at en
    have hmn := min1_ints (xs := R.map (cellV T x)) (by simpa using h)
    have hd0 : leastD T x R = .tup [.int (minL (R.map (cellV T x))), .lst ((R.filter fun r => cellV T x r == minL (R.map (cellV T x))).map D.int)] := by unfold leastD; rw [if_neg h]
    have hf2 := List.length_filter_le (fun r => cellV T x r == minL (R.map (cellV T x))) R
    have lf := law_flat (R.filter fun r => cellV T x r == minL (R.map (cellV T x))) (by omega) (n + 1) S
    have t2 : ∀ a4 : Option FV, lComp [5] (.n 5) (iAny (eVar 3)) (tV (Mi.e2 gEqU (Mi.e2 gIxU (Mi.e2 gIxU (eVar 2) (eVar 5)) (eVar 0)) (eVar 6))) (eVar 5) ⟨[some (.v (.str x)), some (.v (oD q)), some (.v (.ref k)), some (.v (.lst (R.map D.int))), a4, none, some (.v (.int (minL (R.map (cellV T x)))))], S⟩ = .ok ((R.filter fun r => cellV T x r == minL (R.map (cellV T x))).map D.int) ⟨[some (.v (.str x)), some (.v (oD q)), some (.v (.ref k)), some (.v (.lst (R.map D.int))), a4, none, some (.v (.int (minL (R.map (cellV T x)))))], S⟩ := fun a4 =>
      pick (σ := [some (.v (.str x)), some (.v (oD q)), some (.v (.ref k)), some (.v (.lst (R.map D.int))), a4, none, some (.v (.int (minL (R.map (cellV T x)))))]) (S := S) (j := 5) (rs := R) (p := fun r => cellV T x r == minL (R.map (cellV T x))) (by simp) rfl (by simp) (by omega) (fun r hr => by
      have := cell_val hT hl hS (σ := [some (.v (.str x)), some (.v (oD q)), some (.v (.ref k)), some (.v (.lst (R.map D.int))), a4, some (.v (.int r)), some (.v (.int (minL (R.map (cellV T x)))))]) (a := 2) (b := 5) (c := 0) hx (hm r hr) (by simp) (by simp) (by simp)
      simp only [List.set_cons_succ, List.set_cons_zero]
      rw [tV_ap, e2_ap, this]
      simp)
    simp [runF, Pg.b__law_summed, -List.map_map, hp, lw, t0, hs, hp2, hd0, en, hmn, gIsT, tyD, isTy, aLen, gLen, Me.items, t2, lf]
end
end Lw

set_option linter.all false
set_option maxRecDepth 100000
namespace Lw
open Mi
/-! # a row taken out; the table is the same -/
theorem drop_keys (g : Int) : ∀ T : List (Ky × D), keysI (dropKv T (.i g)) = (keysI T).filter (fun r => !(r == g))
  | [] => rfl
  | (.i n, d) :: r => by
    have ih := drop_keys g r
    unfold dropKv at ih ⊢
    simp only [ne_eq, decide_not] at ih
    by_cases h : n = g
    · subst h; simp [keysI, ih]
    · simp [keysI, ih, h]
  | (.s x, d) :: r => by
    have ih := drop_keys g r
    unfold dropKv at ih ⊢
    simp only [ne_eq, decide_not] at ih
    simp [keysI, ih]
theorem look_drop (g r : Int) (h : r ≠ g) : ∀ T : List (Ky × D), look (dropKv T (.i g)) (.i r) = look T (.i r)
  | [] => rfl
  | (k, d) :: t => by
    have ih := look_drop g r h t
    unfold dropKv at ih ⊢
    by_cases e : k = .i g
    · subst e
      have : ¬ Ky.i g = Ky.i r := fun z => h (by cases z; rfl)
      rw [List.filter_cons_of_neg (by simp), ih, look_cons, if_neg this]
    · rw [List.filter_cons_of_pos (by simpa using e), look_cons, look_cons, ih]
theorem TabOk.drop {L : List Tx} {T : List (Ky × D)} (h : TabOk L T) (k : Ky) : TabOk L (dropKv T k) ∧ (dropKv T k).length ≤ T.length :=
  ⟨⟨(List.filter_sublist.map _).nodup h.nd, fun p hp => h.row p (List.mem_filter.mp hp).1, fun p hp => h.ok p (List.mem_filter.mp hp).1⟩, List.length_filter_le _ _⟩
theorem rows_drop (g : Int) (T : List (Ky × D)) : rowsF (dropKv T (.i g)) = (rowsF T).filter (fun r => !(r == g)) := by
  unfold rowsF
  refine sort_uniq ?_ (sortI_le _) ((sortI_le _).filter _)
  refine (sortI_perm _).trans ?_
  rw [drop_keys]
  exact ((sortI_perm (keysI T)).filter _).symm
theorem hit_drop (g r : Int) (h : r ≠ g) (T : List (Ky × D)) (q : Q) : hit (dropKv T (.i g)) q r = hit T q r := by
  unfold hit vals
  rw [look_drop g r h T]
theorem pick_drop (g : Int) (T : List (Ky × D)) (q : Q) : (rowsF (dropKv T (.i g))).filter (hit (dropKv T (.i g)) q) = ((rowsF T).filter (hit T q)).filter (fun r => !(r == g)) := by
  rw [rows_drop, List.filter_filter, List.filter_filter]
  apply List.filter_congr
  intro r _
  by_cases h : r = g
  · subst h; simp
  · rw [hit_drop g r h]; simp [h, Bool.and_comm]
def rowD (T : List (Ky × D)) (r : Int) : D := .tup [.int r, .dct (vals T r)]
theorem orG_eq (g h : PV → PV → Me → Option D) (x y : PV) (m : Me) : orG g h x y m = match g x y m with | some d => some d | none => h x y m := rfl
theorem deep_self {L : List Tx} {T : List (Ky × D)} (hT : TabOk L T) : ∀ {rs : List Int}, (∀ r ∈ rs, r ∈ rowsF T) → all2 (eqD 8) (rs.map (rowD T)) (rs.map (rowD T)) = true
  | [], _ => rfl
  | a :: r, h => by
    have h1 := (hT.at_ (h a List.mem_cons_self)).2.1.same
    have h2 := deep_self hT (rs := r) fun x hx => h x (List.mem_cons_of_mem _ hx)
    rw [List.map_cons]
    simp only [all2, h2, Bool.and_true]
    simp [rowD, eqD, all2, eqF, h1]
theorem ne_self {L : List Tx} {T : List (Ky × D)} (hT : TabOk L T) {rs : List Int} (h : ∀ r ∈ rs, r ∈ rowsF T) (m : Me) : gNeW (.v (.lst (rs.map (rowD T)))) (.v (.lst (rs.map (rowD T)))) m = some (.bl false) := by
  have h1 := deep_self hT h
  cases rs with
  | nil => simp [gNeW, gNeU, orG, gNe, Me.dat, Me.cl, datum, dep, deps, eqv, eqvs]
  | cons a r =>
    have e : datum (.lst ((a :: r).map (rowD T))) = false := by simp [datum, dep, deps, rowD]
    have e2 : gNeU (.v (.lst ((a :: r).map (rowD T)))) (.v (.lst ((a :: r).map (rowD T)))) m = none := by
      simp only [gNeU, orG, gNe, gNeK, Me.dat, Me.cl, Me.kvs, e, scl]
      rfl
    unfold gNeW
    rw [orG_eq, e2]
    simp only [orG, gNeT, Me.cl, h1]
    rfl
theorem ne_nil (T : List (Ky × D)) (a : Int) (r : List Int) (m : Me) : gNeW (.v (.lst ((a :: r).map (rowD T)))) (.v (.lst [])) m = some (.bl true) := by
  have e : datum (.lst ((a :: r).map (rowD T))) = false := by simp [datum, dep, deps, rowD]
  have e2 : gNeU (.v (.lst ((a :: r).map (rowD T)))) (.v (.lst [])) m = none := by
    simp only [gNeU, orG, gNe, gNeK, Me.dat, Me.cl, Me.kvs, e, scl]
    rfl
  unfold gNeW
  rw [orG_eq, e2]
  simp only [orG, gNeT, gNeL, Me.cl, all2, List.map_cons]
  simp
theorem ne_nil0 (m : Me) : gNeW (.v (.lst [])) (.v (.lst [])) m = some (.bl false) := by
  simp [gNeW, gNeU, orG, gNe, Me.dat, Me.cl, datum, dep, deps, eqv, eqvs]
theorem lk_ok {σ σ' : Env} {R : List SC} {T : List (Ky × D)} {i : Nat} {st : Sv} (h : σ[i]? = some (some (.v (.ref R.length)))) (h1 : st ⟨σ, R ++ [.c (.lkd T)]⟩ = .nx ⟨σ', R ++ [.c (.lkd T)]⟩) : sLk i st ⟨σ, R ++ [.c (.dct T)]⟩ = .nx ⟨σ', R ++ [.c (.dct T)]⟩ := by
  unfold sLk
  simp [h, h1, lkEnd, ulk]
theorem keys_it {σ : Env} {R : List SC} {L : List Tx} {T : List (Ky × D)} (hT : TabOk L T) {i : Nat} (h : σ[i]? = some (some (.v (.ref R.length)))) : iKeyR i ⟨σ, R ++ [.c (.lkd T)]⟩ = .ok ((keysI T).map D.int) ⟨σ, R ++ [.c (.lkd T)]⟩ := by
  unfold iKeyR
  have := congrArg (List.map kyD) (keys_ok hT.row).2
  simp only [List.map_map] at this
  simp [h]
  simpa [Function.comp_def, kyD] using this
theorem notin_ints (r : Int) (xs : List Int) (m : Me) : gNotInV (.v (.int r)) (.v (.lst (xs.map D.int))) m = some (.bl (!decide (r ∈ xs))) := by
  have h1 : (xs.map D.int).all flat = true := by
    rw [List.all_eq_true]; intro d hd
    obtain ⟨x, _, rfl⟩ := List.mem_map.mp hd; rfl
  have h2 : ((xs.map D.int).any fun y => eqv y (.int r)) = decide (r ∈ xs) := by
    clear h1
    induction xs with
    | nil => rfl
    | cons x t ih =>
      rw [List.map_cons, List.any_cons, ih]
      show (x == r || decide (r ∈ t)) = _
      by_cases h : r = x
      · subst h; simp
      · have : (x == r) = false := by simpa using fun q => h q.symm
        rw [this]; simp [h]
  rw [gNotInV_lst rfl h1, h2]
end Lw

set_option linter.all false
set_option maxRecDepth 100000
namespace Lw
open Mi
abbrev stL (ns : List Int) (q : Q) (L : List Tx) (k : Nat) (a5 a7 a8 a9 a10 : Option FV) : Env :=
  [some (.v (.scr (ns.map D.int))), some (.v (tD q)), some (.v (.lst (L.map D.str))), some (.v (oD q)), some (.v (.ref k)), a5, none, a7, a8, a9, a10]
section
variable (ns : List Int) {L : List Tx} {T : List (Ky × D)} (hT : TabOk L T) (hl : T.length ≤ 20) (R : List SC) (q : Q) (hz : sz q ≤ 1000) (hn : ∀ x ∈ nms q, x ∈ L)
include hT hl
theorem keys_len : (keysI T).length ≤ 20 := by
  have := hT.len
  unfold rowsF at this
  rw [(sortI_perm _).length_eq] at this; omega
theorem keys_mem {r : Int} (h : r ∈ keysI T) : r ∈ rowsF T := by
  unfold rowsF; exact (sortI_perm _).mem_iff.mpr h
theorem law_plain (a5 a7 a8 a9 a10 : Option FV) : sLk 4 (sSet 5 (eL (lComp [6] (.n 6) (iKeyR 4) tYes (eTup (aCons (eVar 6) (aCons (eA aDict (aCons (Mi.e2 gIxU (eVar 4) (eVar 6)) aNil)) aNil)))))) ⟨stL ns q L R.length a5 a7 a8 a9 a10, R ++ [.c (.dct T)]⟩ =
    .nx ⟨stL ns q L R.length (some (.v (.lst ((keysI T).map (rowD T))))) a7 a8 a9 a10, R ++ [.c (.dct T)]⟩ := by
  have hS : (R ++ [SC.c (.lkd T)])[R.length]? = some (.c (.lkd T)) := by simp
  refine lk_ok (by simp) ?_
  have := told (σ := stL ns q L R.length a5 a7 a8 a9 a10) (S := R ++ [.c (.lkd T)]) (j := 6) (rs := keysI T) (f := rowD T) (it := iKeyR 4) (e := eTup (aCons (eVar 6) (aCons (eA aDict (aCons (Mi.e2 gIxU (eVar 4) (eVar 6)) aNil)) aNil))) (by simp) rfl (keys_it hT (by simp)) (by have := keys_len hT hl; omega) (fun r hr => by
    obtain ⟨g1, _, _⟩ := hT.at_ (keys_mem hT hl hr)
    have ei := fun (σ : Env) => ix_lk (m := ⟨σ, R ++ [.c (.lkd T)]⟩) hS r
    simp [ei, g1, aDict, Me.kvs, Me.cl, rowD])
  simp [this]
theorem law_same (a7 a8 a9 a10 : Option FV) : sLk 4 (sIf (tV (Mi.e2 gNeW (eL (lComp [6] (.n 6) (iKeyR 4) tYes (eTup (aCons (eVar 6) (aCons (Mi.e2 gIxU (eVar 4) (eVar 6)) aNil))))) (eVar 5))) (sRet (eC (.bl false))) sNil) ⟨stL ns q L R.length (some (.v (.lst ((keysI T).map (rowD T))))) a7 a8 a9 a10, R ++ [.c (.dct T)]⟩ =
    .nx ⟨stL ns q L R.length (some (.v (.lst ((keysI T).map (rowD T))))) a7 a8 a9 a10, R ++ [.c (.dct T)]⟩ := by
  have hS : (R ++ [SC.c (.lkd T)])[R.length]? = some (.c (.lkd T)) := by simp
  refine lk_ok (by simp) ?_
  have := told (σ := stL ns q L R.length (some (.v (.lst ((keysI T).map (rowD T))))) a7 a8 a9 a10) (S := R ++ [.c (.lkd T)]) (j := 6) (rs := keysI T) (f := rowD T) (it := iKeyR 4) (e := eTup (aCons (eVar 6) (aCons (Mi.e2 gIxU (eVar 4) (eVar 6)) aNil))) (by simp) rfl (keys_it hT (by simp)) (by have := keys_len hT hl; omega) (fun r hr => by
    obtain ⟨g1, _, _⟩ := hT.at_ (keys_mem hT hl hr)
    have ei := fun (σ : Env) => ix_lk (m := ⟨σ, R ++ [.c (.lkd T)]⟩) hS r
    simp [ei, g1, rowD])
  have hs := ne_self hT (rs := keysI T) (fun r h => keys_mem hT hl h)
  simp [this, hs]
include hz hn
theorem law_rows (hok : ∀ x ∈ nms q, okTx x) (hd : dp q ≤ 25) (a5 a7 a8 a9 a10 : Option FV) : lComp [6] (.n 6) (iAny (eL (lA aSort (aCons (eVar 4) aNil)))) (tTru (eCall (Pg.call 113) "_law_holds" (aCons (eVar 1) (aCons (Mi.e2 gIxU (eVar 4) (eVar 6)) aNil)))) (eVar 6) ⟨stL ns q L R.length a5 a7 a8 a9 a10, R ++ [.c (.dct T)]⟩ =
    .ok (((rowsF T).filter (hit T q)).map D.int) ⟨stL ns q L R.length a5 a7 a8 a9 a10, R ++ [.c (.dct T)]⟩ := by
  have hS : (R ++ [SC.c (.dct T)])[R.length]? = some (.c (.dct T)) := by simp
  have hr := hT.len
  have hs := sort_ref hT hl (m := ⟨stL ns q L R.length a5 a7 a8 a9 a10, R ++ [.c (.dct T)]⟩) hS
  exact pick (σ := stL ns q L R.length a5 a7 a8 a9 a10) (S := R ++ [.c (.dct T)]) (j := 6) (rs := rowsF T) (p := hit T q) (it := iAny (eL (lA aSort (aCons (eVar 4) aNil)))) (t := tTru (eCall (Pg.call 113) "_law_holds" (aCons (eVar 1) (aCons (Mi.e2 gIxU (eVar 4) (eVar 6)) aNil)))) (by simp) rfl (by simp [hs]) (by omega) (fun r hr => by
    obtain ⟨g1, _, g3⟩ := hT.at_ hr
    have hh : Pg.call 113 "_law_holds" [tD q, .dct (vals T r)] (R ++ [.c (.dct T)]) = .ok (.bl (ev (valF (vals T r)) q)) (R ++ [.c (.dct T)]) := lholds q 112 _ (by omega) hd hz hok fun x hx => g3 x (hn x hx)
    have ei := fun (σ : Env) => ix_ref (m := ⟨σ, R ++ [.c (.dct T)]⟩) hS r
    simp [ei, g1, hh, hit])
theorem law_rest (a5 a8 a9 a10 : Option FV) : lComp [6] (.n 6) (iAny (eL (lA aSort (aCons (eVar 4) aNil)))) (tV (Mi.e2 gNotInV (eVar 6) (eVar 7))) (eVar 6) ⟨stL ns q L R.length a5 (some (.v (.lst (((rowsF T).filter (hit T q)).map D.int)))) a8 a9 a10, R ++ [.c (.dct T)]⟩ =
    .ok (((rowsF T).filter (hit T (.not q))).map D.int) ⟨stL ns q L R.length a5 (some (.v (.lst (((rowsF T).filter (hit T q)).map D.int)))) a8 a9 a10, R ++ [.c (.dct T)]⟩ := by
  have hS : (R ++ [SC.c (.dct T)])[R.length]? = some (.c (.dct T)) := by simp
  have hr := hT.len
  have hs := sort_ref hT hl (m := ⟨stL ns q L R.length a5 (some (.v (.lst (((rowsF T).filter (hit T q)).map D.int)))) a8 a9 a10, R ++ [.c (.dct T)]⟩) hS
  have hne := fun r => notin_ints r ((rowsF T).filter (hit T q))
  exact pick (σ := stL ns q L R.length a5 (some (.v (.lst (((rowsF T).filter (hit T q)).map D.int)))) a8 a9 a10) (S := R ++ [.c (.dct T)]) (j := 6) (rs := rowsF T) (p := hit T (.not q)) (it := iAny (eL (lA aSort (aCons (eVar 4) aNil)))) (t := tV (Mi.e2 gNotInV (eVar 6) (eVar 7))) (by simp) rfl (by simp [hs]) (by omega) (fun r hr => by
    have e : (!decide (r ∈ (rowsF T).filter (hit T q))) = hit T (.not q) r := by
      rw [show hit T (.not q) r = !hit T q r from rfl]
      congr 1
      simp [List.mem_filter, hr]
    have hne := hne r
    rw [e] at hne
    simp [hne])
theorem law_loop (n : Nat) (hd : dp q ≤ 109) (a5 a9 a10 : Option FV) : ∃ a8, forL (.n 8) (Pg.lp_law_1 (Pg.call 113)) (L.map D.str) ⟨stL ns q L R.length a5 (some (.v (.lst (((rowsF T).filter (hit T q)).map D.int)))) none a9 a10, R ++ [.c (.dct T)]⟩ =
    .nx ⟨stL ns q L R.length a5 (some (.v (.lst (((rowsF T).filter (hit T q)).map D.int)))) a8 a9 a10, R ++ [.c (.dct T)]⟩ := by
  have hS : (R ++ [SC.c (.dct T)])[R.length]? = some (.c (.dct T)) := by simp
  obtain ⟨m', e, a8, rfl⟩ := forL_inv (b := .n 8) (body := Pg.lp_law_1 (Pg.call 113)) (fun i m => ∃ a8, m = ⟨stL ns q L R.length a5 (some (.v (.lst (((rowsF T).filter (hit T q)).map D.int)))) a8 a9 a10, R ++ [.c (.dct T)]⟩) (L.map D.str) _ 0 ⟨none, rfl⟩ (by
    rintro i x m hx ⟨a8, rfl⟩
    obtain ⟨z, hz', rfl⟩ := List.mem_map.mp (List.mem_of_getElem? hx)
    have hsum : Pg.call 113 "_law_summed" [.str z, oD q, .ref R.length, .lst (((rowsF T).filter (hit T q)).map D.int)] (R ++ [.c (.dct T)]) = .ok (.bl true) (R ++ [.c (.dct T)]) := summed hT hl hS hz hn hz' 109 hd
    simp only [Pg.lp_law_1]
    simp [hsum])
  exact ⟨a8, e⟩
end
theorem law_true : ∀ ns : List Int, ns.length ≤ 63 → ∃ S, Pg.call 114 "law" [.scr (ns.map D.int)] [] = .ok (.bl true) S := fun ns _ => by
  obtain ⟨q, hd, hz, hn, eb⟩ := built ns 110 []
  have eb : Pg.call 113 "_law_built" [.scr (ns.map D.int), .int 16] [] = .ok (tD q) [] := eb
  have en : Pg.call 113 "_law_names" [.scr (ns.map D.int), .int (mostF ns)] [] = .ok (.lst ((namesF ns (mostF ns)).map D.str)) [] := names ns (mostF ns) (by unfold mostF; split <;> omega) (by unfold mostF; split <;> omega) 111 []
  have ec : ∀ (k : Nat) (S : List SC), Pg.call 113 "_law_cell_at" [.scr (ns.map D.int), .int k] S = .ok (.int (cellF ns k)) S := fun k S => cell_at ns k 112 S
  have ec1 : Pg.call 113 "_law_cell_at" [.scr (ns.map D.int), .int 1] [] = .ok (.int (cellF ns 1)) [] := ec 1 []
  have ec0 : ∀ S, Pg.call 113 "_law_cell_at" [.scr (ns.map D.int), .int 0] S = .ok (.int (cellF ns 0)) S := fun S => ec 0 S
  have ema : Pg.call 113 "_law_made" [tD q] [] = .ok (oD q) [] := made q 111 [] (by omega) (by omega)
  have hok : ∀ x ∈ nms q, okTx x := fun x hx => names_ok x (hn x hx)
  obtain ⟨R, eco⟩ := counted q 111 [] (by omega) (by omega) hok
  have eco : Pg.call 113 "_law_counted" [oD q, tD q] [] = .ok (.bl true) R := by simpa using eco
  have enu : Pg.call 113 "_law_numbers_in" [tD q] R = .ok (.lst ((nums q).map D.int)) R := numbers q 112 R (by omega) (by omega)
  have hnl := len_nums q
  have hL := names_len (ns := ns) (most := mostF ns)
  have ew : ((cellF ns 1).fmod 3 == 0) = wideF ns := rfl
  have em : atI [D.int 3, .int 8] (if wideF ns then 1 else 0) = some (.int (mostF ns)) := by
    unfold mostF; cases wideF ns <;> simp
  generalize namesF ns (mostF ns) = L at *
  obtain ⟨T, hT, hl, eta⟩ := table ns L hL (nums q) (by omega) 111 R
  have eta : Pg.call 113 "_law_table" [.scr (ns.map D.int), .lst (L.map D.str), .lst ((nums q).map D.int)] R = .ok (.ref R.length) (R ++ [.c (.dct T)]) := eta
  have hS : (R ++ [SC.c (.dct T)])[R.length]? = some (.c (.dct T)) := by simp
  have hz' : sz q ≤ 1000 := by omega
  have hzn : sz (.not q) ≤ 1000 := by simp [sz]; omega
  have hnn : ∀ x ∈ nms (.not q), x ∈ L := by simpa [nms] using hn
  have e1 := law_plain ns hT hl R q none none none none none
  have e2 := law_rows ns hT hl R q hz' hn hok (by omega) (some (.v (.lst ((keysI T).map (rowD T))))) none none none none
  obtain ⟨a8, e3⟩ := law_loop ns hT hl R q hz' hn 0 (by omega) (some (.v (.lst ((keysI T).map (rowD T))))) none none
  have e4 := law_rest ns hT hl R q hz' hn (some (.v (.lst ((keysI T).map (rowD T))))) a8 none none
  have e5 := law_same ns hT hl R q (some (.v (.lst (((rowsF T).filter (hit T q)).map D.int)))) a8 (some (.v (.lst (((rowsF T).filter (hit T (.not q))).map D.int)))) none
  have hpr : Pg.call 113 "plain_rows" [oD q, .ref R.length] (R ++ [.c (.dct T)]) = .ok (.lst (((rowsF T).filter (hit T q)).map D.int)) (R ++ [.c (.dct T)]) := plain_rows hT hl hS hz' hn 111 (by omega)
  have hpn : Pg.call 113 "plain_rows" [oD (.not q), .ref R.length] (R ++ [.c (.dct T)]) = .ok (.lst (((rowsF T).filter (hit T (.not q))).map D.int)) (R ++ [.c (.dct T)]) := plain_rows hT hl hS hzn hnn 111 (by simp [dp]; omega)
  have hlen := hT.len
  have hf1 := List.length_filter_le (hit T q) (rowsF T)
  have hf2 := List.length_filter_le (hit T (.not q)) (rowsF T)
  have lf1 : ∀ S, Pg.call 113 "_law_flat" [.lst (((rowsF T).filter (hit T q)).map D.int), .lst (((rowsF T).filter (hit T q)).map D.int)] S = .ok (.bl true) S := fun S => law_flat _ (by omega) 111 S
  have lf2 : ∀ S, Pg.call 113 "_law_flat" [.lst (((rowsF T).filter (hit T (.not q))).map D.int), .lst (((rowsF T).filter (hit T (.not q))).map D.int)] S = .ok (.bl true) S := fun S => law_flat _ (by omega) 111 S
  have emk : ∀ a5 a7 a8 a9 a10, eMakeF (Pg.call 113) Pg.T "Opposite" (aCons (eVar 3) aNil) ⟨stL ns q L R.length a5 a7 a8 a9 a10, R ++ [.c (.dct T)]⟩ = .ok (.v (oD (.not q))) ⟨stL ns q L R.length a5 a7 a8 a9 a10, R ++ [.c (.dct T)]⟩ := fun a5 a7 a8 a9 a10 =>
    eMakeF_ok (ps := [.v (oD q)]) (ds := [oD q]) (key := "Opposite.__init__") (fs := [("one", .v (oD q))]) (by simp) (by simp) (by simp [Pg.T, tbOf, Pg.inL]) (ini_opp _ 112 _) (by simp [plainF]) (by simp [D.blwf, oD_blw])
  rw [Pg.c_law]
  by_cases h0 : T = []
  · subst h0
    refine ⟨R ++ [.c (.dct [])], ?_⟩
    have hk : keysI [] = [] := rfl
    rw [hk] at e1 e2 e3 e4 e5
    simp only [List.map_nil] at e1 e2 e3 e4 e5
    simp [runF, Pg.b_law, eb, en, ec1, gMod_int, ew, aInt2, aInt, gInt, em, ema, eco, enu, eta, e1, e2, e3, e4, e5, emk, hpr, hpn, lf1, lf2, ne_nil0, -List.map_map]
  · obtain ⟨a, r, hk⟩ : ∃ a r, keysI T = a :: r := by
      cases hq : keysI T with
      | nil =>
        have := (keys_ok hT.row).2
        rw [hq] at this
        exact absurd (by simpa using this) h0
      | cons a r => exact ⟨a, r, rfl⟩
    have hkl := keys_len hT hl
    -- the row that goes
    have hlk : 0 < (keysI T).length := by rw [hk]; simp
    have b0 := fm_nn (cellF ns 0) (b := (keysI T).length) (by omega)
    have b1 := fm_lt (cellF ns 0) (b := (keysI T).length) (by omega)
    obtain ⟨g, hg, eg⟩ : ∃ g ∈ keysI T, atI ((keysI T).map (rowD T)) ((cellF ns 0).fmod (keysI T).length) = some (rowD T g) := by
      obtain ⟨j, hj⟩ := Int.eq_ofNat_of_zero_le b0
      have hj2 : j < (keysI T).length := by omega
      refine ⟨(keysI T)[j], List.getElem_mem hj2, ?_⟩
      rw [hj, ix_tup]
      simp [hj2]
    obtain ⟨g1, _, _⟩ := hT.at_ (keys_mem hT hl hg)
    obtain ⟨hT2, hl2⟩ := hT.drop (.i g)
    have hS2 : (R ++ [SC.c (.dct (dropKv T (.i g)))])[R.length]? = some (.c (.dct (dropKv T (.i g)))) := by simp
    have hpr2 : Pg.call 113 "plain_rows" [oD q, .ref R.length] (R ++ [.c (.dct (dropKv T (.i g)))]) = .ok (.lst (((rowsF (dropKv T (.i g))).filter (hit (dropKv T (.i g)) q)).map D.int)) (R ++ [.c (.dct (dropKv T (.i g)))]) := plain_rows hT2 (by omega) hS2 hz' hn 111 (by omega)
    rw [pick_drop] at hpr2
    have hf3 := List.length_filter_le (fun r => !(r == g)) ((rowsF T).filter (hit T q))
    have lf3 : ∀ S, Pg.call 113 "_law_flat" [.lst ((((rowsF T).filter (hit T q)).filter (fun r => !(r == g))).map D.int), .lst ((((rowsF T).filter (hit T q)).filter (fun r => !(r == g))).map D.int)] S = .ok (.bl true) S := fun S => law_flat _ (by omega) 111 S
    have e6 := pick (σ := stL ns q L R.length (some (.v (.lst ((keysI T).map (rowD T))))) (some (.v (.lst (((rowsF T).filter (hit T q)).map D.int)))) a8 (some (.v (.lst (((rowsF T).filter (hit T (.not q))).map D.int)))) (some (.v (.int g)))) (S := R ++ [.c (.dct (dropKv T (.i g)))]) (j := 6) (rs := (rowsF T).filter (hit T q)) (p := fun r => !(r == g)) (it := iAny (eVar 7)) (t := tV (Mi.e2 gNeU (eVar 6) (eVar 10))) (by simp) rfl (by simp) (by omega) (fun r hr => by simp)
    have hne : ∀ m, gNeW (.v (.lst ((keysI T).map (rowD T)))) (.v (.lst [])) m = some (.bl true) := fun m => by rw [hk]; exact ne_nil T a r m
    have hlen0 : ¬ ((keysI T).length : Int) = 0 := by omega
    have hmod : ∀ m, gMod (.v (.int (cellF ns 0))) (.v (.int (keysI T).length)) m = some (.int ((cellF ns 0).fmod (keysI T).length)) := fun m => gMod_int _ _ m hlen0
    refine ⟨R ++ [.c (.dct (dropKv T (.i g)))], ?_⟩
    generalize hP : (keysI T).map (rowD T) = P at *
    have hPl : P.length = (keysI T).length := by rw [← hP]; simp
    simp [runF, Pg.b_law, eb, en, ec1, gMod_int, ew, aInt2, aInt, gInt, em, ema, eco, enu, eta, e1, e2, e3, e4, e5, emk, hpr, hpn, lf1, lf2, hne, ec0, aLen, gLen, Me.items, Me.cl, hPl, hmod, eg, rowD, eDPop, isK, Me.own, Me.glob, ky, kyOf, g1, Me.put, e6, hpr2, lf3, -List.map_map, -List.filter_filter]
end Lw

set_option Elab.async false
set_option linter.all false
set_option maxRecDepth 100000
set_option maxHeartbeats 4000000
namespace Wk
open PySem PySem.Spec PyProof.Rows L2 So
open Mi (D Cl FV SC Me Xc Res PV Ky Ev Tv Av Lv Iv Ov Sv Bd Out Tx RG Cal Tb)
open Pg

def top (i : Nat) : Stmt := PySem.Challenge.pw_runmarks_k68_rows_and_sums.main.body.getD i (.Pass ⟨0, 0, 0, 0⟩)
abbrev s_plain_rows : Stmt := top 2
abbrev s_plain_total : Stmt := top 3
abbrev s_plain_least : Stmt := top 4
abbrev s_Question_holds : Stmt := inClass (top 6) 0
abbrev s_Question_mentions : Stmt := inClass (top 6) 1
abbrev s_Question_leaves : Stmt := inClass (top 6) 2
abbrev s_Question_depth : Stmt := inClass (top 6) 3
abbrev s_Every_holds : Stmt := inClass (top 7) 0
abbrev s_Within___init__ : Stmt := inClass (top 9) 0
abbrev s_Within_holds : Stmt := inClass (top 9) 1
abbrev s_Within_mentions : Stmt := inClass (top 9) 2
abbrev s_Opposite___init__ : Stmt := inClass (top 10) 0
abbrev s_Opposite_holds : Stmt := inClass (top 10) 1
abbrev s_Opposite_mentions : Stmt := inClass (top 10) 2
abbrev s_Opposite_leaves : Stmt := inClass (top 10) 3
abbrev s_Opposite_depth : Stmt := inClass (top 10) 4
abbrev s_Chain___init__ : Stmt := inClass (top 11) 0
abbrev s_Chain_mentions : Stmt := inClass (top 11) 1
abbrev s_Chain_leaves : Stmt := inClass (top 11) 2
abbrev s_Chain_depth : Stmt := inClass (top 11) 3
abbrev s_AllOf_holds : Stmt := inClass (top 12) 0
abbrev s_OneOf_holds : Stmt := inClass (top 13) 0
abbrev s__law_cell_at : Stmt := top 15
abbrev s__law_whole : Stmt := top 16
abbrev s__law_mixed : Stmt := top 17
abbrev s__law_flat : Stmt := top 18
abbrev s__law_name_of : Stmt := top 19
abbrev s__law_names : Stmt := top 20
abbrev s__law_leaf : Stmt := top 21
abbrev s__law_built : Stmt := top 22
abbrev s__law_made : Stmt := top 23
abbrev s__law_holds : Stmt := top 24
abbrev s__law_numbers_in : Stmt := top 25
abbrev s__law_measure : Stmt := top 26
abbrev s__law_table : Stmt := top 27
abbrev s__law_counted : Stmt := top 28
abbrev s__law_summed : Stmt := top 29
abbrev s_law : Stmt := top 30
structure Bl (mg : Str → Option Value) : Prop where
  sorted_ : mg "sorted" = none
  sum_ : mg "sum" = none
  min_ : mg "min" = none
  list_ : mg "list" = none
  max_ : mg "max" = none
  all_ : mg "all" = none
  any_ : mg "any" = none
  len_ : mg "len" = none
  isinstance_ : mg "isinstance" = none
  int_ : mg "int" = none
  bool_ : mg "bool" = none
  range_ : mg "range" = none
  tuple_ : mg "tuple" = none
  dict_ : mg "dict" = none
section
variable {P : Program} {w : World} {K : PySem.W.Frag} {mg : Str → Option Value} {base : Heap} {ct : String → Option Addr} {C : Cal} {n : Nat}
/-- the exceptions, and the classes asked for -/
structure Es (K : PySem.W.Frag) (mg : Str → Option Value) (ct : String → Option Addr) where
  one : Unit
theorem sc_plain_rows : FnScope ["question", "table", "row"] ["question", "table"] (defScope s_plain_rows) := ⟨rfl, rfl, rfl, by decide +kernel, rfl, by decide +kernel, by decide +kernel⟩
theorem d_plain_rows {f : Addr} {cdv : Value} {A : Around} {outer : List Env} {s : Shared} {H : Hp} {E : XK} (B : Bl mg) (Z : Es K mg ct) (G : PF K ct P w mg base (n + 2) C T fns) (hr : Room (n + 3) (A.deeper (envOfC "plain_rows" (defScope s_plain_rows) s.heap.objs.size f cdv))) :
  DSs (cxOf (L2.CX P w) P w K mg base ["question", "table", "row"] "plain_rows" (defScope s_plain_rows) f cdv A outer s H E) ct (defBody s_plain_rows) (b_plain_rows C) := by
  have sc := sc_plain_rows
  exact (dss_one (ds_ret (de_l (dl_comp rfl sc.nd (di_any (de_l (dl_sort rfl (by rfl) B.sorted_ (da_cons (de_var 1 (pv 1)) da_nil)))) (own := [("row", 2)]) (blkOk_by (N := ["question", "table", "row"]) (sc := defScope s_plain_rows) (by decide +kernel)) (fun _ _ _ _ _ => (dg_n (i := 2) sc.nd rfl (Or.inl rfl))) (fun _ _ _ _ _ => (dts_one (dt_tru (de_meth G (Room.mono hr (Nat.le_succ _)) "holds" (de_var 0 (pv 0)) (da_cons (de_ixU (hu_of hr) (de_var 1 (pv 1)) (de_var 2 (pv 2))) da_nil))))) (fun _ _ _ _ _ => (de_var 2 (pv 2))) (fun _ h => h)))))
theorem f_plain_rows {f : Addr} {fd : FuncData} (F : Fun K "plain_rows" "plain_rows" s_plain_rows f fd) (B : Bl mg) (Z : Es K mg ct) (G : PF K ct P w mg base (n + 2) C T fns) : FnOk P w K mg base (L2.CX P w) (n + 4) f fd ["question", "table"] (spOf K ct (Mi.runF 2 3 (b_plain_rows C))) :=
  fn_sound F sc_plain_rows fun cdv A outer s H E hr => d_plain_rows B Z G hr
theorem sc_plain_total : FnScope ["name", "question", "table", "row"] ["name", "question", "table"] (defScope s_plain_total) := ⟨rfl, rfl, rfl, by decide +kernel, rfl, by decide +kernel, by decide +kernel⟩
theorem d_plain_total {f : Addr} {cdv : Value} {A : Around} {outer : List Env} {s : Shared} {H : Hp} {E : XK} (B : Bl mg) (Z : Es K mg ct) (G : PF K ct P w mg base (n + 2) C T fns) (hr : Room (n + 3) (A.deeper (envOfC "plain_total" (defScope s_plain_total) s.heap.objs.size f cdv))) :
  DSs (cxOf (L2.CX P w) P w K mg base ["name", "question", "table", "row"] "plain_total" (defScope s_plain_total) f cdv A outer s H E) ct (defBody s_plain_total) (b_plain_total C) := by
  have sc := sc_plain_total
  exact (dss_one (ds_ret (de_callB (cr_sum rfl) ok_sum rfl B.sum_ boot_sum (da_cons (de_l (dl_comp rfl sc.nd (di_any (de_call G (Room.mono hr (Nat.le_succ _)) "plain_rows" (by decide) (da_cons (de_var 1 (pv 1)) (da_cons (de_var 2 (pv 2)) da_nil)))) (own := [("row", 3)]) (blkOk_by (N := ["name", "question", "table", "row"]) (sc := defScope s_plain_total) (by decide +kernel)) (fun _ _ _ _ _ => (dg_n (i := 3) sc.nd rfl (Or.inl rfl))) (fun _ _ _ _ _ => dts_nil) (fun _ _ _ _ _ => (de_ixU (hu_of hr) (de_ixU (hu_of hr) (de_var 2 (pv 2)) (de_var 3 (pv 3))) (de_var 0 (pv 0)))) (fun _ h => h))) da_nil))))
theorem f_plain_total {f : Addr} {fd : FuncData} (F : Fun K "plain_total" "plain_total" s_plain_total f fd) (B : Bl mg) (Z : Es K mg ct) (G : PF K ct P w mg base (n + 2) C T fns) : FnOk P w K mg base (L2.CX P w) (n + 4) f fd ["name", "question", "table"] (spOf K ct (Mi.runF 3 4 (b_plain_total C))) :=
  fn_sound F sc_plain_total fun cdv A outer s H E hr => d_plain_total B Z G hr
theorem sc_plain_least : FnScope ["name", "question", "table", "rows", "lowest", "row"] ["name", "question", "table"] (defScope s_plain_least) := ⟨rfl, rfl, rfl, by decide +kernel, rfl, by decide +kernel, by decide +kernel⟩
theorem d_plain_least {f : Addr} {cdv : Value} {A : Around} {outer : List Env} {s : Shared} {H : Hp} {E : XK} (B : Bl mg) (Z : Es K mg ct) (G : PF K ct P w mg base (n + 2) C T fns) (hr : Room (n + 3) (A.deeper (envOfC "plain_least" (defScope s_plain_least) s.heap.objs.size f cdv))) :
  DSs (cxOf (L2.CX P w) P w K mg base ["name", "question", "table", "rows", "lowest", "row"] "plain_least" (defScope s_plain_least) f cdv A outer s H E) ct (defBody s_plain_least) (b_plain_least C) := by
  have sc := sc_plain_least
  exact (dss_cons (ds_set (i := 3) sc.nd rfl (Or.inl rfl) (de_call G (Room.mono hr (Nat.le_succ _)) "plain_rows" (by decide) (da_cons (de_var 1 (pv 1)) (da_cons (de_var 2 (pv 2)) da_nil))))
  (dss_cons (ds_if (dt_eqU hr.units (de_var 3 (pv 3)) (de_l (dl_disp da_nil)))
    (dss_one (ds_ret de_non))
    dss_nil)
  (dss_cons (ds_set (i := 4) sc.nd rfl (Or.inr rfl) (de_callB (cr_min rfl) ok_min1 rfl B.min_ boot_min (da_cons (de_l (dl_comp rfl sc.nd (di_any (de_var 3 (pv 3))) (own := [("row", 5)]) (blkOk_by (N := ["name", "question", "table", "rows", "lowest", "row"]) (sc := defScope s_plain_least) (by decide +kernel)) (fun _ _ _ _ _ => (dg_n (i := 5) sc.nd rfl (Or.inl rfl))) (fun _ _ _ _ _ => dts_nil) (fun _ _ _ _ _ => (de_ixU (hu_of hr) (de_ixU (hu_of hr) (de_var 2 (pv 2)) (de_var 5 (pv 5))) (de_var 0 (pv 0)))) (fun _ h => h))) da_nil)))
  (dss_one (ds_ret (de_tup (da_cons (de_var 4 (pv 4)) (da_cons (de_l (dl_comp rfl sc.nd (di_any (de_var 3 (pv 3))) (own := [("row", 5)]) (blkOk_by (N := ["name", "question", "table", "rows", "lowest", "row"]) (sc := defScope s_plain_least) (by decide +kernel)) (fun _ _ _ _ _ => (dg_n (i := 5) sc.nd rfl (Or.inl rfl))) (fun _ _ _ _ _ => (dts_one (dt_eqU hr.units (de_ixU (hu_of hr) (de_ixU (hu_of hr) (de_var 2 (pv 2)) (de_var 5 (pv 5))) (de_var 0 (pv 0))) (de_var 4 (pv 4))))) (fun _ _ _ _ _ => (de_var 5 (pv 5))) (fun _ h => h))) da_nil))))))))
theorem f_plain_least {f : Addr} {fd : FuncData} (F : Fun K "plain_least" "plain_least" s_plain_least f fd) (B : Bl mg) (Z : Es K mg ct) (G : PF K ct P w mg base (n + 2) C T fns) : FnOk P w K mg base (L2.CX P w) (n + 4) f fd ["name", "question", "table"] (spOf K ct (Mi.runF 3 6 (b_plain_least C))) :=
  fn_sound F sc_plain_least fun cdv A outer s H E hr => d_plain_least B Z G hr
theorem sc_Question_holds : FnScope ["self", "values"] ["self", "values"] (defScope s_Question_holds) := ⟨rfl, rfl, rfl, by decide +kernel, rfl, by decide +kernel, by decide +kernel⟩
theorem d_Question_holds {f : Addr} {cdv : Value} {A : Around} {outer : List Env} {s : Shared} {H : Hp} {E : XK} (B : Bl mg) (Z : Es K mg ct) (G : PF K ct P w mg base (n + 2) C T fns) (hr : Room (n + 3) (A.deeper (envOfC "Question.holds" (defScope s_Question_holds) s.heap.objs.size f cdv))) :
  DSs (cxOf (L2.CX P w) P w K mg base ["self", "values"] "Question.holds" (defScope s_Question_holds) f cdv A outer s H E) ct (defBody s_Question_holds) (b_Question_holds C) := by
  have sc := sc_Question_holds
  exact (dss_one (ds_ret de_bl))
theorem f_Question_holds {f : Addr} {fd : FuncData} (F : Fun K "holds" "Question.holds" s_Question_holds f fd) (B : Bl mg) (Z : Es K mg ct) (G : PF K ct P w mg base (n + 2) C T fns) : FnOk P w K mg base (L2.CX P w) (n + 4) f fd ["self", "values"] (spOf K ct (Mi.runF 2 2 (b_Question_holds C))) :=
  fn_sound F sc_Question_holds fun cdv A outer s H E hr => d_Question_holds B Z G hr
theorem sc_Question_mentions : FnScope ["self"] ["self"] (defScope s_Question_mentions) := ⟨rfl, rfl, rfl, by decide +kernel, rfl, by decide +kernel, by decide +kernel⟩
theorem d_Question_mentions {f : Addr} {cdv : Value} {A : Around} {outer : List Env} {s : Shared} {H : Hp} {E : XK} (B : Bl mg) (Z : Es K mg ct) (G : PF K ct P w mg base (n + 2) C T fns) (hr : Room (n + 3) (A.deeper (envOfC "Question.mentions" (defScope s_Question_mentions) s.heap.objs.size f cdv))) :
  DSs (cxOf (L2.CX P w) P w K mg base ["self"] "Question.mentions" (defScope s_Question_mentions) f cdv A outer s H E) ct (defBody s_Question_mentions) (b_Question_mentions C) := by
  have sc := sc_Question_mentions
  exact (dss_one (ds_ret (de_newL (dl_disp da_nil))))
theorem f_Question_mentions {f : Addr} {fd : FuncData} (F : Fun K "mentions" "Question.mentions" s_Question_mentions f fd) (B : Bl mg) (Z : Es K mg ct) (G : PF K ct P w mg base (n + 2) C T fns) : FnOk P w K mg base (L2.CX P w) (n + 4) f fd ["self"] (spOf K ct (Mi.runF 1 1 (b_Question_mentions C))) :=
  fn_sound F sc_Question_mentions fun cdv A outer s H E hr => d_Question_mentions B Z G hr
theorem sc_Question_leaves : FnScope ["self"] ["self"] (defScope s_Question_leaves) := ⟨rfl, rfl, rfl, by decide +kernel, rfl, by decide +kernel, by decide +kernel⟩
theorem d_Question_leaves {f : Addr} {cdv : Value} {A : Around} {outer : List Env} {s : Shared} {H : Hp} {E : XK} (B : Bl mg) (Z : Es K mg ct) (G : PF K ct P w mg base (n + 2) C T fns) (hr : Room (n + 3) (A.deeper (envOfC "Question.leaves" (defScope s_Question_leaves) s.heap.objs.size f cdv))) :
  DSs (cxOf (L2.CX P w) P w K mg base ["self"] "Question.leaves" (defScope s_Question_leaves) f cdv A outer s H E) ct (defBody s_Question_leaves) (b_Question_leaves C) := by
  have sc := sc_Question_leaves
  exact (dss_one (ds_ret de_int))
theorem f_Question_leaves {f : Addr} {fd : FuncData} (F : Fun K "leaves" "Question.leaves" s_Question_leaves f fd) (B : Bl mg) (Z : Es K mg ct) (G : PF K ct P w mg base (n + 2) C T fns) : FnOk P w K mg base (L2.CX P w) (n + 4) f fd ["self"] (spOf K ct (Mi.runF 1 1 (b_Question_leaves C))) :=
  fn_sound F sc_Question_leaves fun cdv A outer s H E hr => d_Question_leaves B Z G hr
theorem sc_Question_depth : FnScope ["self"] ["self"] (defScope s_Question_depth) := ⟨rfl, rfl, rfl, by decide +kernel, rfl, by decide +kernel, by decide +kernel⟩
theorem d_Question_depth {f : Addr} {cdv : Value} {A : Around} {outer : List Env} {s : Shared} {H : Hp} {E : XK} (B : Bl mg) (Z : Es K mg ct) (G : PF K ct P w mg base (n + 2) C T fns) (hr : Room (n + 3) (A.deeper (envOfC "Question.depth" (defScope s_Question_depth) s.heap.objs.size f cdv))) :
  DSs (cxOf (L2.CX P w) P w K mg base ["self"] "Question.depth" (defScope s_Question_depth) f cdv A outer s H E) ct (defBody s_Question_depth) (b_Question_depth C) := by
  have sc := sc_Question_depth
  exact (dss_one (ds_ret de_int))
theorem f_Question_depth {f : Addr} {fd : FuncData} (F : Fun K "depth" "Question.depth" s_Question_depth f fd) (B : Bl mg) (Z : Es K mg ct) (G : PF K ct P w mg base (n + 2) C T fns) : FnOk P w K mg base (L2.CX P w) (n + 4) f fd ["self"] (spOf K ct (Mi.runF 1 1 (b_Question_depth C))) :=
  fn_sound F sc_Question_depth fun cdv A outer s H E hr => d_Question_depth B Z G hr
theorem sc_Every_holds : FnScope ["self", "values"] ["self", "values"] (defScope s_Every_holds) := ⟨rfl, rfl, rfl, by decide +kernel, rfl, by decide +kernel, by decide +kernel⟩
theorem d_Every_holds {f : Addr} {cdv : Value} {A : Around} {outer : List Env} {s : Shared} {H : Hp} {E : XK} (B : Bl mg) (Z : Es K mg ct) (G : PF K ct P w mg base (n + 2) C T fns) (hr : Room (n + 3) (A.deeper (envOfC "Every.holds" (defScope s_Every_holds) s.heap.objs.size f cdv))) :
  DSs (cxOf (L2.CX P w) P w K mg base ["self", "values"] "Every.holds" (defScope s_Every_holds) f cdv A outer s H E) ct (defBody s_Every_holds) (b_Every_holds C) := by
  have sc := sc_Every_holds
  exact (dss_one (ds_ret de_bl))
theorem f_Every_holds {f : Addr} {fd : FuncData} (F : Fun K "holds" "Every.holds" s_Every_holds f fd) (B : Bl mg) (Z : Es K mg ct) (G : PF K ct P w mg base (n + 2) C T fns) : FnOk P w K mg base (L2.CX P w) (n + 4) f fd ["self", "values"] (spOf K ct (Mi.runF 2 2 (b_Every_holds C))) :=
  fn_sound F sc_Every_holds fun cdv A outer s H E hr => d_Every_holds B Z G hr
theorem sc_Within___init__ : FnScope ["self", "name", "low", "high"] ["self", "name", "low", "high"] (defScope s_Within___init__) := ⟨rfl, rfl, rfl, by decide +kernel, rfl, by decide +kernel, by decide +kernel⟩
theorem d_Within___init__ {f : Addr} {cdv : Value} {A : Around} {outer : List Env} {s : Shared} {H : Hp} {E : XK} (B : Bl mg) (Z : Es K mg ct) (G : PF K ct P w mg base (n + 2) C T fns) (hr : Room (n + 3) (A.deeper (envOfC "Within.__init__" (defScope s_Within___init__) s.heap.objs.size f cdv))) :
  DSs (cxOf (L2.CX P w) P w K mg base ["self", "name", "low", "high"] "Within.__init__" (defScope s_Within___init__) f cdv A outer s H E) ct (defBody s_Within___init__) (b_Within___init__ C) := by
  have sc := sc_Within___init__
  exact (dss_cons (ds_fld G "name" (de_var 0 (pv 0)) (de_var 1 (pv 1)))
  (dss_cons (ds_fld G "low" (de_var 0 (pv 0)) (de_var 2 (pv 2)))
  (dss_one (ds_fld G "high" (de_var 0 (pv 0)) (de_var 3 (pv 3))))))
theorem f_Within___init__ {f : Addr} {fd : FuncData} (F : Fun K "__init__" "Within.__init__" s_Within___init__ f fd) (B : Bl mg) (Z : Es K mg ct) (G : PF K ct P w mg base (n + 2) C T fns) : FnOk P w K mg base (L2.CX P w) (n + 4) f fd ["self", "name", "low", "high"] (spOf K ct (Mi.runF 4 4 (b_Within___init__ C))) :=
  fn_sound F sc_Within___init__ fun cdv A outer s H E hr => d_Within___init__ B Z G hr
theorem sc_Within_holds : FnScope ["self", "values"] ["self", "values"] (defScope s_Within_holds) := ⟨rfl, rfl, rfl, by decide +kernel, rfl, by decide +kernel, by decide +kernel⟩
theorem d_Within_holds {f : Addr} {cdv : Value} {A : Around} {outer : List Env} {s : Shared} {H : Hp} {E : XK} (B : Bl mg) (Z : Es K mg ct) (G : PF K ct P w mg base (n + 2) C T fns) (hr : Room (n + 3) (A.deeper (envOfC "Within.holds" (defScope s_Within_holds) s.heap.objs.size f cdv))) :
  DSs (cxOf (L2.CX P w) P w K mg base ["self", "values"] "Within.holds" (defScope s_Within_holds) f cdv A outer s H E) ct (defBody s_Within_holds) (b_Within_holds C) := by
  have sc := sc_Within_holds
  exact (dss_one (ds_ret (de_leLe (de_fld G "low" (de_var 0 (pv 0))) (de_ixU (hu_of hr) (de_var 1 (pv 1)) (de_fld G "name" (de_var 0 (pv 0)))) (de_fld G "high" (de_var 0 (pv 0))))))
theorem f_Within_holds {f : Addr} {fd : FuncData} (F : Fun K "holds" "Within.holds" s_Within_holds f fd) (B : Bl mg) (Z : Es K mg ct) (G : PF K ct P w mg base (n + 2) C T fns) : FnOk P w K mg base (L2.CX P w) (n + 4) f fd ["self", "values"] (spOf K ct (Mi.runF 2 2 (b_Within_holds C))) :=
  fn_sound F sc_Within_holds fun cdv A outer s H E hr => d_Within_holds B Z G hr
theorem sc_Within_mentions : FnScope ["self"] ["self"] (defScope s_Within_mentions) := ⟨rfl, rfl, rfl, by decide +kernel, rfl, by decide +kernel, by decide +kernel⟩
theorem d_Within_mentions {f : Addr} {cdv : Value} {A : Around} {outer : List Env} {s : Shared} {H : Hp} {E : XK} (B : Bl mg) (Z : Es K mg ct) (G : PF K ct P w mg base (n + 2) C T fns) (hr : Room (n + 3) (A.deeper (envOfC "Within.mentions" (defScope s_Within_mentions) s.heap.objs.size f cdv))) :
  DSs (cxOf (L2.CX P w) P w K mg base ["self"] "Within.mentions" (defScope s_Within_mentions) f cdv A outer s H E) ct (defBody s_Within_mentions) (b_Within_mentions C) := by
  have sc := sc_Within_mentions
  exact (dss_one (ds_ret (de_newL (dl_disp (da_cons (de_fld G "name" (de_var 0 (pv 0))) da_nil)))))
theorem f_Within_mentions {f : Addr} {fd : FuncData} (F : Fun K "mentions" "Within.mentions" s_Within_mentions f fd) (B : Bl mg) (Z : Es K mg ct) (G : PF K ct P w mg base (n + 2) C T fns) : FnOk P w K mg base (L2.CX P w) (n + 4) f fd ["self"] (spOf K ct (Mi.runF 1 1 (b_Within_mentions C))) :=
  fn_sound F sc_Within_mentions fun cdv A outer s H E hr => d_Within_mentions B Z G hr
theorem sc_Opposite___init__ : FnScope ["self", "one"] ["self", "one"] (defScope s_Opposite___init__) := ⟨rfl, rfl, rfl, by decide +kernel, rfl, by decide +kernel, by decide +kernel⟩
theorem d_Opposite___init__ {f : Addr} {cdv : Value} {A : Around} {outer : List Env} {s : Shared} {H : Hp} {E : XK} (B : Bl mg) (Z : Es K mg ct) (G : PF K ct P w mg base (n + 2) C T fns) (hr : Room (n + 3) (A.deeper (envOfC "Opposite.__init__" (defScope s_Opposite___init__) s.heap.objs.size f cdv))) :
  DSs (cxOf (L2.CX P w) P w K mg base ["self", "one"] "Opposite.__init__" (defScope s_Opposite___init__) f cdv A outer s H E) ct (defBody s_Opposite___init__) (b_Opposite___init__ C) := by
  have sc := sc_Opposite___init__
  exact (dss_one (ds_fld G "one" (de_var 0 (pv 0)) (de_var 1 (pv 1))))
theorem f_Opposite___init__ {f : Addr} {fd : FuncData} (F : Fun K "__init__" "Opposite.__init__" s_Opposite___init__ f fd) (B : Bl mg) (Z : Es K mg ct) (G : PF K ct P w mg base (n + 2) C T fns) : FnOk P w K mg base (L2.CX P w) (n + 4) f fd ["self", "one"] (spOf K ct (Mi.runF 2 2 (b_Opposite___init__ C))) :=
  fn_sound F sc_Opposite___init__ fun cdv A outer s H E hr => d_Opposite___init__ B Z G hr
theorem sc_Opposite_holds : FnScope ["self", "values"] ["self", "values"] (defScope s_Opposite_holds) := ⟨rfl, rfl, rfl, by decide +kernel, rfl, by decide +kernel, by decide +kernel⟩
theorem d_Opposite_holds {f : Addr} {cdv : Value} {A : Around} {outer : List Env} {s : Shared} {H : Hp} {E : XK} (B : Bl mg) (Z : Es K mg ct) (G : PF K ct P w mg base (n + 2) C T fns) (hr : Room (n + 3) (A.deeper (envOfC "Opposite.holds" (defScope s_Opposite_holds) s.heap.objs.size f cdv))) :
  DSs (cxOf (L2.CX P w) P w K mg base ["self", "values"] "Opposite.holds" (defScope s_Opposite_holds) f cdv A outer s H E) ct (defBody s_Opposite_holds) (b_Opposite_holds C) := by
  have sc := sc_Opposite_holds
  exact (dss_one (ds_ret (de_not (de_meth G (Room.mono hr (Nat.le_succ _)) "holds" (de_fld G "one" (de_var 0 (pv 0))) (da_cons (de_var 1 (pv 1)) da_nil)))))
theorem f_Opposite_holds {f : Addr} {fd : FuncData} (F : Fun K "holds" "Opposite.holds" s_Opposite_holds f fd) (B : Bl mg) (Z : Es K mg ct) (G : PF K ct P w mg base (n + 2) C T fns) : FnOk P w K mg base (L2.CX P w) (n + 4) f fd ["self", "values"] (spOf K ct (Mi.runF 2 2 (b_Opposite_holds C))) :=
  fn_sound F sc_Opposite_holds fun cdv A outer s H E hr => d_Opposite_holds B Z G hr
theorem sc_Opposite_mentions : FnScope ["self"] ["self"] (defScope s_Opposite_mentions) := ⟨rfl, rfl, rfl, by decide +kernel, rfl, by decide +kernel, by decide +kernel⟩
theorem d_Opposite_mentions {f : Addr} {cdv : Value} {A : Around} {outer : List Env} {s : Shared} {H : Hp} {E : XK} (B : Bl mg) (Z : Es K mg ct) (G : PF K ct P w mg base (n + 2) C T fns) (hr : Room (n + 3) (A.deeper (envOfC "Opposite.mentions" (defScope s_Opposite_mentions) s.heap.objs.size f cdv))) :
  DSs (cxOf (L2.CX P w) P w K mg base ["self"] "Opposite.mentions" (defScope s_Opposite_mentions) f cdv A outer s H E) ct (defBody s_Opposite_mentions) (b_Opposite_mentions C) := by
  have sc := sc_Opposite_mentions
  exact (dss_one (ds_ret (de_meth0 G (Room.mono hr (Nat.le_succ _)) "mentions" (de_fld G "one" (de_var 0 (pv 0))))))
theorem f_Opposite_mentions {f : Addr} {fd : FuncData} (F : Fun K "mentions" "Opposite.mentions" s_Opposite_mentions f fd) (B : Bl mg) (Z : Es K mg ct) (G : PF K ct P w mg base (n + 2) C T fns) : FnOk P w K mg base (L2.CX P w) (n + 4) f fd ["self"] (spOf K ct (Mi.runF 1 1 (b_Opposite_mentions C))) :=
  fn_sound F sc_Opposite_mentions fun cdv A outer s H E hr => d_Opposite_mentions B Z G hr
theorem sc_Opposite_leaves : FnScope ["self"] ["self"] (defScope s_Opposite_leaves) := ⟨rfl, rfl, rfl, by decide +kernel, rfl, by decide +kernel, by decide +kernel⟩
theorem d_Opposite_leaves {f : Addr} {cdv : Value} {A : Around} {outer : List Env} {s : Shared} {H : Hp} {E : XK} (B : Bl mg) (Z : Es K mg ct) (G : PF K ct P w mg base (n + 2) C T fns) (hr : Room (n + 3) (A.deeper (envOfC "Opposite.leaves" (defScope s_Opposite_leaves) s.heap.objs.size f cdv))) :
  DSs (cxOf (L2.CX P w) P w K mg base ["self"] "Opposite.leaves" (defScope s_Opposite_leaves) f cdv A outer s H E) ct (defBody s_Opposite_leaves) (b_Opposite_leaves C) := by
  have sc := sc_Opposite_leaves
  exact (dss_one (ds_ret (de_meth0 G (Room.mono hr (Nat.le_succ _)) "leaves" (de_fld G "one" (de_var 0 (pv 0))))))
theorem f_Opposite_leaves {f : Addr} {fd : FuncData} (F : Fun K "leaves" "Opposite.leaves" s_Opposite_leaves f fd) (B : Bl mg) (Z : Es K mg ct) (G : PF K ct P w mg base (n + 2) C T fns) : FnOk P w K mg base (L2.CX P w) (n + 4) f fd ["self"] (spOf K ct (Mi.runF 1 1 (b_Opposite_leaves C))) :=
  fn_sound F sc_Opposite_leaves fun cdv A outer s H E hr => d_Opposite_leaves B Z G hr
theorem sc_Opposite_depth : FnScope ["self"] ["self"] (defScope s_Opposite_depth) := ⟨rfl, rfl, rfl, by decide +kernel, rfl, by decide +kernel, by decide +kernel⟩
theorem d_Opposite_depth {f : Addr} {cdv : Value} {A : Around} {outer : List Env} {s : Shared} {H : Hp} {E : XK} (B : Bl mg) (Z : Es K mg ct) (G : PF K ct P w mg base (n + 2) C T fns) (hr : Room (n + 3) (A.deeper (envOfC "Opposite.depth" (defScope s_Opposite_depth) s.heap.objs.size f cdv))) :
  DSs (cxOf (L2.CX P w) P w K mg base ["self"] "Opposite.depth" (defScope s_Opposite_depth) f cdv A outer s H E) ct (defBody s_Opposite_depth) (b_Opposite_depth C) := by
  have sc := sc_Opposite_depth
  exact (dss_one (ds_ret (de_addU de_int (de_meth0 G (Room.mono hr (Nat.le_succ _)) "depth" (de_fld G "one" (de_var 0 (pv 0)))))))
theorem f_Opposite_depth {f : Addr} {fd : FuncData} (F : Fun K "depth" "Opposite.depth" s_Opposite_depth f fd) (B : Bl mg) (Z : Es K mg ct) (G : PF K ct P w mg base (n + 2) C T fns) : FnOk P w K mg base (L2.CX P w) (n + 4) f fd ["self"] (spOf K ct (Mi.runF 1 1 (b_Opposite_depth C))) :=
  fn_sound F sc_Opposite_depth fun cdv A outer s H E hr => d_Opposite_depth B Z G hr
theorem sc_Chain___init__ : FnScope ["self", "parts"] ["self", "parts"] (defScope s_Chain___init__) := ⟨rfl, rfl, rfl, by decide +kernel, rfl, by decide +kernel, by decide +kernel⟩
theorem d_Chain___init__ {f : Addr} {cdv : Value} {A : Around} {outer : List Env} {s : Shared} {H : Hp} {E : XK} (B : Bl mg) (Z : Es K mg ct) (G : PF K ct P w mg base (n + 2) C T fns) (hr : Room (n + 3) (A.deeper (envOfC "Chain.__init__" (defScope s_Chain___init__) s.heap.objs.size f cdv))) :
  DSs (cxOf (L2.CX P w) P w K mg base ["self", "parts"] "Chain.__init__" (defScope s_Chain___init__) f cdv A outer s H E) ct (defBody s_Chain___init__) (b_Chain___init__ C) := by
  have sc := sc_Chain___init__
  exact (dss_one (ds_fld G "parts" (de_var 0 (pv 0)) (de_l (dl_of rfl B.list_ boot_list (da_cons (de_var 1 (pv 1)) da_nil)))))
theorem f_Chain___init__ {f : Addr} {fd : FuncData} (F : Fun K "__init__" "Chain.__init__" s_Chain___init__ f fd) (B : Bl mg) (Z : Es K mg ct) (G : PF K ct P w mg base (n + 2) C T fns) : FnOk P w K mg base (L2.CX P w) (n + 4) f fd ["self", "parts"] (spOf K ct (Mi.runF 2 2 (b_Chain___init__ C))) :=
  fn_sound F sc_Chain___init__ fun cdv A outer s H E hr => d_Chain___init__ B Z G hr
theorem sc_Chain_mentions : FnScope ["self", "found", "part"] ["self"] (defScope s_Chain_mentions) := ⟨rfl, rfl, rfl, by decide +kernel, rfl, by decide +kernel, by decide +kernel⟩
theorem d_Chain_mentions {f : Addr} {cdv : Value} {A : Around} {outer : List Env} {s : Shared} {H : Hp} {E : XK} (B : Bl mg) (Z : Es K mg ct) (G : PF K ct P w mg base (n + 2) C T fns) (hr : Room (n + 3) (A.deeper (envOfC "Chain.mentions" (defScope s_Chain_mentions) s.heap.objs.size f cdv))) :
  DSs (cxOf (L2.CX P w) P w K mg base ["self", "found", "part"] "Chain.mentions" (defScope s_Chain_mentions) f cdv A outer s H E) ct (defBody s_Chain_mentions) (b_Chain_mentions C) := by
  have sc := sc_Chain_mentions
  exact (dss_cons (ds_set (i := 1) sc.nd rfl (Or.inl rfl) (de_newL (dl_disp da_nil)))
  (dss_cons (ds_for (passes_of rfl) rfl (di_any (de_fld G "parts" (de_var 0 (pv 0)))) (dg_n (i := 2) sc.nd rfl (Or.inl rfl))
    (dss_one (ds_ex (de_extL (de_var 1 (pv 1)) (de_meth0 G (Room.mono hr (Nat.le_succ _)) "mentions" (de_var 2 (pv 2)))))))
  (dss_one (ds_ret (de_var 1 (pv 1))))))
theorem f_Chain_mentions {f : Addr} {fd : FuncData} (F : Fun K "mentions" "Chain.mentions" s_Chain_mentions f fd) (B : Bl mg) (Z : Es K mg ct) (G : PF K ct P w mg base (n + 2) C T fns) : FnOk P w K mg base (L2.CX P w) (n + 4) f fd ["self"] (spOf K ct (Mi.runF 1 3 (b_Chain_mentions C))) :=
  fn_sound F sc_Chain_mentions fun cdv A outer s H E hr => d_Chain_mentions B Z G hr
theorem sc_Chain_leaves : FnScope ["self", "part"] ["self"] (defScope s_Chain_leaves) := ⟨rfl, rfl, rfl, by decide +kernel, rfl, by decide +kernel, by decide +kernel⟩
theorem d_Chain_leaves {f : Addr} {cdv : Value} {A : Around} {outer : List Env} {s : Shared} {H : Hp} {E : XK} (B : Bl mg) (Z : Es K mg ct) (G : PF K ct P w mg base (n + 2) C T fns) (hr : Room (n + 3) (A.deeper (envOfC "Chain.leaves" (defScope s_Chain_leaves) s.heap.objs.size f cdv))) :
  DSs (cxOf (L2.CX P w) P w K mg base ["self", "part"] "Chain.leaves" (defScope s_Chain_leaves) f cdv A outer s H E) ct (defBody s_Chain_leaves) (b_Chain_leaves C) := by
  have sc := sc_Chain_leaves
  exact (dss_one (ds_ret (de_callB (cr_sum rfl) ok_sum rfl B.sum_ boot_sum (da_cons (de_l (dl_comp rfl sc.nd (di_any (de_fld G "parts" (de_var 0 (pv 0)))) (own := [("part", 1)]) (blkOk_by (N := ["self", "part"]) (sc := defScope s_Chain_leaves) (by decide +kernel)) (fun _ _ _ _ _ => (dg_n (i := 1) sc.nd rfl (Or.inl rfl))) (fun _ _ _ _ _ => dts_nil) (fun _ _ _ _ _ => (de_meth0 G (Room.mono hr (Nat.le_succ _)) "leaves" (de_var 1 (pv 1)))) (fun _ h => h))) da_nil))))
theorem f_Chain_leaves {f : Addr} {fd : FuncData} (F : Fun K "leaves" "Chain.leaves" s_Chain_leaves f fd) (B : Bl mg) (Z : Es K mg ct) (G : PF K ct P w mg base (n + 2) C T fns) : FnOk P w K mg base (L2.CX P w) (n + 4) f fd ["self"] (spOf K ct (Mi.runF 1 2 (b_Chain_leaves C))) :=
  fn_sound F sc_Chain_leaves fun cdv A outer s H E hr => d_Chain_leaves B Z G hr
theorem sc_Chain_depth : FnScope ["self", "part"] ["self"] (defScope s_Chain_depth) := ⟨rfl, rfl, rfl, by decide +kernel, rfl, by decide +kernel, by decide +kernel⟩
theorem d_Chain_depth {f : Addr} {cdv : Value} {A : Around} {outer : List Env} {s : Shared} {H : Hp} {E : XK} (B : Bl mg) (Z : Es K mg ct) (G : PF K ct P w mg base (n + 2) C T fns) (hr : Room (n + 3) (A.deeper (envOfC "Chain.depth" (defScope s_Chain_depth) s.heap.objs.size f cdv))) :
  DSs (cxOf (L2.CX P w) P w K mg base ["self", "part"] "Chain.depth" (defScope s_Chain_depth) f cdv A outer s H E) ct (defBody s_Chain_depth) (b_Chain_depth C) := by
  have sc := sc_Chain_depth
  exact (dss_one (ds_ret (de_addU de_int (de_maxD (by rfl) hr.units (by rfl) B.max_ (de_l (dl_comp rfl sc.nd (di_any (de_fld G "parts" (de_var 0 (pv 0)))) (own := [("part", 1)]) (blkOk_by (N := ["self", "part"]) (sc := defScope s_Chain_depth) (by decide +kernel)) (fun _ _ _ _ _ => (dg_n (i := 1) sc.nd rfl (Or.inl rfl))) (fun _ _ _ _ _ => dts_nil) (fun _ _ _ _ _ => (de_meth0 G (Room.mono hr (Nat.le_succ _)) "depth" (de_var 1 (pv 1)))) (fun _ h => h))) de_int))))
theorem f_Chain_depth {f : Addr} {fd : FuncData} (F : Fun K "depth" "Chain.depth" s_Chain_depth f fd) (B : Bl mg) (Z : Es K mg ct) (G : PF K ct P w mg base (n + 2) C T fns) : FnOk P w K mg base (L2.CX P w) (n + 4) f fd ["self"] (spOf K ct (Mi.runF 1 2 (b_Chain_depth C))) :=
  fn_sound F sc_Chain_depth fun cdv A outer s H E hr => d_Chain_depth B Z G hr
theorem sc_AllOf_holds : FnScope ["self", "values", "part"] ["self", "values"] (defScope s_AllOf_holds) := ⟨rfl, rfl, rfl, by decide +kernel, rfl, by decide +kernel, by decide +kernel⟩
theorem d_AllOf_holds {f : Addr} {cdv : Value} {A : Around} {outer : List Env} {s : Shared} {H : Hp} {E : XK} (B : Bl mg) (Z : Es K mg ct) (G : PF K ct P w mg base (n + 2) C T fns) (hr : Room (n + 3) (A.deeper (envOfC "AllOf.holds" (defScope s_AllOf_holds) s.heap.objs.size f cdv))) :
  DSs (cxOf (L2.CX P w) P w K mg base ["self", "values", "part"] "AllOf.holds" (defScope s_AllOf_holds) f cdv A outer s H E) ct (defBody s_AllOf_holds) (b_AllOf_holds C) := by
  have sc := sc_AllOf_holds
  exact (dss_one (ds_ret (de_callB (cr_all rfl) ok_all rfl B.all_ boot_all (da_cons (de_l (dl_comp rfl sc.nd (di_any (de_fld G "parts" (de_var 0 (pv 0)))) (own := [("part", 2)]) (blkOk_by (N := ["self", "values", "part"]) (sc := defScope s_AllOf_holds) (by decide +kernel)) (fun _ _ _ _ _ => (dg_n (i := 2) sc.nd rfl (Or.inl rfl))) (fun _ _ _ _ _ => dts_nil) (fun _ _ _ _ _ => (de_meth G (Room.mono hr (Nat.le_succ _)) "holds" (de_var 2 (pv 2)) (da_cons (de_var 1 (pv 1)) da_nil))) (fun _ h => h))) da_nil))))
theorem f_AllOf_holds {f : Addr} {fd : FuncData} (F : Fun K "holds" "AllOf.holds" s_AllOf_holds f fd) (B : Bl mg) (Z : Es K mg ct) (G : PF K ct P w mg base (n + 2) C T fns) : FnOk P w K mg base (L2.CX P w) (n + 4) f fd ["self", "values"] (spOf K ct (Mi.runF 2 3 (b_AllOf_holds C))) :=
  fn_sound F sc_AllOf_holds fun cdv A outer s H E hr => d_AllOf_holds B Z G hr
theorem sc_OneOf_holds : FnScope ["self", "values", "part"] ["self", "values"] (defScope s_OneOf_holds) := ⟨rfl, rfl, rfl, by decide +kernel, rfl, by decide +kernel, by decide +kernel⟩
theorem d_OneOf_holds {f : Addr} {cdv : Value} {A : Around} {outer : List Env} {s : Shared} {H : Hp} {E : XK} (B : Bl mg) (Z : Es K mg ct) (G : PF K ct P w mg base (n + 2) C T fns) (hr : Room (n + 3) (A.deeper (envOfC "OneOf.holds" (defScope s_OneOf_holds) s.heap.objs.size f cdv))) :
  DSs (cxOf (L2.CX P w) P w K mg base ["self", "values", "part"] "OneOf.holds" (defScope s_OneOf_holds) f cdv A outer s H E) ct (defBody s_OneOf_holds) (b_OneOf_holds C) := by
  have sc := sc_OneOf_holds
  exact (dss_one (ds_ret (de_callB (cr_any rfl) ok_any rfl B.any_ boot_any (da_cons (de_l (dl_comp rfl sc.nd (di_any (de_fld G "parts" (de_var 0 (pv 0)))) (own := [("part", 2)]) (blkOk_by (N := ["self", "values", "part"]) (sc := defScope s_OneOf_holds) (by decide +kernel)) (fun _ _ _ _ _ => (dg_n (i := 2) sc.nd rfl (Or.inl rfl))) (fun _ _ _ _ _ => dts_nil) (fun _ _ _ _ _ => (de_meth G (Room.mono hr (Nat.le_succ _)) "holds" (de_var 2 (pv 2)) (da_cons (de_var 1 (pv 1)) da_nil))) (fun _ h => h))) da_nil))))
theorem f_OneOf_holds {f : Addr} {fd : FuncData} (F : Fun K "holds" "OneOf.holds" s_OneOf_holds f fd) (B : Bl mg) (Z : Es K mg ct) (G : PF K ct P w mg base (n + 2) C T fns) : FnOk P w K mg base (L2.CX P w) (n + 4) f fd ["self", "values"] (spOf K ct (Mi.runF 2 3 (b_OneOf_holds C))) :=
  fn_sound F sc_OneOf_holds fun cdv A outer s H E hr => d_OneOf_holds B Z G hr
theorem sc__law_cell_at : FnScope ["script", "k"] ["script", "k"] (defScope s__law_cell_at) := ⟨rfl, rfl, rfl, by decide +kernel, rfl, by decide +kernel, by decide +kernel⟩
theorem d__law_cell_at {f : Addr} {cdv : Value} {A : Around} {outer : List Env} {s : Shared} {H : Hp} {E : XK} (B : Bl mg) (Z : Es K mg ct) (G : PF K ct P w mg base (n + 2) C T fns) (hr : Room (n + 3) (A.deeper (envOfC "_law_cell_at" (defScope s__law_cell_at) s.heap.objs.size f cdv))) :
  DSs (cxOf (L2.CX P w) P w K mg base ["script", "k"] "_law_cell_at" (defScope s__law_cell_at) f cdv A outer s H E) ct (defBody s__law_cell_at) (b__law_cell_at C) := by
  have sc := sc__law_cell_at
  exact (dss_cons (ds_if (dt_lt (de_var 1 (pv 1)) (de_callB call_lenU ok_len rfl B.len_ boot_len (da_cons (de_var 0 (pv 0)) da_nil)))
    (dss_one (ds_ret (de_ixU (hu_of hr) (de_var 0 (pv 0)) (de_var 1 (pv 1)))))
    dss_nil)
  (dss_one (ds_ret de_int)))
theorem f__law_cell_at {f : Addr} {fd : FuncData} (F : Fun K "_law_cell_at" "_law_cell_at" s__law_cell_at f fd) (B : Bl mg) (Z : Es K mg ct) (G : PF K ct P w mg base (n + 2) C T fns) : FnOk P w K mg base (L2.CX P w) (n + 4) f fd ["script", "k"] (spOf K ct (Mi.runF 2 2 (b__law_cell_at C))) :=
  fn_sound F sc__law_cell_at fun cdv A outer s H E hr => d__law_cell_at B Z G hr
theorem sc__law_whole : FnScope ["found"] ["found"] (defScope s__law_whole) := ⟨rfl, rfl, rfl, by decide +kernel, rfl, by decide +kernel, by decide +kernel⟩
theorem d__law_whole {f : Addr} {cdv : Value} {A : Around} {outer : List Env} {s : Shared} {H : Hp} {E : XK} (B : Bl mg) (Z : Es K mg ct) (G : PF K ct P w mg base (n + 2) C T fns) (hr : Room (n + 3) (A.deeper (envOfC "_law_whole" (defScope s__law_whole) s.heap.objs.size f cdv))) :
  DSs (cxOf (L2.CX P w) P w K mg base ["found"] "_law_whole" (defScope s__law_whole) f cdv A outer s H E) ct (defBody s__law_whole) (b__law_whole C) := by
  have sc := sc__law_whole
  exact (dss_one (ds_ret (de_and (de_isT "int" (by decide) (by rfl) B.isinstance_ (by rfl) B.int_ (by rfl) (de_var 0 (pv 0))) (de_one (de_not (de_isB (by rfl) B.isinstance_ (by rfl) B.bool_ (de_var 0 (pv 0))))))))
theorem f__law_whole {f : Addr} {fd : FuncData} (F : Fun K "_law_whole" "_law_whole" s__law_whole f fd) (B : Bl mg) (Z : Es K mg ct) (G : PF K ct P w mg base (n + 2) C T fns) : FnOk P w K mg base (L2.CX P w) (n + 4) f fd ["found"] (spOf K ct (Mi.runF 1 1 (b__law_whole C))) :=
  fn_sound F sc__law_whole fun cdv A outer s H E hr => d__law_whole B Z G hr
theorem sc__law_mixed : FnScope ["cell", "k", "number"] ["cell", "k"] (defScope s__law_mixed) := ⟨rfl, rfl, rfl, by decide +kernel, rfl, by decide +kernel, by decide +kernel⟩
theorem d__law_mixed {f : Addr} {cdv : Value} {A : Around} {outer : List Env} {s : Shared} {H : Hp} {E : XK} (B : Bl mg) (Z : Es K mg ct) (G : PF K ct P w mg base (n + 2) C T fns) (hr : Room (n + 3) (A.deeper (envOfC "_law_mixed" (defScope s__law_mixed) s.heap.objs.size f cdv))) :
  DSs (cxOf (L2.CX P w) P w K mg base ["cell", "k", "number"] "_law_mixed" (defScope s__law_mixed) f cdv A outer s H E) ct (defBody s__law_mixed) (b__law_mixed C) := by
  have sc := sc__law_mixed
  exact (dss_cons (ds_set (i := 2) sc.nd rfl (Or.inl rfl) (de_mod (de_addU (de_addU (de_mul (de_var 0 (pv 0)) de_int) (de_mul (de_var 1 (pv 1)) de_int)) de_int) de_int))
  (dss_one (ds_ret (de_mod (de_mul (de_var 2 (pv 2)) (de_var 2 (pv 2))) de_int))))
theorem f__law_mixed {f : Addr} {fd : FuncData} (F : Fun K "_law_mixed" "_law_mixed" s__law_mixed f fd) (B : Bl mg) (Z : Es K mg ct) (G : PF K ct P w mg base (n + 2) C T fns) : FnOk P w K mg base (L2.CX P w) (n + 4) f fd ["cell", "k"] (spOf K ct (Mi.runF 2 3 (b__law_mixed C))) :=
  fn_sound F sc__law_mixed fun cdv A outer s H E hr => d__law_mixed B Z G hr
theorem sc__law_flat : FnScope ["found", "due", "number"] ["found", "due"] (defScope s__law_flat) := ⟨rfl, rfl, rfl, by decide +kernel, rfl, by decide +kernel, by decide +kernel⟩
theorem d__law_flat {f : Addr} {cdv : Value} {A : Around} {outer : List Env} {s : Shared} {H : Hp} {E : XK} (B : Bl mg) (Z : Es K mg ct) (G : PF K ct P w mg base (n + 2) C T fns) (hr : Room (n + 3) (A.deeper (envOfC "_law_flat" (defScope s__law_flat) s.heap.objs.size f cdv))) :
  DSs (cxOf (L2.CX P w) P w K mg base ["found", "due", "number"] "_law_flat" (defScope s__law_flat) f cdv A outer s H E) ct (defBody s__law_flat) (b__law_flat C) := by
  have sc := sc__law_flat
  exact (dss_cons (ds_if (DW.dt (dw_or (dt_not (dt_tru (de_isT "list" (by decide) (by rfl) B.isinstance_ (by rfl) B.list_ (by rfl) (de_var 0 (pv 0))))) (dw_or1 (dt_neU hr.units (de_var 0 (pv 0)) (de_var 1 (pv 1))))))
    (dss_one (ds_ret de_bl))
    dss_nil)
  (dss_one (ds_ret (de_eqU hr.units (de_callB call_lenU ok_len rfl B.len_ boot_len (da_cons (de_l (dl_comp rfl sc.nd (di_any (de_var 0 (pv 0))) (own := [("number", 2)]) (blkOk_by (N := ["found", "due", "number"]) (sc := defScope s__law_flat) (by decide +kernel)) (fun _ _ _ _ _ => (dg_n (i := 2) sc.nd rfl (Or.inl rfl))) (fun _ _ _ _ _ => (dts_one (dt_tru (de_call G (Room.mono hr (Nat.le_succ _)) "_law_whole" (by decide) (da_cons (de_var 2 (pv 2)) da_nil))))) (fun _ _ _ _ _ => (de_var 2 (pv 2))) (fun _ h => h))) da_nil)) (de_callB call_lenU ok_len rfl B.len_ boot_len (da_cons (de_var 1 (pv 1)) da_nil))))))
theorem f__law_flat {f : Addr} {fd : FuncData} (F : Fun K "_law_flat" "_law_flat" s__law_flat f fd) (B : Bl mg) (Z : Es K mg ct) (G : PF K ct P w mg base (n + 2) C T fns) : FnOk P w K mg base (L2.CX P w) (n + 4) f fd ["found", "due"] (spOf K ct (Mi.runF 2 3 (b__law_flat C))) :=
  fn_sound F sc__law_flat fun cdv A outer s H E hr => d__law_flat B Z G hr
theorem sc__law_name_of : FnScope ["letters"] ["letters"] (defScope s__law_name_of) := ⟨rfl, rfl, rfl, by decide +kernel, rfl, by decide +kernel, by decide +kernel⟩
theorem d__law_name_of {f : Addr} {cdv : Value} {A : Around} {outer : List Env} {s : Shared} {H : Hp} {E : XK} (B : Bl mg) (Z : Es K mg ct) (G : PF K ct P w mg base (n + 2) C T fns) (hr : Room (n + 3) (A.deeper (envOfC "_law_name_of" (defScope s__law_name_of) s.heap.objs.size f cdv))) :
  DSs (cxOf (L2.CX P w) P w K mg base ["letters"] "_law_name_of" (defScope s__law_name_of) f cdv A outer s H E) ct (defBody s__law_name_of) (b__law_name_of C) := by
  have sc := sc__law_name_of
  exact (dss_cons (ds_if (dt_inV (hu_of hr) (de_var 0 (pv 0)) (de_l (dl_disp (da_cons (de_str [97, 110, 100]) (da_cons (de_str [111, 114]) (da_cons (de_str [110, 111, 116]) (da_cons (de_str [97, 108, 108]) (da_cons (de_str [110, 111, 110, 101]) (da_cons (de_str [105, 115]) (da_cons (de_str [102, 114, 111, 109]) (da_cons (de_str [116, 111]) da_nil)))))))))))
    (dss_one (ds_ret (de_addU (de_var 0 (pv 0)) (de_str [120]))))
    dss_nil)
  (dss_one (ds_ret (de_var 0 (pv 0)))))
theorem f__law_name_of {f : Addr} {fd : FuncData} (F : Fun K "_law_name_of" "_law_name_of" s__law_name_of f fd) (B : Bl mg) (Z : Es K mg ct) (G : PF K ct P w mg base (n + 2) C T fns) : FnOk P w K mg base (L2.CX P w) (n + 4) f fd ["letters"] (spOf K ct (Mi.runF 1 1 (b__law_name_of C))) :=
  fn_sound F sc__law_name_of fun cdv A outer s H E hr => d__law_name_of B Z G hr
theorem sc__law_names : FnScope ["script", "most", "x", "size", "names", "k", "letters", "j", "number"] ["script", "most"] (defScope s__law_names) := ⟨rfl, rfl, rfl, by decide +kernel, rfl, by decide +kernel, by decide +kernel⟩
theorem d__law_names {f : Addr} {cdv : Value} {A : Around} {outer : List Env} {s : Shared} {H : Hp} {E : XK} (B : Bl mg) (Z : Es K mg ct) (G : PF K ct P w mg base (n + 2) C T fns) (hr : Room (n + 3) (A.deeper (envOfC "_law_names" (defScope s__law_names) s.heap.objs.size f cdv))) :
  DSs (cxOf (L2.CX P w) P w K mg base ["script", "most", "x", "size", "names", "k", "letters", "j", "number"] "_law_names" (defScope s__law_names) f cdv A outer s H E) ct (defBody s__law_names) (b__law_names C) := by
  have sc := sc__law_names
  exact (dss_cons (ds_set (i := 2) sc.nd rfl (Or.inl rfl) (de_call G (Room.mono hr (Nat.le_succ _)) "_law_mixed" (by decide) (da_cons (de_call G (Room.mono hr (Nat.le_succ _)) "_law_cell_at" (by decide) (da_cons (de_var 0 (pv 0)) (da_cons de_int da_nil))) (da_cons de_int da_nil))))
  (dss_cons (ds_set (i := 3) sc.nd rfl (Or.inl rfl) (de_addU de_int (de_mod (de_var 2 (pv 2)) (de_var 1 (pv 1)))))
  (dss_cons (ds_own (i := 4) sc.nd rfl (Or.inl rfl) (dl_disp da_nil))
  (dss_cons (ds_for (passes_of rfl) rfl (di_rg1 rfl B.range_ (da_cons de_int da_nil)) (dg_n (i := 5) sc.nd rfl (Or.inl rfl))
    (dss_cons (ds_set (i := 6) sc.nd rfl (Or.inl rfl) (de_str []))
  (dss_cons (ds_for (passes_of rfl) rfl (di_rg1 rfl B.range_ (da_cons (de_var 3 (pv 3)) da_nil)) (dg_n (i := 7) sc.nd rfl (Or.inl rfl))
    (dss_cons (ds_set (i := 8) sc.nd rfl (Or.inl rfl) (de_addU (de_addU (de_div (de_var 2 (pv 2)) (de_addU (de_var 7 (pv 7)) de_int)) (de_mul de_int (de_var 7 (pv 7)))) (de_mul (de_var 5 (pv 5)) (de_callTy (CallR.or2 call_int1 call_int_str) ok_cint2 rfl B.int_ boot_int (da_cons (de_eqU hr.units (de_var 7 (pv 7)) (de_mod (de_div (de_var 2 (pv 2)) de_int) (de_var 3 (pv 3)))) da_nil)))))
  (dss_one (ds_set (i := 6) sc.nd rfl (Or.inl rfl) (de_addU (de_var 6 (pv 6)) (de_ixU (hu_of hr) (de_str [97, 98, 99, 100, 101, 102, 103, 104, 105, 106, 107, 108, 109, 110, 111, 112, 113, 114, 115, 116, 117, 118, 119, 120, 121, 122]) (de_mod (de_var 8 (pv 8)) de_int)))))))
  (dss_one (ds_ex (de_app (de_var 4 (pv 4)) (da_cons (de_call G (Room.mono hr (Nat.le_succ _)) "_law_name_of" (by decide) (da_cons (de_var 6 (pv 6)) da_nil)) da_nil)))))))
  (dss_one (ds_ret (de_frz 4 (pv 4))))))))
theorem f__law_names {f : Addr} {fd : FuncData} (F : Fun K "_law_names" "_law_names" s__law_names f fd) (B : Bl mg) (Z : Es K mg ct) (G : PF K ct P w mg base (n + 2) C T fns) : FnOk P w K mg base (L2.CX P w) (n + 4) f fd ["script", "most"] (spOf K ct (Mi.runF 2 9 (b__law_names C))) :=
  fn_sound F sc__law_names fun cdv A outer s H E hr => d__law_names B Z G hr
theorem sc__law_leaf : FnScope ["cell", "names", "wide", "x", "y", "low", "high", "leaf"] ["cell", "names", "wide"] (defScope s__law_leaf) := ⟨rfl, rfl, rfl, by decide +kernel, rfl, by decide +kernel, by decide +kernel⟩
theorem d__law_leaf {f : Addr} {cdv : Value} {A : Around} {outer : List Env} {s : Shared} {H : Hp} {E : XK} (B : Bl mg) (Z : Es K mg ct) (G : PF K ct P w mg base (n + 2) C T fns) (hr : Room (n + 3) (A.deeper (envOfC "_law_leaf" (defScope s__law_leaf) s.heap.objs.size f cdv))) :
  DSs (cxOf (L2.CX P w) P w K mg base ["cell", "names", "wide", "x", "y", "low", "high", "leaf"] "_law_leaf" (defScope s__law_leaf) f cdv A outer s H E) ct (defBody s__law_leaf) (b__law_leaf C) := by
  have sc := sc__law_leaf
  exact (dss_cons (ds_set (i := 3) sc.nd rfl (Or.inl rfl) (de_call G (Room.mono hr (Nat.le_succ _)) "_law_mixed" (by decide) (da_cons (de_var 0 (pv 0)) (da_cons de_int da_nil))))
  (dss_cons (ds_set (i := 4) sc.nd rfl (Or.inl rfl) (de_call G (Room.mono hr (Nat.le_succ _)) "_law_mixed" (by decide) (da_cons (de_var 0 (pv 0)) (da_cons de_int da_nil))))
  (dss_cons (ds_if (dt_lt (de_mod (de_var 3 (pv 3)) de_int) de_int)
    (dss_one (ds_ret (de_tup (da_cons (de_ixU (hu_of hr) (de_l (dl_disp (da_cons (de_str [97, 108, 108]) (da_cons (de_str [110, 111, 110, 101]) da_nil)))) (de_mod (de_var 3 (pv 3)) de_int)) da_nil))))
    dss_nil)
  (dss_cons (ds_set (i := 5) sc.nd rfl (Or.inl rfl) (de_mod (de_div (de_var 3 (pv 3)) de_int) de_int))
  (dss_cons (ds_set (i := 6) sc.nd rfl (Or.inl rfl) (de_sub (de_addU (de_var 5 (pv 5)) (de_mod (de_var 4 (pv 4)) de_int)) de_int))
  (dss_cons (ds_if (dt_tru (de_var 2 (pv 2)))
    (dss_cons (ds_set (i := 5) sc.nd rfl (Or.inl rfl) (de_sub (de_addU (de_mul (de_var 5 (pv 5)) (de_pow de_int de_int)) (de_var 4 (pv 4))) (de_pow de_int de_int)))
  (dss_one (ds_set (i := 6) sc.nd rfl (Or.inl rfl) (de_sub (de_addU (de_var 5 (pv 5)) (de_mul (de_call G (Room.mono hr (Nat.le_succ _)) "_law_mixed" (by decide) (da_cons (de_var 0 (pv 0)) (da_cons de_int da_nil))) (de_pow de_int de_int))) de_int))))
    dss_nil)
  (dss_cons (ds_set (i := 7) sc.nd rfl (Or.inl rfl) (de_tup (da_cons (de_str [105, 110]) (da_cons (de_ixU (hu_of hr) (de_var 1 (pv 1)) (de_mod (de_div (de_var 4 (pv 4)) de_int) de_int)) (da_cons (de_var 5 (pv 5)) (da_cons (de_var 6 (pv 6)) da_nil))))))
  (dss_cons (ds_if (dt_eqU hr.units (de_mod (de_var 3 (pv 3)) de_int) de_int)
    (dss_one (ds_ret (de_tup (da_cons (de_ixU (hu_of hr) (de_l (dl_disp (da_cons (de_str [97, 110, 100]) (da_cons (de_str [111, 114]) da_nil)))) (de_mod (de_div (de_var 3 (pv 3)) de_int) de_int)) (da_cons (de_l (dl_disp da_nil)) da_nil)))))
    dss_nil)
  (dss_cons (ds_if (dt_eqU hr.units (de_mod (de_var 3 (pv 3)) de_int) de_int)
    (dss_one (ds_ret (de_tup (da_cons (de_ixU (hu_of hr) (de_l (dl_disp (da_cons (de_str [97, 110, 100]) (da_cons (de_str [111, 114]) da_nil)))) (de_mod (de_div (de_var 3 (pv 3)) de_int) de_int)) (da_cons (de_l (dl_disp (da_cons (de_var 7 (pv 7)) da_nil))) da_nil)))))
    dss_nil)
  (dss_one (ds_ret (de_var 7 (pv 7)))))))))))))
theorem f__law_leaf {f : Addr} {fd : FuncData} (F : Fun K "_law_leaf" "_law_leaf" s__law_leaf f fd) (B : Bl mg) (Z : Es K mg ct) (G : PF K ct P w mg base (n + 2) C T fns) : FnOk P w K mg base (L2.CX P w) (n + 4) f fd ["cell", "names", "wide"] (spOf K ct (Mi.runF 3 8 (b__law_leaf C))) :=
  fn_sound F sc__law_leaf fun cdv A outer s H E hr => d__law_leaf B Z G hr
theorem sc__law_built : FnScope ["script", "most", "wide", "names", "items", "left", "nots", "cell", "x", "many", "deep", "item", "parts"] ["script", "most"] (defScope s__law_built) := ⟨rfl, rfl, rfl, by decide +kernel, rfl, by decide +kernel, by decide +kernel⟩
theorem d__law_built {f : Addr} {cdv : Value} {A : Around} {outer : List Env} {s : Shared} {H : Hp} {E : XK} (B : Bl mg) (Z : Es K mg ct) (G : PF K ct P w mg base (n + 2) C T fns) (hr : Room (n + 3) (A.deeper (envOfC "_law_built" (defScope s__law_built) s.heap.objs.size f cdv))) :
  DSs (cxOf (L2.CX P w) P w K mg base ["script", "most", "wide", "names", "items", "left", "nots", "cell", "x", "many", "deep", "item", "parts"] "_law_built" (defScope s__law_built) f cdv A outer s H E) ct (defBody s__law_built) (b__law_built C) := by
  have sc := sc__law_built
  exact (dss_cons (ds_set (i := 2) sc.nd rfl (Or.inl rfl) (de_eqU hr.units (de_mod (de_call G (Room.mono hr (Nat.le_succ _)) "_law_cell_at" (by decide) (da_cons (de_var 0 (pv 0)) (da_cons de_int da_nil))) de_int) de_int))
  (dss_cons (ds_set (i := 3) sc.nd rfl (Or.inl rfl) (de_call G (Room.mono hr (Nat.le_succ _)) "_law_names" (by decide) (da_cons (de_var 0 (pv 0)) (da_cons (de_ixU (hu_of hr) (de_l (dl_disp (da_cons de_int (da_cons de_int da_nil)))) (de_callTy (CallR.or2 call_int1 call_int_str) ok_cint2 rfl B.int_ boot_int (da_cons (de_var 2 (pv 2)) da_nil))) da_nil))))
  (dss_cons (ds_own (i := 4) sc.nd rfl (Or.inl rfl) (dl_disp da_nil))
  (dss_cons (ds_set (i := 5) sc.nd rfl (Or.inl rfl) (de_ixU (hu_of hr) (de_l (dl_disp (da_cons (de_var 1 (pv 1)) (da_cons (de_callB (call_min2 rfl) ok_min2 rfl B.min_ boot_min (da_cons (de_var 1 (pv 1)) (da_cons de_int da_nil))) da_nil)))) (de_callTy (CallR.or2 call_int1 call_int_str) ok_cint2 rfl B.int_ boot_int (da_cons (de_var 2 (pv 2)) da_nil))))
  (dss_cons (ds_set (i := 6) sc.nd rfl (Or.inl rfl) de_int)
  (dss_cons (ds_for (passes_of rfl) rfl (di_any (de_l (dl_cut (de_var 0 (pv 0)) (do_some de_int) (do_some de_int)))) (dg_n (i := 7) sc.nd rfl (Or.inl rfl))
    (dss_cons (ds_set (i := 8) sc.nd rfl (Or.inl rfl) (de_call G (Room.mono hr (Nat.le_succ _)) "_law_mixed" (by decide) (da_cons (de_var 7 (pv 7)) (da_cons de_int da_nil))))
  (dss_cons (ds_set (i := 9) sc.nd rfl (Or.inl rfl) (de_callB (call_min2 rfl) ok_min2 rfl B.min_ boot_min (da_cons (de_callB call_lenU ok_len rfl B.len_ boot_len (da_cons (de_var 4 (pv 4)) da_nil)) (da_cons (de_addU de_int (de_mod (de_div (de_var 8 (pv 8)) de_int) de_int)) da_nil))))
  (dss_cons (ds_set (i := 10) sc.nd rfl (Or.inl rfl) (de_maxD (by rfl) hr.units (by rfl) B.max_ (de_l (dl_comp rfl sc.nd (di_any (de_l (dl_cut (de_var 4 (pv 4)) (do_some (de_sub (de_callB call_lenU ok_len rfl B.len_ boot_len (da_cons (de_var 4 (pv 4)) da_nil)) (de_var 9 (pv 9)))) do_none))) (own := [("item", 11)]) (blkOk_by (N := ["script", "most", "wide", "names", "items", "left", "nots", "cell", "x", "many", "deep", "item", "parts"]) (sc := defScope s__law_built) (by decide +kernel)) (fun _ _ _ _ _ => (dg_n (i := 11) sc.nd rfl (Or.inl rfl))) (fun _ _ _ _ _ => dts_nil) (fun _ _ _ _ _ => (de_ixU (hu_of hr) (de_var 11 (pv 11)) de_int)) (fun _ h => h))) de_int))
  (dss_one (ds_if (DW.dt (dw_and (dt_gt (de_mod (de_var 8 (pv 8)) de_int) de_int) (dw_and (dt_gt (de_var 9 (pv 9)) de_int) (dw_and1 (dt_lt (de_var 10 (pv 10)) de_int)))))
    (dss_cons (ds_setLc (i := 12) rfl sc.nd rfl rfl (sw_true rfl (by rfl) (by rfl) (by decide +kernel)) (di_any (de_l (dl_cut (de_var 4 (pv 4)) (do_some (de_sub (de_callB call_lenU ok_len rfl B.len_ boot_len (da_cons (de_var 4 (pv 4)) da_nil)) (de_var 9 (pv 9)))) do_none))) (own := [("item", 11)]) (blkOk_by (N := ["script", "most", "wide", "names", "items", "left", "nots", "cell", "x", "many", "deep", "item", "parts"]) (sc := defScope s__law_built) (by decide +kernel)) (fun _ _ _ _ _ => (dg_n (i := 11) sc.nd rfl (Or.inl rfl))) (fun _ _ _ _ _ => dts_nil) (fun _ _ _ _ _ => (de_ixU (hu_of hr) (de_var 11 (pv 11)) de_int)) (fun _ h => h))
  (dss_one (ds_own (i := 4) sc.nd rfl (Or.inl rfl) (dl_cat (de_l (dl_cut (de_var 4 (pv 4)) do_none (do_some (de_sub (de_callB call_lenU ok_len rfl B.len_ boot_len (da_cons (de_var 4 (pv 4)) da_nil)) (de_var 9 (pv 9)))))) (de_l (dl_disp (da_cons (de_tup (da_cons (de_tup (da_cons (de_ixU (hu_of hr) (de_l (dl_disp (da_cons (de_str [97, 110, 100]) (da_cons (de_str [111, 114]) da_nil)))) (de_mod (de_div (de_var 8 (pv 8)) de_int) de_int)) (da_cons (de_var 12 (pv 12)) da_nil))) (da_cons (de_addU (de_var 10 (pv 10)) de_int) da_nil))) da_nil)))))))
    (dss_one (ds_if (DW.dt (dw_and (dt_eqU hr.units (de_mod (de_var 8 (pv 8)) de_int) de_int) (dw_and (dt_gt (de_var 6 (pv 6)) de_int) (dw_and (dt_gt (de_var 9 (pv 9)) de_int) (dw_and1 (dt_lt (de_var 10 (pv 10)) de_int))))))
    (dss_cons (ds_set (i := 6) sc.nd rfl (Or.inl rfl) (de_sub (de_var 6 (pv 6)) de_int))
  (dss_one (ds_own (i := 4) sc.nd rfl (Or.inl rfl) (dl_cat (de_l (dl_cut (de_var 4 (pv 4)) do_none (do_some (de_neg de_int)))) (de_l (dl_disp (da_cons (de_tup (da_cons (de_tup (da_cons (de_str [110, 111, 116]) (da_cons (de_ixU (hu_of hr) (de_ixU (hu_of hr) (de_var 4 (pv 4)) (de_neg de_int)) de_int) da_nil))) (da_cons (de_addU (de_ixU (hu_of hr) (de_ixU (hu_of hr) (de_var 4 (pv 4)) (de_neg de_int)) de_int) de_int) da_nil))) da_nil)))))))
    (dss_one (ds_if (dt_gt (de_var 5 (pv 5)) de_int)
    (dss_cons (ds_set (i := 5) sc.nd rfl (Or.inl rfl) (de_sub (de_var 5 (pv 5)) de_int))
  (dss_one (ds_ex (de_app (de_var 4 (pv 4)) (da_cons (de_tup (da_cons (de_call G (Room.mono hr (Nat.le_succ _)) "_law_leaf" (by decide) (da_cons (de_var 7 (pv 7)) (da_cons (de_var 3 (pv 3)) (da_cons (de_var 2 (pv 2)) da_nil)))) (da_cons de_int da_nil))) da_nil)))))
    dss_nil))))))))))
  (dss_cons (ds_if (dt_eqU hr.units (de_callB call_lenU ok_len rfl B.len_ boot_len (da_cons (de_var 4 (pv 4)) da_nil)) de_int)
    (dss_one (ds_ret (de_ixU (hu_of hr) (de_ixU (hu_of hr) (de_var 4 (pv 4)) de_int) de_int)))
    dss_nil)
  (dss_cons (ds_if (dt_eqU hr.units (de_var 4 (pv 4)) (de_l (dl_disp da_nil)))
    (dss_one (ds_ret (de_tup (da_cons (de_str [97, 108, 108]) da_nil))))
    dss_nil)
  (dss_one (ds_ret (de_tup (da_cons (de_ixU (hu_of hr) (de_l (dl_disp (da_cons (de_str [97, 110, 100]) (da_cons (de_str [111, 114]) da_nil)))) (de_mod (de_call G (Room.mono hr (Nat.le_succ _)) "_law_cell_at" (by decide) (da_cons (de_var 0 (pv 0)) (da_cons de_int da_nil))) de_int)) (da_cons (de_l (dl_comp rfl sc.nd (di_any (de_frz 4 (pv 4))) (own := [("item", 11)]) (blkOk_by (N := ["script", "most", "wide", "names", "items", "left", "nots", "cell", "x", "many", "deep", "item", "parts"]) (sc := defScope s__law_built) (by decide +kernel)) (fun _ _ _ _ _ => (dg_n (i := 11) sc.nd rfl (Or.inl rfl))) (fun _ _ _ _ _ => dts_nil) (fun _ _ _ _ _ => (de_ixU (hu_of hr) (de_var 11 (pv 11)) de_int)) (fun _ h => h))) da_nil)))))))))))))
theorem f__law_built {f : Addr} {fd : FuncData} (F : Fun K "_law_built" "_law_built" s__law_built f fd) (B : Bl mg) (Z : Es K mg ct) (G : PF K ct P w mg base (n + 2) C T fns) : FnOk P w K mg base (L2.CX P w) (n + 4) f fd ["script", "most"] (spOf K ct (Mi.runF 2 13 (b__law_built C))) :=
  fn_sound F sc__law_built fun cdv A outer s H E hr => d__law_built B Z G hr
theorem sc__law_made : FnScope ["tree", "parts", "part"] ["tree"] (defScope s__law_made) := ⟨rfl, rfl, rfl, by decide +kernel, rfl, by decide +kernel, by decide +kernel⟩
theorem d__law_made {f : Addr} {cdv : Value} {A : Around} {outer : List Env} {s : Shared} {H : Hp} {E : XK} (B : Bl mg) (Z : Es K mg ct) (G : PF K ct P w mg base (n + 2) C T fns) (hr : Room (n + 3) (A.deeper (envOfC "_law_made" (defScope s__law_made) s.heap.objs.size f cdv))) :
  DSs (cxOf (L2.CX P w) P w K mg base ["tree", "parts", "part"] "_law_made" (defScope s__law_made) f cdv A outer s H E) ct (defBody s__law_made) (b__law_made C) := by
  have sc := sc__law_made
  exact (dss_cons (ds_if (dt_eqU hr.units (de_ixU (hu_of hr) (de_var 0 (pv 0)) de_int) (de_str [97, 108, 108]))
    (dss_one (ds_ret (de_make0 G "Every" rfl)))
    dss_nil)
  (dss_cons (ds_if (dt_eqU hr.units (de_ixU (hu_of hr) (de_var 0 (pv 0)) de_int) (de_str [110, 111, 110, 101]))
    (dss_one (ds_ret (de_make0 G "Nobody" rfl)))
    dss_nil)
  (dss_cons (ds_if (dt_eqU hr.units (de_ixU (hu_of hr) (de_var 0 (pv 0)) de_int) (de_str [105, 110]))
    (dss_one (ds_ret (de_makeF G hr "Within" rfl (by decide) (da_cons (de_ixU (hu_of hr) (de_var 0 (pv 0)) de_int) (da_cons (de_ixU (hu_of hr) (de_var 0 (pv 0)) de_int) (da_cons (de_ixU (hu_of hr) (de_var 0 (pv 0)) de_int) da_nil))))))
    dss_nil)
  (dss_cons (ds_if (dt_eqU hr.units (de_ixU (hu_of hr) (de_var 0 (pv 0)) de_int) (de_str [110, 111, 116]))
    (dss_one (ds_ret (de_makeF G hr "Opposite" rfl (by decide) (da_cons (de_call G (Room.mono hr (Nat.le_succ _)) "_law_made" (by decide) (da_cons (de_ixU (hu_of hr) (de_var 0 (pv 0)) de_int) da_nil)) da_nil))))
    dss_nil)
  (dss_cons (ds_setLc (i := 1) rfl sc.nd rfl rfl (sw_true rfl (by rfl) (by rfl) (by decide +kernel)) (di_any (de_ixU (hu_of hr) (de_var 0 (pv 0)) de_int)) (own := [("part", 2)]) (blkOk_by (N := ["tree", "parts", "part"]) (sc := defScope s__law_made) (by decide +kernel)) (fun _ _ _ _ _ => (dg_n (i := 2) sc.nd rfl (Or.inl rfl))) (fun _ _ _ _ _ => dts_nil) (fun _ _ _ _ _ => (de_call G (Room.mono hr (Nat.le_succ _)) "_law_made" (by decide) (da_cons (de_var 2 (pv 2)) da_nil))) (fun _ h => h))
  (dss_cons (ds_if (dt_eqU hr.units (de_ixU (hu_of hr) (de_var 0 (pv 0)) de_int) (de_str [97, 110, 100]))
    (dss_one (ds_ret (de_makeF G hr "AllOf" rfl (by decide) (da_cons (de_var 1 (pv 1)) da_nil))))
    dss_nil)
  (dss_one (ds_ret (de_makeF G hr "OneOf" rfl (by decide) (da_cons (de_var 1 (pv 1)) da_nil))))))))))
theorem f__law_made {f : Addr} {fd : FuncData} (F : Fun K "_law_made" "_law_made" s__law_made f fd) (B : Bl mg) (Z : Es K mg ct) (G : PF K ct P w mg base (n + 2) C T fns) : FnOk P w K mg base (L2.CX P w) (n + 4) f fd ["tree"] (spOf K ct (Mi.runF 1 3 (b__law_made C))) :=
  fn_sound F sc__law_made fun cdv A outer s H E hr => d__law_made B Z G hr
theorem sc__law_holds : FnScope ["tree", "values", "part"] ["tree", "values"] (defScope s__law_holds) := ⟨rfl, rfl, rfl, by decide +kernel, rfl, by decide +kernel, by decide +kernel⟩
theorem d__law_holds {f : Addr} {cdv : Value} {A : Around} {outer : List Env} {s : Shared} {H : Hp} {E : XK} (B : Bl mg) (Z : Es K mg ct) (G : PF K ct P w mg base (n + 2) C T fns) (hr : Room (n + 3) (A.deeper (envOfC "_law_holds" (defScope s__law_holds) s.heap.objs.size f cdv))) :
  DSs (cxOf (L2.CX P w) P w K mg base ["tree", "values", "part"] "_law_holds" (defScope s__law_holds) f cdv A outer s H E) ct (defBody s__law_holds) (b__law_holds C) := by
  have sc := sc__law_holds
  exact (dss_cons (ds_if (dt_eqU hr.units (de_ixU (hu_of hr) (de_var 0 (pv 0)) de_int) (de_str [105, 110]))
    (dss_one (ds_ret (de_leLe (de_ixU (hu_of hr) (de_var 0 (pv 0)) de_int) (de_ixU (hu_of hr) (de_var 1 (pv 1)) (de_ixU (hu_of hr) (de_var 0 (pv 0)) de_int)) (de_ixU (hu_of hr) (de_var 0 (pv 0)) de_int))))
    dss_nil)
  (dss_cons (ds_if (dt_eqU hr.units (de_ixU (hu_of hr) (de_var 0 (pv 0)) de_int) (de_str [110, 111, 116]))
    (dss_one (ds_ret (de_not (de_call G (Room.mono hr (Nat.le_succ _)) "_law_holds" (by decide) (da_cons (de_ixU (hu_of hr) (de_var 0 (pv 0)) de_int) (da_cons (de_var 1 (pv 1)) da_nil))))))
    dss_nil)
  (dss_cons (ds_if (dt_eqU hr.units (de_ixU (hu_of hr) (de_var 0 (pv 0)) de_int) (de_str [97, 110, 100]))
    (dss_one (ds_ret (de_eqU hr.units (de_callB call_lenU ok_len rfl B.len_ boot_len (da_cons (de_l (dl_comp rfl sc.nd (di_any (de_ixU (hu_of hr) (de_var 0 (pv 0)) de_int)) (own := [("part", 2)]) (blkOk_by (N := ["tree", "values", "part"]) (sc := defScope s__law_holds) (by decide +kernel)) (fun _ _ _ _ _ => (dg_n (i := 2) sc.nd rfl (Or.inl rfl))) (fun _ _ _ _ _ => (dts_one (dt_tru (de_call G (Room.mono hr (Nat.le_succ _)) "_law_holds" (by decide) (da_cons (de_var 2 (pv 2)) (da_cons (de_var 1 (pv 1)) da_nil)))))) (fun _ _ _ _ _ => (de_var 2 (pv 2))) (fun _ h => h))) da_nil)) (de_callB call_lenU ok_len rfl B.len_ boot_len (da_cons (de_ixU (hu_of hr) (de_var 0 (pv 0)) de_int) da_nil)))))
    dss_nil)
  (dss_cons (ds_if (dt_eqU hr.units (de_ixU (hu_of hr) (de_var 0 (pv 0)) de_int) (de_str [111, 114]))
    (dss_one (ds_ret (de_neU hr.units (de_l (dl_comp rfl sc.nd (di_any (de_ixU (hu_of hr) (de_var 0 (pv 0)) de_int)) (own := [("part", 2)]) (blkOk_by (N := ["tree", "values", "part"]) (sc := defScope s__law_holds) (by decide +kernel)) (fun _ _ _ _ _ => (dg_n (i := 2) sc.nd rfl (Or.inl rfl))) (fun _ _ _ _ _ => (dts_one (dt_tru (de_call G (Room.mono hr (Nat.le_succ _)) "_law_holds" (by decide) (da_cons (de_var 2 (pv 2)) (da_cons (de_var 1 (pv 1)) da_nil)))))) (fun _ _ _ _ _ => (de_var 2 (pv 2))) (fun _ h => h))) (de_l (dl_disp da_nil)))))
    dss_nil)
  (dss_one (ds_ret (de_eqU hr.units (de_ixU (hu_of hr) (de_var 0 (pv 0)) de_int) (de_str [97, 108, 108]))))))))
theorem f__law_holds {f : Addr} {fd : FuncData} (F : Fun K "_law_holds" "_law_holds" s__law_holds f fd) (B : Bl mg) (Z : Es K mg ct) (G : PF K ct P w mg base (n + 2) C T fns) : FnOk P w K mg base (L2.CX P w) (n + 4) f fd ["tree", "values"] (spOf K ct (Mi.runF 2 3 (b__law_holds C))) :=
  fn_sound F sc__law_holds fun cdv A outer s H E hr => d__law_holds B Z G hr
theorem sc__law_numbers_in : FnScope ["tree", "found", "part"] ["tree"] (defScope s__law_numbers_in) := ⟨rfl, rfl, rfl, by decide +kernel, rfl, by decide +kernel, by decide +kernel⟩
theorem d__law_numbers_in {f : Addr} {cdv : Value} {A : Around} {outer : List Env} {s : Shared} {H : Hp} {E : XK} (B : Bl mg) (Z : Es K mg ct) (G : PF K ct P w mg base (n + 2) C T fns) (hr : Room (n + 3) (A.deeper (envOfC "_law_numbers_in" (defScope s__law_numbers_in) s.heap.objs.size f cdv))) :
  DSs (cxOf (L2.CX P w) P w K mg base ["tree", "found", "part"] "_law_numbers_in" (defScope s__law_numbers_in) f cdv A outer s H E) ct (defBody s__law_numbers_in) (b__law_numbers_in C) := by
  have sc := sc__law_numbers_in
  exact (dss_cons (ds_if (dt_eqU hr.units (de_ixU (hu_of hr) (de_var 0 (pv 0)) de_int) (de_str [105, 110]))
    (dss_one (ds_ret (de_l (dl_disp (da_cons (de_ixU (hu_of hr) (de_var 0 (pv 0)) de_int) (da_cons (de_ixU (hu_of hr) (de_var 0 (pv 0)) de_int) da_nil))))))
    dss_nil)
  (dss_cons (ds_if (dt_eqU hr.units (de_ixU (hu_of hr) (de_var 0 (pv 0)) de_int) (de_str [110, 111, 116]))
    (dss_one (ds_ret (de_call G (Room.mono hr (Nat.le_succ _)) "_law_numbers_in" (by decide) (da_cons (de_ixU (hu_of hr) (de_var 0 (pv 0)) de_int) da_nil))))
    dss_nil)
  (dss_cons (ds_set (i := 1) sc.nd rfl (Or.inl rfl) (de_l (dl_disp da_nil)))
  (dss_cons (ds_if (DW.dt (dw_or (dt_eqU hr.units (de_ixU (hu_of hr) (de_var 0 (pv 0)) de_int) (de_str [97, 110, 100])) (dw_or1 (dt_eqU hr.units (de_ixU (hu_of hr) (de_var 0 (pv 0)) de_int) (de_str [111, 114])))))
    (dss_one (ds_for (passes_of rfl) rfl (di_any (de_ixU (hu_of hr) (de_var 0 (pv 0)) de_int)) (dg_n (i := 2) sc.nd rfl (Or.inl rfl))
    (dss_one (ds_set (i := 1) sc.nd rfl (Or.inl rfl) (de_addU (de_var 1 (pv 1)) (de_call G (Room.mono hr (Nat.le_succ _)) "_law_numbers_in" (by decide) (da_cons (de_var 2 (pv 2)) da_nil)))))))
    dss_nil)
  (dss_one (ds_ret (de_var 1 (pv 1))))))))
theorem f__law_numbers_in {f : Addr} {fd : FuncData} (F : Fun K "_law_numbers_in" "_law_numbers_in" s__law_numbers_in f fd) (B : Bl mg) (Z : Es K mg ct) (G : PF K ct P w mg base (n + 2) C T fns) : FnOk P w K mg base (L2.CX P w) (n + 4) f fd ["tree"] (spOf K ct (Mi.runF 1 3 (b__law_numbers_in C))) :=
  fn_sound F sc__law_numbers_in fun cdv A outer s H E hr => d__law_numbers_in B Z G hr
theorem sc__law_measure : FnScope ["tree", "leaves", "deep", "names", "total", "part"] ["tree"] (defScope s__law_measure) := ⟨rfl, rfl, rfl, by decide +kernel, rfl, by decide +kernel, by decide +kernel⟩
theorem d__law_measure {f : Addr} {cdv : Value} {A : Around} {outer : List Env} {s : Shared} {H : Hp} {E : XK} (B : Bl mg) (Z : Es K mg ct) (G : PF K ct P w mg base (n + 2) C T fns) (hr : Room (n + 3) (A.deeper (envOfC "_law_measure" (defScope s__law_measure) s.heap.objs.size f cdv))) :
  DSs (cxOf (L2.CX P w) P w K mg base ["tree", "leaves", "deep", "names", "total", "part"] "_law_measure" (defScope s__law_measure) f cdv A outer s H E) ct (defBody s__law_measure) (b__law_measure C) := by
  have sc := sc__law_measure
  exact (dss_cons (ds_if (DW.dt (dw_or (dt_eqU hr.units (de_ixU (hu_of hr) (de_var 0 (pv 0)) de_int) (de_str [97, 108, 108])) (dw_or1 (dt_eqU hr.units (de_ixU (hu_of hr) (de_var 0 (pv 0)) de_int) (de_str [110, 111, 110, 101])))))
    (dss_one (ds_ret (de_tup (da_cons de_int (da_cons de_int (da_cons (de_l (dl_disp da_nil)) da_nil))))))
    dss_nil)
  (dss_cons (ds_if (dt_eqU hr.units (de_ixU (hu_of hr) (de_var 0 (pv 0)) de_int) (de_str [105, 110]))
    (dss_one (ds_ret (de_tup (da_cons de_int (da_cons de_int (da_cons (de_l (dl_disp (da_cons (de_ixU (hu_of hr) (de_var 0 (pv 0)) de_int) da_nil))) da_nil))))))
    dss_nil)
  (dss_cons (ds_if (dt_eqU hr.units (de_ixU (hu_of hr) (de_var 0 (pv 0)) de_int) (de_str [110, 111, 116]))
    (dss_cons (ds_bd (de_call G (Room.mono hr (Nat.le_succ _)) "_law_measure" (by decide) (da_cons (de_ixU (hu_of hr) (de_var 0 (pv 0)) de_int) da_nil)) (dg_t rfl (dgs_cons (i := 1) sc.nd rfl (Or.inl rfl) (dgs_cons (i := 2) sc.nd rfl (Or.inl rfl) (dgs_cons (i := 3) sc.nd rfl (Or.inl rfl) dgs_nil)))))
  (dss_one (ds_ret (de_tup (da_cons (de_var 1 (pv 1)) (da_cons (de_addU (de_var 2 (pv 2)) de_int) (da_cons (de_var 3 (pv 3)) da_nil)))))))
    dss_nil)
  (dss_cons (ds_set (i := 4) sc.nd rfl (Or.inl rfl) (de_l (dl_disp (da_cons de_int (da_cons de_int (da_cons (de_l (dl_disp da_nil)) da_nil))))))
  (dss_cons (ds_for (passes_of rfl) rfl (di_any (de_ixU (hu_of hr) (de_var 0 (pv 0)) de_int)) (dg_n (i := 5) sc.nd rfl (Or.inl rfl))
    (dss_cons (ds_bd (de_call G (Room.mono hr (Nat.le_succ _)) "_law_measure" (by decide) (da_cons (de_var 5 (pv 5)) da_nil)) (dg_t rfl (dgs_cons (i := 1) sc.nd rfl (Or.inl rfl) (dgs_cons (i := 2) sc.nd rfl (Or.inl rfl) (dgs_cons (i := 3) sc.nd rfl (Or.inl rfl) dgs_nil)))))
  (dss_one (ds_set (i := 4) sc.nd rfl (Or.inl rfl) (de_l (dl_disp (da_cons (de_addU (de_ixU (hu_of hr) (de_var 4 (pv 4)) de_int) (de_var 1 (pv 1))) (da_cons (de_callB (call_max2 rfl) ok_max2 rfl B.max_ boot_max (da_cons (de_ixU (hu_of hr) (de_var 4 (pv 4)) de_int) (da_cons (de_var 2 (pv 2)) da_nil))) (da_cons (de_addU (de_ixU (hu_of hr) (de_var 4 (pv 4)) de_int) (de_var 3 (pv 3))) da_nil)))))))))
  (dss_one (ds_ret (de_tup (da_cons (de_ixU (hu_of hr) (de_var 4 (pv 4)) de_int) (da_cons (de_addU (de_ixU (hu_of hr) (de_var 4 (pv 4)) de_int) de_int) (da_cons (de_ixU (hu_of hr) (de_var 4 (pv 4)) de_int) da_nil)))))))))))
theorem f__law_measure {f : Addr} {fd : FuncData} (F : Fun K "_law_measure" "_law_measure" s__law_measure f fd) (B : Bl mg) (Z : Es K mg ct) (G : PF K ct P w mg base (n + 2) C T fns) : FnOk P w K mg base (L2.CX P w) (n + 4) f fd ["tree"] (spOf K ct (Mi.runF 1 6 (b__law_measure C))) :=
  fn_sound F sc__law_measure fun cdv A outer s H E hr => d__law_measure B Z G hr
theorem sc__law_table : FnScope ["script", "names", "numbers", "table", "cell", "x", "row", "values", "k", "y"] ["script", "names", "numbers"] (defScope s__law_table) := ⟨rfl, rfl, rfl, by decide +kernel, rfl, by decide +kernel, by decide +kernel⟩
theorem d__law_table {f : Addr} {cdv : Value} {A : Around} {outer : List Env} {s : Shared} {H : Hp} {E : XK} (B : Bl mg) (Z : Es K mg ct) (G : PF K ct P w mg base (n + 2) C T fns) (hr : Room (n + 3) (A.deeper (envOfC "_law_table" (defScope s__law_table) s.heap.objs.size f cdv))) :
  DSs (cxOf (L2.CX P w) P w K mg base ["script", "names", "numbers", "table", "cell", "x", "row", "values", "k", "y"] "_law_table" (defScope s__law_table) f cdv A outer s H E) ct (defBody s__law_table) (b__law_table C) := by
  have sc := sc__law_table
  exact (dss_cons (ds_set (i := 3) sc.nd rfl (Or.inl rfl) de_newD)
  (dss_cons (ds_for (passes_of rfl) rfl (di_any (de_l (dl_cut (de_var 0 (pv 0)) (do_some de_int) (do_some de_int)))) (dg_n (i := 4) sc.nd rfl (Or.inl rfl))
    (dss_cons (ds_set (i := 5) sc.nd rfl (Or.inl rfl) (de_call G (Room.mono hr (Nat.le_succ _)) "_law_mixed" (by decide) (da_cons (de_var 4 (pv 4)) (da_cons de_int da_nil))))
  (dss_cons (ds_set (i := 6) sc.nd rfl (Or.inl rfl) (de_mod (de_div (de_var 5 (pv 5)) de_int) de_int))
  (dss_cons (ds_if (dt_eqU hr.units (de_mod (de_var 5 (pv 5)) de_int) de_int)
    (dss_one (ds_set (i := 6) sc.nd rfl (Or.inl rfl) (de_mod (de_div (de_var 5 (pv 5)) de_int) de_int)))
    dss_nil)
  (dss_cons (ds_ownD (i := 7) sc.nd rfl (Or.inl rfl))
  (dss_cons (ds_for (passes_of rfl) rfl (di_rg1 rfl B.range_ (da_cons de_int da_nil)) (dg_n (i := 8) sc.nd rfl (Or.inl rfl))
    (dss_cons (ds_set (i := 9) sc.nd rfl (Or.inl rfl) (de_call G (Room.mono hr (Nat.le_succ _)) "_law_mixed" (by decide) (da_cons (de_var 4 (pv 4)) (da_cons (de_addU de_int (de_var 8 (pv 8))) da_nil))))
  (dss_cons (ds_put (hu_of hr) (de_var 7 (pv 7)) (de_ixU (hu_of hr) (de_var 1 (pv 1)) (de_var 8 (pv 8))) (de_mod (de_div (de_var 9 (pv 9)) de_int) de_int))
  (dss_one (ds_if (DW.dt (dw_and (dt_gt (de_mod (de_var 9 (pv 9)) de_int) de_int) (dw_and1 (dt_neU hr.units (de_var 2 (pv 2)) (de_l (dl_disp da_nil))))))
    (dss_one (ds_put (hu_of hr) (de_var 7 (pv 7)) (de_ixU (hu_of hr) (de_var 1 (pv 1)) (de_var 8 (pv 8))) (de_addU (de_ixU (hu_of hr) (de_var 2 (pv 2)) (de_mod (de_div (de_var 9 (pv 9)) de_int) (de_callB call_lenU ok_len rfl B.len_ boot_len (da_cons (de_var 2 (pv 2)) da_nil)))) (de_ixU (hu_of hr) (de_l (dl_disp (da_cons de_int (da_cons de_int (da_cons de_int (da_cons de_int (da_cons (de_neg de_int) (da_cons de_int da_nil)))))))) (de_sub (de_mod (de_var 9 (pv 9)) de_int) de_int)))))
    dss_nil)))))
  (dss_one (ds_put (hu_of hr) (de_var 3 (pv 3)) (de_var 6 (pv 6)) (de_frz 7 (pv 7))))))))))
  (dss_one (ds_ret (de_var 3 (pv 3))))))
theorem f__law_table {f : Addr} {fd : FuncData} (F : Fun K "_law_table" "_law_table" s__law_table f fd) (B : Bl mg) (Z : Es K mg ct) (G : PF K ct P w mg base (n + 2) C T fns) : FnOk P w K mg base (L2.CX P w) (n + 4) f fd ["script", "names", "numbers"] (spOf K ct (Mi.runF 3 10 (b__law_table C))) :=
  fn_sound F sc__law_table fun cdv A outer s H E hr => d__law_table B Z G hr
theorem sc__law_counted : FnScope ["question", "tree", "leaves", "deep", "names", "found"] ["question", "tree"] (defScope s__law_counted) := ⟨rfl, rfl, rfl, by decide +kernel, rfl, by decide +kernel, by decide +kernel⟩
theorem d__law_counted {f : Addr} {cdv : Value} {A : Around} {outer : List Env} {s : Shared} {H : Hp} {E : XK} (B : Bl mg) (Z : Es K mg ct) (G : PF K ct P w mg base (n + 2) C T fns) (hr : Room (n + 3) (A.deeper (envOfC "_law_counted" (defScope s__law_counted) s.heap.objs.size f cdv))) :
  DSs (cxOf (L2.CX P w) P w K mg base ["question", "tree", "leaves", "deep", "names", "found"] "_law_counted" (defScope s__law_counted) f cdv A outer s H E) ct (defBody s__law_counted) (b__law_counted C) := by
  have sc := sc__law_counted
  exact (dss_cons (ds_bd (de_call G (Room.mono hr (Nat.le_succ _)) "_law_measure" (by decide) (da_cons (de_var 1 (pv 1)) da_nil)) (dg_t rfl (dgs_cons (i := 2) sc.nd rfl (Or.inl rfl) (dgs_cons (i := 3) sc.nd rfl (Or.inl rfl) (dgs_cons (i := 4) sc.nd rfl (Or.inl rfl) dgs_nil)))))
  (dss_cons (ds_if (DW.dt (dw_or (dt_not (dt_tru (de_call G (Room.mono hr (Nat.le_succ _)) "_law_whole" (by decide) (da_cons (de_meth0 G (Room.mono hr (Nat.le_succ _)) "leaves" (de_var 0 (pv 0))) da_nil)))) (dw_or1 (dt_neU hr.units (de_meth0 G (Room.mono hr (Nat.le_succ _)) "leaves" (de_var 0 (pv 0))) (de_var 2 (pv 2))))))
    (dss_one (ds_ret de_bl))
    dss_nil)
  (dss_cons (ds_if (DW.dt (dw_or (dt_not (dt_tru (de_call G (Room.mono hr (Nat.le_succ _)) "_law_whole" (by decide) (da_cons (de_meth0 G (Room.mono hr (Nat.le_succ _)) "depth" (de_var 0 (pv 0))) da_nil)))) (dw_or1 (dt_neU hr.units (de_meth0 G (Room.mono hr (Nat.le_succ _)) "depth" (de_var 0 (pv 0))) (de_var 3 (pv 3))))))
    (dss_one (ds_ret de_bl))
    dss_nil)
  (dss_cons (ds_set (i := 5) sc.nd rfl (Or.inl rfl) (de_meth0 G (Room.mono hr (Nat.le_succ _)) "mentions" (de_var 0 (pv 0))))
  (dss_cons (ds_if (DW.dt (dw_or (dt_not (dt_tru (de_isT "list" (by decide) (by rfl) B.isinstance_ (by rfl) B.list_ (by rfl) (de_var 5 (pv 5))))) (dw_or1 (dt_neU hr.units (de_var 5 (pv 5)) (de_var 4 (pv 4))))))
    (dss_one (ds_ret de_bl))
    dss_nil)
  (dss_cons (ds_ex (de_app (de_var 5 (pv 5)) (da_cons (de_str [97]) da_nil)))
  (dss_one (ds_ret (de_eqU hr.units (de_meth0 G (Room.mono hr (Nat.le_succ _)) "mentions" (de_var 0 (pv 0))) (de_var 4 (pv 4)))))))))))
theorem f__law_counted {f : Addr} {fd : FuncData} (F : Fun K "_law_counted" "_law_counted" s__law_counted f fd) (B : Bl mg) (Z : Es K mg ct) (G : PF K ct P w mg base (n + 2) C T fns) : FnOk P w K mg base (L2.CX P w) (n + 4) f fd ["question", "tree"] (spOf K ct (Mi.runF 2 6 (b__law_counted C))) :=
  fn_sound F sc__law_counted fun cdv A outer s H E hr => d__law_counted B Z G hr
theorem sc__law_summed : FnScope ["name", "question", "table", "rows", "found", "row", "lowest"] ["name", "question", "table", "rows"] (defScope s__law_summed) := ⟨rfl, rfl, rfl, by decide +kernel, rfl, by decide +kernel, by decide +kernel⟩
theorem d__law_summed {f : Addr} {cdv : Value} {A : Around} {outer : List Env} {s : Shared} {H : Hp} {E : XK} (B : Bl mg) (Z : Es K mg ct) (G : PF K ct P w mg base (n + 2) C T fns) (hr : Room (n + 3) (A.deeper (envOfC "_law_summed" (defScope s__law_summed) s.heap.objs.size f cdv))) :
  DSs (cxOf (L2.CX P w) P w K mg base ["name", "question", "table", "rows", "found", "row", "lowest"] "_law_summed" (defScope s__law_summed) f cdv A outer s H E) ct (defBody s__law_summed) (b__law_summed C) := by
  have sc := sc__law_summed
  exact (dss_cons (ds_set (i := 4) sc.nd rfl (Or.inl rfl) (de_call G (Room.mono hr (Nat.le_succ _)) "plain_total" (by decide) (da_cons (de_var 0 (pv 0)) (da_cons (de_var 1 (pv 1)) (da_cons (de_var 2 (pv 2)) da_nil)))))
  (dss_cons (ds_if (DW.dt (dw_or (dt_not (dt_tru (de_call G (Room.mono hr (Nat.le_succ _)) "_law_whole" (by decide) (da_cons (de_var 4 (pv 4)) da_nil)))) (dw_or1 (dt_neU hr.units (de_var 4 (pv 4)) (de_callB (cr_sum rfl) ok_sum rfl B.sum_ boot_sum (da_cons (de_l (dl_comp rfl sc.nd (di_any (de_var 3 (pv 3))) (own := [("row", 5)]) (blkOk_by (N := ["name", "question", "table", "rows", "found", "row", "lowest"]) (sc := defScope s__law_summed) (by decide +kernel)) (fun _ _ _ _ _ => (dg_n (i := 5) sc.nd rfl (Or.inl rfl))) (fun _ _ _ _ _ => dts_nil) (fun _ _ _ _ _ => (de_ixU (hu_of hr) (de_ixU (hu_of hr) (de_var 2 (pv 2)) (de_var 5 (pv 5))) (de_var 0 (pv 0)))) (fun _ h => h))) da_nil))))))
    (dss_one (ds_ret de_bl))
    dss_nil)
  (dss_cons (ds_set (i := 4) sc.nd rfl (Or.inl rfl) (de_call G (Room.mono hr (Nat.le_succ _)) "plain_least" (by decide) (da_cons (de_var 0 (pv 0)) (da_cons (de_var 1 (pv 1)) (da_cons (de_var 2 (pv 2)) da_nil)))))
  (dss_cons (ds_if (dt_eqU hr.units (de_var 3 (pv 3)) (de_l (dl_disp da_nil)))
    (dss_one (ds_ret (de_isN (de_var 4 (pv 4)) de_non)))
    dss_nil)
  (dss_cons (ds_set (i := 6) sc.nd rfl (Or.inr rfl) (de_callB (cr_min rfl) ok_min1 rfl B.min_ boot_min (da_cons (de_l (dl_comp rfl sc.nd (di_any (de_var 3 (pv 3))) (own := [("row", 5)]) (blkOk_by (N := ["name", "question", "table", "rows", "found", "row", "lowest"]) (sc := defScope s__law_summed) (by decide +kernel)) (fun _ _ _ _ _ => (dg_n (i := 5) sc.nd rfl (Or.inl rfl))) (fun _ _ _ _ _ => dts_nil) (fun _ _ _ _ _ => (de_ixU (hu_of hr) (de_ixU (hu_of hr) (de_var 2 (pv 2)) (de_var 5 (pv 5))) (de_var 0 (pv 0)))) (fun _ h => h))) da_nil)))
  (dss_cons (ds_if (DW.dt (dw_or (dt_not (dt_tru (de_isT "tuple" (by decide) (by rfl) B.isinstance_ (by rfl) B.tuple_ (by rfl) (de_var 4 (pv 4))))) (dw_or (dt_neU hr.units (de_callB call_lenU ok_len rfl B.len_ boot_len (da_cons (de_var 4 (pv 4)) da_nil)) de_int) (dw_or (dt_not (dt_tru (de_call G (Room.mono hr (Nat.le_succ _)) "_law_whole" (by decide) (da_cons (de_ixU (hu_of hr) (de_var 4 (pv 4)) de_int) da_nil)))) (dw_or1 (dt_neU hr.units (de_ixU (hu_of hr) (de_var 4 (pv 4)) de_int) (de_var 6 (pv 6))))))))
    (dss_one (ds_ret de_bl))
    dss_nil)
  (dss_one (ds_ret (de_call G (Room.mono hr (Nat.le_succ _)) "_law_flat" (by decide) (da_cons (de_ixU (hu_of hr) (de_var 4 (pv 4)) de_int) (da_cons (de_l (dl_comp rfl sc.nd (di_any (de_var 3 (pv 3))) (own := [("row", 5)]) (blkOk_by (N := ["name", "question", "table", "rows", "found", "row", "lowest"]) (sc := defScope s__law_summed) (by decide +kernel)) (fun _ _ _ _ _ => (dg_n (i := 5) sc.nd rfl (Or.inl rfl))) (fun _ _ _ _ _ => (dts_one (dt_eqU hr.units (de_ixU (hu_of hr) (de_ixU (hu_of hr) (de_var 2 (pv 2)) (de_var 5 (pv 5))) (de_var 0 (pv 0))) (de_var 6 (pv 6))))) (fun _ _ _ _ _ => (de_var 5 (pv 5))) (fun _ h => h))) da_nil)))))))))))
theorem f__law_summed {f : Addr} {fd : FuncData} (F : Fun K "_law_summed" "_law_summed" s__law_summed f fd) (B : Bl mg) (Z : Es K mg ct) (G : PF K ct P w mg base (n + 2) C T fns) : FnOk P w K mg base (L2.CX P w) (n + 4) f fd ["name", "question", "table", "rows"] (spOf K ct (Mi.runF 4 7 (b__law_summed C))) :=
  fn_sound F sc__law_summed fun cdv A outer s H E hr => d__law_summed B Z G hr
theorem sc_law : FnScope ["script", "tree", "names", "question", "table", "plain", "row", "rows", "name", "rest", "gone"] ["script"] (defScope s_law) := ⟨rfl, rfl, rfl, by decide +kernel, rfl, by decide +kernel, by decide +kernel⟩
theorem d_law {f : Addr} {cdv : Value} {A : Around} {outer : List Env} {s : Shared} {H : Hp} {E : XK} (B : Bl mg) (Z : Es K mg ct) (G : PF K ct P w mg base (n + 2) C T fns) (hr : Room (n + 3) (A.deeper (envOfC "law" (defScope s_law) s.heap.objs.size f cdv))) :
  DSs (cxOf (L2.CX P w) P w K mg base ["script", "tree", "names", "question", "table", "plain", "row", "rows", "name", "rest", "gone"] "law" (defScope s_law) f cdv A outer s H E) ct (defBody s_law) (b_law C) := by
  have sc := sc_law
  exact (dss_cons (ds_set (i := 1) sc.nd rfl (Or.inr rfl) (de_call G (Room.mono hr (Nat.le_succ _)) "_law_built" (by decide) (da_cons (de_var 0 (pv 0)) (da_cons de_int da_nil))))
  (dss_cons (ds_set (i := 2) sc.nd rfl (Or.inl rfl) (de_call G (Room.mono hr (Nat.le_succ _)) "_law_names" (by decide) (da_cons (de_var 0 (pv 0)) (da_cons (de_ixU (hu_of hr) (de_l (dl_disp (da_cons de_int (da_cons de_int da_nil)))) (de_callTy (CallR.or2 call_int1 call_int_str) ok_cint2 rfl B.int_ boot_int (da_cons (de_eqU hr.units (de_mod (de_call G (Room.mono hr (Nat.le_succ _)) "_law_cell_at" (by decide) (da_cons (de_var 0 (pv 0)) (da_cons de_int da_nil))) de_int) de_int) da_nil))) da_nil))))
  (dss_cons (ds_set (i := 3) sc.nd rfl (Or.inl rfl) (de_call G (Room.mono hr (Nat.le_succ _)) "_law_made" (by decide) (da_cons (de_var 1 (pv 1)) da_nil)))
  (dss_cons (ds_if (dt_not (dt_tru (de_call G (Room.mono hr (Nat.le_succ _)) "_law_counted" (by decide) (da_cons (de_var 3 (pv 3)) (da_cons (de_var 1 (pv 1)) da_nil)))))
    (dss_one (ds_ret de_bl))
    dss_nil)
  (dss_cons (ds_set (i := 4) sc.nd rfl (Or.inr rfl) (de_call G (Room.mono hr (Nat.le_succ _)) "_law_table" (by decide) (da_cons (de_var 0 (pv 0)) (da_cons (de_var 2 (pv 2)) (da_cons (de_call G (Room.mono hr (Nat.le_succ _)) "_law_numbers_in" (by decide) (da_cons (de_var 1 (pv 1)) da_nil)) da_nil)))))
  (dss_cons (ds_lk 4 (ds_setLc (i := 5) rfl sc.nd rfl rfl (sw_true rfl (by rfl) (by rfl) (by decide +kernel)) (di_keyR (pv 4)) (own := [("row", 6)]) (blkOk_by (N := ["script", "tree", "names", "question", "table", "plain", "row", "rows", "name", "rest", "gone"]) (sc := defScope s_law) (by decide +kernel)) (fun _ _ _ _ _ => (dg_n (i := 6) sc.nd rfl (Or.inl rfl))) (fun _ _ _ _ _ => dts_nil) (fun _ _ _ _ _ => (de_tup (da_cons (de_var 6 (pv 6)) (da_cons (de_callTy call_dictD ok_dict rfl B.dict_ boot_dict (da_cons (de_ixU (hu_of hr) (de_var 4 (pv 4)) (de_var 6 (pv 6))) da_nil)) da_nil)))) (fun _ h => h)))
  (dss_cons (ds_set (i := 7) sc.nd rfl (Or.inr rfl) (de_l (dl_comp rfl sc.nd (di_any (de_l (dl_sort rfl (by rfl) B.sorted_ (da_cons (de_var 4 (pv 4)) da_nil)))) (own := [("row", 6)]) (blkOk_by (N := ["script", "tree", "names", "question", "table", "plain", "row", "rows", "name", "rest", "gone"]) (sc := defScope s_law) (by decide +kernel)) (fun _ _ _ _ _ => (dg_n (i := 6) sc.nd rfl (Or.inl rfl))) (fun _ _ _ _ _ => (dts_one (dt_tru (de_call G (Room.mono hr (Nat.le_succ _)) "_law_holds" (by decide) (da_cons (de_var 1 (pv 1)) (da_cons (de_ixU (hu_of hr) (de_var 4 (pv 4)) (de_var 6 (pv 6))) da_nil)))))) (fun _ _ _ _ _ => (de_var 6 (pv 6))) (fun _ h => h))))
  (dss_cons (ds_for (passes_of rfl) rfl (di_any (de_var 2 (pv 2))) (dg_n (i := 8) sc.nd rfl (Or.inl rfl))
    (dss_one (ds_if (dt_not (dt_tru (de_call G (Room.mono hr (Nat.le_succ _)) "_law_summed" (by decide) (da_cons (de_var 8 (pv 8)) (da_cons (de_var 3 (pv 3)) (da_cons (de_var 4 (pv 4)) (da_cons (de_var 7 (pv 7)) da_nil)))))))
    (dss_one (ds_ret de_bl))
    dss_nil)))
  (dss_cons (ds_setLc (i := 9) rfl sc.nd rfl rfl (sw_true rfl (by rfl) (by rfl) (by decide +kernel)) (di_any (de_l (dl_sort rfl (by rfl) B.sorted_ (da_cons (de_var 4 (pv 4)) da_nil)))) (own := [("row", 6)]) (blkOk_by (N := ["script", "tree", "names", "question", "table", "plain", "row", "rows", "name", "rest", "gone"]) (sc := defScope s_law) (by decide +kernel)) (fun _ _ _ _ _ => (dg_n (i := 6) sc.nd rfl (Or.inl rfl))) (fun _ _ _ _ _ => (dts_one (dt_notInV (hu_of hr) (de_var 6 (pv 6)) (de_var 7 (pv 7))))) (fun _ _ _ _ _ => (de_var 6 (pv 6))) (fun _ h => h))
  (dss_cons (ds_if (DW.dt (dw_or (dt_not (dt_tru (de_call G (Room.mono hr (Nat.le_succ _)) "_law_flat" (by decide) (da_cons (de_call G (Room.mono hr (Nat.le_succ _)) "plain_rows" (by decide) (da_cons (de_var 3 (pv 3)) (da_cons (de_var 4 (pv 4)) da_nil))) (da_cons (de_var 7 (pv 7)) da_nil))))) (dw_or1 (dt_not (dt_tru (de_call G (Room.mono hr (Nat.le_succ _)) "_law_flat" (by decide) (da_cons (de_call G (Room.mono hr (Nat.le_succ _)) "plain_rows" (by decide) (da_cons (de_makeF G hr "Opposite" rfl (by decide) (da_cons (de_var 3 (pv 3)) da_nil)) (da_cons (de_var 4 (pv 4)) da_nil))) (da_cons (de_var 9 (pv 9)) da_nil))))))))
    (dss_one (ds_ret de_bl))
    dss_nil)
  (dss_cons (ds_lk 4 (ds_if (dt_neW hr.units (de_l (dl_comp rfl sc.nd (di_keyR (pv 4)) (own := [("row", 6)]) (blkOk_by (N := ["script", "tree", "names", "question", "table", "plain", "row", "rows", "name", "rest", "gone"]) (sc := defScope s_law) (by decide +kernel)) (fun _ _ _ _ _ => (dg_n (i := 6) sc.nd rfl (Or.inl rfl))) (fun _ _ _ _ _ => dts_nil) (fun _ _ _ _ _ => (de_tup (da_cons (de_var 6 (pv 6)) (da_cons (de_ixU (hu_of hr) (de_var 4 (pv 4)) (de_var 6 (pv 6))) da_nil)))) (fun _ h => h))) (de_var 5 (pv 5)))
    (dss_one (ds_ret de_bl))
    dss_nil))
  (dss_cons (ds_if (dt_neW hr.units (de_var 5 (pv 5)) (de_l (dl_disp da_nil)))
    (dss_cons (ds_set (i := 10) sc.nd rfl (Or.inr rfl) (de_ixU (hu_of hr) (de_ixU (hu_of hr) (de_var 5 (pv 5)) (de_mod (de_call G (Room.mono hr (Nat.le_succ _)) "_law_cell_at" (by decide) (da_cons (de_var 0 (pv 0)) (da_cons de_int da_nil))) (de_callB call_lenU ok_len rfl B.len_ boot_len (da_cons (de_var 5 (pv 5)) da_nil)))) de_int))
  (dss_cons (ds_ex (de_dpop (de_var 4 (pv 4)) (de_var 10 (pv 10)) (by constructor <;> rfl)))
  (dss_one (ds_set (i := 7) sc.nd rfl (Or.inr rfl) (de_l (dl_comp rfl sc.nd (di_any (de_var 7 (pv 7))) (own := [("row", 6)]) (blkOk_by (N := ["script", "tree", "names", "question", "table", "plain", "row", "rows", "name", "rest", "gone"]) (sc := defScope s_law) (by decide +kernel)) (fun _ _ _ _ _ => (dg_n (i := 6) sc.nd rfl (Or.inl rfl))) (fun _ _ _ _ _ => (dts_one (dt_neU hr.units (de_var 6 (pv 6)) (de_var 10 (pv 10))))) (fun _ _ _ _ _ => (de_var 6 (pv 6))) (fun _ h => h)))))))
    dss_nil)
  (dss_one (ds_ret (de_call G (Room.mono hr (Nat.le_succ _)) "_law_flat" (by decide) (da_cons (de_call G (Room.mono hr (Nat.le_succ _)) "plain_rows" (by decide) (da_cons (de_var 3 (pv 3)) (da_cons (de_var 4 (pv 4)) da_nil))) (da_cons (de_var 7 (pv 7)) da_nil)))))))))))))))))
theorem f_law {f : Addr} {fd : FuncData} (F : Fun K "law" "law" s_law f fd) (B : Bl mg) (Z : Es K mg ct) (G : PF K ct P w mg base (n + 2) C T fns) : FnOk P w K mg base (L2.CX P w) (n + 4) f fd ["script"] (spOf K ct (Mi.runF 1 11 (b_law C))) :=
  fn_sound F sc_law fun cdv A outer s H E hr => d_law B Z G hr
/-- the program's classes and defs as they stand -/
structure Fs (K : PySem.W.Frag) (mg : Str → Option Value) (ct : String → Option Addr) where
  es : Es K mg ct
  a_plain_rows : Addr
  fd_plain_rows : FuncData
  F_plain_rows : Fun K "plain_rows" "plain_rows" s_plain_rows a_plain_rows fd_plain_rows
  b_plain_rows : L2.Binds K fd_plain_rows ["question", "table"] []
  g_plain_rows : mg "plain_rows" = some (.ref a_plain_rows)
  a_plain_total : Addr
  fd_plain_total : FuncData
  F_plain_total : Fun K "plain_total" "plain_total" s_plain_total a_plain_total fd_plain_total
  b_plain_total : L2.Binds K fd_plain_total ["name", "question", "table"] []
  g_plain_total : mg "plain_total" = some (.ref a_plain_total)
  a_plain_least : Addr
  fd_plain_least : FuncData
  F_plain_least : Fun K "plain_least" "plain_least" s_plain_least a_plain_least fd_plain_least
  b_plain_least : L2.Binds K fd_plain_least ["name", "question", "table"] []
  g_plain_least : mg "plain_least" = some (.ref a_plain_least)
  a_Question_holds : Addr
  fd_Question_holds : FuncData
  F_Question_holds : Fun K "holds" "Question.holds" s_Question_holds a_Question_holds fd_Question_holds
  b_Question_holds : L2.Binds K fd_Question_holds ["self", "values"] []
  a_Question_mentions : Addr
  fd_Question_mentions : FuncData
  F_Question_mentions : Fun K "mentions" "Question.mentions" s_Question_mentions a_Question_mentions fd_Question_mentions
  b_Question_mentions : L2.Binds K fd_Question_mentions ["self"] []
  a_Question_leaves : Addr
  fd_Question_leaves : FuncData
  F_Question_leaves : Fun K "leaves" "Question.leaves" s_Question_leaves a_Question_leaves fd_Question_leaves
  b_Question_leaves : L2.Binds K fd_Question_leaves ["self"] []
  a_Question_depth : Addr
  fd_Question_depth : FuncData
  F_Question_depth : Fun K "depth" "Question.depth" s_Question_depth a_Question_depth fd_Question_depth
  b_Question_depth : L2.Binds K fd_Question_depth ["self"] []
  a_Every_holds : Addr
  fd_Every_holds : FuncData
  F_Every_holds : Fun K "holds" "Every.holds" s_Every_holds a_Every_holds fd_Every_holds
  b_Every_holds : L2.Binds K fd_Every_holds ["self", "values"] []
  a_Within___init__ : Addr
  fd_Within___init__ : FuncData
  F_Within___init__ : Fun K "__init__" "Within.__init__" s_Within___init__ a_Within___init__ fd_Within___init__
  b_Within___init__ : L2.Binds K fd_Within___init__ ["self", "name", "low", "high"] []
  a_Within_holds : Addr
  fd_Within_holds : FuncData
  F_Within_holds : Fun K "holds" "Within.holds" s_Within_holds a_Within_holds fd_Within_holds
  b_Within_holds : L2.Binds K fd_Within_holds ["self", "values"] []
  a_Within_mentions : Addr
  fd_Within_mentions : FuncData
  F_Within_mentions : Fun K "mentions" "Within.mentions" s_Within_mentions a_Within_mentions fd_Within_mentions
  b_Within_mentions : L2.Binds K fd_Within_mentions ["self"] []
  a_Opposite___init__ : Addr
  fd_Opposite___init__ : FuncData
  F_Opposite___init__ : Fun K "__init__" "Opposite.__init__" s_Opposite___init__ a_Opposite___init__ fd_Opposite___init__
  b_Opposite___init__ : L2.Binds K fd_Opposite___init__ ["self", "one"] []
  a_Opposite_holds : Addr
  fd_Opposite_holds : FuncData
  F_Opposite_holds : Fun K "holds" "Opposite.holds" s_Opposite_holds a_Opposite_holds fd_Opposite_holds
  b_Opposite_holds : L2.Binds K fd_Opposite_holds ["self", "values"] []
  a_Opposite_mentions : Addr
  fd_Opposite_mentions : FuncData
  F_Opposite_mentions : Fun K "mentions" "Opposite.mentions" s_Opposite_mentions a_Opposite_mentions fd_Opposite_mentions
  b_Opposite_mentions : L2.Binds K fd_Opposite_mentions ["self"] []
  a_Opposite_leaves : Addr
  fd_Opposite_leaves : FuncData
  F_Opposite_leaves : Fun K "leaves" "Opposite.leaves" s_Opposite_leaves a_Opposite_leaves fd_Opposite_leaves
  b_Opposite_leaves : L2.Binds K fd_Opposite_leaves ["self"] []
  a_Opposite_depth : Addr
  fd_Opposite_depth : FuncData
  F_Opposite_depth : Fun K "depth" "Opposite.depth" s_Opposite_depth a_Opposite_depth fd_Opposite_depth
  b_Opposite_depth : L2.Binds K fd_Opposite_depth ["self"] []
  a_Chain___init__ : Addr
  fd_Chain___init__ : FuncData
  F_Chain___init__ : Fun K "__init__" "Chain.__init__" s_Chain___init__ a_Chain___init__ fd_Chain___init__
  b_Chain___init__ : L2.Binds K fd_Chain___init__ ["self", "parts"] []
  a_Chain_mentions : Addr
  fd_Chain_mentions : FuncData
  F_Chain_mentions : Fun K "mentions" "Chain.mentions" s_Chain_mentions a_Chain_mentions fd_Chain_mentions
  b_Chain_mentions : L2.Binds K fd_Chain_mentions ["self"] []
  a_Chain_leaves : Addr
  fd_Chain_leaves : FuncData
  F_Chain_leaves : Fun K "leaves" "Chain.leaves" s_Chain_leaves a_Chain_leaves fd_Chain_leaves
  b_Chain_leaves : L2.Binds K fd_Chain_leaves ["self"] []
  a_Chain_depth : Addr
  fd_Chain_depth : FuncData
  F_Chain_depth : Fun K "depth" "Chain.depth" s_Chain_depth a_Chain_depth fd_Chain_depth
  b_Chain_depth : L2.Binds K fd_Chain_depth ["self"] []
  a_AllOf_holds : Addr
  fd_AllOf_holds : FuncData
  F_AllOf_holds : Fun K "holds" "AllOf.holds" s_AllOf_holds a_AllOf_holds fd_AllOf_holds
  b_AllOf_holds : L2.Binds K fd_AllOf_holds ["self", "values"] []
  a_OneOf_holds : Addr
  fd_OneOf_holds : FuncData
  F_OneOf_holds : Fun K "holds" "OneOf.holds" s_OneOf_holds a_OneOf_holds fd_OneOf_holds
  b_OneOf_holds : L2.Binds K fd_OneOf_holds ["self", "values"] []
  a__law_cell_at : Addr
  fd__law_cell_at : FuncData
  F__law_cell_at : Fun K "_law_cell_at" "_law_cell_at" s__law_cell_at a__law_cell_at fd__law_cell_at
  b__law_cell_at : L2.Binds K fd__law_cell_at ["script", "k"] []
  g__law_cell_at : mg "_law_cell_at" = some (.ref a__law_cell_at)
  a__law_whole : Addr
  fd__law_whole : FuncData
  F__law_whole : Fun K "_law_whole" "_law_whole" s__law_whole a__law_whole fd__law_whole
  b__law_whole : L2.Binds K fd__law_whole ["found"] []
  g__law_whole : mg "_law_whole" = some (.ref a__law_whole)
  a__law_mixed : Addr
  fd__law_mixed : FuncData
  F__law_mixed : Fun K "_law_mixed" "_law_mixed" s__law_mixed a__law_mixed fd__law_mixed
  b__law_mixed : L2.Binds K fd__law_mixed ["cell", "k"] []
  g__law_mixed : mg "_law_mixed" = some (.ref a__law_mixed)
  a__law_flat : Addr
  fd__law_flat : FuncData
  F__law_flat : Fun K "_law_flat" "_law_flat" s__law_flat a__law_flat fd__law_flat
  b__law_flat : L2.Binds K fd__law_flat ["found", "due"] []
  g__law_flat : mg "_law_flat" = some (.ref a__law_flat)
  a__law_name_of : Addr
  fd__law_name_of : FuncData
  F__law_name_of : Fun K "_law_name_of" "_law_name_of" s__law_name_of a__law_name_of fd__law_name_of
  b__law_name_of : L2.Binds K fd__law_name_of ["letters"] []
  g__law_name_of : mg "_law_name_of" = some (.ref a__law_name_of)
  a__law_names : Addr
  fd__law_names : FuncData
  F__law_names : Fun K "_law_names" "_law_names" s__law_names a__law_names fd__law_names
  b__law_names : L2.Binds K fd__law_names ["script", "most"] []
  g__law_names : mg "_law_names" = some (.ref a__law_names)
  a__law_leaf : Addr
  fd__law_leaf : FuncData
  F__law_leaf : Fun K "_law_leaf" "_law_leaf" s__law_leaf a__law_leaf fd__law_leaf
  b__law_leaf : L2.Binds K fd__law_leaf ["cell", "names", "wide"] []
  g__law_leaf : mg "_law_leaf" = some (.ref a__law_leaf)
  a__law_built : Addr
  fd__law_built : FuncData
  F__law_built : Fun K "_law_built" "_law_built" s__law_built a__law_built fd__law_built
  b__law_built : L2.Binds K fd__law_built ["script", "most"] []
  g__law_built : mg "_law_built" = some (.ref a__law_built)
  a__law_made : Addr
  fd__law_made : FuncData
  F__law_made : Fun K "_law_made" "_law_made" s__law_made a__law_made fd__law_made
  b__law_made : L2.Binds K fd__law_made ["tree"] []
  g__law_made : mg "_law_made" = some (.ref a__law_made)
  a__law_holds : Addr
  fd__law_holds : FuncData
  F__law_holds : Fun K "_law_holds" "_law_holds" s__law_holds a__law_holds fd__law_holds
  b__law_holds : L2.Binds K fd__law_holds ["tree", "values"] []
  g__law_holds : mg "_law_holds" = some (.ref a__law_holds)
  a__law_numbers_in : Addr
  fd__law_numbers_in : FuncData
  F__law_numbers_in : Fun K "_law_numbers_in" "_law_numbers_in" s__law_numbers_in a__law_numbers_in fd__law_numbers_in
  b__law_numbers_in : L2.Binds K fd__law_numbers_in ["tree"] []
  g__law_numbers_in : mg "_law_numbers_in" = some (.ref a__law_numbers_in)
  a__law_measure : Addr
  fd__law_measure : FuncData
  F__law_measure : Fun K "_law_measure" "_law_measure" s__law_measure a__law_measure fd__law_measure
  b__law_measure : L2.Binds K fd__law_measure ["tree"] []
  g__law_measure : mg "_law_measure" = some (.ref a__law_measure)
  a__law_table : Addr
  fd__law_table : FuncData
  F__law_table : Fun K "_law_table" "_law_table" s__law_table a__law_table fd__law_table
  b__law_table : L2.Binds K fd__law_table ["script", "names", "numbers"] []
  g__law_table : mg "_law_table" = some (.ref a__law_table)
  a__law_counted : Addr
  fd__law_counted : FuncData
  F__law_counted : Fun K "_law_counted" "_law_counted" s__law_counted a__law_counted fd__law_counted
  b__law_counted : L2.Binds K fd__law_counted ["question", "tree"] []
  g__law_counted : mg "_law_counted" = some (.ref a__law_counted)
  a__law_summed : Addr
  fd__law_summed : FuncData
  F__law_summed : Fun K "_law_summed" "_law_summed" s__law_summed a__law_summed fd__law_summed
  b__law_summed : L2.Binds K fd__law_summed ["name", "question", "table", "rows"] []
  g__law_summed : mg "_law_summed" = some (.ref a__law_summed)
  a_law : Addr
  fd_law : FuncData
  F_law : Fun K "law" "law" s_law a_law fd_law
  b_law : L2.Binds K fd_law ["script"] []
  g_law : mg "law" = some (.ref a_law)
  C_Question : Addr
  t_Question : ct "Question" = some C_Question
  cl_Question : Cls K C_Question
  C_Every : Addr
  t_Every : ct "Every" = some C_Every
  cl_Every : Cls K C_Every
  C_Nobody : Addr
  t_Nobody : ct "Nobody" = some C_Nobody
  cl_Nobody : Cls K C_Nobody
  C_Within : Addr
  t_Within : ct "Within" = some C_Within
  cl_Within : Cls K C_Within
  C_Opposite : Addr
  t_Opposite : ct "Opposite" = some C_Opposite
  cl_Opposite : Cls K C_Opposite
  C_Chain : Addr
  t_Chain : ct "Chain" = some C_Chain
  cl_Chain : Cls K C_Chain
  C_AllOf : Addr
  t_AllOf : ct "AllOf" = some C_AllOf
  cl_AllOf : Cls K C_AllOf
  C_OneOf : Addr
  t_OneOf : ct "OneOf" = some C_OneOf
  cl_OneOf : Cls K C_OneOf
  m_Question_holds : Meth K C_Question "holds" a_Question_holds
  m_Question_mentions : Meth K C_Question "mentions" a_Question_mentions
  m_Question_leaves : Meth K C_Question "leaves" a_Question_leaves
  m_Question_depth : Meth K C_Question "depth" a_Question_depth
  m_Every_holds : Meth K C_Every "holds" a_Every_holds
  m_Every_mentions : Meth K C_Every "mentions" a_Question_mentions
  m_Every_leaves : Meth K C_Every "leaves" a_Question_leaves
  m_Every_depth : Meth K C_Every "depth" a_Question_depth
  m_Nobody_holds : Meth K C_Nobody "holds" a_Question_holds
  m_Nobody_mentions : Meth K C_Nobody "mentions" a_Question_mentions
  m_Nobody_leaves : Meth K C_Nobody "leaves" a_Question_leaves
  m_Nobody_depth : Meth K C_Nobody "depth" a_Question_depth
  m_Within_holds : Meth K C_Within "holds" a_Within_holds
  m_Within_mentions : Meth K C_Within "mentions" a_Within_mentions
  m_Within_leaves : Meth K C_Within "leaves" a_Question_leaves
  m_Within_depth : Meth K C_Within "depth" a_Question_depth
  m_Opposite_holds : Meth K C_Opposite "holds" a_Opposite_holds
  m_Opposite_mentions : Meth K C_Opposite "mentions" a_Opposite_mentions
  m_Opposite_leaves : Meth K C_Opposite "leaves" a_Opposite_leaves
  m_Opposite_depth : Meth K C_Opposite "depth" a_Opposite_depth
  m_Chain_mentions : Meth K C_Chain "mentions" a_Chain_mentions
  m_Chain_leaves : Meth K C_Chain "leaves" a_Chain_leaves
  m_Chain_depth : Meth K C_Chain "depth" a_Chain_depth
  m_Chain_holds : Meth K C_Chain "holds" a_Question_holds
  m_AllOf_holds : Meth K C_AllOf "holds" a_AllOf_holds
  m_AllOf_mentions : Meth K C_AllOf "mentions" a_Chain_mentions
  m_AllOf_leaves : Meth K C_AllOf "leaves" a_Chain_leaves
  m_AllOf_depth : Meth K C_AllOf "depth" a_Chain_depth
  m_OneOf_holds : Meth K C_OneOf "holds" a_OneOf_holds
  m_OneOf_mentions : Meth K C_OneOf "mentions" a_Chain_mentions
  m_OneOf_leaves : Meth K C_OneOf "leaves" a_Chain_leaves
  m_OneOf_depth : Meth K C_OneOf "depth" a_Chain_depth
  gc_Every : mg "Every" = some (.ref C_Every)
  mk_Every : PySem.W.makesIn K C_Every = true ∧ PySem.W.findIn K (.ref C_Every) "__init__" = some (some (.builtin "object.__init__")) ∧ PySem.W.keepIn K (.ref C_Every) = true ∧ PySem.W.mroIn K C_Every (.type "object") = some true
  gc_Nobody : mg "Nobody" = some (.ref C_Nobody)
  mk_Nobody : PySem.W.makesIn K C_Nobody = true ∧ PySem.W.findIn K (.ref C_Nobody) "__init__" = some (some (.builtin "object.__init__")) ∧ PySem.W.keepIn K (.ref C_Nobody) = true ∧ PySem.W.mroIn K C_Nobody (.type "object") = some true
  gc_Within : mg "Within" = some (.ref C_Within)
  mk_Within : Mk K C_Within a_Within___init__
  gc_Opposite : mg "Opposite" = some (.ref C_Opposite)
  mk_Opposite : Mk K C_Opposite a_Opposite___init__
  gc_AllOf : mg "AllOf" = some (.ref C_AllOf)
  mk_AllOf : Mk K C_AllOf a_Chain___init__
  gc_OneOf : mg "OneOf" = some (.ref C_OneOf)
  mk_OneOf : Mk K C_OneOf a_Chain___init__
  n_Within_name : NoAttr K C_Within "name"
  n_Within_low : NoAttr K C_Within "low"
  n_Within_high : NoAttr K C_Within "high"
  n_Opposite_one : NoAttr K C_Opposite "one"
  n_Chain_parts : NoAttr K C_Chain "parts"
  n_AllOf_parts : NoAttr K C_AllOf "parts"
  n_OneOf_parts : NoAttr K C_OneOf "parts"
theorem pf_step (B : Bl mg) (Z : Fs K mg ct) (G : PF K ct P w mg base (n + 2) C T fns) : PF K ct P w mg base (n + 4) (Pg.step C) T fns := by
  have z_plain_rows : FnAt K ct P w mg base (n + 4) Z.a_plain_rows (Pg.step C "plain_rows") := by
    rw [show Pg.step C "plain_rows" = Mi.runF 2 3 (b_plain_rows C) by simp [Pg.step]]
    exact ⟨⟨_, _, Z.b_plain_rows, f_plain_rows Z.F_plain_rows B Z.es G⟩⟩
  have z_plain_total : FnAt K ct P w mg base (n + 4) Z.a_plain_total (Pg.step C "plain_total") := by
    rw [show Pg.step C "plain_total" = Mi.runF 3 4 (b_plain_total C) by simp [Pg.step]]
    exact ⟨⟨_, _, Z.b_plain_total, f_plain_total Z.F_plain_total B Z.es G⟩⟩
  have z_plain_least : FnAt K ct P w mg base (n + 4) Z.a_plain_least (Pg.step C "plain_least") := by
    rw [show Pg.step C "plain_least" = Mi.runF 3 6 (b_plain_least C) by simp [Pg.step]]
    exact ⟨⟨_, _, Z.b_plain_least, f_plain_least Z.F_plain_least B Z.es G⟩⟩
  have z_Question_holds : FnAt K ct P w mg base (n + 4) Z.a_Question_holds (Pg.step C "Question.holds") := by
    rw [show Pg.step C "Question.holds" = Mi.runF 2 2 (b_Question_holds C) by simp [Pg.step]]
    exact ⟨⟨_, _, Z.b_Question_holds, f_Question_holds Z.F_Question_holds B Z.es G⟩⟩
  have z_Question_mentions : FnAt K ct P w mg base (n + 4) Z.a_Question_mentions (Pg.step C "Question.mentions") := by
    rw [show Pg.step C "Question.mentions" = Mi.runF 1 1 (b_Question_mentions C) by simp [Pg.step]]
    exact ⟨⟨_, _, Z.b_Question_mentions, f_Question_mentions Z.F_Question_mentions B Z.es G⟩⟩
  have z_Question_leaves : FnAt K ct P w mg base (n + 4) Z.a_Question_leaves (Pg.step C "Question.leaves") := by
    rw [show Pg.step C "Question.leaves" = Mi.runF 1 1 (b_Question_leaves C) by simp [Pg.step]]
    exact ⟨⟨_, _, Z.b_Question_leaves, f_Question_leaves Z.F_Question_leaves B Z.es G⟩⟩
  have z_Question_depth : FnAt K ct P w mg base (n + 4) Z.a_Question_depth (Pg.step C "Question.depth") := by
    rw [show Pg.step C "Question.depth" = Mi.runF 1 1 (b_Question_depth C) by simp [Pg.step]]
    exact ⟨⟨_, _, Z.b_Question_depth, f_Question_depth Z.F_Question_depth B Z.es G⟩⟩
  have z_Every_holds : FnAt K ct P w mg base (n + 4) Z.a_Every_holds (Pg.step C "Every.holds") := by
    rw [show Pg.step C "Every.holds" = Mi.runF 2 2 (b_Every_holds C) by simp [Pg.step]]
    exact ⟨⟨_, _, Z.b_Every_holds, f_Every_holds Z.F_Every_holds B Z.es G⟩⟩
  have z_Within___init__ : FnAt K ct P w mg base (n + 4) Z.a_Within___init__ (Pg.step C "Within.__init__") := by
    rw [show Pg.step C "Within.__init__" = Mi.runF 4 4 (b_Within___init__ C) by simp [Pg.step]]
    exact ⟨⟨_, _, Z.b_Within___init__, f_Within___init__ Z.F_Within___init__ B Z.es G⟩⟩
  have z_Within_holds : FnAt K ct P w mg base (n + 4) Z.a_Within_holds (Pg.step C "Within.holds") := by
    rw [show Pg.step C "Within.holds" = Mi.runF 2 2 (b_Within_holds C) by simp [Pg.step]]
    exact ⟨⟨_, _, Z.b_Within_holds, f_Within_holds Z.F_Within_holds B Z.es G⟩⟩
  have z_Within_mentions : FnAt K ct P w mg base (n + 4) Z.a_Within_mentions (Pg.step C "Within.mentions") := by
    rw [show Pg.step C "Within.mentions" = Mi.runF 1 1 (b_Within_mentions C) by simp [Pg.step]]
    exact ⟨⟨_, _, Z.b_Within_mentions, f_Within_mentions Z.F_Within_mentions B Z.es G⟩⟩
  have z_Opposite___init__ : FnAt K ct P w mg base (n + 4) Z.a_Opposite___init__ (Pg.step C "Opposite.__init__") := by
    rw [show Pg.step C "Opposite.__init__" = Mi.runF 2 2 (b_Opposite___init__ C) by simp [Pg.step]]
    exact ⟨⟨_, _, Z.b_Opposite___init__, f_Opposite___init__ Z.F_Opposite___init__ B Z.es G⟩⟩
  have z_Opposite_holds : FnAt K ct P w mg base (n + 4) Z.a_Opposite_holds (Pg.step C "Opposite.holds") := by
    rw [show Pg.step C "Opposite.holds" = Mi.runF 2 2 (b_Opposite_holds C) by simp [Pg.step]]
    exact ⟨⟨_, _, Z.b_Opposite_holds, f_Opposite_holds Z.F_Opposite_holds B Z.es G⟩⟩
  have z_Opposite_mentions : FnAt K ct P w mg base (n + 4) Z.a_Opposite_mentions (Pg.step C "Opposite.mentions") := by
    rw [show Pg.step C "Opposite.mentions" = Mi.runF 1 1 (b_Opposite_mentions C) by simp [Pg.step]]
    exact ⟨⟨_, _, Z.b_Opposite_mentions, f_Opposite_mentions Z.F_Opposite_mentions B Z.es G⟩⟩
  have z_Opposite_leaves : FnAt K ct P w mg base (n + 4) Z.a_Opposite_leaves (Pg.step C "Opposite.leaves") := by
    rw [show Pg.step C "Opposite.leaves" = Mi.runF 1 1 (b_Opposite_leaves C) by simp [Pg.step]]
    exact ⟨⟨_, _, Z.b_Opposite_leaves, f_Opposite_leaves Z.F_Opposite_leaves B Z.es G⟩⟩
  have z_Opposite_depth : FnAt K ct P w mg base (n + 4) Z.a_Opposite_depth (Pg.step C "Opposite.depth") := by
    rw [show Pg.step C "Opposite.depth" = Mi.runF 1 1 (b_Opposite_depth C) by simp [Pg.step]]
    exact ⟨⟨_, _, Z.b_Opposite_depth, f_Opposite_depth Z.F_Opposite_depth B Z.es G⟩⟩
  have z_Chain___init__ : FnAt K ct P w mg base (n + 4) Z.a_Chain___init__ (Pg.step C "Chain.__init__") := by
    rw [show Pg.step C "Chain.__init__" = Mi.runF 2 2 (b_Chain___init__ C) by simp [Pg.step]]
    exact ⟨⟨_, _, Z.b_Chain___init__, f_Chain___init__ Z.F_Chain___init__ B Z.es G⟩⟩
  have z_Chain_mentions : FnAt K ct P w mg base (n + 4) Z.a_Chain_mentions (Pg.step C "Chain.mentions") := by
    rw [show Pg.step C "Chain.mentions" = Mi.runF 1 3 (b_Chain_mentions C) by simp [Pg.step]]
    exact ⟨⟨_, _, Z.b_Chain_mentions, f_Chain_mentions Z.F_Chain_mentions B Z.es G⟩⟩
  have z_Chain_leaves : FnAt K ct P w mg base (n + 4) Z.a_Chain_leaves (Pg.step C "Chain.leaves") := by
    rw [show Pg.step C "Chain.leaves" = Mi.runF 1 2 (b_Chain_leaves C) by simp [Pg.step]]
    exact ⟨⟨_, _, Z.b_Chain_leaves, f_Chain_leaves Z.F_Chain_leaves B Z.es G⟩⟩
  have z_Chain_depth : FnAt K ct P w mg base (n + 4) Z.a_Chain_depth (Pg.step C "Chain.depth") := by
    rw [show Pg.step C "Chain.depth" = Mi.runF 1 2 (b_Chain_depth C) by simp [Pg.step]]
    exact ⟨⟨_, _, Z.b_Chain_depth, f_Chain_depth Z.F_Chain_depth B Z.es G⟩⟩
  have z_AllOf_holds : FnAt K ct P w mg base (n + 4) Z.a_AllOf_holds (Pg.step C "AllOf.holds") := by
    rw [show Pg.step C "AllOf.holds" = Mi.runF 2 3 (b_AllOf_holds C) by simp [Pg.step]]
    exact ⟨⟨_, _, Z.b_AllOf_holds, f_AllOf_holds Z.F_AllOf_holds B Z.es G⟩⟩
  have z_OneOf_holds : FnAt K ct P w mg base (n + 4) Z.a_OneOf_holds (Pg.step C "OneOf.holds") := by
    rw [show Pg.step C "OneOf.holds" = Mi.runF 2 3 (b_OneOf_holds C) by simp [Pg.step]]
    exact ⟨⟨_, _, Z.b_OneOf_holds, f_OneOf_holds Z.F_OneOf_holds B Z.es G⟩⟩
  have z__law_cell_at : FnAt K ct P w mg base (n + 4) Z.a__law_cell_at (Pg.step C "_law_cell_at") := by
    rw [show Pg.step C "_law_cell_at" = Mi.runF 2 2 (b__law_cell_at C) by simp [Pg.step]]
    exact ⟨⟨_, _, Z.b__law_cell_at, f__law_cell_at Z.F__law_cell_at B Z.es G⟩⟩
  have z__law_whole : FnAt K ct P w mg base (n + 4) Z.a__law_whole (Pg.step C "_law_whole") := by
    rw [show Pg.step C "_law_whole" = Mi.runF 1 1 (b__law_whole C) by simp [Pg.step]]
    exact ⟨⟨_, _, Z.b__law_whole, f__law_whole Z.F__law_whole B Z.es G⟩⟩
  have z__law_mixed : FnAt K ct P w mg base (n + 4) Z.a__law_mixed (Pg.step C "_law_mixed") := by
    rw [show Pg.step C "_law_mixed" = Mi.runF 2 3 (b__law_mixed C) by simp [Pg.step]]
    exact ⟨⟨_, _, Z.b__law_mixed, f__law_mixed Z.F__law_mixed B Z.es G⟩⟩
  have z__law_flat : FnAt K ct P w mg base (n + 4) Z.a__law_flat (Pg.step C "_law_flat") := by
    rw [show Pg.step C "_law_flat" = Mi.runF 2 3 (b__law_flat C) by simp [Pg.step]]
    exact ⟨⟨_, _, Z.b__law_flat, f__law_flat Z.F__law_flat B Z.es G⟩⟩
  have z__law_name_of : FnAt K ct P w mg base (n + 4) Z.a__law_name_of (Pg.step C "_law_name_of") := by
    rw [show Pg.step C "_law_name_of" = Mi.runF 1 1 (b__law_name_of C) by simp [Pg.step]]
    exact ⟨⟨_, _, Z.b__law_name_of, f__law_name_of Z.F__law_name_of B Z.es G⟩⟩
  have z__law_names : FnAt K ct P w mg base (n + 4) Z.a__law_names (Pg.step C "_law_names") := by
    rw [show Pg.step C "_law_names" = Mi.runF 2 9 (b__law_names C) by simp [Pg.step]]
    exact ⟨⟨_, _, Z.b__law_names, f__law_names Z.F__law_names B Z.es G⟩⟩
  have z__law_leaf : FnAt K ct P w mg base (n + 4) Z.a__law_leaf (Pg.step C "_law_leaf") := by
    rw [show Pg.step C "_law_leaf" = Mi.runF 3 8 (b__law_leaf C) by simp [Pg.step]]
    exact ⟨⟨_, _, Z.b__law_leaf, f__law_leaf Z.F__law_leaf B Z.es G⟩⟩
  have z__law_built : FnAt K ct P w mg base (n + 4) Z.a__law_built (Pg.step C "_law_built") := by
    rw [show Pg.step C "_law_built" = Mi.runF 2 13 (b__law_built C) by simp [Pg.step]]
    exact ⟨⟨_, _, Z.b__law_built, f__law_built Z.F__law_built B Z.es G⟩⟩
  have z__law_made : FnAt K ct P w mg base (n + 4) Z.a__law_made (Pg.step C "_law_made") := by
    rw [show Pg.step C "_law_made" = Mi.runF 1 3 (b__law_made C) by simp [Pg.step]]
    exact ⟨⟨_, _, Z.b__law_made, f__law_made Z.F__law_made B Z.es G⟩⟩
  have z__law_holds : FnAt K ct P w mg base (n + 4) Z.a__law_holds (Pg.step C "_law_holds") := by
    rw [show Pg.step C "_law_holds" = Mi.runF 2 3 (b__law_holds C) by simp [Pg.step]]
    exact ⟨⟨_, _, Z.b__law_holds, f__law_holds Z.F__law_holds B Z.es G⟩⟩
  have z__law_numbers_in : FnAt K ct P w mg base (n + 4) Z.a__law_numbers_in (Pg.step C "_law_numbers_in") := by
    rw [show Pg.step C "_law_numbers_in" = Mi.runF 1 3 (b__law_numbers_in C) by simp [Pg.step]]
    exact ⟨⟨_, _, Z.b__law_numbers_in, f__law_numbers_in Z.F__law_numbers_in B Z.es G⟩⟩
  have z__law_measure : FnAt K ct P w mg base (n + 4) Z.a__law_measure (Pg.step C "_law_measure") := by
    rw [show Pg.step C "_law_measure" = Mi.runF 1 6 (b__law_measure C) by simp [Pg.step]]
    exact ⟨⟨_, _, Z.b__law_measure, f__law_measure Z.F__law_measure B Z.es G⟩⟩
  have z__law_table : FnAt K ct P w mg base (n + 4) Z.a__law_table (Pg.step C "_law_table") := by
    rw [show Pg.step C "_law_table" = Mi.runF 3 10 (b__law_table C) by simp [Pg.step]]
    exact ⟨⟨_, _, Z.b__law_table, f__law_table Z.F__law_table B Z.es G⟩⟩
  have z__law_counted : FnAt K ct P w mg base (n + 4) Z.a__law_counted (Pg.step C "_law_counted") := by
    rw [show Pg.step C "_law_counted" = Mi.runF 2 6 (b__law_counted C) by simp [Pg.step]]
    exact ⟨⟨_, _, Z.b__law_counted, f__law_counted Z.F__law_counted B Z.es G⟩⟩
  have z__law_summed : FnAt K ct P w mg base (n + 4) Z.a__law_summed (Pg.step C "_law_summed") := by
    rw [show Pg.step C "_law_summed" = Mi.runF 4 7 (b__law_summed C) by simp [Pg.step]]
    exact ⟨⟨_, _, Z.b__law_summed, f__law_summed Z.F__law_summed B Z.es G⟩⟩
  have z_law : FnAt K ct P w mg base (n + 4) Z.a_law (Pg.step C "law") := by
    rw [show Pg.step C "law" = Mi.runF 1 11 (b_law C) by simp [Pg.step]]
    exact ⟨⟨_, _, Z.b_law, f_law Z.F_law B Z.es G⟩⟩
  refine ⟨?_, ?_, ?_, ?_, ?_⟩
  · exact (all_cons ⟨Z.a_plain_rows, Z.g_plain_rows, Z.F_plain_rows.kp, z_plain_rows⟩
      (all_cons ⟨Z.a_plain_total, Z.g_plain_total, Z.F_plain_total.kp, z_plain_total⟩
      (all_cons ⟨Z.a_plain_least, Z.g_plain_least, Z.F_plain_least.kp, z_plain_least⟩
      (all_cons ⟨Z.a__law_cell_at, Z.g__law_cell_at, Z.F__law_cell_at.kp, z__law_cell_at⟩
      (all_cons ⟨Z.a__law_whole, Z.g__law_whole, Z.F__law_whole.kp, z__law_whole⟩
      (all_cons ⟨Z.a__law_mixed, Z.g__law_mixed, Z.F__law_mixed.kp, z__law_mixed⟩
      (all_cons ⟨Z.a__law_flat, Z.g__law_flat, Z.F__law_flat.kp, z__law_flat⟩
      (all_cons ⟨Z.a__law_name_of, Z.g__law_name_of, Z.F__law_name_of.kp, z__law_name_of⟩
      (all_cons ⟨Z.a__law_names, Z.g__law_names, Z.F__law_names.kp, z__law_names⟩
      (all_cons ⟨Z.a__law_leaf, Z.g__law_leaf, Z.F__law_leaf.kp, z__law_leaf⟩
      (all_cons ⟨Z.a__law_built, Z.g__law_built, Z.F__law_built.kp, z__law_built⟩
      (all_cons ⟨Z.a__law_made, Z.g__law_made, Z.F__law_made.kp, z__law_made⟩
      (all_cons ⟨Z.a__law_holds, Z.g__law_holds, Z.F__law_holds.kp, z__law_holds⟩
      (all_cons ⟨Z.a__law_numbers_in, Z.g__law_numbers_in, Z.F__law_numbers_in.kp, z__law_numbers_in⟩
      (all_cons ⟨Z.a__law_measure, Z.g__law_measure, Z.F__law_measure.kp, z__law_measure⟩
      (all_cons ⟨Z.a__law_table, Z.g__law_table, Z.F__law_table.kp, z__law_table⟩
      (all_cons ⟨Z.a__law_counted, Z.g__law_counted, Z.F__law_counted.kp, z__law_counted⟩
      (all_cons ⟨Z.a__law_summed, Z.g__law_summed, Z.F__law_summed.kp, z__law_summed⟩
      (all_cons ⟨Z.a_law, Z.g_law, Z.F_law.kp, z_law⟩
      all_nil)))))))))))))))))))
  · exact mt_all (all_cons ⟨Z.C_Question, Z.a_Question_holds, Z.t_Question, Z.cl_Question, Z.m_Question_holds, z_Question_holds⟩
      (all_cons ⟨Z.C_Question, Z.a_Question_mentions, Z.t_Question, Z.cl_Question, Z.m_Question_mentions, z_Question_mentions⟩
      (all_cons ⟨Z.C_Question, Z.a_Question_leaves, Z.t_Question, Z.cl_Question, Z.m_Question_leaves, z_Question_leaves⟩
      (all_cons ⟨Z.C_Question, Z.a_Question_depth, Z.t_Question, Z.cl_Question, Z.m_Question_depth, z_Question_depth⟩
      (all_cons ⟨Z.C_Every, Z.a_Every_holds, Z.t_Every, Z.cl_Every, Z.m_Every_holds, z_Every_holds⟩
      (all_cons ⟨Z.C_Every, Z.a_Question_mentions, Z.t_Every, Z.cl_Every, Z.m_Every_mentions, z_Question_mentions⟩
      (all_cons ⟨Z.C_Every, Z.a_Question_leaves, Z.t_Every, Z.cl_Every, Z.m_Every_leaves, z_Question_leaves⟩
      (all_cons ⟨Z.C_Every, Z.a_Question_depth, Z.t_Every, Z.cl_Every, Z.m_Every_depth, z_Question_depth⟩
      (all_cons ⟨Z.C_Nobody, Z.a_Question_holds, Z.t_Nobody, Z.cl_Nobody, Z.m_Nobody_holds, z_Question_holds⟩
      (all_cons ⟨Z.C_Nobody, Z.a_Question_mentions, Z.t_Nobody, Z.cl_Nobody, Z.m_Nobody_mentions, z_Question_mentions⟩
      (all_cons ⟨Z.C_Nobody, Z.a_Question_leaves, Z.t_Nobody, Z.cl_Nobody, Z.m_Nobody_leaves, z_Question_leaves⟩
      (all_cons ⟨Z.C_Nobody, Z.a_Question_depth, Z.t_Nobody, Z.cl_Nobody, Z.m_Nobody_depth, z_Question_depth⟩
      (all_cons ⟨Z.C_Within, Z.a_Within_holds, Z.t_Within, Z.cl_Within, Z.m_Within_holds, z_Within_holds⟩
      (all_cons ⟨Z.C_Within, Z.a_Within_mentions, Z.t_Within, Z.cl_Within, Z.m_Within_mentions, z_Within_mentions⟩
      (all_cons ⟨Z.C_Within, Z.a_Question_leaves, Z.t_Within, Z.cl_Within, Z.m_Within_leaves, z_Question_leaves⟩
      (all_cons ⟨Z.C_Within, Z.a_Question_depth, Z.t_Within, Z.cl_Within, Z.m_Within_depth, z_Question_depth⟩
      (all_cons ⟨Z.C_Opposite, Z.a_Opposite_holds, Z.t_Opposite, Z.cl_Opposite, Z.m_Opposite_holds, z_Opposite_holds⟩
      (all_cons ⟨Z.C_Opposite, Z.a_Opposite_mentions, Z.t_Opposite, Z.cl_Opposite, Z.m_Opposite_mentions, z_Opposite_mentions⟩
      (all_cons ⟨Z.C_Opposite, Z.a_Opposite_leaves, Z.t_Opposite, Z.cl_Opposite, Z.m_Opposite_leaves, z_Opposite_leaves⟩
      (all_cons ⟨Z.C_Opposite, Z.a_Opposite_depth, Z.t_Opposite, Z.cl_Opposite, Z.m_Opposite_depth, z_Opposite_depth⟩
      (all_cons ⟨Z.C_Chain, Z.a_Chain_mentions, Z.t_Chain, Z.cl_Chain, Z.m_Chain_mentions, z_Chain_mentions⟩
      (all_cons ⟨Z.C_Chain, Z.a_Chain_leaves, Z.t_Chain, Z.cl_Chain, Z.m_Chain_leaves, z_Chain_leaves⟩
      (all_cons ⟨Z.C_Chain, Z.a_Chain_depth, Z.t_Chain, Z.cl_Chain, Z.m_Chain_depth, z_Chain_depth⟩
      (all_cons ⟨Z.C_Chain, Z.a_Question_holds, Z.t_Chain, Z.cl_Chain, Z.m_Chain_holds, z_Question_holds⟩
      (all_cons ⟨Z.C_AllOf, Z.a_AllOf_holds, Z.t_AllOf, Z.cl_AllOf, Z.m_AllOf_holds, z_AllOf_holds⟩
      (all_cons ⟨Z.C_AllOf, Z.a_Chain_mentions, Z.t_AllOf, Z.cl_AllOf, Z.m_AllOf_mentions, z_Chain_mentions⟩
      (all_cons ⟨Z.C_AllOf, Z.a_Chain_leaves, Z.t_AllOf, Z.cl_AllOf, Z.m_AllOf_leaves, z_Chain_leaves⟩
      (all_cons ⟨Z.C_AllOf, Z.a_Chain_depth, Z.t_AllOf, Z.cl_AllOf, Z.m_AllOf_depth, z_Chain_depth⟩
      (all_cons ⟨Z.C_OneOf, Z.a_OneOf_holds, Z.t_OneOf, Z.cl_OneOf, Z.m_OneOf_holds, z_OneOf_holds⟩
      (all_cons ⟨Z.C_OneOf, Z.a_Chain_mentions, Z.t_OneOf, Z.cl_OneOf, Z.m_OneOf_mentions, z_Chain_mentions⟩
      (all_cons ⟨Z.C_OneOf, Z.a_Chain_leaves, Z.t_OneOf, Z.cl_OneOf, Z.m_OneOf_leaves, z_Chain_leaves⟩
      (all_cons ⟨Z.C_OneOf, Z.a_Chain_depth, Z.t_OneOf, Z.cl_OneOf, Z.m_OneOf_depth, z_Chain_depth⟩
      all_nil))))))))))))))))))))))))))))))))
  · exact in_all (all_cons (fun q => absurd rfl q)
      (all_cons (fun q => absurd rfl q)
      (all_cons (fun _ => ⟨Z.C_Within, Z.a_Within___init__, Z.t_Within, Z.gc_Within, Z.mk_Within, z_Within___init__⟩)
      (all_cons (fun _ => ⟨Z.C_Opposite, Z.a_Opposite___init__, Z.t_Opposite, Z.gc_Opposite, Z.mk_Opposite, z_Opposite___init__⟩)
      (all_cons (fun _ => ⟨Z.C_AllOf, Z.a_Chain___init__, Z.t_AllOf, Z.gc_AllOf, Z.mk_AllOf, z_Chain___init__⟩)
      (all_cons (fun _ => ⟨Z.C_OneOf, Z.a_Chain___init__, Z.t_OneOf, Z.gc_OneOf, Z.mk_OneOf, z_Chain___init__⟩)
      all_nil))))))
  · exact in0_all (all_cons (fun _ => ⟨Z.C_Every, Z.t_Every, Z.gc_Every, Z.mk_Every⟩)
      (all_cons (fun _ => ⟨Z.C_Nobody, Z.t_Nobody, Z.gc_Nobody, Z.mk_Nobody⟩)
      (all_cons (fun q => absurd q (by decide))
      (all_cons (fun q => absurd q (by decide))
      (all_cons (fun q => absurd q (by decide))
      (all_cons (fun q => absurd q (by decide))
      all_nil))))))
  · exact fl_all (all_cons ⟨Z.C_Within, Z.t_Within, Z.cl_Within, Z.n_Within_name⟩
      (all_cons ⟨Z.C_Within, Z.t_Within, Z.cl_Within, Z.n_Within_low⟩
      (all_cons ⟨Z.C_Within, Z.t_Within, Z.cl_Within, Z.n_Within_high⟩
      (all_cons ⟨Z.C_Opposite, Z.t_Opposite, Z.cl_Opposite, Z.n_Opposite_one⟩
      (all_cons ⟨Z.C_Chain, Z.t_Chain, Z.cl_Chain, Z.n_Chain_parts⟩
      (all_cons ⟨Z.C_AllOf, Z.t_AllOf, Z.cl_AllOf, Z.n_AllOf_parts⟩
      (all_cons ⟨Z.C_OneOf, Z.t_OneOf, Z.cl_OneOf, Z.n_OneOf_parts⟩
      all_nil)))))))
theorem pf_0 (Z : Fs K mg ct) : PF K ct P w mg base 2 (fun _ _ _ => .bad) T fns := by
  refine ⟨?_, ?_, ?_, ?_, ?_⟩
  · exact (all_cons ⟨Z.a_plain_rows, Z.g_plain_rows, Z.F_plain_rows.kp, ⟨_, _, Z.b_plain_rows, fn_bad⟩⟩
      (all_cons ⟨Z.a_plain_total, Z.g_plain_total, Z.F_plain_total.kp, ⟨_, _, Z.b_plain_total, fn_bad⟩⟩
      (all_cons ⟨Z.a_plain_least, Z.g_plain_least, Z.F_plain_least.kp, ⟨_, _, Z.b_plain_least, fn_bad⟩⟩
      (all_cons ⟨Z.a__law_cell_at, Z.g__law_cell_at, Z.F__law_cell_at.kp, ⟨_, _, Z.b__law_cell_at, fn_bad⟩⟩
      (all_cons ⟨Z.a__law_whole, Z.g__law_whole, Z.F__law_whole.kp, ⟨_, _, Z.b__law_whole, fn_bad⟩⟩
      (all_cons ⟨Z.a__law_mixed, Z.g__law_mixed, Z.F__law_mixed.kp, ⟨_, _, Z.b__law_mixed, fn_bad⟩⟩
      (all_cons ⟨Z.a__law_flat, Z.g__law_flat, Z.F__law_flat.kp, ⟨_, _, Z.b__law_flat, fn_bad⟩⟩
      (all_cons ⟨Z.a__law_name_of, Z.g__law_name_of, Z.F__law_name_of.kp, ⟨_, _, Z.b__law_name_of, fn_bad⟩⟩
      (all_cons ⟨Z.a__law_names, Z.g__law_names, Z.F__law_names.kp, ⟨_, _, Z.b__law_names, fn_bad⟩⟩
      (all_cons ⟨Z.a__law_leaf, Z.g__law_leaf, Z.F__law_leaf.kp, ⟨_, _, Z.b__law_leaf, fn_bad⟩⟩
      (all_cons ⟨Z.a__law_built, Z.g__law_built, Z.F__law_built.kp, ⟨_, _, Z.b__law_built, fn_bad⟩⟩
      (all_cons ⟨Z.a__law_made, Z.g__law_made, Z.F__law_made.kp, ⟨_, _, Z.b__law_made, fn_bad⟩⟩
      (all_cons ⟨Z.a__law_holds, Z.g__law_holds, Z.F__law_holds.kp, ⟨_, _, Z.b__law_holds, fn_bad⟩⟩
      (all_cons ⟨Z.a__law_numbers_in, Z.g__law_numbers_in, Z.F__law_numbers_in.kp, ⟨_, _, Z.b__law_numbers_in, fn_bad⟩⟩
      (all_cons ⟨Z.a__law_measure, Z.g__law_measure, Z.F__law_measure.kp, ⟨_, _, Z.b__law_measure, fn_bad⟩⟩
      (all_cons ⟨Z.a__law_table, Z.g__law_table, Z.F__law_table.kp, ⟨_, _, Z.b__law_table, fn_bad⟩⟩
      (all_cons ⟨Z.a__law_counted, Z.g__law_counted, Z.F__law_counted.kp, ⟨_, _, Z.b__law_counted, fn_bad⟩⟩
      (all_cons ⟨Z.a__law_summed, Z.g__law_summed, Z.F__law_summed.kp, ⟨_, _, Z.b__law_summed, fn_bad⟩⟩
      (all_cons ⟨Z.a_law, Z.g_law, Z.F_law.kp, ⟨_, _, Z.b_law, fn_bad⟩⟩
      all_nil)))))))))))))))))))
  · exact mt_all (all_cons ⟨Z.C_Question, Z.a_Question_holds, Z.t_Question, Z.cl_Question, Z.m_Question_holds, ⟨_, _, Z.b_Question_holds, fn_bad⟩⟩
      (all_cons ⟨Z.C_Question, Z.a_Question_mentions, Z.t_Question, Z.cl_Question, Z.m_Question_mentions, ⟨_, _, Z.b_Question_mentions, fn_bad⟩⟩
      (all_cons ⟨Z.C_Question, Z.a_Question_leaves, Z.t_Question, Z.cl_Question, Z.m_Question_leaves, ⟨_, _, Z.b_Question_leaves, fn_bad⟩⟩
      (all_cons ⟨Z.C_Question, Z.a_Question_depth, Z.t_Question, Z.cl_Question, Z.m_Question_depth, ⟨_, _, Z.b_Question_depth, fn_bad⟩⟩
      (all_cons ⟨Z.C_Every, Z.a_Every_holds, Z.t_Every, Z.cl_Every, Z.m_Every_holds, ⟨_, _, Z.b_Every_holds, fn_bad⟩⟩
      (all_cons ⟨Z.C_Every, Z.a_Question_mentions, Z.t_Every, Z.cl_Every, Z.m_Every_mentions, ⟨_, _, Z.b_Question_mentions, fn_bad⟩⟩
      (all_cons ⟨Z.C_Every, Z.a_Question_leaves, Z.t_Every, Z.cl_Every, Z.m_Every_leaves, ⟨_, _, Z.b_Question_leaves, fn_bad⟩⟩
      (all_cons ⟨Z.C_Every, Z.a_Question_depth, Z.t_Every, Z.cl_Every, Z.m_Every_depth, ⟨_, _, Z.b_Question_depth, fn_bad⟩⟩
      (all_cons ⟨Z.C_Nobody, Z.a_Question_holds, Z.t_Nobody, Z.cl_Nobody, Z.m_Nobody_holds, ⟨_, _, Z.b_Question_holds, fn_bad⟩⟩
      (all_cons ⟨Z.C_Nobody, Z.a_Question_mentions, Z.t_Nobody, Z.cl_Nobody, Z.m_Nobody_mentions, ⟨_, _, Z.b_Question_mentions, fn_bad⟩⟩
      (all_cons ⟨Z.C_Nobody, Z.a_Question_leaves, Z.t_Nobody, Z.cl_Nobody, Z.m_Nobody_leaves, ⟨_, _, Z.b_Question_leaves, fn_bad⟩⟩
      (all_cons ⟨Z.C_Nobody, Z.a_Question_depth, Z.t_Nobody, Z.cl_Nobody, Z.m_Nobody_depth, ⟨_, _, Z.b_Question_depth, fn_bad⟩⟩
      (all_cons ⟨Z.C_Within, Z.a_Within_holds, Z.t_Within, Z.cl_Within, Z.m_Within_holds, ⟨_, _, Z.b_Within_holds, fn_bad⟩⟩
      (all_cons ⟨Z.C_Within, Z.a_Within_mentions, Z.t_Within, Z.cl_Within, Z.m_Within_mentions, ⟨_, _, Z.b_Within_mentions, fn_bad⟩⟩
      (all_cons ⟨Z.C_Within, Z.a_Question_leaves, Z.t_Within, Z.cl_Within, Z.m_Within_leaves, ⟨_, _, Z.b_Question_leaves, fn_bad⟩⟩
      (all_cons ⟨Z.C_Within, Z.a_Question_depth, Z.t_Within, Z.cl_Within, Z.m_Within_depth, ⟨_, _, Z.b_Question_depth, fn_bad⟩⟩
      (all_cons ⟨Z.C_Opposite, Z.a_Opposite_holds, Z.t_Opposite, Z.cl_Opposite, Z.m_Opposite_holds, ⟨_, _, Z.b_Opposite_holds, fn_bad⟩⟩
      (all_cons ⟨Z.C_Opposite, Z.a_Opposite_mentions, Z.t_Opposite, Z.cl_Opposite, Z.m_Opposite_mentions, ⟨_, _, Z.b_Opposite_mentions, fn_bad⟩⟩
      (all_cons ⟨Z.C_Opposite, Z.a_Opposite_leaves, Z.t_Opposite, Z.cl_Opposite, Z.m_Opposite_leaves, ⟨_, _, Z.b_Opposite_leaves, fn_bad⟩⟩
      (all_cons ⟨Z.C_Opposite, Z.a_Opposite_depth, Z.t_Opposite, Z.cl_Opposite, Z.m_Opposite_depth, ⟨_, _, Z.b_Opposite_depth, fn_bad⟩⟩
      (all_cons ⟨Z.C_Chain, Z.a_Chain_mentions, Z.t_Chain, Z.cl_Chain, Z.m_Chain_mentions, ⟨_, _, Z.b_Chain_mentions, fn_bad⟩⟩
      (all_cons ⟨Z.C_Chain, Z.a_Chain_leaves, Z.t_Chain, Z.cl_Chain, Z.m_Chain_leaves, ⟨_, _, Z.b_Chain_leaves, fn_bad⟩⟩
      (all_cons ⟨Z.C_Chain, Z.a_Chain_depth, Z.t_Chain, Z.cl_Chain, Z.m_Chain_depth, ⟨_, _, Z.b_Chain_depth, fn_bad⟩⟩
      (all_cons ⟨Z.C_Chain, Z.a_Question_holds, Z.t_Chain, Z.cl_Chain, Z.m_Chain_holds, ⟨_, _, Z.b_Question_holds, fn_bad⟩⟩
      (all_cons ⟨Z.C_AllOf, Z.a_AllOf_holds, Z.t_AllOf, Z.cl_AllOf, Z.m_AllOf_holds, ⟨_, _, Z.b_AllOf_holds, fn_bad⟩⟩
      (all_cons ⟨Z.C_AllOf, Z.a_Chain_mentions, Z.t_AllOf, Z.cl_AllOf, Z.m_AllOf_mentions, ⟨_, _, Z.b_Chain_mentions, fn_bad⟩⟩
      (all_cons ⟨Z.C_AllOf, Z.a_Chain_leaves, Z.t_AllOf, Z.cl_AllOf, Z.m_AllOf_leaves, ⟨_, _, Z.b_Chain_leaves, fn_bad⟩⟩
      (all_cons ⟨Z.C_AllOf, Z.a_Chain_depth, Z.t_AllOf, Z.cl_AllOf, Z.m_AllOf_depth, ⟨_, _, Z.b_Chain_depth, fn_bad⟩⟩
      (all_cons ⟨Z.C_OneOf, Z.a_OneOf_holds, Z.t_OneOf, Z.cl_OneOf, Z.m_OneOf_holds, ⟨_, _, Z.b_OneOf_holds, fn_bad⟩⟩
      (all_cons ⟨Z.C_OneOf, Z.a_Chain_mentions, Z.t_OneOf, Z.cl_OneOf, Z.m_OneOf_mentions, ⟨_, _, Z.b_Chain_mentions, fn_bad⟩⟩
      (all_cons ⟨Z.C_OneOf, Z.a_Chain_leaves, Z.t_OneOf, Z.cl_OneOf, Z.m_OneOf_leaves, ⟨_, _, Z.b_Chain_leaves, fn_bad⟩⟩
      (all_cons ⟨Z.C_OneOf, Z.a_Chain_depth, Z.t_OneOf, Z.cl_OneOf, Z.m_OneOf_depth, ⟨_, _, Z.b_Chain_depth, fn_bad⟩⟩
      all_nil))))))))))))))))))))))))))))))))
  · exact in_all (all_cons (fun q => absurd rfl q)
      (all_cons (fun q => absurd rfl q)
      (all_cons (fun _ => ⟨Z.C_Within, Z.a_Within___init__, Z.t_Within, Z.gc_Within, Z.mk_Within, ⟨_, _, Z.b_Within___init__, fn_bad⟩⟩)
      (all_cons (fun _ => ⟨Z.C_Opposite, Z.a_Opposite___init__, Z.t_Opposite, Z.gc_Opposite, Z.mk_Opposite, ⟨_, _, Z.b_Opposite___init__, fn_bad⟩⟩)
      (all_cons (fun _ => ⟨Z.C_AllOf, Z.a_Chain___init__, Z.t_AllOf, Z.gc_AllOf, Z.mk_AllOf, ⟨_, _, Z.b_Chain___init__, fn_bad⟩⟩)
      (all_cons (fun _ => ⟨Z.C_OneOf, Z.a_Chain___init__, Z.t_OneOf, Z.gc_OneOf, Z.mk_OneOf, ⟨_, _, Z.b_Chain___init__, fn_bad⟩⟩)
      all_nil))))))
  · exact in0_all (all_cons (fun _ => ⟨Z.C_Every, Z.t_Every, Z.gc_Every, Z.mk_Every⟩)
      (all_cons (fun _ => ⟨Z.C_Nobody, Z.t_Nobody, Z.gc_Nobody, Z.mk_Nobody⟩)
      (all_cons (fun q => absurd q (by decide))
      (all_cons (fun q => absurd q (by decide))
      (all_cons (fun q => absurd q (by decide))
      (all_cons (fun q => absurd q (by decide))
      all_nil))))))
  · exact fl_all (all_cons ⟨Z.C_Within, Z.t_Within, Z.cl_Within, Z.n_Within_name⟩
      (all_cons ⟨Z.C_Within, Z.t_Within, Z.cl_Within, Z.n_Within_low⟩
      (all_cons ⟨Z.C_Within, Z.t_Within, Z.cl_Within, Z.n_Within_high⟩
      (all_cons ⟨Z.C_Opposite, Z.t_Opposite, Z.cl_Opposite, Z.n_Opposite_one⟩
      (all_cons ⟨Z.C_Chain, Z.t_Chain, Z.cl_Chain, Z.n_Chain_parts⟩
      (all_cons ⟨Z.C_AllOf, Z.t_AllOf, Z.cl_AllOf, Z.n_AllOf_parts⟩
      (all_cons ⟨Z.C_OneOf, Z.t_OneOf, Z.cl_OneOf, Z.n_OneOf_parts⟩
      all_nil)))))))
theorem pf (B : Bl mg) (Z : Fs K mg ct) : ∀ j, PF K ct P w mg base (2 * j + 2) (call j) T fns
  | 0 => pf_0 Z
  | j + 1 => pf_step B Z (pf B Z j)
end
def spLaw (K : PySem.W.Frag) : Sp := fun vs H Q _ => ∃ (a : Addr) (ns : List Int), vs = [.ref a] ∧ SqL K H a (ns.map V.int) ∧ ns.length ≤ 63 ∧ ∀ H', Q (.bl true) H'
theorem all_mk {l : PySem.W.OpenLaw} {w : World} {K : PySem.W.Frag} {h : Heap} {mg : Str → Option Value} {fa : Addr} (law : ∀ ns : List Int, ns.length ≤ 63 → ∃ S, call 114 "law" [.scr (ns.map D.int)] [] = .ok (.bl true) S) (X : K.In h) (G : h.Ns mainGlobals mg) (hfa : mg "law" = some (.ref fa))
    {C_Question C_Every C_Nobody C_Within C_Opposite C_Chain C_AllOf C_OneOf a_plain_rows a_plain_total a_plain_least a_Question_holds a_Question_mentions a_Question_leaves a_Question_depth a_Every_holds a_Within___init__ a_Within_holds a_Within_mentions a_Opposite___init__ a_Opposite_holds a_Opposite_mentions a_Opposite_leaves a_Opposite_depth a_Chain___init__ a_Chain_mentions a_Chain_leaves a_Chain_depth a_AllOf_holds a_OneOf_holds a__law_cell_at a__law_whole a__law_mixed a__law_flat a__law_name_of a__law_names a__law_leaf a__law_built a__law_made a__law_holds a__law_numbers_in a__law_measure a__law_table a__law_counted a__law_summed a_law : Addr} {od_plain_rows an_plain_rows od_plain_total an_plain_total od_plain_least an_plain_least od_Question_holds an_Question_holds od_Question_mentions an_Question_mentions od_Question_leaves an_Question_leaves od_Question_depth an_Question_depth od_Every_holds an_Every_holds od_Within___init__ an_Within___init__ od_Within_holds an_Within_holds od_Within_mentions an_Within_mentions od_Opposite___init__ an_Opposite___init__ od_Opposite_holds an_Opposite_holds od_Opposite_mentions an_Opposite_mentions od_Opposite_leaves an_Opposite_leaves od_Opposite_depth an_Opposite_depth od_Chain___init__ an_Chain___init__ od_Chain_mentions an_Chain_mentions od_Chain_leaves an_Chain_leaves od_Chain_depth an_Chain_depth od_AllOf_holds an_AllOf_holds od_OneOf_holds an_OneOf_holds od__law_cell_at an__law_cell_at od__law_whole an__law_whole od__law_mixed an__law_mixed od__law_flat an__law_flat od__law_name_of an__law_name_of od__law_names an__law_names od__law_leaf an__law_leaf od__law_built an__law_built od__law_made an__law_made od__law_holds an__law_holds od__law_numbers_in an__law_numbers_in od__law_measure an__law_measure od__law_table an__law_table od__law_counted an__law_counted od__law_summed an__law_summed od_law an_law : Option Addr} {sl_plain_rows sl_plain_total sl_plain_least sl_Question_holds sl_Question_mentions sl_Question_leaves sl_Question_depth sl_Every_holds sl_Within___init__ sl_Within_holds sl_Within_mentions sl_Opposite___init__ sl_Opposite_holds sl_Opposite_mentions sl_Opposite_leaves sl_Opposite_depth sl_Chain___init__ sl_Chain_mentions sl_Chain_leaves sl_Chain_depth sl_AllOf_holds sl_OneOf_holds sl__law_cell_at sl__law_whole sl__law_mixed sl__law_flat sl__law_name_of sl__law_names sl__law_leaf sl__law_built sl__law_made sl__law_holds sl__law_numbers_in sl__law_measure sl__law_table sl__law_counted sl__law_summed sl_law : Array (Option Value)} {oc_plain_rows kV_plain_rows dc_plain_rows pm_plain_rows cd_plain_rows ty_plain_rows oc_plain_total kV_plain_total dc_plain_total pm_plain_total cd_plain_total ty_plain_total oc_plain_least kV_plain_least dc_plain_least pm_plain_least cd_plain_least ty_plain_least oc_Question_holds kV_Question_holds dc_Question_holds pm_Question_holds cd_Question_holds ty_Question_holds oc_Question_mentions kV_Question_mentions dc_Question_mentions pm_Question_mentions cd_Question_mentions ty_Question_mentions oc_Question_leaves kV_Question_leaves dc_Question_leaves pm_Question_leaves cd_Question_leaves ty_Question_leaves oc_Question_depth kV_Question_depth dc_Question_depth pm_Question_depth cd_Question_depth ty_Question_depth oc_Every_holds kV_Every_holds dc_Every_holds pm_Every_holds cd_Every_holds ty_Every_holds oc_Within___init__ kV_Within___init__ dc_Within___init__ pm_Within___init__ cd_Within___init__ ty_Within___init__ oc_Within_holds kV_Within_holds dc_Within_holds pm_Within_holds cd_Within_holds ty_Within_holds oc_Within_mentions kV_Within_mentions dc_Within_mentions pm_Within_mentions cd_Within_mentions ty_Within_mentions oc_Opposite___init__ kV_Opposite___init__ dc_Opposite___init__ pm_Opposite___init__ cd_Opposite___init__ ty_Opposite___init__ oc_Opposite_holds kV_Opposite_holds dc_Opposite_holds pm_Opposite_holds cd_Opposite_holds ty_Opposite_holds oc_Opposite_mentions kV_Opposite_mentions dc_Opposite_mentions pm_Opposite_mentions cd_Opposite_mentions ty_Opposite_mentions oc_Opposite_leaves kV_Opposite_leaves dc_Opposite_leaves pm_Opposite_leaves cd_Opposite_leaves ty_Opposite_leaves oc_Opposite_depth kV_Opposite_depth dc_Opposite_depth pm_Opposite_depth cd_Opposite_depth ty_Opposite_depth oc_Chain___init__ kV_Chain___init__ dc_Chain___init__ pm_Chain___init__ cd_Chain___init__ ty_Chain___init__ oc_Chain_mentions kV_Chain_mentions dc_Chain_mentions pm_Chain_mentions cd_Chain_mentions ty_Chain_mentions oc_Chain_leaves kV_Chain_leaves dc_Chain_leaves pm_Chain_leaves cd_Chain_leaves ty_Chain_leaves oc_Chain_depth kV_Chain_depth dc_Chain_depth pm_Chain_depth cd_Chain_depth ty_Chain_depth oc_AllOf_holds kV_AllOf_holds dc_AllOf_holds pm_AllOf_holds cd_AllOf_holds ty_AllOf_holds oc_OneOf_holds kV_OneOf_holds dc_OneOf_holds pm_OneOf_holds cd_OneOf_holds ty_OneOf_holds oc__law_cell_at kV__law_cell_at dc__law_cell_at pm__law_cell_at cd__law_cell_at ty__law_cell_at oc__law_whole kV__law_whole dc__law_whole pm__law_whole cd__law_whole ty__law_whole oc__law_mixed kV__law_mixed dc__law_mixed pm__law_mixed cd__law_mixed ty__law_mixed oc__law_flat kV__law_flat dc__law_flat pm__law_flat cd__law_flat ty__law_flat oc__law_name_of kV__law_name_of dc__law_name_of pm__law_name_of cd__law_name_of ty__law_name_of oc__law_names kV__law_names dc__law_names pm__law_names cd__law_names ty__law_names oc__law_leaf kV__law_leaf dc__law_leaf pm__law_leaf cd__law_leaf ty__law_leaf oc__law_built kV__law_built dc__law_built pm__law_built cd__law_built ty__law_built oc__law_made kV__law_made dc__law_made pm__law_made cd__law_made ty__law_made oc__law_holds kV__law_holds dc__law_holds pm__law_holds cd__law_holds ty__law_holds oc__law_numbers_in kV__law_numbers_in dc__law_numbers_in pm__law_numbers_in cd__law_numbers_in ty__law_numbers_in oc__law_measure kV__law_measure dc__law_measure pm__law_measure cd__law_measure ty__law_measure oc__law_table kV__law_table dc__law_table pm__law_table cd__law_table ty__law_table oc__law_counted kV__law_counted dc__law_counted pm__law_counted cd__law_counted ty__law_counted oc__law_summed kV__law_summed dc__law_summed pm__law_summed cd__law_summed ty__law_summed oc_law kV_law dc_law pm_law cd_law ty_law : Value} 
    (hC_Question : PySem.W.nsIn K mainGlobals "Question" = some (some (.ref C_Question)))
    (hC_Every : PySem.W.nsIn K mainGlobals "Every" = some (some (.ref C_Every)))
    (hC_Nobody : PySem.W.nsIn K mainGlobals "Nobody" = some (some (.ref C_Nobody)))
    (hC_Within : PySem.W.nsIn K mainGlobals "Within" = some (some (.ref C_Within)))
    (hC_Opposite : PySem.W.nsIn K mainGlobals "Opposite" = some (some (.ref C_Opposite)))
    (hC_Chain : PySem.W.nsIn K mainGlobals "Chain" = some (some (.ref C_Chain)))
    (hC_AllOf : PySem.W.nsIn K mainGlobals "AllOf" = some (some (.ref C_AllOf)))
    (hC_OneOf : PySem.W.nsIn K mainGlobals "OneOf" = some (some (.ref C_OneOf)))
    (ha_plain_rows : PySem.W.nsIn K mainGlobals "plain_rows" = some (some (.ref a_plain_rows)))
    (hl_plain_rows : K.lookup a_plain_rows = some ⟨oc_plain_rows, od_plain_rows, .func (PySem.W.fnOf "plain_rows" "plain_rows" (defArgs s_plain_rows) (defBody s_plain_rows) (defScope s_plain_rows) .none kV_plain_rows dc_plain_rows pm_plain_rows an_plain_rows cd_plain_rows ty_plain_rows), sl_plain_rows⟩)
    (hc_plain_rows : PySem.W.codeIn K cd_plain_rows "plain_rows" = true)
    (hk_plain_rows : PySem.W.keepIn K (.ref a_plain_rows) = true)
    (hi_plain_rows : PySem.W.isFn K (.ref a_plain_rows) = true)
    (ha_plain_total : PySem.W.nsIn K mainGlobals "plain_total" = some (some (.ref a_plain_total)))
    (hl_plain_total : K.lookup a_plain_total = some ⟨oc_plain_total, od_plain_total, .func (PySem.W.fnOf "plain_total" "plain_total" (defArgs s_plain_total) (defBody s_plain_total) (defScope s_plain_total) .none kV_plain_total dc_plain_total pm_plain_total an_plain_total cd_plain_total ty_plain_total), sl_plain_total⟩)
    (hc_plain_total : PySem.W.codeIn K cd_plain_total "plain_total" = true)
    (hk_plain_total : PySem.W.keepIn K (.ref a_plain_total) = true)
    (hi_plain_total : PySem.W.isFn K (.ref a_plain_total) = true)
    (ha_plain_least : PySem.W.nsIn K mainGlobals "plain_least" = some (some (.ref a_plain_least)))
    (hl_plain_least : K.lookup a_plain_least = some ⟨oc_plain_least, od_plain_least, .func (PySem.W.fnOf "plain_least" "plain_least" (defArgs s_plain_least) (defBody s_plain_least) (defScope s_plain_least) .none kV_plain_least dc_plain_least pm_plain_least an_plain_least cd_plain_least ty_plain_least), sl_plain_least⟩)
    (hc_plain_least : PySem.W.codeIn K cd_plain_least "plain_least" = true)
    (hk_plain_least : PySem.W.keepIn K (.ref a_plain_least) = true)
    (hi_plain_least : PySem.W.isFn K (.ref a_plain_least) = true)
    (ha_Question_holds : PySem.W.findIn K (.ref C_Question) "holds" = some (some (.ref a_Question_holds)))
    (hl_Question_holds : K.lookup a_Question_holds = some ⟨oc_Question_holds, od_Question_holds, .func (PySem.W.fnOf "holds" "Question.holds" (defArgs s_Question_holds) (defBody s_Question_holds) (defScope s_Question_holds) .none kV_Question_holds dc_Question_holds pm_Question_holds an_Question_holds cd_Question_holds ty_Question_holds), sl_Question_holds⟩)
    (hc_Question_holds : PySem.W.codeIn K cd_Question_holds "Question.holds" = true)
    (hk_Question_holds : PySem.W.keepIn K (.ref a_Question_holds) = true)
    (hi_Question_holds : PySem.W.isFn K (.ref a_Question_holds) = true)
    (ha_Question_mentions : PySem.W.findIn K (.ref C_Question) "mentions" = some (some (.ref a_Question_mentions)))
    (hl_Question_mentions : K.lookup a_Question_mentions = some ⟨oc_Question_mentions, od_Question_mentions, .func (PySem.W.fnOf "mentions" "Question.mentions" (defArgs s_Question_mentions) (defBody s_Question_mentions) (defScope s_Question_mentions) .none kV_Question_mentions dc_Question_mentions pm_Question_mentions an_Question_mentions cd_Question_mentions ty_Question_mentions), sl_Question_mentions⟩)
    (hc_Question_mentions : PySem.W.codeIn K cd_Question_mentions "Question.mentions" = true)
    (hk_Question_mentions : PySem.W.keepIn K (.ref a_Question_mentions) = true)
    (hi_Question_mentions : PySem.W.isFn K (.ref a_Question_mentions) = true)
    (ha_Question_leaves : PySem.W.findIn K (.ref C_Question) "leaves" = some (some (.ref a_Question_leaves)))
    (hl_Question_leaves : K.lookup a_Question_leaves = some ⟨oc_Question_leaves, od_Question_leaves, .func (PySem.W.fnOf "leaves" "Question.leaves" (defArgs s_Question_leaves) (defBody s_Question_leaves) (defScope s_Question_leaves) .none kV_Question_leaves dc_Question_leaves pm_Question_leaves an_Question_leaves cd_Question_leaves ty_Question_leaves), sl_Question_leaves⟩)
    (hc_Question_leaves : PySem.W.codeIn K cd_Question_leaves "Question.leaves" = true)
    (hk_Question_leaves : PySem.W.keepIn K (.ref a_Question_leaves) = true)
    (hi_Question_leaves : PySem.W.isFn K (.ref a_Question_leaves) = true)
    (ha_Question_depth : PySem.W.findIn K (.ref C_Question) "depth" = some (some (.ref a_Question_depth)))
    (hl_Question_depth : K.lookup a_Question_depth = some ⟨oc_Question_depth, od_Question_depth, .func (PySem.W.fnOf "depth" "Question.depth" (defArgs s_Question_depth) (defBody s_Question_depth) (defScope s_Question_depth) .none kV_Question_depth dc_Question_depth pm_Question_depth an_Question_depth cd_Question_depth ty_Question_depth), sl_Question_depth⟩)
    (hc_Question_depth : PySem.W.codeIn K cd_Question_depth "Question.depth" = true)
    (hk_Question_depth : PySem.W.keepIn K (.ref a_Question_depth) = true)
    (hi_Question_depth : PySem.W.isFn K (.ref a_Question_depth) = true)
    (ha_Every_holds : PySem.W.findIn K (.ref C_Every) "holds" = some (some (.ref a_Every_holds)))
    (hl_Every_holds : K.lookup a_Every_holds = some ⟨oc_Every_holds, od_Every_holds, .func (PySem.W.fnOf "holds" "Every.holds" (defArgs s_Every_holds) (defBody s_Every_holds) (defScope s_Every_holds) .none kV_Every_holds dc_Every_holds pm_Every_holds an_Every_holds cd_Every_holds ty_Every_holds), sl_Every_holds⟩)
    (hc_Every_holds : PySem.W.codeIn K cd_Every_holds "Every.holds" = true)
    (hk_Every_holds : PySem.W.keepIn K (.ref a_Every_holds) = true)
    (hi_Every_holds : PySem.W.isFn K (.ref a_Every_holds) = true)
    (ha_Within___init__ : PySem.W.findIn K (.ref C_Within) "__init__" = some (some (.ref a_Within___init__)))
    (hl_Within___init__ : K.lookup a_Within___init__ = some ⟨oc_Within___init__, od_Within___init__, .func (PySem.W.fnOf "__init__" "Within.__init__" (defArgs s_Within___init__) (defBody s_Within___init__) (defScope s_Within___init__) .none kV_Within___init__ dc_Within___init__ pm_Within___init__ an_Within___init__ cd_Within___init__ ty_Within___init__), sl_Within___init__⟩)
    (hc_Within___init__ : PySem.W.codeIn K cd_Within___init__ "Within.__init__" = true)
    (hk_Within___init__ : PySem.W.keepIn K (.ref a_Within___init__) = true)
    (hi_Within___init__ : PySem.W.isFn K (.ref a_Within___init__) = true)
    (ha_Within_holds : PySem.W.findIn K (.ref C_Within) "holds" = some (some (.ref a_Within_holds)))
    (hl_Within_holds : K.lookup a_Within_holds = some ⟨oc_Within_holds, od_Within_holds, .func (PySem.W.fnOf "holds" "Within.holds" (defArgs s_Within_holds) (defBody s_Within_holds) (defScope s_Within_holds) .none kV_Within_holds dc_Within_holds pm_Within_holds an_Within_holds cd_Within_holds ty_Within_holds), sl_Within_holds⟩)
    (hc_Within_holds : PySem.W.codeIn K cd_Within_holds "Within.holds" = true)
    (hk_Within_holds : PySem.W.keepIn K (.ref a_Within_holds) = true)
    (hi_Within_holds : PySem.W.isFn K (.ref a_Within_holds) = true)
    (ha_Within_mentions : PySem.W.findIn K (.ref C_Within) "mentions" = some (some (.ref a_Within_mentions)))
    (hl_Within_mentions : K.lookup a_Within_mentions = some ⟨oc_Within_mentions, od_Within_mentions, .func (PySem.W.fnOf "mentions" "Within.mentions" (defArgs s_Within_mentions) (defBody s_Within_mentions) (defScope s_Within_mentions) .none kV_Within_mentions dc_Within_mentions pm_Within_mentions an_Within_mentions cd_Within_mentions ty_Within_mentions), sl_Within_mentions⟩)
    (hc_Within_mentions : PySem.W.codeIn K cd_Within_mentions "Within.mentions" = true)
    (hk_Within_mentions : PySem.W.keepIn K (.ref a_Within_mentions) = true)
    (hi_Within_mentions : PySem.W.isFn K (.ref a_Within_mentions) = true)
    (ha_Opposite___init__ : PySem.W.findIn K (.ref C_Opposite) "__init__" = some (some (.ref a_Opposite___init__)))
    (hl_Opposite___init__ : K.lookup a_Opposite___init__ = some ⟨oc_Opposite___init__, od_Opposite___init__, .func (PySem.W.fnOf "__init__" "Opposite.__init__" (defArgs s_Opposite___init__) (defBody s_Opposite___init__) (defScope s_Opposite___init__) .none kV_Opposite___init__ dc_Opposite___init__ pm_Opposite___init__ an_Opposite___init__ cd_Opposite___init__ ty_Opposite___init__), sl_Opposite___init__⟩)
    (hc_Opposite___init__ : PySem.W.codeIn K cd_Opposite___init__ "Opposite.__init__" = true)
    (hk_Opposite___init__ : PySem.W.keepIn K (.ref a_Opposite___init__) = true)
    (hi_Opposite___init__ : PySem.W.isFn K (.ref a_Opposite___init__) = true)
    (ha_Opposite_holds : PySem.W.findIn K (.ref C_Opposite) "holds" = some (some (.ref a_Opposite_holds)))
    (hl_Opposite_holds : K.lookup a_Opposite_holds = some ⟨oc_Opposite_holds, od_Opposite_holds, .func (PySem.W.fnOf "holds" "Opposite.holds" (defArgs s_Opposite_holds) (defBody s_Opposite_holds) (defScope s_Opposite_holds) .none kV_Opposite_holds dc_Opposite_holds pm_Opposite_holds an_Opposite_holds cd_Opposite_holds ty_Opposite_holds), sl_Opposite_holds⟩)
    (hc_Opposite_holds : PySem.W.codeIn K cd_Opposite_holds "Opposite.holds" = true)
    (hk_Opposite_holds : PySem.W.keepIn K (.ref a_Opposite_holds) = true)
    (hi_Opposite_holds : PySem.W.isFn K (.ref a_Opposite_holds) = true)
    (ha_Opposite_mentions : PySem.W.findIn K (.ref C_Opposite) "mentions" = some (some (.ref a_Opposite_mentions)))
    (hl_Opposite_mentions : K.lookup a_Opposite_mentions = some ⟨oc_Opposite_mentions, od_Opposite_mentions, .func (PySem.W.fnOf "mentions" "Opposite.mentions" (defArgs s_Opposite_mentions) (defBody s_Opposite_mentions) (defScope s_Opposite_mentions) .none kV_Opposite_mentions dc_Opposite_mentions pm_Opposite_mentions an_Opposite_mentions cd_Opposite_mentions ty_Opposite_mentions), sl_Opposite_mentions⟩)
    (hc_Opposite_mentions : PySem.W.codeIn K cd_Opposite_mentions "Opposite.mentions" = true)
    (hk_Opposite_mentions : PySem.W.keepIn K (.ref a_Opposite_mentions) = true)
    (hi_Opposite_mentions : PySem.W.isFn K (.ref a_Opposite_mentions) = true)
    (ha_Opposite_leaves : PySem.W.findIn K (.ref C_Opposite) "leaves" = some (some (.ref a_Opposite_leaves)))
    (hl_Opposite_leaves : K.lookup a_Opposite_leaves = some ⟨oc_Opposite_leaves, od_Opposite_leaves, .func (PySem.W.fnOf "leaves" "Opposite.leaves" (defArgs s_Opposite_leaves) (defBody s_Opposite_leaves) (defScope s_Opposite_leaves) .none kV_Opposite_leaves dc_Opposite_leaves pm_Opposite_leaves an_Opposite_leaves cd_Opposite_leaves ty_Opposite_leaves), sl_Opposite_leaves⟩)
    (hc_Opposite_leaves : PySem.W.codeIn K cd_Opposite_leaves "Opposite.leaves" = true)
    (hk_Opposite_leaves : PySem.W.keepIn K (.ref a_Opposite_leaves) = true)
    (hi_Opposite_leaves : PySem.W.isFn K (.ref a_Opposite_leaves) = true)
    (ha_Opposite_depth : PySem.W.findIn K (.ref C_Opposite) "depth" = some (some (.ref a_Opposite_depth)))
    (hl_Opposite_depth : K.lookup a_Opposite_depth = some ⟨oc_Opposite_depth, od_Opposite_depth, .func (PySem.W.fnOf "depth" "Opposite.depth" (defArgs s_Opposite_depth) (defBody s_Opposite_depth) (defScope s_Opposite_depth) .none kV_Opposite_depth dc_Opposite_depth pm_Opposite_depth an_Opposite_depth cd_Opposite_depth ty_Opposite_depth), sl_Opposite_depth⟩)
    (hc_Opposite_depth : PySem.W.codeIn K cd_Opposite_depth "Opposite.depth" = true)
    (hk_Opposite_depth : PySem.W.keepIn K (.ref a_Opposite_depth) = true)
    (hi_Opposite_depth : PySem.W.isFn K (.ref a_Opposite_depth) = true)
    (ha_Chain___init__ : PySem.W.findIn K (.ref C_Chain) "__init__" = some (some (.ref a_Chain___init__)))
    (hl_Chain___init__ : K.lookup a_Chain___init__ = some ⟨oc_Chain___init__, od_Chain___init__, .func (PySem.W.fnOf "__init__" "Chain.__init__" (defArgs s_Chain___init__) (defBody s_Chain___init__) (defScope s_Chain___init__) .none kV_Chain___init__ dc_Chain___init__ pm_Chain___init__ an_Chain___init__ cd_Chain___init__ ty_Chain___init__), sl_Chain___init__⟩)
    (hc_Chain___init__ : PySem.W.codeIn K cd_Chain___init__ "Chain.__init__" = true)
    (hk_Chain___init__ : PySem.W.keepIn K (.ref a_Chain___init__) = true)
    (hi_Chain___init__ : PySem.W.isFn K (.ref a_Chain___init__) = true)
    (ha_Chain_mentions : PySem.W.findIn K (.ref C_Chain) "mentions" = some (some (.ref a_Chain_mentions)))
    (hl_Chain_mentions : K.lookup a_Chain_mentions = some ⟨oc_Chain_mentions, od_Chain_mentions, .func (PySem.W.fnOf "mentions" "Chain.mentions" (defArgs s_Chain_mentions) (defBody s_Chain_mentions) (defScope s_Chain_mentions) .none kV_Chain_mentions dc_Chain_mentions pm_Chain_mentions an_Chain_mentions cd_Chain_mentions ty_Chain_mentions), sl_Chain_mentions⟩)
    (hc_Chain_mentions : PySem.W.codeIn K cd_Chain_mentions "Chain.mentions" = true)
    (hk_Chain_mentions : PySem.W.keepIn K (.ref a_Chain_mentions) = true)
    (hi_Chain_mentions : PySem.W.isFn K (.ref a_Chain_mentions) = true)
    (ha_Chain_leaves : PySem.W.findIn K (.ref C_Chain) "leaves" = some (some (.ref a_Chain_leaves)))
    (hl_Chain_leaves : K.lookup a_Chain_leaves = some ⟨oc_Chain_leaves, od_Chain_leaves, .func (PySem.W.fnOf "leaves" "Chain.leaves" (defArgs s_Chain_leaves) (defBody s_Chain_leaves) (defScope s_Chain_leaves) .none kV_Chain_leaves dc_Chain_leaves pm_Chain_leaves an_Chain_leaves cd_Chain_leaves ty_Chain_leaves), sl_Chain_leaves⟩)
    (hc_Chain_leaves : PySem.W.codeIn K cd_Chain_leaves "Chain.leaves" = true)
    (hk_Chain_leaves : PySem.W.keepIn K (.ref a_Chain_leaves) = true)
    (hi_Chain_leaves : PySem.W.isFn K (.ref a_Chain_leaves) = true)
    (ha_Chain_depth : PySem.W.findIn K (.ref C_Chain) "depth" = some (some (.ref a_Chain_depth)))
    (hl_Chain_depth : K.lookup a_Chain_depth = some ⟨oc_Chain_depth, od_Chain_depth, .func (PySem.W.fnOf "depth" "Chain.depth" (defArgs s_Chain_depth) (defBody s_Chain_depth) (defScope s_Chain_depth) .none kV_Chain_depth dc_Chain_depth pm_Chain_depth an_Chain_depth cd_Chain_depth ty_Chain_depth), sl_Chain_depth⟩)
    (hc_Chain_depth : PySem.W.codeIn K cd_Chain_depth "Chain.depth" = true)
    (hk_Chain_depth : PySem.W.keepIn K (.ref a_Chain_depth) = true)
    (hi_Chain_depth : PySem.W.isFn K (.ref a_Chain_depth) = true)
    (ha_AllOf_holds : PySem.W.findIn K (.ref C_AllOf) "holds" = some (some (.ref a_AllOf_holds)))
    (hl_AllOf_holds : K.lookup a_AllOf_holds = some ⟨oc_AllOf_holds, od_AllOf_holds, .func (PySem.W.fnOf "holds" "AllOf.holds" (defArgs s_AllOf_holds) (defBody s_AllOf_holds) (defScope s_AllOf_holds) .none kV_AllOf_holds dc_AllOf_holds pm_AllOf_holds an_AllOf_holds cd_AllOf_holds ty_AllOf_holds), sl_AllOf_holds⟩)
    (hc_AllOf_holds : PySem.W.codeIn K cd_AllOf_holds "AllOf.holds" = true)
    (hk_AllOf_holds : PySem.W.keepIn K (.ref a_AllOf_holds) = true)
    (hi_AllOf_holds : PySem.W.isFn K (.ref a_AllOf_holds) = true)
    (ha_OneOf_holds : PySem.W.findIn K (.ref C_OneOf) "holds" = some (some (.ref a_OneOf_holds)))
    (hl_OneOf_holds : K.lookup a_OneOf_holds = some ⟨oc_OneOf_holds, od_OneOf_holds, .func (PySem.W.fnOf "holds" "OneOf.holds" (defArgs s_OneOf_holds) (defBody s_OneOf_holds) (defScope s_OneOf_holds) .none kV_OneOf_holds dc_OneOf_holds pm_OneOf_holds an_OneOf_holds cd_OneOf_holds ty_OneOf_holds), sl_OneOf_holds⟩)
    (hc_OneOf_holds : PySem.W.codeIn K cd_OneOf_holds "OneOf.holds" = true)
    (hk_OneOf_holds : PySem.W.keepIn K (.ref a_OneOf_holds) = true)
    (hi_OneOf_holds : PySem.W.isFn K (.ref a_OneOf_holds) = true)
    (ha__law_cell_at : PySem.W.nsIn K mainGlobals "_law_cell_at" = some (some (.ref a__law_cell_at)))
    (hl__law_cell_at : K.lookup a__law_cell_at = some ⟨oc__law_cell_at, od__law_cell_at, .func (PySem.W.fnOf "_law_cell_at" "_law_cell_at" (defArgs s__law_cell_at) (defBody s__law_cell_at) (defScope s__law_cell_at) .none kV__law_cell_at dc__law_cell_at pm__law_cell_at an__law_cell_at cd__law_cell_at ty__law_cell_at), sl__law_cell_at⟩)
    (hc__law_cell_at : PySem.W.codeIn K cd__law_cell_at "_law_cell_at" = true)
    (hk__law_cell_at : PySem.W.keepIn K (.ref a__law_cell_at) = true)
    (hi__law_cell_at : PySem.W.isFn K (.ref a__law_cell_at) = true)
    (ha__law_whole : PySem.W.nsIn K mainGlobals "_law_whole" = some (some (.ref a__law_whole)))
    (hl__law_whole : K.lookup a__law_whole = some ⟨oc__law_whole, od__law_whole, .func (PySem.W.fnOf "_law_whole" "_law_whole" (defArgs s__law_whole) (defBody s__law_whole) (defScope s__law_whole) .none kV__law_whole dc__law_whole pm__law_whole an__law_whole cd__law_whole ty__law_whole), sl__law_whole⟩)
    (hc__law_whole : PySem.W.codeIn K cd__law_whole "_law_whole" = true)
    (hk__law_whole : PySem.W.keepIn K (.ref a__law_whole) = true)
    (hi__law_whole : PySem.W.isFn K (.ref a__law_whole) = true)
    (ha__law_mixed : PySem.W.nsIn K mainGlobals "_law_mixed" = some (some (.ref a__law_mixed)))
    (hl__law_mixed : K.lookup a__law_mixed = some ⟨oc__law_mixed, od__law_mixed, .func (PySem.W.fnOf "_law_mixed" "_law_mixed" (defArgs s__law_mixed) (defBody s__law_mixed) (defScope s__law_mixed) .none kV__law_mixed dc__law_mixed pm__law_mixed an__law_mixed cd__law_mixed ty__law_mixed), sl__law_mixed⟩)
    (hc__law_mixed : PySem.W.codeIn K cd__law_mixed "_law_mixed" = true)
    (hk__law_mixed : PySem.W.keepIn K (.ref a__law_mixed) = true)
    (hi__law_mixed : PySem.W.isFn K (.ref a__law_mixed) = true)
    (ha__law_flat : PySem.W.nsIn K mainGlobals "_law_flat" = some (some (.ref a__law_flat)))
    (hl__law_flat : K.lookup a__law_flat = some ⟨oc__law_flat, od__law_flat, .func (PySem.W.fnOf "_law_flat" "_law_flat" (defArgs s__law_flat) (defBody s__law_flat) (defScope s__law_flat) .none kV__law_flat dc__law_flat pm__law_flat an__law_flat cd__law_flat ty__law_flat), sl__law_flat⟩)
    (hc__law_flat : PySem.W.codeIn K cd__law_flat "_law_flat" = true)
    (hk__law_flat : PySem.W.keepIn K (.ref a__law_flat) = true)
    (hi__law_flat : PySem.W.isFn K (.ref a__law_flat) = true)
    (ha__law_name_of : PySem.W.nsIn K mainGlobals "_law_name_of" = some (some (.ref a__law_name_of)))
    (hl__law_name_of : K.lookup a__law_name_of = some ⟨oc__law_name_of, od__law_name_of, .func (PySem.W.fnOf "_law_name_of" "_law_name_of" (defArgs s__law_name_of) (defBody s__law_name_of) (defScope s__law_name_of) .none kV__law_name_of dc__law_name_of pm__law_name_of an__law_name_of cd__law_name_of ty__law_name_of), sl__law_name_of⟩)
    (hc__law_name_of : PySem.W.codeIn K cd__law_name_of "_law_name_of" = true)
    (hk__law_name_of : PySem.W.keepIn K (.ref a__law_name_of) = true)
    (hi__law_name_of : PySem.W.isFn K (.ref a__law_name_of) = true)
    (ha__law_names : PySem.W.nsIn K mainGlobals "_law_names" = some (some (.ref a__law_names)))
    (hl__law_names : K.lookup a__law_names = some ⟨oc__law_names, od__law_names, .func (PySem.W.fnOf "_law_names" "_law_names" (defArgs s__law_names) (defBody s__law_names) (defScope s__law_names) .none kV__law_names dc__law_names pm__law_names an__law_names cd__law_names ty__law_names), sl__law_names⟩)
    (hc__law_names : PySem.W.codeIn K cd__law_names "_law_names" = true)
    (hk__law_names : PySem.W.keepIn K (.ref a__law_names) = true)
    (hi__law_names : PySem.W.isFn K (.ref a__law_names) = true)
    (ha__law_leaf : PySem.W.nsIn K mainGlobals "_law_leaf" = some (some (.ref a__law_leaf)))
    (hl__law_leaf : K.lookup a__law_leaf = some ⟨oc__law_leaf, od__law_leaf, .func (PySem.W.fnOf "_law_leaf" "_law_leaf" (defArgs s__law_leaf) (defBody s__law_leaf) (defScope s__law_leaf) .none kV__law_leaf dc__law_leaf pm__law_leaf an__law_leaf cd__law_leaf ty__law_leaf), sl__law_leaf⟩)
    (hc__law_leaf : PySem.W.codeIn K cd__law_leaf "_law_leaf" = true)
    (hk__law_leaf : PySem.W.keepIn K (.ref a__law_leaf) = true)
    (hi__law_leaf : PySem.W.isFn K (.ref a__law_leaf) = true)
    (ha__law_built : PySem.W.nsIn K mainGlobals "_law_built" = some (some (.ref a__law_built)))
    (hl__law_built : K.lookup a__law_built = some ⟨oc__law_built, od__law_built, .func (PySem.W.fnOf "_law_built" "_law_built" (defArgs s__law_built) (defBody s__law_built) (defScope s__law_built) .none kV__law_built dc__law_built pm__law_built an__law_built cd__law_built ty__law_built), sl__law_built⟩)
    (hc__law_built : PySem.W.codeIn K cd__law_built "_law_built" = true)
    (hk__law_built : PySem.W.keepIn K (.ref a__law_built) = true)
    (hi__law_built : PySem.W.isFn K (.ref a__law_built) = true)
    (ha__law_made : PySem.W.nsIn K mainGlobals "_law_made" = some (some (.ref a__law_made)))
    (hl__law_made : K.lookup a__law_made = some ⟨oc__law_made, od__law_made, .func (PySem.W.fnOf "_law_made" "_law_made" (defArgs s__law_made) (defBody s__law_made) (defScope s__law_made) .none kV__law_made dc__law_made pm__law_made an__law_made cd__law_made ty__law_made), sl__law_made⟩)
    (hc__law_made : PySem.W.codeIn K cd__law_made "_law_made" = true)
    (hk__law_made : PySem.W.keepIn K (.ref a__law_made) = true)
    (hi__law_made : PySem.W.isFn K (.ref a__law_made) = true)
    (ha__law_holds : PySem.W.nsIn K mainGlobals "_law_holds" = some (some (.ref a__law_holds)))
    (hl__law_holds : K.lookup a__law_holds = some ⟨oc__law_holds, od__law_holds, .func (PySem.W.fnOf "_law_holds" "_law_holds" (defArgs s__law_holds) (defBody s__law_holds) (defScope s__law_holds) .none kV__law_holds dc__law_holds pm__law_holds an__law_holds cd__law_holds ty__law_holds), sl__law_holds⟩)
    (hc__law_holds : PySem.W.codeIn K cd__law_holds "_law_holds" = true)
    (hk__law_holds : PySem.W.keepIn K (.ref a__law_holds) = true)
    (hi__law_holds : PySem.W.isFn K (.ref a__law_holds) = true)
    (ha__law_numbers_in : PySem.W.nsIn K mainGlobals "_law_numbers_in" = some (some (.ref a__law_numbers_in)))
    (hl__law_numbers_in : K.lookup a__law_numbers_in = some ⟨oc__law_numbers_in, od__law_numbers_in, .func (PySem.W.fnOf "_law_numbers_in" "_law_numbers_in" (defArgs s__law_numbers_in) (defBody s__law_numbers_in) (defScope s__law_numbers_in) .none kV__law_numbers_in dc__law_numbers_in pm__law_numbers_in an__law_numbers_in cd__law_numbers_in ty__law_numbers_in), sl__law_numbers_in⟩)
    (hc__law_numbers_in : PySem.W.codeIn K cd__law_numbers_in "_law_numbers_in" = true)
    (hk__law_numbers_in : PySem.W.keepIn K (.ref a__law_numbers_in) = true)
    (hi__law_numbers_in : PySem.W.isFn K (.ref a__law_numbers_in) = true)
    (ha__law_measure : PySem.W.nsIn K mainGlobals "_law_measure" = some (some (.ref a__law_measure)))
    (hl__law_measure : K.lookup a__law_measure = some ⟨oc__law_measure, od__law_measure, .func (PySem.W.fnOf "_law_measure" "_law_measure" (defArgs s__law_measure) (defBody s__law_measure) (defScope s__law_measure) .none kV__law_measure dc__law_measure pm__law_measure an__law_measure cd__law_measure ty__law_measure), sl__law_measure⟩)
    (hc__law_measure : PySem.W.codeIn K cd__law_measure "_law_measure" = true)
    (hk__law_measure : PySem.W.keepIn K (.ref a__law_measure) = true)
    (hi__law_measure : PySem.W.isFn K (.ref a__law_measure) = true)
    (ha__law_table : PySem.W.nsIn K mainGlobals "_law_table" = some (some (.ref a__law_table)))
    (hl__law_table : K.lookup a__law_table = some ⟨oc__law_table, od__law_table, .func (PySem.W.fnOf "_law_table" "_law_table" (defArgs s__law_table) (defBody s__law_table) (defScope s__law_table) .none kV__law_table dc__law_table pm__law_table an__law_table cd__law_table ty__law_table), sl__law_table⟩)
    (hc__law_table : PySem.W.codeIn K cd__law_table "_law_table" = true)
    (hk__law_table : PySem.W.keepIn K (.ref a__law_table) = true)
    (hi__law_table : PySem.W.isFn K (.ref a__law_table) = true)
    (ha__law_counted : PySem.W.nsIn K mainGlobals "_law_counted" = some (some (.ref a__law_counted)))
    (hl__law_counted : K.lookup a__law_counted = some ⟨oc__law_counted, od__law_counted, .func (PySem.W.fnOf "_law_counted" "_law_counted" (defArgs s__law_counted) (defBody s__law_counted) (defScope s__law_counted) .none kV__law_counted dc__law_counted pm__law_counted an__law_counted cd__law_counted ty__law_counted), sl__law_counted⟩)
    (hc__law_counted : PySem.W.codeIn K cd__law_counted "_law_counted" = true)
    (hk__law_counted : PySem.W.keepIn K (.ref a__law_counted) = true)
    (hi__law_counted : PySem.W.isFn K (.ref a__law_counted) = true)
    (ha__law_summed : PySem.W.nsIn K mainGlobals "_law_summed" = some (some (.ref a__law_summed)))
    (hl__law_summed : K.lookup a__law_summed = some ⟨oc__law_summed, od__law_summed, .func (PySem.W.fnOf "_law_summed" "_law_summed" (defArgs s__law_summed) (defBody s__law_summed) (defScope s__law_summed) .none kV__law_summed dc__law_summed pm__law_summed an__law_summed cd__law_summed ty__law_summed), sl__law_summed⟩)
    (hc__law_summed : PySem.W.codeIn K cd__law_summed "_law_summed" = true)
    (hk__law_summed : PySem.W.keepIn K (.ref a__law_summed) = true)
    (hi__law_summed : PySem.W.isFn K (.ref a__law_summed) = true)
    (ha_law : PySem.W.nsIn K mainGlobals "law" = some (some (.ref a_law)))
    (hl_law : K.lookup a_law = some ⟨oc_law, od_law, .func (PySem.W.fnOf "law" "law" (defArgs s_law) (defBody s_law) (defScope s_law) .none kV_law dc_law pm_law an_law cd_law ty_law), sl_law⟩)
    (hc_law : PySem.W.codeIn K cd_law "law" = true)
    (hk_law : PySem.W.keepIn K (.ref a_law) = true)
    (hi_law : PySem.W.isFn K (.ref a_law) = true)
    (p1_Question : PySem.W.plainGet K C_Question Str.empty = true)
    (p2_Question : PySem.W.hasDictIn K C_Question = true)
    (p3_Question : PySem.W.plainOver K C_Question = true)
    (p4_Question : PySem.W.findIn K (.ref C_Question) "__setattr__" = some (some (.builtin "object.__setattr__")))
    (p1_Every : PySem.W.plainGet K C_Every Str.empty = true)
    (p2_Every : PySem.W.hasDictIn K C_Every = true)
    (p3_Every : PySem.W.plainOver K C_Every = true)
    (p4_Every : PySem.W.findIn K (.ref C_Every) "__setattr__" = some (some (.builtin "object.__setattr__")))
    (p1_Nobody : PySem.W.plainGet K C_Nobody Str.empty = true)
    (p2_Nobody : PySem.W.hasDictIn K C_Nobody = true)
    (p3_Nobody : PySem.W.plainOver K C_Nobody = true)
    (p4_Nobody : PySem.W.findIn K (.ref C_Nobody) "__setattr__" = some (some (.builtin "object.__setattr__")))
    (p1_Within : PySem.W.plainGet K C_Within Str.empty = true)
    (p2_Within : PySem.W.hasDictIn K C_Within = true)
    (p3_Within : PySem.W.plainOver K C_Within = true)
    (p4_Within : PySem.W.findIn K (.ref C_Within) "__setattr__" = some (some (.builtin "object.__setattr__")))
    (p1_Opposite : PySem.W.plainGet K C_Opposite Str.empty = true)
    (p2_Opposite : PySem.W.hasDictIn K C_Opposite = true)
    (p3_Opposite : PySem.W.plainOver K C_Opposite = true)
    (p4_Opposite : PySem.W.findIn K (.ref C_Opposite) "__setattr__" = some (some (.builtin "object.__setattr__")))
    (p1_Chain : PySem.W.plainGet K C_Chain Str.empty = true)
    (p2_Chain : PySem.W.hasDictIn K C_Chain = true)
    (p3_Chain : PySem.W.plainOver K C_Chain = true)
    (p4_Chain : PySem.W.findIn K (.ref C_Chain) "__setattr__" = some (some (.builtin "object.__setattr__")))
    (p1_AllOf : PySem.W.plainGet K C_AllOf Str.empty = true)
    (p2_AllOf : PySem.W.hasDictIn K C_AllOf = true)
    (p3_AllOf : PySem.W.plainOver K C_AllOf = true)
    (p4_AllOf : PySem.W.findIn K (.ref C_AllOf) "__setattr__" = some (some (.builtin "object.__setattr__")))
    (p1_OneOf : PySem.W.plainGet K C_OneOf Str.empty = true)
    (p2_OneOf : PySem.W.hasDictIn K C_OneOf = true)
    (p3_OneOf : PySem.W.plainOver K C_OneOf = true)
    (p4_OneOf : PySem.W.findIn K (.ref C_OneOf) "__setattr__" = some (some (.builtin "object.__setattr__")))
    (hm_Question_holds : PySem.W.findIn K (.ref C_Question) "holds" = some (some (.ref a_Question_holds)))
    (hm_Question_mentions : PySem.W.findIn K (.ref C_Question) "mentions" = some (some (.ref a_Question_mentions)))
    (hm_Question_leaves : PySem.W.findIn K (.ref C_Question) "leaves" = some (some (.ref a_Question_leaves)))
    (hm_Question_depth : PySem.W.findIn K (.ref C_Question) "depth" = some (some (.ref a_Question_depth)))
    (hm_Every_holds : PySem.W.findIn K (.ref C_Every) "holds" = some (some (.ref a_Every_holds)))
    (hm_Every_mentions : PySem.W.findIn K (.ref C_Every) "mentions" = some (some (.ref a_Question_mentions)))
    (hm_Every_leaves : PySem.W.findIn K (.ref C_Every) "leaves" = some (some (.ref a_Question_leaves)))
    (hm_Every_depth : PySem.W.findIn K (.ref C_Every) "depth" = some (some (.ref a_Question_depth)))
    (hm_Nobody_holds : PySem.W.findIn K (.ref C_Nobody) "holds" = some (some (.ref a_Question_holds)))
    (hm_Nobody_mentions : PySem.W.findIn K (.ref C_Nobody) "mentions" = some (some (.ref a_Question_mentions)))
    (hm_Nobody_leaves : PySem.W.findIn K (.ref C_Nobody) "leaves" = some (some (.ref a_Question_leaves)))
    (hm_Nobody_depth : PySem.W.findIn K (.ref C_Nobody) "depth" = some (some (.ref a_Question_depth)))
    (hm_Within_holds : PySem.W.findIn K (.ref C_Within) "holds" = some (some (.ref a_Within_holds)))
    (hm_Within_mentions : PySem.W.findIn K (.ref C_Within) "mentions" = some (some (.ref a_Within_mentions)))
    (hm_Within_leaves : PySem.W.findIn K (.ref C_Within) "leaves" = some (some (.ref a_Question_leaves)))
    (hm_Within_depth : PySem.W.findIn K (.ref C_Within) "depth" = some (some (.ref a_Question_depth)))
    (hm_Opposite_holds : PySem.W.findIn K (.ref C_Opposite) "holds" = some (some (.ref a_Opposite_holds)))
    (hm_Opposite_mentions : PySem.W.findIn K (.ref C_Opposite) "mentions" = some (some (.ref a_Opposite_mentions)))
    (hm_Opposite_leaves : PySem.W.findIn K (.ref C_Opposite) "leaves" = some (some (.ref a_Opposite_leaves)))
    (hm_Opposite_depth : PySem.W.findIn K (.ref C_Opposite) "depth" = some (some (.ref a_Opposite_depth)))
    (hm_Chain_mentions : PySem.W.findIn K (.ref C_Chain) "mentions" = some (some (.ref a_Chain_mentions)))
    (hm_Chain_leaves : PySem.W.findIn K (.ref C_Chain) "leaves" = some (some (.ref a_Chain_leaves)))
    (hm_Chain_depth : PySem.W.findIn K (.ref C_Chain) "depth" = some (some (.ref a_Chain_depth)))
    (hm_Chain_holds : PySem.W.findIn K (.ref C_Chain) "holds" = some (some (.ref a_Question_holds)))
    (hm_AllOf_holds : PySem.W.findIn K (.ref C_AllOf) "holds" = some (some (.ref a_AllOf_holds)))
    (hm_AllOf_mentions : PySem.W.findIn K (.ref C_AllOf) "mentions" = some (some (.ref a_Chain_mentions)))
    (hm_AllOf_leaves : PySem.W.findIn K (.ref C_AllOf) "leaves" = some (some (.ref a_Chain_leaves)))
    (hm_AllOf_depth : PySem.W.findIn K (.ref C_AllOf) "depth" = some (some (.ref a_Chain_depth)))
    (hm_OneOf_holds : PySem.W.findIn K (.ref C_OneOf) "holds" = some (some (.ref a_OneOf_holds)))
    (hm_OneOf_mentions : PySem.W.findIn K (.ref C_OneOf) "mentions" = some (some (.ref a_Chain_mentions)))
    (hm_OneOf_leaves : PySem.W.findIn K (.ref C_OneOf) "leaves" = some (some (.ref a_Chain_leaves)))
    (hm_OneOf_depth : PySem.W.findIn K (.ref C_OneOf) "depth" = some (some (.ref a_Chain_depth)))
    (q1_Every : PySem.W.makesIn K C_Every = true)
    (q2_Every : PySem.W.findIn K (.ref C_Every) "__init__" = some (some (.builtin "object.__init__")))
    (q3_Every : PySem.W.keepIn K (.ref C_Every) = true)
    (q4_Every : PySem.W.mroIn K C_Every (.type "object") = some true)
    (q1_Nobody : PySem.W.makesIn K C_Nobody = true)
    (q2_Nobody : PySem.W.findIn K (.ref C_Nobody) "__init__" = some (some (.builtin "object.__init__")))
    (q3_Nobody : PySem.W.keepIn K (.ref C_Nobody) = true)
    (q4_Nobody : PySem.W.mroIn K C_Nobody (.type "object") = some true)
    (q1_Within : PySem.W.makesIn K C_Within = true)
    (q2_Within : PySem.W.findIn K (.ref C_Within) "__init__" = some (some (.ref a_Within___init__)))
    (q3_Within : PySem.W.keepIn K (.ref C_Within) = true)
    (q1_Opposite : PySem.W.makesIn K C_Opposite = true)
    (q2_Opposite : PySem.W.findIn K (.ref C_Opposite) "__init__" = some (some (.ref a_Opposite___init__)))
    (q3_Opposite : PySem.W.keepIn K (.ref C_Opposite) = true)
    (q1_AllOf : PySem.W.makesIn K C_AllOf = true)
    (q2_AllOf : PySem.W.findIn K (.ref C_AllOf) "__init__" = some (some (.ref a_Chain___init__)))
    (q3_AllOf : PySem.W.keepIn K (.ref C_AllOf) = true)
    (q1_OneOf : PySem.W.makesIn K C_OneOf = true)
    (q2_OneOf : PySem.W.findIn K (.ref C_OneOf) "__init__" = some (some (.ref a_Chain___init__)))
    (q3_OneOf : PySem.W.keepIn K (.ref C_OneOf) = true)
    (n_Within_name : PySem.W.findIn K (.ref C_Within) "name" = some none)
    (n_Within_low : PySem.W.findIn K (.ref C_Within) "low" = some none)
    (n_Within_high : PySem.W.findIn K (.ref C_Within) "high" = some none)
    (n_Opposite_one : PySem.W.findIn K (.ref C_Opposite) "one" = some none)
    (n_Chain_parts : PySem.W.findIn K (.ref C_Chain) "parts" = some none)
    (n_AllOf_parts : PySem.W.findIn K (.ref C_AllOf) "parts" = some none)
    (n_OneOf_parts : PySem.W.findIn K (.ref C_OneOf) "parts" = some none)
    (z_sorted : PySem.W.nsIn K mainGlobals "sorted" = some none)
    (z_sum : PySem.W.nsIn K mainGlobals "sum" = some none)
    (z_min : PySem.W.nsIn K mainGlobals "min" = some none)
    (z_list : PySem.W.nsIn K mainGlobals "list" = some none)
    (z_max : PySem.W.nsIn K mainGlobals "max" = some none)
    (z_all : PySem.W.nsIn K mainGlobals "all" = some none)
    (z_any : PySem.W.nsIn K mainGlobals "any" = some none)
    (z_len : PySem.W.nsIn K mainGlobals "len" = some none)
    (z_isinstance : PySem.W.nsIn K mainGlobals "isinstance" = some none)
    (z_int : PySem.W.nsIn K mainGlobals "int" = some none)
    (z_bool : PySem.W.nsIn K mainGlobals "bool" = some none)
    (z_range : PySem.W.nsIn K mainGlobals "range" = some none)
    (z_tuple : PySem.W.nsIn K mainGlobals "tuple" = some none)
    (z_dict : PySem.W.nsIn K mainGlobals "dict" = some none)
    : ∃ fd : FuncData, (∀ (s : Shared) (v : Value), BindsTo s fd ⟨[v], []⟩ [("script", v)]) ∧ ∀ base : Heap, K.In base → base.Ns mainGlobals mg → FnOk l.prog w K mg base (L2.CX l.prog w) 230 fa fd ["script"] (spLaw K) := by
  have e := hfa.symm.trans (PySem.W.mg_of X G ha_law)
  have e : a_law = fa := by cases e; rfl
  subst e
  have B : Bl mg := ⟨PySem.W.mg_none_of X G z_sorted, PySem.W.mg_none_of X G z_sum, PySem.W.mg_none_of X G z_min, PySem.W.mg_none_of X G z_list, PySem.W.mg_none_of X G z_max, PySem.W.mg_none_of X G z_all, PySem.W.mg_none_of X G z_any, PySem.W.mg_none_of X G z_len, PySem.W.mg_none_of X G z_isinstance, PySem.W.mg_none_of X G z_int, PySem.W.mg_none_of X G z_bool, PySem.W.mg_none_of X G z_range, PySem.W.mg_none_of X G z_tuple, PySem.W.mg_none_of X G z_dict⟩
  have F_plain_rows := fun_mk (st := s_plain_rows) hl_plain_rows hc_plain_rows hk_plain_rows
  have b_plain_rows := F_plain_rows.binds (ps := ["question", "table"]) fun _ _ _ _ _ _ us hl => match us, hl with | [_, _], _ => rfl
  have F_plain_total := fun_mk (st := s_plain_total) hl_plain_total hc_plain_total hk_plain_total
  have b_plain_total := F_plain_total.binds (ps := ["name", "question", "table"]) fun _ _ _ _ _ _ us hl => match us, hl with | [_, _, _], _ => rfl
  have F_plain_least := fun_mk (st := s_plain_least) hl_plain_least hc_plain_least hk_plain_least
  have b_plain_least := F_plain_least.binds (ps := ["name", "question", "table"]) fun _ _ _ _ _ _ us hl => match us, hl with | [_, _, _], _ => rfl
  have F_Question_holds := fun_mk (st := s_Question_holds) hl_Question_holds hc_Question_holds hk_Question_holds
  have b_Question_holds := F_Question_holds.binds (ps := ["self", "values"]) fun _ _ _ _ _ _ us hl => match us, hl with | [_, _], _ => rfl
  have F_Question_mentions := fun_mk (st := s_Question_mentions) hl_Question_mentions hc_Question_mentions hk_Question_mentions
  have b_Question_mentions := F_Question_mentions.binds (ps := ["self"]) fun _ _ _ _ _ _ us hl => match us, hl with | [_], _ => rfl
  have F_Question_leaves := fun_mk (st := s_Question_leaves) hl_Question_leaves hc_Question_leaves hk_Question_leaves
  have b_Question_leaves := F_Question_leaves.binds (ps := ["self"]) fun _ _ _ _ _ _ us hl => match us, hl with | [_], _ => rfl
  have F_Question_depth := fun_mk (st := s_Question_depth) hl_Question_depth hc_Question_depth hk_Question_depth
  have b_Question_depth := F_Question_depth.binds (ps := ["self"]) fun _ _ _ _ _ _ us hl => match us, hl with | [_], _ => rfl
  have F_Every_holds := fun_mk (st := s_Every_holds) hl_Every_holds hc_Every_holds hk_Every_holds
  have b_Every_holds := F_Every_holds.binds (ps := ["self", "values"]) fun _ _ _ _ _ _ us hl => match us, hl with | [_, _], _ => rfl
  have F_Within___init__ := fun_mk (st := s_Within___init__) hl_Within___init__ hc_Within___init__ hk_Within___init__
  have b_Within___init__ := F_Within___init__.binds (ps := ["self", "name", "low", "high"]) fun _ _ _ _ _ _ us hl => match us, hl with | [_, _, _, _], _ => rfl
  have F_Within_holds := fun_mk (st := s_Within_holds) hl_Within_holds hc_Within_holds hk_Within_holds
  have b_Within_holds := F_Within_holds.binds (ps := ["self", "values"]) fun _ _ _ _ _ _ us hl => match us, hl with | [_, _], _ => rfl
  have F_Within_mentions := fun_mk (st := s_Within_mentions) hl_Within_mentions hc_Within_mentions hk_Within_mentions
  have b_Within_mentions := F_Within_mentions.binds (ps := ["self"]) fun _ _ _ _ _ _ us hl => match us, hl with | [_], _ => rfl
  have F_Opposite___init__ := fun_mk (st := s_Opposite___init__) hl_Opposite___init__ hc_Opposite___init__ hk_Opposite___init__
  have b_Opposite___init__ := F_Opposite___init__.binds (ps := ["self", "one"]) fun _ _ _ _ _ _ us hl => match us, hl with | [_, _], _ => rfl
  have F_Opposite_holds := fun_mk (st := s_Opposite_holds) hl_Opposite_holds hc_Opposite_holds hk_Opposite_holds
  have b_Opposite_holds := F_Opposite_holds.binds (ps := ["self", "values"]) fun _ _ _ _ _ _ us hl => match us, hl with | [_, _], _ => rfl
  have F_Opposite_mentions := fun_mk (st := s_Opposite_mentions) hl_Opposite_mentions hc_Opposite_mentions hk_Opposite_mentions
  have b_Opposite_mentions := F_Opposite_mentions.binds (ps := ["self"]) fun _ _ _ _ _ _ us hl => match us, hl with | [_], _ => rfl
  have F_Opposite_leaves := fun_mk (st := s_Opposite_leaves) hl_Opposite_leaves hc_Opposite_leaves hk_Opposite_leaves
  have b_Opposite_leaves := F_Opposite_leaves.binds (ps := ["self"]) fun _ _ _ _ _ _ us hl => match us, hl with | [_], _ => rfl
  have F_Opposite_depth := fun_mk (st := s_Opposite_depth) hl_Opposite_depth hc_Opposite_depth hk_Opposite_depth
  have b_Opposite_depth := F_Opposite_depth.binds (ps := ["self"]) fun _ _ _ _ _ _ us hl => match us, hl with | [_], _ => rfl
  have F_Chain___init__ := fun_mk (st := s_Chain___init__) hl_Chain___init__ hc_Chain___init__ hk_Chain___init__
  have b_Chain___init__ := F_Chain___init__.binds (ps := ["self", "parts"]) fun _ _ _ _ _ _ us hl => match us, hl with | [_, _], _ => rfl
  have F_Chain_mentions := fun_mk (st := s_Chain_mentions) hl_Chain_mentions hc_Chain_mentions hk_Chain_mentions
  have b_Chain_mentions := F_Chain_mentions.binds (ps := ["self"]) fun _ _ _ _ _ _ us hl => match us, hl with | [_], _ => rfl
  have F_Chain_leaves := fun_mk (st := s_Chain_leaves) hl_Chain_leaves hc_Chain_leaves hk_Chain_leaves
  have b_Chain_leaves := F_Chain_leaves.binds (ps := ["self"]) fun _ _ _ _ _ _ us hl => match us, hl with | [_], _ => rfl
  have F_Chain_depth := fun_mk (st := s_Chain_depth) hl_Chain_depth hc_Chain_depth hk_Chain_depth
  have b_Chain_depth := F_Chain_depth.binds (ps := ["self"]) fun _ _ _ _ _ _ us hl => match us, hl with | [_], _ => rfl
  have F_AllOf_holds := fun_mk (st := s_AllOf_holds) hl_AllOf_holds hc_AllOf_holds hk_AllOf_holds
  have b_AllOf_holds := F_AllOf_holds.binds (ps := ["self", "values"]) fun _ _ _ _ _ _ us hl => match us, hl with | [_, _], _ => rfl
  have F_OneOf_holds := fun_mk (st := s_OneOf_holds) hl_OneOf_holds hc_OneOf_holds hk_OneOf_holds
  have b_OneOf_holds := F_OneOf_holds.binds (ps := ["self", "values"]) fun _ _ _ _ _ _ us hl => match us, hl with | [_, _], _ => rfl
  have F__law_cell_at := fun_mk (st := s__law_cell_at) hl__law_cell_at hc__law_cell_at hk__law_cell_at
  have b__law_cell_at := F__law_cell_at.binds (ps := ["script", "k"]) fun _ _ _ _ _ _ us hl => match us, hl with | [_, _], _ => rfl
  have F__law_whole := fun_mk (st := s__law_whole) hl__law_whole hc__law_whole hk__law_whole
  have b__law_whole := F__law_whole.binds (ps := ["found"]) fun _ _ _ _ _ _ us hl => match us, hl with | [_], _ => rfl
  have F__law_mixed := fun_mk (st := s__law_mixed) hl__law_mixed hc__law_mixed hk__law_mixed
  have b__law_mixed := F__law_mixed.binds (ps := ["cell", "k"]) fun _ _ _ _ _ _ us hl => match us, hl with | [_, _], _ => rfl
  have F__law_flat := fun_mk (st := s__law_flat) hl__law_flat hc__law_flat hk__law_flat
  have b__law_flat := F__law_flat.binds (ps := ["found", "due"]) fun _ _ _ _ _ _ us hl => match us, hl with | [_, _], _ => rfl
  have F__law_name_of := fun_mk (st := s__law_name_of) hl__law_name_of hc__law_name_of hk__law_name_of
  have b__law_name_of := F__law_name_of.binds (ps := ["letters"]) fun _ _ _ _ _ _ us hl => match us, hl with | [_], _ => rfl
  have F__law_names := fun_mk (st := s__law_names) hl__law_names hc__law_names hk__law_names
  have b__law_names := F__law_names.binds (ps := ["script", "most"]) fun _ _ _ _ _ _ us hl => match us, hl with | [_, _], _ => rfl
  have F__law_leaf := fun_mk (st := s__law_leaf) hl__law_leaf hc__law_leaf hk__law_leaf
  have b__law_leaf := F__law_leaf.binds (ps := ["cell", "names", "wide"]) fun _ _ _ _ _ _ us hl => match us, hl with | [_, _, _], _ => rfl
  have F__law_built := fun_mk (st := s__law_built) hl__law_built hc__law_built hk__law_built
  have b__law_built := F__law_built.binds (ps := ["script", "most"]) fun _ _ _ _ _ _ us hl => match us, hl with | [_, _], _ => rfl
  have F__law_made := fun_mk (st := s__law_made) hl__law_made hc__law_made hk__law_made
  have b__law_made := F__law_made.binds (ps := ["tree"]) fun _ _ _ _ _ _ us hl => match us, hl with | [_], _ => rfl
  have F__law_holds := fun_mk (st := s__law_holds) hl__law_holds hc__law_holds hk__law_holds
  have b__law_holds := F__law_holds.binds (ps := ["tree", "values"]) fun _ _ _ _ _ _ us hl => match us, hl with | [_, _], _ => rfl
  have F__law_numbers_in := fun_mk (st := s__law_numbers_in) hl__law_numbers_in hc__law_numbers_in hk__law_numbers_in
  have b__law_numbers_in := F__law_numbers_in.binds (ps := ["tree"]) fun _ _ _ _ _ _ us hl => match us, hl with | [_], _ => rfl
  have F__law_measure := fun_mk (st := s__law_measure) hl__law_measure hc__law_measure hk__law_measure
  have b__law_measure := F__law_measure.binds (ps := ["tree"]) fun _ _ _ _ _ _ us hl => match us, hl with | [_], _ => rfl
  have F__law_table := fun_mk (st := s__law_table) hl__law_table hc__law_table hk__law_table
  have b__law_table := F__law_table.binds (ps := ["script", "names", "numbers"]) fun _ _ _ _ _ _ us hl => match us, hl with | [_, _, _], _ => rfl
  have F__law_counted := fun_mk (st := s__law_counted) hl__law_counted hc__law_counted hk__law_counted
  have b__law_counted := F__law_counted.binds (ps := ["question", "tree"]) fun _ _ _ _ _ _ us hl => match us, hl with | [_, _], _ => rfl
  have F__law_summed := fun_mk (st := s__law_summed) hl__law_summed hc__law_summed hk__law_summed
  have b__law_summed := F__law_summed.binds (ps := ["name", "question", "table", "rows"]) fun _ _ _ _ _ _ us hl => match us, hl with | [_, _, _, _], _ => rfl
  have F_law := fun_mk (st := s_law) hl_law hc_law hk_law
  have b_law := F_law.binds (ps := ["script"]) fun _ _ _ _ _ _ us hl => match us, hl with | [_], _ => rfl
  let ct : String → Option Addr := fun c => if c = "Question" then some C_Question else if c = "Every" then some C_Every else if c = "Nobody" then some C_Nobody else if c = "Within" then some C_Within else if c = "Opposite" then some C_Opposite else if c = "Chain" then some C_Chain else if c = "AllOf" then some C_AllOf else if c = "OneOf" then some C_OneOf else none
  have t_Question : ct "Question" = some C_Question := by simp [ct]
  have t_Every : ct "Every" = some C_Every := by simp [ct]
  have t_Nobody : ct "Nobody" = some C_Nobody := by simp [ct]
  have t_Within : ct "Within" = some C_Within := by simp [ct]
  have t_Opposite : ct "Opposite" = some C_Opposite := by simp [ct]
  have t_Chain : ct "Chain" = some C_Chain := by simp [ct]
  have t_AllOf : ct "AllOf" = some C_AllOf := by simp [ct]
  have t_OneOf : ct "OneOf" = some C_OneOf := by simp [ct]
  have ES : Es K mg ct := ⟨()⟩
  have Z : Fs K mg ct := ⟨ES, a_plain_rows, _, F_plain_rows, b_plain_rows, PySem.W.mg_of X G ha_plain_rows, a_plain_total, _, F_plain_total, b_plain_total, PySem.W.mg_of X G ha_plain_total, a_plain_least, _, F_plain_least, b_plain_least, PySem.W.mg_of X G ha_plain_least, a_Question_holds, _, F_Question_holds, b_Question_holds, a_Question_mentions, _, F_Question_mentions, b_Question_mentions, a_Question_leaves, _, F_Question_leaves, b_Question_leaves, a_Question_depth, _, F_Question_depth, b_Question_depth, a_Every_holds, _, F_Every_holds, b_Every_holds, a_Within___init__, _, F_Within___init__, b_Within___init__, a_Within_holds, _, F_Within_holds, b_Within_holds, a_Within_mentions, _, F_Within_mentions, b_Within_mentions, a_Opposite___init__, _, F_Opposite___init__, b_Opposite___init__, a_Opposite_holds, _, F_Opposite_holds, b_Opposite_holds, a_Opposite_mentions, _, F_Opposite_mentions, b_Opposite_mentions, a_Opposite_leaves, _, F_Opposite_leaves, b_Opposite_leaves, a_Opposite_depth, _, F_Opposite_depth, b_Opposite_depth, a_Chain___init__, _, F_Chain___init__, b_Chain___init__, a_Chain_mentions, _, F_Chain_mentions, b_Chain_mentions, a_Chain_leaves, _, F_Chain_leaves, b_Chain_leaves, a_Chain_depth, _, F_Chain_depth, b_Chain_depth, a_AllOf_holds, _, F_AllOf_holds, b_AllOf_holds, a_OneOf_holds, _, F_OneOf_holds, b_OneOf_holds, a__law_cell_at, _, F__law_cell_at, b__law_cell_at, PySem.W.mg_of X G ha__law_cell_at, a__law_whole, _, F__law_whole, b__law_whole, PySem.W.mg_of X G ha__law_whole, a__law_mixed, _, F__law_mixed, b__law_mixed, PySem.W.mg_of X G ha__law_mixed, a__law_flat, _, F__law_flat, b__law_flat, PySem.W.mg_of X G ha__law_flat, a__law_name_of, _, F__law_name_of, b__law_name_of, PySem.W.mg_of X G ha__law_name_of, a__law_names, _, F__law_names, b__law_names, PySem.W.mg_of X G ha__law_names, a__law_leaf, _, F__law_leaf, b__law_leaf, PySem.W.mg_of X G ha__law_leaf, a__law_built, _, F__law_built, b__law_built, PySem.W.mg_of X G ha__law_built, a__law_made, _, F__law_made, b__law_made, PySem.W.mg_of X G ha__law_made, a__law_holds, _, F__law_holds, b__law_holds, PySem.W.mg_of X G ha__law_holds, a__law_numbers_in, _, F__law_numbers_in, b__law_numbers_in, PySem.W.mg_of X G ha__law_numbers_in, a__law_measure, _, F__law_measure, b__law_measure, PySem.W.mg_of X G ha__law_measure, a__law_table, _, F__law_table, b__law_table, PySem.W.mg_of X G ha__law_table, a__law_counted, _, F__law_counted, b__law_counted, PySem.W.mg_of X G ha__law_counted, a__law_summed, _, F__law_summed, b__law_summed, PySem.W.mg_of X G ha__law_summed, a_law, _, F_law, b_law, PySem.W.mg_of X G ha_law, C_Question, t_Question, ⟨p1_Question, p2_Question, p3_Question, p4_Question⟩, C_Every, t_Every, ⟨p1_Every, p2_Every, p3_Every, p4_Every⟩, C_Nobody, t_Nobody, ⟨p1_Nobody, p2_Nobody, p3_Nobody, p4_Nobody⟩, C_Within, t_Within, ⟨p1_Within, p2_Within, p3_Within, p4_Within⟩, C_Opposite, t_Opposite, ⟨p1_Opposite, p2_Opposite, p3_Opposite, p4_Opposite⟩, C_Chain, t_Chain, ⟨p1_Chain, p2_Chain, p3_Chain, p4_Chain⟩, C_AllOf, t_AllOf, ⟨p1_AllOf, p2_AllOf, p3_AllOf, p4_AllOf⟩, C_OneOf, t_OneOf, ⟨p1_OneOf, p2_OneOf, p3_OneOf, p4_OneOf⟩, ⟨hm_Question_holds, hi_Question_holds, hk_Question_holds⟩, ⟨hm_Question_mentions, hi_Question_mentions, hk_Question_mentions⟩, ⟨hm_Question_leaves, hi_Question_leaves, hk_Question_leaves⟩, ⟨hm_Question_depth, hi_Question_depth, hk_Question_depth⟩, ⟨hm_Every_holds, hi_Every_holds, hk_Every_holds⟩, ⟨hm_Every_mentions, hi_Question_mentions, hk_Question_mentions⟩, ⟨hm_Every_leaves, hi_Question_leaves, hk_Question_leaves⟩, ⟨hm_Every_depth, hi_Question_depth, hk_Question_depth⟩, ⟨hm_Nobody_holds, hi_Question_holds, hk_Question_holds⟩, ⟨hm_Nobody_mentions, hi_Question_mentions, hk_Question_mentions⟩, ⟨hm_Nobody_leaves, hi_Question_leaves, hk_Question_leaves⟩, ⟨hm_Nobody_depth, hi_Question_depth, hk_Question_depth⟩, ⟨hm_Within_holds, hi_Within_holds, hk_Within_holds⟩, ⟨hm_Within_mentions, hi_Within_mentions, hk_Within_mentions⟩, ⟨hm_Within_leaves, hi_Question_leaves, hk_Question_leaves⟩, ⟨hm_Within_depth, hi_Question_depth, hk_Question_depth⟩, ⟨hm_Opposite_holds, hi_Opposite_holds, hk_Opposite_holds⟩, ⟨hm_Opposite_mentions, hi_Opposite_mentions, hk_Opposite_mentions⟩, ⟨hm_Opposite_leaves, hi_Opposite_leaves, hk_Opposite_leaves⟩, ⟨hm_Opposite_depth, hi_Opposite_depth, hk_Opposite_depth⟩, ⟨hm_Chain_mentions, hi_Chain_mentions, hk_Chain_mentions⟩, ⟨hm_Chain_leaves, hi_Chain_leaves, hk_Chain_leaves⟩, ⟨hm_Chain_depth, hi_Chain_depth, hk_Chain_depth⟩, ⟨hm_Chain_holds, hi_Question_holds, hk_Question_holds⟩, ⟨hm_AllOf_holds, hi_AllOf_holds, hk_AllOf_holds⟩, ⟨hm_AllOf_mentions, hi_Chain_mentions, hk_Chain_mentions⟩, ⟨hm_AllOf_leaves, hi_Chain_leaves, hk_Chain_leaves⟩, ⟨hm_AllOf_depth, hi_Chain_depth, hk_Chain_depth⟩, ⟨hm_OneOf_holds, hi_OneOf_holds, hk_OneOf_holds⟩, ⟨hm_OneOf_mentions, hi_Chain_mentions, hk_Chain_mentions⟩, ⟨hm_OneOf_leaves, hi_Chain_leaves, hk_Chain_leaves⟩, ⟨hm_OneOf_depth, hi_Chain_depth, hk_Chain_depth⟩, PySem.W.mg_of X G hC_Every, ⟨q1_Every, q2_Every, q3_Every, q4_Every⟩, PySem.W.mg_of X G hC_Nobody, ⟨q1_Nobody, q2_Nobody, q3_Nobody, q4_Nobody⟩, PySem.W.mg_of X G hC_Within, ⟨q1_Within, q2_Within, hi_Within___init__, q3_Within⟩, PySem.W.mg_of X G hC_Opposite, ⟨q1_Opposite, q2_Opposite, hi_Opposite___init__, q3_Opposite⟩, PySem.W.mg_of X G hC_AllOf, ⟨q1_AllOf, q2_AllOf, hi_Chain___init__, q3_AllOf⟩, PySem.W.mg_of X G hC_OneOf, ⟨q1_OneOf, q2_OneOf, hi_Chain___init__, q3_OneOf⟩, n_Within_name, n_Within_low, n_Within_high, n_Opposite_one, n_Chain_parts, n_AllOf_parts, n_OneOf_parts⟩
  refine ⟨_, fun s v => (.of_eq rfl : BindsTo s (PySem.W.fnOf "law" "law" (defArgs s_law) (defBody s_law) (defScope s_law) .none kV_law dc_law pm_law an_law cd_law ty_law) ⟨[v], []⟩ [("script", v)]), fun base _ _ => ?_⟩
  have G2 : PF K ct l.prog w mg base (2 * 113 + 2) (call 113) T fns := pf B Z 113
  have FO := f_law F_law B Z.es G2
  rw [← c_law 113] at FO
  exact FO.imp fun vs H Q E ⟨a, ns, e1, e2, e3, e4⟩ => by subst e1; exact law_sp (law ns e3) e2 e4
end Wk

open PySem PySem.W PyProof.Rows
set_option maxRecDepth 100000 in
set_option maxHeartbeats 0 in
theorem PySem.Challenge.cw_runmarks_k68_rows_and_sums_holds : PySem.Challenge.rw_runmarks_k68_rows_and_sums.Holds := by
  w_on; o_law; k_head; (case hw => w_witness2)
  k_fill
  refine L2.walk_of (n := 63) (k := 230) (l := PySem.Challenge.rw_runmarks_k68_rows_and_sums) (x := "script") (CX := fun w => L2.CX PySem.Challenge.rw_runmarks_k68_rows_and_sums.prog w) (sp := fun w => Wk.spLaw _) rfl (by decide) rfl ⟨rfl, by decide, by decide⟩ (fun w h Y => PySem.W.kIn_of Y) ?F (fun _ _ a ns hl _ hS => ⟨a, ns, rfl, hS, hl, fun _ => rfl⟩) So.cx_none
  case F =>
    intro w mg fa h KX G hmg
    refine' Wk.all_mk Lw.law_true KX G hmg ?hC_Question ?hC_Every ?hC_Nobody ?hC_Within ?hC_Opposite ?hC_Chain ?hC_AllOf ?hC_OneOf ?ha_plain_rows ?hl_plain_rows ?hc_plain_rows ?hk_plain_rows ?hi_plain_rows ?ha_plain_total ?hl_plain_total ?hc_plain_total ?hk_plain_total ?hi_plain_total ?ha_plain_least ?hl_plain_least ?hc_plain_least ?hk_plain_least ?hi_plain_least ?ha_Question_holds ?hl_Question_holds ?hc_Question_holds ?hk_Question_holds ?hi_Question_holds ?ha_Question_mentions ?hl_Question_mentions ?hc_Question_mentions ?hk_Question_mentions ?hi_Question_mentions ?ha_Question_leaves ?hl_Question_leaves ?hc_Question_leaves ?hk_Question_leaves ?hi_Question_leaves ?ha_Question_depth ?hl_Question_depth ?hc_Question_depth ?hk_Question_depth ?hi_Question_depth ?ha_Every_holds ?hl_Every_holds ?hc_Every_holds ?hk_Every_holds ?hi_Every_holds ?ha_Within___init__ ?hl_Within___init__ ?hc_Within___init__ ?hk_Within___init__ ?hi_Within___init__ ?ha_Within_holds ?hl_Within_holds ?hc_Within_holds ?hk_Within_holds ?hi_Within_holds ?ha_Within_mentions ?hl_Within_mentions ?hc_Within_mentions ?hk_Within_mentions ?hi_Within_mentions ?ha_Opposite___init__ ?hl_Opposite___init__ ?hc_Opposite___init__ ?hk_Opposite___init__ ?hi_Opposite___init__ ?ha_Opposite_holds ?hl_Opposite_holds ?hc_Opposite_holds ?hk_Opposite_holds ?hi_Opposite_holds ?ha_Opposite_mentions ?hl_Opposite_mentions ?hc_Opposite_mentions ?hk_Opposite_mentions ?hi_Opposite_mentions ?ha_Opposite_leaves ?hl_Opposite_leaves ?hc_Opposite_leaves ?hk_Opposite_leaves ?hi_Opposite_leaves ?ha_Opposite_depth ?hl_Opposite_depth ?hc_Opposite_depth ?hk_Opposite_depth ?hi_Opposite_depth ?ha_Chain___init__ ?hl_Chain___init__ ?hc_Chain___init__ ?hk_Chain___init__ ?hi_Chain___init__ ?ha_Chain_mentions ?hl_Chain_mentions ?hc_Chain_mentions ?hk_Chain_mentions ?hi_Chain_mentions ?ha_Chain_leaves ?hl_Chain_leaves ?hc_Chain_leaves ?hk_Chain_leaves ?hi_Chain_leaves ?ha_Chain_depth ?hl_Chain_depth ?hc_Chain_depth ?hk_Chain_depth ?hi_Chain_depth ?ha_AllOf_holds ?hl_AllOf_holds ?hc_AllOf_holds ?hk_AllOf_holds ?hi_AllOf_holds ?ha_OneOf_holds ?hl_OneOf_holds ?hc_OneOf_holds ?hk_OneOf_holds ?hi_OneOf_holds ?ha__law_cell_at ?hl__law_cell_at ?hc__law_cell_at ?hk__law_cell_at ?hi__law_cell_at ?ha__law_whole ?hl__law_whole ?hc__law_whole ?hk__law_whole ?hi__law_whole ?ha__law_mixed ?hl__law_mixed ?hc__law_mixed ?hk__law_mixed ?hi__law_mixed ?ha__law_flat ?hl__law_flat ?hc__law_flat ?hk__law_flat ?hi__law_flat ?ha__law_name_of ?hl__law_name_of ?hc__law_name_of ?hk__law_name_of ?hi__law_name_of ?ha__law_names ?hl__law_names ?hc__law_names ?hk__law_names ?hi__law_names ?ha__law_leaf ?hl__law_leaf ?hc__law_leaf ?hk__law_leaf ?hi__law_leaf ?ha__law_built ?hl__law_built ?hc__law_built ?hk__law_built ?hi__law_built ?ha__law_made ?hl__law_made ?hc__law_made ?hk__law_made ?hi__law_made ?ha__law_holds ?hl__law_holds ?hc__law_holds ?hk__law_holds ?hi__law_holds ?ha__law_numbers_in ?hl__law_numbers_in ?hc__law_numbers_in ?hk__law_numbers_in ?hi__law_numbers_in ?ha__law_measure ?hl__law_measure ?hc__law_measure ?hk__law_measure ?hi__law_measure ?ha__law_table ?hl__law_table ?hc__law_table ?hk__law_table ?hi__law_table ?ha__law_counted ?hl__law_counted ?hc__law_counted ?hk__law_counted ?hi__law_counted ?ha__law_summed ?hl__law_summed ?hc__law_summed ?hk__law_summed ?hi__law_summed ?ha_law ?hl_law ?hc_law ?hk_law ?hi_law ?p1_Question ?p2_Question ?p3_Question ?p4_Question ?p1_Every ?p2_Every ?p3_Every ?p4_Every ?p1_Nobody ?p2_Nobody ?p3_Nobody ?p4_Nobody ?p1_Within ?p2_Within ?p3_Within ?p4_Within ?p1_Opposite ?p2_Opposite ?p3_Opposite ?p4_Opposite ?p1_Chain ?p2_Chain ?p3_Chain ?p4_Chain ?p1_AllOf ?p2_AllOf ?p3_AllOf ?p4_AllOf ?p1_OneOf ?p2_OneOf ?p3_OneOf ?p4_OneOf ?hm_Question_holds ?hm_Question_mentions ?hm_Question_leaves ?hm_Question_depth ?hm_Every_holds ?hm_Every_mentions ?hm_Every_leaves ?hm_Every_depth ?hm_Nobody_holds ?hm_Nobody_mentions ?hm_Nobody_leaves ?hm_Nobody_depth ?hm_Within_holds ?hm_Within_mentions ?hm_Within_leaves ?hm_Within_depth ?hm_Opposite_holds ?hm_Opposite_mentions ?hm_Opposite_leaves ?hm_Opposite_depth ?hm_Chain_mentions ?hm_Chain_leaves ?hm_Chain_depth ?hm_Chain_holds ?hm_AllOf_holds ?hm_AllOf_mentions ?hm_AllOf_leaves ?hm_AllOf_depth ?hm_OneOf_holds ?hm_OneOf_mentions ?hm_OneOf_leaves ?hm_OneOf_depth ?q1_Every ?q2_Every ?q3_Every ?q4_Every ?q1_Nobody ?q2_Nobody ?q3_Nobody ?q4_Nobody ?q1_Within ?q2_Within ?q3_Within ?q1_Opposite ?q2_Opposite ?q3_Opposite ?q1_AllOf ?q2_AllOf ?q3_AllOf ?q1_OneOf ?q2_OneOf ?q3_OneOf ?n_Within_name ?n_Within_low ?n_Within_high ?n_Opposite_one ?n_Chain_parts ?n_AllOf_parts ?n_OneOf_parts ?z_sorted ?z_sum ?z_min ?z_list ?z_max ?z_all ?z_any ?z_len ?z_isinstance ?z_int ?z_bool ?z_range ?z_tuple ?z_dict
    (case hC_Question => k_is)
    (case hC_Every => k_is)
    (case hC_Nobody => k_is)
    (case hC_Within => k_is)
    (case hC_Opposite => k_is)
    (case hC_Chain => k_is)
    (case hC_AllOf => k_is)
    (case hC_OneOf => k_is)
    (case ha_plain_rows => k_is)
    (case hl_plain_rows => k_is)
    (case hc_plain_rows => k_is)
    (case hk_plain_rows => k_is)
    (case hi_plain_rows => k_is)
    (case ha_plain_total => k_is)
    (case hl_plain_total => k_is)
    (case hc_plain_total => k_is)
    (case hk_plain_total => k_is)
    (case hi_plain_total => k_is)
    (case ha_plain_least => k_is)
    (case hl_plain_least => k_is)
    (case hc_plain_least => k_is)
    (case hk_plain_least => k_is)
    (case hi_plain_least => k_is)
    (case ha_Question_holds => k_is)
    (case hl_Question_holds => k_is)
    (case hc_Question_holds => k_is)
    (case hk_Question_holds => k_is)
    (case hi_Question_holds => k_is)
    (case ha_Question_mentions => k_is)
    (case hl_Question_mentions => k_is)
    (case hc_Question_mentions => k_is)
    (case hk_Question_mentions => k_is)
    (case hi_Question_mentions => k_is)
    (case ha_Question_leaves => k_is)
    (case hl_Question_leaves => k_is)
    (case hc_Question_leaves => k_is)
    (case hk_Question_leaves => k_is)
    (case hi_Question_leaves => k_is)
    (case ha_Question_depth => k_is)
    (case hl_Question_depth => k_is)
    (case hc_Question_depth => k_is)
    (case hk_Question_depth => k_is)
    (case hi_Question_depth => k_is)
    (case ha_Every_holds => k_is)
    (case hl_Every_holds => k_is)
    (case hc_Every_holds => k_is)
    (case hk_Every_holds => k_is)
    (case hi_Every_holds => k_is)
    (case ha_Within___init__ => k_is)
    (case hl_Within___init__ => k_is)
    (case hc_Within___init__ => k_is)
    (case hk_Within___init__ => k_is)
    (case hi_Within___init__ => k_is)
    (case ha_Within_holds => k_is)
    (case hl_Within_holds => k_is)
    (case hc_Within_holds => k_is)
    (case hk_Within_holds => k_is)
    (case hi_Within_holds => k_is)
    (case ha_Within_mentions => k_is)
    (case hl_Within_mentions => k_is)
    (case hc_Within_mentions => k_is)
    (case hk_Within_mentions => k_is)
    (case hi_Within_mentions => k_is)
    (case ha_Opposite___init__ => k_is)
    (case hl_Opposite___init__ => k_is)
    (case hc_Opposite___init__ => k_is)
    (case hk_Opposite___init__ => k_is)
    (case hi_Opposite___init__ => k_is)
    (case ha_Opposite_holds => k_is)
    (case hl_Opposite_holds => k_is)
    (case hc_Opposite_holds => k_is)
    (case hk_Opposite_holds => k_is)
    (case hi_Opposite_holds => k_is)
    (case ha_Opposite_mentions => k_is)
    (case hl_Opposite_mentions => k_is)
    (case hc_Opposite_mentions => k_is)
    (case hk_Opposite_mentions => k_is)
    (case hi_Opposite_mentions => k_is)
    (case ha_Opposite_leaves => k_is)
    (case hl_Opposite_leaves => k_is)
    (case hc_Opposite_leaves => k_is)
    (case hk_Opposite_leaves => k_is)
    (case hi_Opposite_leaves => k_is)
    (case ha_Opposite_depth => k_is)
    (case hl_Opposite_depth => k_is)
    (case hc_Opposite_depth => k_is)
    (case hk_Opposite_depth => k_is)
    (case hi_Opposite_depth => k_is)
    (case ha_Chain___init__ => k_is)
    (case hl_Chain___init__ => k_is)
    (case hc_Chain___init__ => k_is)
    (case hk_Chain___init__ => k_is)
    (case hi_Chain___init__ => k_is)
    (case ha_Chain_mentions => k_is)
    (case hl_Chain_mentions => k_is)
    (case hc_Chain_mentions => k_is)
    (case hk_Chain_mentions => k_is)
    (case hi_Chain_mentions => k_is)
    (case ha_Chain_leaves => k_is)
    (case hl_Chain_leaves => k_is)
    (case hc_Chain_leaves => k_is)
    (case hk_Chain_leaves => k_is)
    (case hi_Chain_leaves => k_is)
    (case ha_Chain_depth => k_is)
    (case hl_Chain_depth => k_is)
    (case hc_Chain_depth => k_is)
    (case hk_Chain_depth => k_is)
    (case hi_Chain_depth => k_is)
    (case ha_AllOf_holds => k_is)
    (case hl_AllOf_holds => k_is)
    (case hc_AllOf_holds => k_is)
    (case hk_AllOf_holds => k_is)
    (case hi_AllOf_holds => k_is)
    (case ha_OneOf_holds => k_is)
    (case hl_OneOf_holds => k_is)
    (case hc_OneOf_holds => k_is)
    (case hk_OneOf_holds => k_is)
    (case hi_OneOf_holds => k_is)
    (case ha__law_cell_at => k_is)
    (case hl__law_cell_at => k_is)
    (case hc__law_cell_at => k_is)
    (case hk__law_cell_at => k_is)
    (case hi__law_cell_at => k_is)
    (case ha__law_whole => k_is)
    (case hl__law_whole => k_is)
    (case hc__law_whole => k_is)
    (case hk__law_whole => k_is)
    (case hi__law_whole => k_is)
    (case ha__law_mixed => k_is)
    (case hl__law_mixed => k_is)
    (case hc__law_mixed => k_is)
    (case hk__law_mixed => k_is)
    (case hi__law_mixed => k_is)
    (case ha__law_flat => k_is)
    (case hl__law_flat => k_is)
    (case hc__law_flat => k_is)
    (case hk__law_flat => k_is)
    (case hi__law_flat => k_is)
    (case ha__law_name_of => k_is)
    (case hl__law_name_of => k_is)
    (case hc__law_name_of => k_is)
    (case hk__law_name_of => k_is)
    (case hi__law_name_of => k_is)
    (case ha__law_names => k_is)
    (case hl__law_names => k_is)
    (case hc__law_names => k_is)
    (case hk__law_names => k_is)
    (case hi__law_names => k_is)
    (case ha__law_leaf => k_is)
    (case hl__law_leaf => k_is)
    (case hc__law_leaf => k_is)
    (case hk__law_leaf => k_is)
    (case hi__law_leaf => k_is)
    (case ha__law_built => k_is)
    (case hl__law_built => k_is)
    (case hc__law_built => k_is)
    (case hk__law_built => k_is)
    (case hi__law_built => k_is)
    (case ha__law_made => k_is)
    (case hl__law_made => k_is)
    (case hc__law_made => k_is)
    (case hk__law_made => k_is)
    (case hi__law_made => k_is)
    (case ha__law_holds => k_is)
    (case hl__law_holds => k_is)
    (case hc__law_holds => k_is)
    (case hk__law_holds => k_is)
    (case hi__law_holds => k_is)
    (case ha__law_numbers_in => k_is)
    (case hl__law_numbers_in => k_is)
    (case hc__law_numbers_in => k_is)
    (case hk__law_numbers_in => k_is)
    (case hi__law_numbers_in => k_is)
    (case ha__law_measure => k_is)
    (case hl__law_measure => k_is)
    (case hc__law_measure => k_is)
    (case hk__law_measure => k_is)
    (case hi__law_measure => k_is)
    (case ha__law_table => k_is)
    (case hl__law_table => k_is)
    (case hc__law_table => k_is)
    (case hk__law_table => k_is)
    (case hi__law_table => k_is)
    (case ha__law_counted => k_is)
    (case hl__law_counted => k_is)
    (case hc__law_counted => k_is)
    (case hk__law_counted => k_is)
    (case hi__law_counted => k_is)
    (case ha__law_summed => k_is)
    (case hl__law_summed => k_is)
    (case hc__law_summed => k_is)
    (case hk__law_summed => k_is)
    (case hi__law_summed => k_is)
    (case ha_law => k_is)
    (case hl_law => k_is)
    (case hc_law => k_is)
    (case hk_law => k_is)
    (case hi_law => k_is)
    (case p1_Question => k_is)
    (case p2_Question => k_is)
    (case p3_Question => k_is)
    (case p4_Question => k_is)
    (case p1_Every => k_is)
    (case p2_Every => k_is)
    (case p3_Every => k_is)
    (case p4_Every => k_is)
    (case p1_Nobody => k_is)
    (case p2_Nobody => k_is)
    (case p3_Nobody => k_is)
    (case p4_Nobody => k_is)
    (case p1_Within => k_is)
    (case p2_Within => k_is)
    (case p3_Within => k_is)
    (case p4_Within => k_is)
    (case p1_Opposite => k_is)
    (case p2_Opposite => k_is)
    (case p3_Opposite => k_is)
    (case p4_Opposite => k_is)
    (case p1_Chain => k_is)
    (case p2_Chain => k_is)
    (case p3_Chain => k_is)
    (case p4_Chain => k_is)
    (case p1_AllOf => k_is)
    (case p2_AllOf => k_is)
    (case p3_AllOf => k_is)
    (case p4_AllOf => k_is)
    (case p1_OneOf => k_is)
    (case p2_OneOf => k_is)
    (case p3_OneOf => k_is)
    (case p4_OneOf => k_is)
    (case hm_Question_holds => k_is)
    (case hm_Question_mentions => k_is)
    (case hm_Question_leaves => k_is)
    (case hm_Question_depth => k_is)
    (case hm_Every_holds => k_is)
    (case hm_Every_mentions => k_is)
    (case hm_Every_leaves => k_is)
    (case hm_Every_depth => k_is)
    (case hm_Nobody_holds => k_is)
    (case hm_Nobody_mentions => k_is)
    (case hm_Nobody_leaves => k_is)
    (case hm_Nobody_depth => k_is)
    (case hm_Within_holds => k_is)
    (case hm_Within_mentions => k_is)
    (case hm_Within_leaves => k_is)
    (case hm_Within_depth => k_is)
    (case hm_Opposite_holds => k_is)
    (case hm_Opposite_mentions => k_is)
    (case hm_Opposite_leaves => k_is)
    (case hm_Opposite_depth => k_is)
    (case hm_Chain_mentions => k_is)
    (case hm_Chain_leaves => k_is)
    (case hm_Chain_depth => k_is)
    (case hm_Chain_holds => k_is)
    (case hm_AllOf_holds => k_is)
    (case hm_AllOf_mentions => k_is)
    (case hm_AllOf_leaves => k_is)
    (case hm_AllOf_depth => k_is)
    (case hm_OneOf_holds => k_is)
    (case hm_OneOf_mentions => k_is)
    (case hm_OneOf_leaves => k_is)
    (case hm_OneOf_depth => k_is)
    (case q1_Every => k_is)
    (case q2_Every => k_is)
    (case q3_Every => k_is)
    (case q4_Every => k_is)
    (case q1_Nobody => k_is)
    (case q2_Nobody => k_is)
    (case q3_Nobody => k_is)
    (case q4_Nobody => k_is)
    (case q1_Within => k_is)
    (case q2_Within => k_is)
    (case q3_Within => k_is)
    (case q1_Opposite => k_is)
    (case q2_Opposite => k_is)
    (case q3_Opposite => k_is)
    (case q1_AllOf => k_is)
    (case q2_AllOf => k_is)
    (case q3_AllOf => k_is)
    (case q1_OneOf => k_is)
    (case q2_OneOf => k_is)
    (case q3_OneOf => k_is)
    (case n_Within_name => k_is)
    (case n_Within_low => k_is)
    (case n_Within_high => k_is)
    (case n_Opposite_one => k_is)
    (case n_Chain_parts => k_is)
    (case n_AllOf_parts => k_is)
    (case n_OneOf_parts => k_is)
    (case z_sorted => k_is)
    (case z_sum => k_is)
    (case z_min => k_is)
    (case z_list => k_is)
    (case z_max => k_is)
    (case z_all => k_is)
    (case z_any => k_is)
    (case z_len => k_is)
    (case z_isinstance => k_is)
    (case z_int => k_is)
    (case z_bool => k_is)
    (case z_range => k_is)
    (case z_tuple => k_is)
    (case z_dict => k_is)

