import PyProof.Rows.All
import Wide.All
import OpenK.AllK
import Wide.FinOn
import HandS.ForMost
import HandS.ForExc
import HandS.New0
import HandS.WordsExc
import HandS.IsInst
import KE.DatumOrd
import HandS.SortKw
import HandS.More
import HandS.Ends
import HandS.ExcInit
import HandS.ExcField
import KE.IntTextLaws
import KE.GoesEnum
import KE.GoesMore
import HandS.TryMany
import HandS.ExcIs
import KE.RegKIsAll
import KE.RegKTryMore
import PySem.Challenge.RW_runmarks_k64_refused_by_place
set_option linter.all false
/-! # Mi: a small world of values, owned cells and stores, in plain Lean -/
namespace Mi
noncomputable section

abbrev Tx := List Nat

/-- a key of a dict -/
inductive Ky where
  | i (n : Int) | s (x : Tx)
  deriving DecidableEq

/-- a value: data as trees that never change; ref: an object of the store -/
inductive D where
  | non | bl (b : Bool) | int (i : Int) | str (x : Tx)
  | lst (xs : List D) | tup (xs : List D) | dct (kvs : List (Ky × D)) | obj (c : String) (fs : List (String × D)) | ref (i : Nat)
  | scr (xs : List D)

/-- what an owned place holds: a list, a dict (lkd: while it is walked), a dict with tuple keys -/
inductive Cl where
  | lst (xs : List D) | dct (kvs : List (Ky × D)) | lkd (kvs : List (Ky × D)) | dcT (kvs : List (List Ky × D))

/-- a slot, a field: a value, an owned cell, a cell that is lent -/
inductive FV where
  | v (d : D) | o (c : Cl) | lent

/-- a cell of the store: an instance, a lent list or dict -/
inductive SC where
  | ins (c : String) (fs : List (String × FV)) | c (x : Cl)

abbrev Env := List (Option FV)
structure Me where
  σ : Env
  S : List SC

/-- an exception: its class, its fields -/
structure Xc where
  c : String
  fs : List (String × D)

inductive Res (α : Type) where
  | ok (a : α) (m : Me) | ex (x : Xc) (m : Me) | bad

def Res.bind {α β : Type} (r : Res α) (k : α → Me → Res β) : Res β :=
  match r with
  | .ok a m => k a m
  | .ex x m => .ex x m
  | .bad => .bad
@[simp] theorem Res.bind_ok {α β : Type} (a : α) (m : Me) (k : α → Me → Res β) : (Res.ok a m).bind k = k a m := rfl
@[simp] theorem Res.bind_ex {α β : Type} (x : Xc) (m : Me) (k : α → Me → Res β) : (Res.ex x m : Res α).bind k = .ex x m := rfl
@[simp] theorem Res.bind_bad {α β : Type} (k : α → Me → Res β) : (Res.bad : Res α).bind k = .bad := rfl
/-- a partial answer -/
def Res.opt {α : Type} (o : Option α) (m : Me) : Res α := match o with | some a => .ok a m | none => .bad
@[simp] theorem Res.opt_some {α : Type} (a : α) (m : Me) : Res.opt (some a) m = .ok a m := rfl
@[simp] theorem Res.opt_none {α : Type} (m : Me) : Res.opt (none : Option α) m = .bad := rfl

/-- what an expression gives: a value, a slot that owns a cell -/
inductive PV where
  | v (d : D) | sl (i : Nat)

abbrev Ev := Me → Res PV
abbrev Tv := Me → Res Bool
abbrev Av := Me → Res (List PV)
/-- a new list, a new dict -/
abbrev Lv := Me → Res (List D)
abbrev Iv := Me → Res (List D)

/-- what a place or a value holds as a cell -/
def Me.slot (m : Me) (i : Nat) : Option Cl := match m.σ[i]? with | some (some (.o c)) => some c | _ => none
def Me.field (m : Me) (n : Nat) (f : String) : Option Cl := match m.S[n]? with
  | some (.ins _ fs) => (match fs.lookup f with | some (.o c) => some c | _ => none)
  | _ => none
def Me.glob (m : Me) (n : Nat) : Option Cl := match m.S[n]? with | some (.c x) => some x | _ => none
def Me.cl (m : Me) : PV → Option Cl
  | .v (.lst xs) => some (.lst xs)
  | .v (.dct kvs) => some (.dct kvs)
  | .v (.ref n) => m.glob n
  | .v _ => none
  | .sl i => m.slot i
/-- the value, where it is one -/
def PV.d : PV → Option D | .v d => some d | _ => none
@[simp] theorem PV.d_v (d : D) : (PV.v d).d = some d := rfl
@[simp] theorem PV.d_sl (i : Nat) : (PV.sl i).d = none := rfl
def PV.ds : List PV → Option (List D)
  | [] => some []
  | p :: ps => match p.d, PV.ds ps with | some d, some r => some (d :: r) | _, _ => none
@[simp] theorem PV.ds_nil : PV.ds [] = some [] := rfl
@[simp] theorem PV.ds_cons (p : PV) (ps : List PV) : PV.ds (p :: ps) = (match p.d, PV.ds ps with | some d, some r => some (d :: r) | _, _ => none) := rfl

/-- the longest list, text -/
def big : Nat := Classical.choose (⟨16777216, rfl⟩ : ∃ n : Nat, n = 16777216)
theorem big_is : big = 16777216 := Classical.choose_spec (⟨16777216, rfl⟩ : ∃ n : Nat, n = 16777216)

/-! ### expressions -/
def eVar (i : Nat) : Ev := fun m => match m.σ[i]? with
  | some (some (.v d)) => .ok (.v d) m
  | some (some (.o _)) => .ok (.sl i) m
  | _ => .bad
def eC (d : D) : Ev := fun m => .ok (.v d) m
/-- two values in, one out -/
def e2 (g : PV → PV → Me → Option D) (a b : Ev) : Ev := fun m => (a m).bind fun x m1 => (b m1).bind fun y m2 => (Res.opt (g x y m2) m2).bind fun d m3 => .ok (.v d) m3
def e1 (g : PV → Me → Option D) (a : Ev) : Ev := fun m => (a m).bind fun x m1 => (Res.opt (g x m1) m1).bind fun d m3 => .ok (.v d) m3

def gI (p : Int → Int → Bool) (g : Int → Int → Int) : PV → PV → Me → Option D := fun x y _ => match x, y with
  | .v (.int i), .v (.int j) => if p i j then some (.int (g i j)) else none
  | _, _ => none
def lim30 : Nat := Classical.choose (⟨1073741824, rfl⟩ : ∃ n : Nat, n = 1073741824)
theorem lim30_is : lim30 = 1073741824 := Classical.choose_spec (⟨1073741824, rfl⟩ : ∃ n : Nat, n = 1073741824)
def lim64 : Int := Classical.choose (⟨2 ^ 64, rfl⟩ : ∃ n : Int, n = 2 ^ 64)
theorem lim64_is : lim64 = 2 ^ 64 := Classical.choose_spec (⟨2 ^ 64, rfl⟩ : ∃ n : Int, n = 2 ^ 64)
def lim64N : Nat := Classical.choose (⟨2 ^ 64, rfl⟩ : ∃ n : Nat, n = 2 ^ 64)
theorem lim64N_is : lim64N = 2 ^ 64 := Classical.choose_spec (⟨2 ^ 64, rfl⟩ : ∃ n : Nat, n = 2 ^ 64)
def limE : Int := Classical.choose (⟨1000000, rfl⟩ : ∃ n : Int, n = 1000000)
theorem limE_is : limE = 1000000 := Classical.choose_spec (⟨1000000, rfl⟩ : ∃ n : Int, n = 1000000)
def lim62 : Int := Classical.choose (⟨2 ^ 62, rfl⟩ : ∃ n : Int, n = 2 ^ 62)
theorem lim62_is : lim62 = 2 ^ 62 := Classical.choose_spec (⟨2 ^ 62, rfl⟩ : ∃ n : Int, n = 2 ^ 62)
def lim63 : Int := Classical.choose (⟨2 ^ 63, rfl⟩ : ∃ n : Int, n = 2 ^ 63)
theorem lim63_is : lim63 = 2 ^ 63 := Classical.choose_spec (⟨2 ^ 63, rfl⟩ : ∃ n : Int, n = 2 ^ 63)
def small64 (i : Int) : Bool := decide (-lim64 < i ∧ i < lim64)
/-- +: intsL, texts -/
def gAdd : PV → PV → Me → Option D := fun x y _ => match x, y with
  | .v (.int i), .v (.int j) => some (.int (i + j))
  | .v (.str a), .v (.str b) => if a.length + b.length ≤ big then some (.str (a ++ b)) else none
  | _, _ => none
def gSub := gI (fun _ _ => true) fun i j => i - j
def gMul := gI (fun i j => small64 i || small64 j) fun i j => i * j
def gMod := gI (fun _ j => j != 0) fun i j => i.fmod j
def gDiv := gI (fun _ j => j != 0 && decide (j.natAbs < lim30)) fun i j => i.fdiv j
def gPow := gI (fun i j => decide (0 ≤ j ∧ j ≤ limE ∧ i.natAbs < lim64N)) fun i j => i ^ j.toNat
def gShl := gI (fun i j => decide (0 ≤ j ∧ j ≤ limE ∧ i.natAbs < lim64N)) fun i j => i * 2 ^ j.toNat
def gShr := gI (fun _ j => decide (0 ≤ j)) fun i j => i / 2 ^ j.toNat
def gNeg : PV → Me → Option D := fun x _ => match x with | .v (.int i) => some (.int (-i)) | _ => none
/-- comparisons of intsL -/
def gCmp (p : Int → Int → Bool) : PV → PV → Me → Option D := fun x y _ => match x, y with
  | .v (.int i), .v (.int j) => some (.bl (p i j))
  | _, _ => none
-- == of data
mutual
def eqv : D → D → Bool
  | .non, .non => true
  | .bl a, .bl b => a == b
  | .bl a, .int j => (if a then 1 else 0) == j
  | .int i, .bl b => i == (if b then 1 else 0)
  | .int i, .int j => i == j
  | .str x, .str y => x == y
  | .lst xs, .lst ys => eqvs xs ys
  | .tup xs, .tup ys => eqvs xs ys
  | _, _ => false
def eqvs : List D → List D → Bool
  | [], [] => true
  | x :: xs, y :: ys => eqv x y && eqvs xs ys
  | _, _ => false
end
mutual
-- plain data: its depth, if it is so
def dep : D → Option Nat
  | .non => some 0 | .bl _ => some 0 | .int _ => some 0
  | .str x => if x.all (fun c => decide (c < 1114112)) then some 0 else none
  | .lst xs => (deps xs).map fun k => k + 1
  | .tup xs => (deps xs).map fun k => k + 1
  | _ => none
def deps : List D → Option Nat
  | [] => some 0
  | x :: xs => match dep x, deps xs with | some a, some b => some (max a b) | _, _ => none
end
def datum (d : D) : Bool := match dep d with | some k => decide (k ≤ 60) | none => false
/-- the data that a value or a place holds -/
def Me.dat (m : Me) (x : PV) : Option D := match m.cl x with
  | some (.lst xs) => some (.lst xs)
  | some _ => none
  | none => x.d
/-- scalars whose == is told at once -/
def scl : D → D → Bool
  | .non, .non => true | .non, .int _ => true | .int _, .non => true | .non, .bl _ => true | .bl _, .non => true | .non, .str _ => true | .str _, .non => true
  | .int _, .int _ => true | .bl _, .bl _ => true | .str _, .str _ => true
  | .int _, .str _ => true | .str _, .int _ => true | .bl _, .str _ => true | .str _, .bl _ => true
  | _, _ => false
def gEq : PV → PV → Me → Option D := fun x y m => match m.dat x, m.dat y with
  | some a, some b => if scl a b || (datum a && datum b) then some (.bl (eqv a b)) else none
  | _, _ => none
def gNe : PV → PV → Me → Option D := fun x y m => match m.dat x, m.dat y with
  | some a, some b => if scl a b || (datum a && datum b) then some (.bl (!eqv a b)) else none
  | _, _ => none
/-- x is None -/
def isN : D → Bool | .non => true | _ => false
def gIsN : PV → PV → Me → Option D := fun x y _ => match x, y with
  | .v d, .v .non => some (.bl (isN d))
  | _, _ => none
def gNotN : PV → PV → Me → Option D := fun x y _ => match x, y with
  | .v d, .v .non => some (.bl (!isN d))
  | _, _ => none
/-- flat values -/
def flat : D → Bool | .non => true | .bl _ => true | .int _ => true | .str _ => true | _ => false
/-- the items of a list or tuple -/
def Me.items (m : Me) (x : PV) : Option (List D) := match x with
  | .v (.tup xs) => some xs
  | .v (.scr xs) => some xs
  | _ => match m.cl x with | some (.lst xs) => some xs | _ => none
/-- the items of a list -/
def Me.ls (m : Me) (x : PV) : Option (List D) := match x with
  | .v (.scr xs) => some xs
  | _ => match m.cl x with | some (.lst xs) => some xs | _ => none
/-- x in xs of flat things -/
def gIn : PV → PV → Me → Option D := fun x y m => match x, m.items y with
  | .v a, some xs => if flat a && xs.all flat then some (.bl (xs.any fun y => eqv y a)) else none
  | _, _ => none
def gNotIn : PV → PV → Me → Option D := fun x y m => match x, m.items y with
  | .v a, some xs => if flat a && xs.all flat then some (.bl (!xs.any fun y => eqv y a)) else none
  | _, _ => none
/-- one sign in a text -/
def gInT : PV → PV → Me → Option D := fun x y _ => match x, y with
  | .v (.str [c]), .v (.str z) => some (.bl (decide (c ∈ z)))
  | _, _ => none
def gNotInT : PV → PV → Me → Option D := fun x y _ => match x, y with
  | .v (.str [c]), .v (.str z) => some (.bl (!decide (c ∈ z)))
  | _, _ => none
/-- a key of a dict -/
def kyOf : D → Option Ky | .int i => some (.i i) | .str x => some (.s x) | _ => none
def ky : PV → Option Ky | .v d => kyOf d | _ => none
def kyD : Ky → D | .i n => .int n | .s x => .str x
/-- dicts -/
def look (kvs : List (Ky × D)) (k : Ky) : Option D := (kvs.find? fun kv => decide (kv.1 = k)).map (·.2)
def putKv (kvs : List (Ky × D)) (k : Ky) (v : D) : List (Ky × D) :=
  if (kvs.any fun kv => decide (kv.1 = k)) = true then kvs.map (fun kv => if kv.1 = k then (kv.1, v) else kv) else kvs ++ [(k, v)]
def dropKv (kvs : List (Ky × D)) (k : Ky) : List (Ky × D) := kvs.filter fun kv => decide (kv.1 ≠ k)
def Me.kvs (m : Me) (x : PV) : Option (List (Ky × D)) := match m.cl x with
  | some (.dct kvs) => some kvs
  | some (.lkd kvs) => some kvs
  | _ => none
def gInK : PV → PV → Me → Option D := fun x y m => match ky x, m.kvs y with
  | some k, some kvs => some (.bl (look kvs k).isSome)
  | _, _ => none
def gNotInK : PV → PV → Me → Option D := fun x y m => match ky x, m.kvs y with
  | some k, some kvs => some (.bl (!(look kvs k).isSome))
  | _, _ => none
/-- d[k] -/
def gKey : PV → PV → Me → Option D := fun x y m => match m.kvs x, ky y with
  | some kvs, some k => look kvs k
  | _, _ => none
/-- the place of an index of any sign -/
def ixN (n : Nat) (i : Int) : Option Nat := if 0 ≤ i then (if i < n then some i.toNat else none) else if -(n : Int) ≤ i then some (i + n).toNat else none
def atI {α : Type} (xs : List α) (i : Int) : Option α := (ixN xs.length i).bind fun j => xs[j]?
/-- xs[i] of a list or tuple -/
def gIx : PV → PV → Me → Option D := fun x y m => match m.items x, y with
  | some xs, .v (.int i) => atI xs i
  | _, _ => none
/-- s[i] of a text -/
def gIxT : PV → PV → Me → Option D := fun x y _ => match x, y with
  | .v (.str z), .v (.int i) => if z.length ≤ big then (atI z i).map fun c => .str [c] else none
  | _, _ => none
/-- a slice -/
def sIx (n d : Nat) : Option Int → Nat
  | none => d
  | some v => if v < 0 then (v + (n : Int)).toNat else min v.toNat n
def cut {α : Type} (xs : List α) (lo hi : Option Int) : List α := (xs.drop (sIx xs.length 0 lo)).take (sIx xs.length xs.length hi - sIx xs.length 0 lo)
/-- len -/
def gLen : PV → Me → Option D := fun x m => match x with
  | .v (.str z) => if z.length ≤ big then some (.int z.length) else none
  | _ => match m.items x with
    | some xs => some (.int xs.length)
    | none => none
/-- len of a dict -/
def gLenK : PV → Me → Option D := fun x m => (m.kvs x).map fun kvs => .int kvs.length
/-- int(x) -/
def gInt : PV → Me → Option D := fun x _ => match x with
  | .v (.int i) => some (.int i)
  | .v (.bl b) => some (.int (if b then 1 else 0))
  | _ => none
def gMin2 : PV → PV → Me → Option D := fun x y _ => match x, y with | .v (.int i), .v (.int j) => some (.int (if j < i then j else i)) | _, _ => none
def gMax2 : PV → PV → Me → Option D := fun x y _ => match x, y with | .v (.int i), .v (.int j) => some (.int (if j > i then j else i)) | _, _ => none

/-- a built-in with arguments: one value; a new list -/
def eA (g : List PV → Me → Option D) (a : Av) : Ev := fun m => (a m).bind fun ps m1 => (Res.opt (g ps m1) m1).bind fun d m2 => .ok (.v d) m2
def lA (g : List PV → Me → Option (List D)) (a : Av) : Lv := fun m => (a m).bind fun ps m1 => Res.opt (g ps m1) m1
def asInts : List D → Option (List Int)
  | [] => some []
  | .int i :: r => (asInts r).map fun l => i :: l
  | _ => none
def asBls : List D → Option (List Bool)
  | [] => some []
  | .bl i :: r => (asBls r).map fun l => i :: l
  | _ => none
def aLen : List PV → Me → Option D := fun ps m => match ps with | [x] => gLen x m | _ => none
def aInt : List PV → Me → Option D := fun ps m => match ps with | [x] => gInt x m | _ => none
def aMin : List PV → Me → Option D := fun ps m => match ps with | [x, y] => gMin2 x y m | _ => none
def aMax : List PV → Me → Option D := fun ps m => match ps with | [x, y] => gMax2 x y m | _ => none
def aSum : List PV → Me → Option D := fun ps m => match ps with | [x] => ((m.ls x).bind asInts).map fun l => .int l.sum | _ => none
def aAny : List PV → Me → Option D := fun ps m => match ps with | [x] => ((m.ls x).bind asBls).map fun l => .bl (l.any id) | _ => none
def aAll : List PV → Me → Option D := fun ps m => match ps with | [x] => ((m.ls x).bind asBls).map fun l => .bl (l.all id) | _ => none
def aOf : List PV → Me → Option (List D) := fun ps m => match ps with | [x] => m.items x | _ => none
/-- a and b as values (bools) -/
def eAnd (a b : Ev) : Ev := fun m => (a m).bind fun x m1 => match x with
  | .v (.bl true) => b m1
  | .v (.bl false) => .ok (.v (.bl false)) m1
  | _ => .bad
def eOr (a b : Ev) : Ev := fun m => (a m).bind fun x m1 => match x with
  | .v (.bl true) => .ok (.v (.bl true)) m1
  | .v (.bl false) => b m1
  | _ => .bad
def gNot : PV → Me → Option D := fun x _ => match x with | .v (.bl b) => some (.bl (!b)) | _ => none
/-- a <= b <= c -/
def eChain (p q : Int → Int → Bool) (a b c : Ev) : Ev := fun m => (a m).bind fun x m1 => (b m1).bind fun y m2 => match x, y with
  | .v (.int i), .v (.int j) => if p i j then (c m2).bind fun z m3 => (match z with
      | .v (.int k) => .ok (.v (.bl (q j k))) m3
      | _ => .bad) else .ok (.v (.bl false)) m2
  | _, _ => .bad
/-- tests -/
def tV (e : Ev) : Tv := fun m => (e m).bind fun x m1 => match x with | .v (.bl b) => .ok b m1 | _ => .bad
def tAnd (a b : Tv) : Tv := fun m => (a m).bind fun x m1 => if x then b m1 else .ok false m1
def tOr (a b : Tv) : Tv := fun m => (a m).bind fun x m1 => if x then .ok true m1 else b m1
def tNot (a : Tv) : Tv := fun m => (a m).bind fun x m1 => .ok (!x) m1
/-- truth of a bool, an int, None, a list -/
def tTru (e : Ev) : Tv := fun m => (e m).bind fun x m1 => match x with
  | .v (.bl b) => .ok b m1
  | .v (.int i) => .ok (i != 0) m1
  | .v .non => .ok false m1
  | _ => match m1.items x with | some xs => .ok (!xs.isEmpty) m1 | none => .bad
def eIf (t : Tv) (a b : Ev) : Ev := fun m => (t m).bind fun x m1 => if x then a m1 else b m1

/-! ### arguments, displays -/
def aNil : Av := fun m => .ok [] m
def aCons (a : Ev) (r : Av) : Av := fun m => (a m).bind fun x m1 => (r m1).bind fun xs m2 => .ok (x :: xs) m2
def vals (a : Av) : Lv := fun m => (a m).bind fun xs m1 => Res.opt (PV.ds xs) m1
def eTup (a : Av) : Ev := fun m => (a m).bind fun ps m1 => match PV.ds ps with | some xs => if xs.length ≤ big then .ok (.v (.tup xs)) m1 else .bad | none => .bad
/-- [a, b] -/
def lDisp (a : Av) : Lv := fun m => (a m).bind fun ps m1 => match PV.ds ps with | some xs => if xs.length ≤ big then .ok xs m1 else .bad | none => .bad
/-- xs + ys -/
def lCat (a b : Ev) : Lv := fun m => (a m).bind fun x m1 => (b m1).bind fun y m2 => match m2.cl x, m2.cl y with
  | some (.lst xs), some (.lst ys) => if xs.length + ys.length ≤ big then .ok (xs ++ ys) m2 else .bad
  | _, _ => .bad
/-- xs * k -/
def lRep (a b : Ev) : Lv := fun m => (a m).bind fun x m1 => (b m1).bind fun y m2 => match m2.cl x, y with
  | some (.lst xs), .v (.int k) => if -lim63 ≤ k ∧ k < lim63 ∧ xs.length * k.toNat ≤ big then .ok ((List.replicate k.toNat xs).flatten) m2 else .bad
  | _, _ => .bad
abbrev Ov := Me → Res (Option Int)
def oNone : Ov := fun m => .ok none m
def oSome (e : Ev) : Ov := fun m => (e m).bind fun x m1 => match x with | .v (.int i) => .ok (some i) m1 | _ => .bad
/-- xs[a:b] of a list -/
def lCut (a : Ev) (lo hi : Ov) : Lv := fun m => (a m).bind fun x m1 => (lo m1).bind fun l m2 => (hi m2).bind fun h m3 => match x, m3.cl x with
  | .v (.scr xs), _ => .ok (cut xs l h) m3
  | _, some (.lst xs) => .ok (cut xs l h) m3
  | _, _ => .bad
/-- s[a:b] of a text -/
def eCutT (a : Ev) (lo hi : Ov) : Ev := fun m => (a m).bind fun x m1 => (lo m1).bind fun l m2 => (hi m2).bind fun h m3 => match x with
  | .v (.str z) => if z.length ≤ big then .ok (.v (.str (cut z l h))) m3 else .bad
  | _ => .bad
/-- a new list as a value -/
def eL (l : Lv) : Ev := fun m => (l m).bind fun xs m1 => .ok (.v (.lst xs)) m1

/-! ### comprehensions -/
/-- what a loop's item is given to: the name in slot i; names -/
inductive Bd where
  | n (i : Nat) | t (is : List Nat)
def bTs : List Nat → List D → Env → Option Env
  | [], [], σ => some σ
  | i :: is, d :: ds, σ => if i < σ.length then bTs is ds (σ.set i (some (.v d))) else none
  | _, _, _ => none
def Bd.set (b : Bd) (d : D) (σ : Env) : Option Env := match b, d with
  | .n i, d => if i < σ.length then some (σ.set i (some (.v d))) else none
  | .t is, .tup xs => bTs is xs σ
  | .t _, _ => none
def Bd.ix : Bd → List Nat | .n i => [i] | .t is => is
def wipe (σ : Env) : List Nat → Env
  | [] => σ
  | v :: vs => (wipe σ vs).set v none
open Classical in
/-- the elements of the items that pass; nothing may change but the store -/
def comp (b : Bd) (t : Tv) (e : Ev) (σ : Env) : List D → List SC → List D → Res (List D)
  | [], S, acc => .ok acc ⟨σ, S⟩
  | x :: xs, S, acc => match b.set x σ with
    | none => .bad
    | some σ1 => match t ⟨σ1, S⟩ with
      | .ok true m => if m.σ = σ1 then (match e m with
          | .ok (.v d) m2 => if m2.σ = σ1 ∧ acc.length < big then comp b t e σ xs m2.S (acc ++ [d]) else .bad
          | _ => .bad) else .bad
      | .ok false m => if m.σ = σ1 then comp b t e σ xs m.S acc else .bad
      | _ => .bad
def tYes : Tv := fun m => .ok true m
def lComp (own : List Nat) (b : Bd) (it : Iv) (t : Tv) (e : Ev) : Lv := fun m => (it m).bind fun xs m1 =>
  if own.all (fun j => (m1.slot j).isNone) then (match comp b t e (wipe m1.σ own) xs m1.S [] with
  | .ok ys m2 => .ok ys ⟨m1.σ, m2.S⟩
  | _ => .bad) else .bad

/-! ### what is walked -/
def iLst (e : Ev) : Iv := fun m => (e m).bind fun x m1 => match x with | .v (.lst xs) => .ok xs m1 | .v (.scr xs) => .ok xs m1 | _ => .bad
def iTup (e : Ev) : Iv := fun m => (e m).bind fun x m1 => match x with | .v (.tup xs) => .ok xs m1 | _ => .bad
def intsL (lo : Int) (n : Nat) : List D := (List.range n).map fun (k : Nat) => .int (lo + k)
def in62 (i : Int) : Bool := decide (-lim62 ≤ i ∧ i < lim62)
def iRg1 (a : Ev) : Iv := fun m => (a m).bind fun x m1 => match x with | .v (.int j) => if in62 j then .ok (intsL 0 j.toNat) m1 else .bad | _ => .bad
def iRg2 (a b : Ev) : Iv := fun m => (a m).bind fun x m1 => (b m1).bind fun y m2 => match x, y with
  | .v (.int i), .v (.int j) => if in62 i && in62 j then .ok (intsL i (j - i).toNat) m2 else .bad
  | _, _ => .bad
/-- the signs of a text -/
def iStr (e : Ev) : Iv := fun m => (e m).bind fun x m1 => match x with | .v (.str z) => .ok (z.map fun c => .str [c]) m1 | _ => .bad
/-- enumerate of a list: the pairs -/
def enum (xs : List D) : List D := (xs.zipIdx).map fun p => .tup [.int (p.2 : Nat), p.1]
def iEnum (e : Ev) : Iv := fun m => (e m).bind fun x m1 => match x with | .v (.lst xs) => .ok (enum xs) m1 | _ => .bad
def zipD (xs ys : List D) : List D := (xs.zip ys).map fun p => .tup [p.1, p.2]
def iZip (a b : Ev) : Iv := fun m => (a m).bind fun x m1 => (b m1).bind fun y m2 => match x, y with
  | .v (.lst xs), .v (.lst ys) => .ok (zipD xs ys) m2
  | _, _ => .bad

/-! ### calls -/
/-- a function's answer -/
inductive RG where
  | ok (d : D) (S : List SC) | ex (x : Xc) (S : List SC) | bad
abbrev Cal := String → List D → List SC → RG
def RG.res (r : RG) (σ : Env) : Res PV := match r with
  | .ok d S => .ok (.v d) ⟨σ, S⟩
  | .ex x S => .ex x ⟨σ, S⟩
  | .bad => .bad
@[simp] theorem RG.res_ok (d : D) (S : List SC) (σ : Env) : (RG.ok d S).res σ = .ok (.v d) ⟨σ, S⟩ := rfl
@[simp] theorem RG.res_ex (x : Xc) (S : List SC) (σ : Env) : (RG.ex x S).res σ = .ex x ⟨σ, S⟩ := rfl
@[simp] theorem RG.res_bad (σ : Env) : RG.bad.res σ = .bad := rfl
/-- f(a, ..) -/
def eCall (C : Cal) (f : String) (a : Av) : Ev := fun m => (a m).bind fun ps m1 => match PV.ds ps with
  | some ds => (C f ds m1.S).res m1.σ
  | none => .bad
-- all references lie below n
mutual
def D.blw (n : Nat) : D → Bool
  | .lst xs => D.blws n xs | .tup xs => D.blws n xs | .scr xs => D.blws n xs
  | .dct kvs => D.blwk n kvs | .obj _ fs => D.blwf n fs
  | .ref i => decide (i < n)
  | _ => true
def D.blws (n : Nat) : List D → Bool
  | [] => true | x :: xs => D.blw n x && D.blws n xs
def D.blwk (n : Nat) : List (Ky × D) → Bool
  | [] => true | (_, x) :: xs => D.blw n x && D.blwk n xs
def D.blwf (n : Nat) : List (String × D) → Bool
  | [] => true | (_, x) :: xs => D.blw n x && D.blwf n xs
end
def Cl.blw (n : Nat) : Cl → Bool
  | .lst xs => D.blws n xs | .dct kvs => D.blwk n kvs | .lkd kvs => D.blwk n kvs | .dcT _ => false
open Classical in
/-- e, while slot i's cell lies in the store (slot i holds its reference) -/
def eLend (i : Nat) (e : Ev) : Ev := fun m => match m.slot i with
  | some c => (match e ⟨m.σ.set i (some (.v (.ref m.S.length))), m.S ++ [.c c]⟩ with
    | .ok (.v d) m2 => (match m2.S.drop m.S.length with
      | [.c c'] => if m2.σ = m.σ.set i (some (.v (.ref m.S.length))) ∧ m2.S.take m.S.length = m.S ∧ d.blw m.S.length = true ∧ c'.blw m.S.length = true then .ok (.v d) ⟨m.σ.set i (some (.o c')), m.S⟩ else .bad
      | _ => .bad)
    | _ => .bad)
  | none => .bad
/-- what a program's classes are: their methods, their __init__, their fields -/
structure Tb where
  mt : String → String → Option String
  ini : String → Option String
  fl : String → String → Bool
/-- the class and the fields of an object -/
def Me.obj (m : Me) : PV → Option (String × List (String × FV))
  | .v (.obj c fs) => some (c, fs.map fun p => (p.1, .v p.2))
  | .v (.ref n) => (match m.S[n]? with | some (.ins c fs) => some (c, fs) | _ => none)
  | _ => none
/-- o.m(a, ..) -/
def eMeth (C : Cal) (T : Tb) (f : String) (o : Ev) (a : Av) : Ev := fun m => match o m with
  | .ok x m1 => (match m1.obj x, x.d with
    | some (c, fs), some d => (match T.mt c f, fs.lookup f with
      | some key, none => (a m1).bind fun ps m2 => (match PV.ds ps with
        | some ds => (C key (d :: ds) m2.S).res m2.σ
        | none => .bad)
      | _, _ => .bad)
    | _, _ => .bad)
  | _ => .bad
/-- o.f -/
def eFld (T : Tb) (f : String) (o : Ev) : Ev := fun m => (o m).bind fun x m1 => match m1.obj x with
  | some (c, fs) => if T.fl c f then (match fs.lookup f with | some (.v d) => .ok (.v d) m1 | _ => .bad) else .bad
  | none => .bad
/-- C(a, ..): an object that changes later -/
def eMake (C : Cal) (T : Tb) (c : String) (a : Av) : Ev := fun m => (a m).bind fun ps m1 => match PV.ds ps, T.ini c with
  | some ds, some key => (match C key (.ref m1.S.length :: ds) (m1.S ++ [.ins c []]) with
    | .ok .non S' => .ok (.v (.ref m1.S.length)) ⟨m1.σ, S'⟩
    | .ex x S' => .ex x ⟨m1.σ, S'⟩
    | _ => .bad)
  | _, _ => .bad
def plainF : List (String × FV) → Option (List (String × D))
  | [] => some []
  | (k, .v d) :: r => (plainF r).map fun l => (k, d) :: l
  | _ => none
open Classical in
/-- C(a, ..): an object that does not change any more -/
def eMakeF (C : Cal) (T : Tb) (c : String) (a : Av) : Ev := fun m => (a m).bind fun ps m1 => match PV.ds ps, T.ini c with
  | some ds, some key => (match C key (.ref m1.S.length :: ds) (m1.S ++ [.ins c []]) with
    | .ok .non S' => (match S'.drop m1.S.length with
      | [.ins c' fs] => (match plainF fs with
        | some l => if c' = c ∧ D.blwf m1.S.length l = true ∧ S'.take m1.S.length = m1.S then .ok (.v (.obj c l)) m1 else .bad
        | none => .bad)
      | _ => .bad)
    | _ => .bad)
  | _, _ => .bad
/-- C() of a class without __init__ -/
def eMake0 (T : Tb) (c : String) : Ev := fun m => if T.ini c = some "" then .ok (.v (.obj c [])) m else .bad

/-! ### statements -/
inductive Out where
  | nx (m : Me) | rt (d : D) (m : Me) | bk (m : Me) | ct (m : Me) | ex (x : Xc) (m : Me) | bad
abbrev Sv := Me → Out
/-- an expression, then a statement's end -/
def Res.so {α : Type} (r : Res α) (k : α → Me → Out) : Out :=
  match r with
  | .ok a m => k a m
  | .ex x m => .ex x m
  | .bad => .bad
@[simp] theorem Res.so_ok {α : Type} (a : α) (m : Me) (k : α → Me → Out) : (Res.ok a m).so k = k a m := rfl
@[simp] theorem Res.so_ex {α : Type} (x : Xc) (m : Me) (k : α → Me → Out) : (Res.ex x m : Res α).so k = .ex x m := rfl
@[simp] theorem Res.so_bad {α : Type} (k : α → Me → Out) : (Res.bad : Res α).so k = .bad := rfl
def sNil : Sv := fun m => .nx m
def Out.seq (r : Out) (t : Sv) : Out := match r with
  | .nx m => t m
  | o => o
@[simp] theorem Out.seq_nx (m : Me) (t : Sv) : (Out.nx m).seq t = t m := rfl
@[simp] theorem Out.seq_rt (d : D) (m : Me) (t : Sv) : (Out.rt d m).seq t = .rt d m := rfl
@[simp] theorem Out.seq_bk (m : Me) (t : Sv) : (Out.bk m).seq t = .bk m := rfl
@[simp] theorem Out.seq_ct (m : Me) (t : Sv) : (Out.ct m).seq t = .ct m := rfl
@[simp] theorem Out.seq_ex (x : Xc) (m : Me) (t : Sv) : (Out.ex x m).seq t = .ex x m := rfl
@[simp] theorem Out.seq_bad (t : Sv) : (Out.bad).seq t = .bad := rfl
def sSeq (s t : Sv) : Sv := fun m => (s m).seq t
/-- x = e -/
def sSet (i : Nat) (e : Ev) : Sv := fun m => (e m).so fun x m1 => match x with
  | .v d => if i < m1.σ.length then .nx ⟨m1.σ.set i (some (.v d)), m1.S⟩ else .bad
  | _ => .bad
/-- x = a new list that x owns -/
def sOwn (i : Nat) (l : Lv) : Sv := fun m => (l m).so fun xs m1 => if i < m1.σ.length then .nx ⟨m1.σ.set i (some (.o (.lst xs))), m1.S⟩ else .bad
/-- x = {}, owned -/
def sOwnD (i : Nat) : Sv := fun m => if i < m.σ.length then .nx ⟨m.σ.set i (some (.o (.dct []))), m.S⟩ else .bad
/-- a, b = e -/
def sBd (b : Bd) (e : Ev) : Sv := fun m => (e m).so fun x m1 => match x with
  | .v d => (match b.set d m1.σ with | some σ => .nx ⟨σ, m1.S⟩ | none => .bad)
  | _ => .bad
def sEx (e : Ev) : Sv := fun m => (e m).so fun _ m1 => .nx m1
/-- return e -/
def sRet (e : Ev) : Sv := fun m => (e m).so fun x m1 => match x with | .v d => .rt d m1 | _ => .bad
def sRetN : Sv := fun m => .rt .non m
def sIf (t : Tv) (a b : Sv) : Sv := fun m => (t m).so fun x m1 => if x then a m1 else b m1
def sBk : Sv := fun m => .bk m
def sCt : Sv := fun m => .ct m
def forL (b : Bd) (body : Sv) : List D → Sv
  | [], m => .nx m
  | x :: xs, m => match b.set x m.σ with
    | none => .bad
    | some σ1 => match body ⟨σ1, m.S⟩ with
      | .nx m2 => forL b body xs m2
      | .ct m2 => forL b body xs m2
      | .bk m2 => .nx m2
      | o => o
def sFor (b : Bd) (it : Iv) (body : Sv) : Sv := fun m => (it m).so fun xs m1 => forL b body xs m1
def whileN (t : Tv) (body : Sv) : Nat → Sv
  | 0, _ => .bad
  | n + 1, m => match t m with
    | .ok true m1 => (match body m1 with
      | .nx m2 => whileN t body n m2
      | .ct m2 => whileN t body n m2
      | .bk m2 => .nx m2
      | o => o)
    | .ok false m1 => .nx m1
    | .ex x m1 => .ex x m1
    | .bad => .bad
/-- more turns than any loop here -/
def wlim : Nat := Classical.choose (⟨1000000, rfl⟩ : ∃ n : Nat, n = 1000000)
theorem wlim_is : wlim = 1000000 := Classical.choose_spec (⟨1000000, rfl⟩ : ∃ n : Nat, n = 1000000)
def sWhile (t : Tv) (body : Sv) : Sv := fun m => whileN t body wlim m

/-- a function: its number of parameters, of names, its body -/
def runF (ar n : Nat) (body : Sv) (ds : List D) (S : List SC) : RG :=
  if ds.length = ar then (match body ⟨ds.map (fun d => some (.v d)) ++ List.replicate (n - ds.length) none, S⟩ with
  | .nx m => .ok .non m.S
  | .rt d m => .ok d m.S
  | .ex x m => .ex x m.S
  | _ => .bad) else .bad

/-! ### owned cells changed -/
/-- the cell at a place is put anew -/
def putF (fs : List (String × FV)) (f : String) (v : FV) : List (String × FV) := match fs with
  | [] => [(f, v)]
  | (g, x) :: r => if g = f then (g, v) :: r else (g, x) :: putF r f v
/-- o.f = e, o an object of the store -/
def sFld (T : Tb) (f : String) (o e : Ev) : Sv := fun m => (e m).so fun y m1 => (o m1).so fun x m2 => match x, y with
  | .v (.ref n), .v d => (match m2.S[n]? with
    | some (.ins c fs) => if T.fl c f ∧ fs.length < 1000 ∧ (fs.all fun p => match p.2 with | .v _ => true | _ => false) then .nx ⟨m2.σ, m2.S.set n (.ins c (putF fs f (.v d)))⟩ else .bad
    | _ => .bad)
  | _, _ => .bad
def Me.put (m : Me) (p : PV) (c : Cl) : Me := match p with
  | .sl i => ⟨m.σ.set i (some (.o c)), m.S⟩
  | .v (.ref n) => ⟨m.σ, m.S.set n (.c c)⟩
  | .v _ => m
/-- it is a place that can be changed -/
def Me.own (m : Me) (p : PV) : Option Cl := match p with
  | .sl i => m.slot i
  | .v (.ref n) => m.glob n
  | .v _ => none
def isL : Option Cl → Bool | some (.lst _) => true | _ => false
/-- a method that changes a list: its answer and what the list holds then -/
def eMut (g : List D → List D → Option (D × List D)) (a : Ev) (as : Av) : Ev := fun m => (a m).bind fun x m1 => if isL (m1.own x) then (as m1).bind fun ps m2 => (match m2.own x, PV.ds ps with
  | some (.lst xs), some ds => (match g xs ds with | some (d, ys) => .ok (.v d) (m2.put x (.lst ys)) | none => .bad)
  | _, _ => .bad) else .bad
def mApp : List D → List D → Option (D × List D) := fun xs ds => match ds with | [d] => if xs.length < big then some (.non, xs ++ [d]) else none | _ => none
def mExt : List D → List D → Option (D × List D) := fun xs ds => match ds with | [.lst ys] => if xs.length + ys.length ≤ big then some (.non, xs ++ ys) else none | _ => none
def mPop : List D → List D → Option (D × List D) := fun xs ds => match ds with | [] => (xs[xs.length - 1]?).map fun d => (d, xs.dropLast) | _ => none
def mClr : List D → List D → Option (D × List D) := fun xs ds => match ds with | [] => some (.non, []) | _ => none
/-- xs[i] = e -/
def sSetIx (a i e : Ev) : Sv := fun m => (e m).so fun v m1 => (a m1).so fun x m2 => (i m2).so fun y m3 => match m3.own x, y, v with
  | some (.lst xs), .v (.int k), .v d => (match ixN xs.length k with | some j => .nx (m3.put x (.lst (xs.set j d))) | none => .bad)
  | _, _, _ => .bad
/-- d[k] = e -/
def sPutK (a i e : Ev) : Sv := fun m => (e m).so fun v m1 => (a m1).so fun x m2 => (i m2).so fun y m3 => match m3.own x, ky y, v with
  | some (.dct kvs), some k, .v d => if kvs.length < big then .nx (m3.put x (.dct (putKv kvs k d))) else .bad
  | _, _, _ => .bad
/-- the cell of slot i is not changed any more: its value -/
def eFrz (i : Nat) : Ev := fun m => match m.σ[i]? with
  | some (some (.o (.lst xs))) => .ok (.v (.lst xs)) ⟨m.σ.set i (some (.v (.lst xs))), m.S⟩
  | some (some (.o (.dct kvs))) => .ok (.v (.dct kvs)) ⟨m.σ.set i (some (.v (.dct kvs))), m.S⟩
  | _ => .bad

/-! ### more built-ins -/
/-- a built-in with keywords -/
def eAK (g : List PV → List PV → Me → Option D) (a k : Av) : Ev := fun m => (a m).bind fun ps m1 => (k m1).bind fun zs m2 => (Res.opt (g ps zs m2) m2).bind fun d m3 => .ok (.v d) m3
def maxI (x : Int) (xs : List Int) : Int := xs.foldl (fun a y => if a < y then y else a) x
/-- max(xs, default=d) -/
def aMaxD : List PV → List PV → Me → Option D := fun ps zs m => match ps, zs with
  | [x], [.v d] => (match (m.ls x).bind asInts with
    | some [] => some d
    | some (y :: ys) => some (.int (maxI y ys))
    | none => none)
  | _, _ => none
/-- dict(d) -/
def aDict : List PV → Me → Option D := fun ps m => match ps with | [x] => (m.kvs x).map .dct | _ => none
/-- the same scalar -/
def eqF : D → D → Bool
  | .non, .non => true | .bl a, .bl b => a == b | .int a, .int b => a == b | .str a, .str b => a == b | _, _ => false
/-- the same dict -/
def sameKv (ks ls : List (Ky × D)) : Bool := ks.length == ls.length && ks.all fun p => match look ls p.1 with | some d => eqF d p.2 | none => false
/-- == of dicts that are the same -/
def gEqK : PV → PV → Me → Option D := fun x y m => match m.kvs x, m.kvs y with
  | some ks, some ls => if sameKv ks ls then some (.bl true) else none
  | _, _ => none
def gNeK : PV → PV → Me → Option D := fun x y m => match m.kvs x, m.kvs y with
  | some ks, some ls => if sameKv ks ls then some (.bl false) else none
  | _, _ => none
/-- isinstance(x, bool) -/
def gIsB : PV → Me → Option D := fun x _ => match x with
  | .v (.bl _) => some (.bl true)
  | .v .non => some (.bl false) | .v (.int _) => some (.bl false) | .v (.str _) => some (.bl false)
  | _ => none

/-! ### either of two readings -/
def orG (g h : PV → PV → Me → Option D) : PV → PV → Me → Option D := fun x y m => match g x y m with | some d => some d | none => h x y m
/-- xs + ys as a value -/
def gCat : PV → PV → Me → Option D := fun x y m => match m.cl x, m.cl y with
  | some (.lst xs), some (.lst ys) => if xs.length + ys.length ≤ big then some (.lst (xs ++ ys)) else none
  | _, _ => none
def gAddU := orG gAdd gCat
def gIxU := orG gIx (orG gIxT gKey)
def gInU := orG gIn (orG gInT gInK)
def gNotInU := orG gNotIn (orG gNotInT gNotInK)
def gEqU := orG gEq gEqK
def gNeU := orG gNe gNeK
/-- what is walked: a list, a tuple, a text -/
def iAny (e : Ev) : Iv := fun m => (e m).bind fun x m1 => match x with
  | .v (.lst xs) => .ok xs m1
  | .v (.scr xs) => .ok xs m1
  | .v (.tup xs) => .ok xs m1
  | .v (.str z) => .ok (z.map fun c => .str [c]) m1
  | _ => .bad

/-- the classes by lists -/
def tbOf (M : List (String × String × String)) (I F : List (String × String)) : Tb :=
  ⟨fun c f => (M.find? fun p => p.1 == c && p.2.1 == f).map (·.2.2), fun c => (I.find? fun p => p.1 == c).map (·.2), fun c f => F.any fun p => p.1 == c && p.2 == f⟩
/-! ### isinstance with built-in types -/
def tyD : D → Option String
  | .non => some "NoneType" | .bl _ => some "bool" | .int _ => some "int" | .str _ => some "str"
  | .lst _ => some "list" | .tup _ => some "tuple" | .dct _ => some "dict"
  | _ => none
def isTy (t T : String) : Bool := t == T || (t == "bool" && T == "int")
/-- isinstance(x, T) -/
def gIsT (T : String) : PV → Me → Option D := fun x m => match x with
  | .v (.ref n) => (match m.glob n with | some (.lst _) => some (.bl (isTy "list" T)) | some (.dct _) => some (.bl (isTy "dict" T)) | _ => none)
  | .v d => (tyD d).map fun t => .bl (isTy t T)
  | .sl i => (match m.slot i with | some (.lst _) => some (.bl (isTy "list" T)) | some (.dct _) => some (.bl (isTy "dict" T)) | _ => none)
/-! ### sorted, min, max of ints -/
theorem sort_uniq : ∀ {a b : List Int}, a.Perm b → a.Pairwise (· ≤ ·) → b.Pairwise (· ≤ ·) → a = b
  | [], b, h, _, _ => (List.nil_perm.mp h).symm
  | x :: xs, [], h, _, _ => absurd h.length_eq (by simp)
  | x :: xs, y :: ys, h, ha, hb => by
    rw [List.pairwise_cons] at ha hb
    have hx : x ∈ y :: ys := h.subset List.mem_cons_self
    have hy : y ∈ x :: xs := h.symm.subset List.mem_cons_self
    have e : x = y := by
      rcases List.mem_cons.mp hx with h1 | h1
      · exact h1
      · rcases List.mem_cons.mp hy with h2 | h2
        · exact h2.symm
        · exact Int.le_antisymm (ha.1 y h2) (hb.1 x h1)
    subst e
    rw [sort_uniq (List.Perm.cons_inv h) ha.2 hb.2]
def sortI (xs : List Int) : List Int := xs.mergeSort (fun a b => decide (a ≤ b))
theorem sortI_perm (xs : List Int) : (sortI xs).Perm xs := List.mergeSort_perm xs _
theorem sortI_le (xs : List Int) : (sortI xs).Pairwise (· ≤ ·) := by
  have := List.pairwise_mergeSort (le := fun a b : Int => decide (a ≤ b)) (fun a b c h1 h2 => by simp at *; omega) (fun a b => by simp; omega) xs
  exact this.imp fun h => by simpa using h
/-- the ints of a list, the int keys of a dict -/
def keyInts : List (Ky × D) → Option (List Int)
  | [] => some []
  | (.i n, _) :: r => (keyInts r).map fun l => n :: l
  | _ => none
/-- sorted(xs) of fewer than 64 ints -/
def aSort : List PV → Me → Option (List D) := fun ps m => match ps with
  | [x] => (match m.kvs x with
    | some kvs => (match keyInts kvs with | some ns => if ns.length < 64 then some ((sortI ns).map .int) else none | none => none)
    | none => (match (m.ls x).bind asInts with | some ns => if ns.length < 64 then some ((sortI ns).map .int) else none | none => none))
  | _ => none
def minI (x : Int) (xs : List Int) : Int := xs.foldl (fun a y => if y < a then y else a) x
/-- max(xs), min(xs) of ints -/
def aMax1 : List PV → Me → Option D := fun ps m => match ps with
  | [x] => (match (m.ls x).bind asInts with | some (y :: ys) => some (.int (maxI y ys)) | _ => none)
  | _ => none
def aMin1 : List PV → Me → Option D := fun ps m => match ps with
  | [x] => (match (m.ls x).bind asInts with | some (y :: ys) => some (.int (minI y ys)) | _ => none)
  | _ => none
theorem maxI_top (y : Int) (ys : List Int) : maxI y ys ∈ y :: ys ∧ ∀ z ∈ y :: ys, z ≤ maxI y ys := by
  unfold maxI
  induction ys generalizing y with
  | nil => simp
  | cons a r ih =>
    rw [List.foldl_cons]
    obtain ⟨h1, h2⟩ := ih (if y < a then a else y)
    refine ⟨?_, fun z hz => ?_⟩
    · rcases List.mem_cons.mp h1 with h | h
      · rw [h]; split <;> simp
      · exact List.mem_cons_of_mem _ (List.mem_cons_of_mem _ h)
    · have h3 := h2 _ List.mem_cons_self
      rcases List.mem_cons.mp hz with rfl | hz
      · split at h3 <;> split <;> omega
      · rcases List.mem_cons.mp hz with rfl | hz
        · split at h3 <;> split <;> omega
        · exact h2 z (List.mem_cons_of_mem _ hz)
theorem minI_top (y : Int) (ys : List Int) : minI y ys ∈ y :: ys ∧ ∀ z ∈ y :: ys, minI y ys ≤ z := by
  unfold minI
  induction ys generalizing y with
  | nil => simp
  | cons a r ih =>
    rw [List.foldl_cons]
    obtain ⟨h1, h2⟩ := ih (if a < y then a else y)
    refine ⟨?_, fun z hz => ?_⟩
    · rcases List.mem_cons.mp h1 with h | h
      · rw [h]; split <;> simp
      · exact List.mem_cons_of_mem _ (List.mem_cons_of_mem _ h)
    · have h3 := h2 _ List.mem_cons_self
      rcases List.mem_cons.mp hz with rfl | hz
      · split at h3 <;> split <;> omega
      · rcases List.mem_cons.mp hz with rfl | hz
        · split at h3 <;> split <;> omega
        · exact h2 z (List.mem_cons_of_mem _ hz)
/-! ### lists and dicts in the store -/
/-- a new list that changes later: its reference -/
def eNewL (l : Lv) : Ev := fun m => (l m).bind fun xs m1 => .ok (.v (.ref m1.S.length)) ⟨m1.σ, m1.S ++ [.c (.lst xs)]⟩
/-- {} that changes later -/
def eNewD : Ev := fun m => .ok (.v (.ref m.S.length)) ⟨m.σ, m.S ++ [.c (.dct [])]⟩
/-- xs.extend(ys), ys a list anywhere -/
def eExtL (a b : Ev) : Ev := fun m => (a m).bind fun x m1 => if isL (m1.own x) then (b m1).bind fun y m2 => (match m2.own x, m2.cl y with
  | some (.lst xs), some (.lst ys) => if xs.length + ys.length ≤ big then .ok (.v .non) (m2.put x (.lst (xs ++ ys))) else .bad
  | _, _ => .bad) else .bad
def isK : Option Cl → Bool | some (.dct _) => true | _ => false
/-- d.pop(k) -/
def eDPop (a i : Ev) : Ev := fun m => (a m).bind fun x m1 => if isK (m1.own x) then (i m1).bind fun y m2 => (match m2.own x, ky y with
  | some (.dct kvs), some k => (match look kvs k with | some d => .ok (.v d) (m2.put x (.dct (dropKv kvs k))) | none => .bad)
  | _, _ => .bad) else .bad
end
end Mi

set_option Elab.async false
set_option linter.all false
set_option maxRecDepth 100000
set_option maxHeartbeats 4000000
/-! # So: the small world over the layer -/
namespace So
open PySem PySem.Spec PyProof.Rows L2
open Mi (D Cl FV SC Me Xc Res PV Ky Ev Tv Av Lv Iv Ov Sv Bd Out Env Tx)

def tx (x : Tx) : Str := ⟨x.toArray⟩
theorem tx_inj {a b : Tx} (h : tx a = tx b) : a = b := by
  have h1 := congrArg Str.cps h
  simpa [tx] using h1
theorem tx_iff {a b : Tx} : tx a = tx b ↔ a = b := ⟨tx_inj, fun h => by rw [h]⟩
def nm (s : String) : Str := ⟨(s.toList.map Char.toNat).toArray⟩
theorem nm_inj {a b : String} (h : nm a = nm b) : a = b := by
  have h1 : a.toList.map Char.toNat = b.toList.map Char.toNat := by
    have := congrArg Str.cps h
    simpa [nm] using this
  have h2 : a.toList = b.toList := List.map_inj_right (fun x y e => Char.toNat_inj.mp e) |>.mp h1
  exact String.toList_inj.mp h2
def kyR : Ky → Key
  | .i n => .inl n
  | .s x => .inr (tx x)
theorem kyR_inj {a b : Ky} (h : kyR a = kyR b) : a = b := by
  cases a <;> cases b <;> simp [kyR] at h
  · rw [h]
  · rw [tx_inj h]

/-- owned places -/
inductive Pl where
  | g (i : Nat) | f (i : Nat) (s : String) | s (i : Nat)
structure Wd where
  α : Pl → Addr
  O : Addr → Prop
def cellAt (m : Me) : Pl → Option SC
  | .g i => m.S[i]?
  | .f i f => (m.field i f).map .c
  | .s i => (m.slot i).map .c
def MutA (α : Pl → Addr) (m : Me) (a : Addr) : Prop := ∃ p c, cellAt m p = some c ∧ α p = a
def Bad (w : Wd) (m : Me) (a : Addr) : Prop := w.O a ∨ MutA w.α m a
def norm : HO → HO
  | .frz _ (.dK k) => .dK k
  | .frz _ (.dT k) => .dT k
  | o => o
/-- what is to be read at a -/
def Nd (H : Hp) (a : Addr) (u : HO) : Prop := ∃ o, H a = some o ∧ norm o = u
theorem Nd.lst {H : Hp} {a : Addr} {xs : List V} (h : Nd H a (.lst xs)) : H a = some (.lst xs) := by
  obtain ⟨o, h1, h2⟩ := h
  unfold norm at h2
  split at h2 <;> first | (cases h2; exact h1) | (cases h2)
theorem Nd.frzL {H : Hp} {a : Addr} {ob : Obj} {xs : List V} (h : Nd H a (.frz ob (.lst xs))) : H a = some (.frz ob (.lst xs)) := by
  obtain ⟨o, h1, h2⟩ := h
  unfold norm at h2
  split at h2 <;> first | (cases h2; exact h1) | (cases h2)
/-- a list that is tracked, or the script's -/
def NdL (H : Hp) (a : Addr) (xs : List V) : Prop := ∃ u, Nd H a u ∧ (u = .lst xs ∨ ∃ o, u = .frz o (.lst xs))
theorem NdL.rd {H : Hp} {a : Addr} {xs : List V} (h : NdL H a xs) : Rd H a (.lst xs) := by
  obtain ⟨u, h1, rfl | ⟨o, rfl⟩⟩ := h
  · exact .inl h1.lst
  · exact .inr ⟨o, h1.frzL⟩
theorem Nd.dK {H : Hp} {a : Addr} {xs : List (Key × V)} (h : Nd H a (.dK xs)) : Rd H a (.dK xs) := by
  obtain ⟨o, h1, h2⟩ := h
  unfold norm at h2
  split at h2 <;> first | (cases h2; exact .inr ⟨_, h1⟩) | (cases h2; exact .inl h1) | (cases h2)
theorem Nd.tup {H : Hp} {a : Addr} {xs : List V} (h : Nd H a (.tup xs)) : H a = some (.tup xs) := by
  obtain ⟨o, h1, h2⟩ := h
  unfold norm at h2
  split at h2 <;> first | (cases h2; exact h1) | (cases h2)
theorem Nd.ins {H : Hp} {a C dx : Addr} {fs : List (Str × V)} (h : Nd H a (.ins C dx fs)) : H a = some (.ins C dx fs) := by
  obtain ⟨o, h1, h2⟩ := h
  unfold norm at h2
  split at h2 <;> first | (cases h2; exact h1) | (cases h2)
/-- a list of the written part -/
def Wr (K : PySem.W.Frag) (a : Addr) (xs : List V) : Prop :=
  ∃ (o : Obj) (its : Array Value) (n : Nat), K.lookup a = some o ∧ o.cls = .type "list" ∧ o.dict = none ∧ o.data = .seq its n ∧ its.size ≤ sizeLine ∧ Vals xs its.toList

section
variable (K : PySem.W.Frag) (ct : String → Option Addr) (w : Wd) (m : Me) (H : Hp)
mutual
inductive RepD : D → V → Prop
  | non : RepD .non .non
  | bl (b : Bool) : RepD (.bl b) (.bl b)
  | int (i : Int) : RepD (.int i) (.int i)
  | str (x : Tx) : RepD (.str x) (.str (tx x))
  | lst {a : Addr} {xs : List D} {vs : List V} : ¬ Bad w m a → Nd H a (.lst vs) → RepL xs vs → RepD (.lst xs) (.ref a)
  | scr {a : Addr} {xs : List D} {vs : List V} : (¬ Bad w m a ∧ NdL H a vs) ∨ Wr K a vs → RepL xs vs → RepD (.scr xs) (.ref a)
  | tup {a : Addr} {xs : List D} {vs : List V} : ¬ Bad w m a → Nd H a (.tup vs) → RepL xs vs → RepD (.tup xs) (.ref a)
  | dct {a : Addr} {xs : List (Ky × D)} {vs : List (Key × V)} : ¬ Bad w m a → Nd H a (.dK vs) → RepK xs vs → RepD (.dct xs) (.ref a)
  | obj {a C dx : Addr} {c : String} {fs : List (String × D)} {vs : List (Str × V)} : ct c = some C → ¬ Bad w m a → Nd H a (.ins C dx vs) → RepF fs vs → RepD (.obj c fs) (.ref a)
  | ref {i : Nat} {c : SC} : m.S[i]? = some c → RepD (.ref i) (.ref (w.α (.g i)))
inductive RepL : List D → List V → Prop
  | nil : RepL [] []
  | cons {d : D} {v : V} {ds : List D} {vs : List V} : RepD d v → RepL ds vs → RepL (d :: ds) (v :: vs)
inductive RepK : List (Ky × D) → List (Key × V) → Prop
  | nil : RepK [] []
  | cons {k : Ky} {d : D} {v : V} {ds : List (Ky × D)} {vs : List (Key × V)} : RepD d v → RepK ds vs → RepK ((k, d) :: ds) ((kyR k, v) :: vs)
inductive RepF : List (String × D) → List (Str × V) → Prop
  | nil : RepF [] []
  | cons {k : String} {d : D} {v : V} {ds : List (String × D)} {vs : List (Str × V)} : RepD d v → RepF ds vs → RepF ((k, d) :: ds) ((nm k, v) :: vs)
end
/-- the fields of a store's object -/
inductive RepG (i : Nat) : List (String × FV) → List (Str × V) → Prop
  | nil : RepG i [] []
  | v {k : String} {d : D} {v : V} {ds : List (String × FV)} {vs : List (Str × V)} : RepD K ct w m H d v → RepG i ds vs → RepG i ((k, .v d) :: ds) ((nm k, v) :: vs)
  | o {k : String} {c : Cl} {ds : List (String × FV)} {vs : List (Str × V)} : RepG i ds vs → RepG i ((k, .o c) :: ds) ((nm k, .ref (w.α (.f i k))) :: vs)
  | l {k : String} {ds : List (String × FV)} {vs : List (Str × V)} : RepG i ds vs → RepG i ((k, .lent) :: ds) ((nm k, .ref (w.α (.f i k))) :: vs)
/-- what stands at an owned place -/
def CellR (p : Pl) (a : Addr) : SC → Prop
  | .c (.lst xs) => ∃ vs, H a = some (.lst vs) ∧ RepL K ct w m H xs vs
  | .c (.dct xs) => ∃ vs, H a = some (.dK vs) ∧ RepK K ct w m H xs vs
  | .c (.lkd xs) => ∃ vs o, H a = some (.frz o (.dK vs)) ∧ RepK K ct w m H xs vs
  | .c (.dcT xs) => ∃ vs : List (List Key × V), H a = some (.dT vs) ∧ False
  | .ins c fs => ∃ (C dx : Addr) (vs : List (Str × V)) (i : Nat), p = .g i ∧ ct c = some C ∧ H a = some (.ins C dx vs) ∧ RepG K ct w m H i fs vs
/-- the state stands so -/
structure MRel : Prop where
  inj : ∀ p q c c', cellAt m p = some c → cellAt m q = some c' → w.α p = w.α q → p = q
  cells : ∀ p c, cellAt m p = some c → CellR K ct w m H p (w.α p) c
  out : ∀ a, w.O a → ∃ o, H a = some o
  nout : ∀ p c, cellAt m p = some c → ¬ w.O (w.α p)
/-- a slot -/
def SlotR (i : Nat) : Option FV → Option V → Prop
  | some (.v d), v => ∃ u, v = some u ∧ RepD K ct w m H d u
  | some (.o _), v => v = some (.ref (w.α (.s i)))
  | some .lent, _ => True
  | none, _ => True
structure ERel (σ : L2.St) : Prop where
  len : m.σ.length = σ.length
  at_ : ∀ i x y, m.σ[i]? = some x → σ[i]? = some y → SlotR K ct w m H i x y
end

/-- the state has gone on -/
structure Ext (w : Wd) (m : Me) (H : Hp) (w' : Wd) (m' : Me) (H' : Hp) : Prop where
  Om : ∀ a, w.O a → w'.O a
  Oa : ∀ a o, H a = some o → ¬ MutA w.α m a → w'.O a → w.O a
  gl : ∀ i c, m.S[i]? = some c → (∃ c', m'.S[i]? = some c') ∧ w'.α (.g i) = w.α (.g i)
  keep : ∀ a o, H a = some o → ¬ MutA w.α m a → H' a = some o ∧ ¬ MutA w'.α m' a
theorem Ext.refl (w : Wd) (m : Me) (H : Hp) : Ext w m H w m H := ⟨fun _ h => h, fun _ _ _ _ h => h, fun i c h => ⟨⟨c, h⟩, rfl⟩, fun a o h n => ⟨h, n⟩⟩
theorem Ext.trans {w w1 w2 : Wd} {m m1 m2 : Me} {H H1 H2 : Hp} (a : Ext w m H w1 m1 H1) (b : Ext w1 m1 H1 w2 m2 H2) : Ext w m H w2 m2 H2 := by
  refine ⟨fun x h => b.Om x (a.Om x h), fun x o h n z => ?_, fun i c h => ?_, fun x o h n => ?_⟩
  · obtain ⟨h1, n1⟩ := a.keep x o h n
    exact a.Oa x o h n (b.Oa x o h1 n1 z)
  · obtain ⟨⟨c', h1⟩, e1⟩ := a.gl i c h
    obtain ⟨⟨c2, h2⟩, e2⟩ := b.gl i c' h1
    exact ⟨⟨c2, h2⟩, e2.trans e1⟩
  · obtain ⟨h1, n1⟩ := a.keep x o h n
    exact b.keep x o h1 n1
section
variable {K : PySem.W.Frag} {ct : String → Option Addr} {w w' : Wd} {m m' : Me} {H H' : Hp}
theorem Ext.nd (e : Ext w m H w' m' H') {a : Addr} {u : HO} (n : ¬ Bad w m a) (h : Nd H a u) : ¬ Bad w' m' a ∧ Nd H' a u := by
  obtain ⟨o, h1, h2⟩ := h
  obtain ⟨h3, n'⟩ := e.keep a o h1 (fun z => n (.inr z))
  refine ⟨fun z => ?_, ⟨o, h3, h2⟩⟩
  rcases z with z | z
  · exact n (.inl (e.Oa a o h1 (fun z => n (.inr z)) z))
  · exact n' z
theorem Ext.ndL (e : Ext w m H w' m' H') {a : Addr} {xs : List V} (n : ¬ Bad w m a) (h : NdL H a xs) : ¬ Bad w' m' a ∧ NdL H' a xs := by
  obtain ⟨u, h1, h2⟩ := h
  exact ⟨(e.nd n h1).1, u, (e.nd n h1).2, h2⟩
mutual
theorem RepD.ext (e : Ext w m H w' m' H') : ∀ {d : D} {v : V}, RepD K ct w m H d v → RepD K ct w' m' H' d v
  | _, _, .non => .non
  | _, _, .bl b => .bl b
  | _, _, .int i => .int i
  | _, _, .str x => .str x
  | _, _, .lst n h r => .lst (e.nd n h).1 (e.nd n h).2 (RepL.ext e r)
  | _, _, .scr h r => .scr (h.imp (fun z => e.ndL z.1 z.2) id) (RepL.ext e r)
  | _, _, .tup n h r => .tup (e.nd n h).1 (e.nd n h).2 (RepL.ext e r)
  | _, _, .dct n h r => .dct (e.nd n h).1 (e.nd n h).2 (RepK.ext e r)
  | _, _, .obj c n h r => .obj c (e.nd n h).1 (e.nd n h).2 (RepF.ext e r)
  | _, _, .ref (i := i) h => by
    obtain ⟨⟨c', h1⟩, e1⟩ := e.gl i _ h
    rw [← e1]
    exact .ref h1
theorem RepL.ext (e : Ext w m H w' m' H') : ∀ {d : List D} {v : List V}, RepL K ct w m H d v → RepL K ct w' m' H' d v
  | _, _, .nil => .nil
  | _, _, .cons h r => .cons (RepD.ext e h) (RepL.ext e r)
theorem RepK.ext (e : Ext w m H w' m' H') : ∀ {d : List (Ky × D)} {v : List (Key × V)}, RepK K ct w m H d v → RepK K ct w' m' H' d v
  | _, _, .nil => .nil
  | _, _, .cons h r => .cons (RepD.ext e h) (RepK.ext e r)
theorem RepF.ext (e : Ext w m H w' m' H') : ∀ {d : List (String × D)} {v : List (Str × V)}, RepF K ct w m H d v → RepF K ct w' m' H' d v
  | _, _, .nil => .nil
  | _, _, .cons h r => .cons (RepD.ext e h) (RepF.ext e r)
end
theorem RepL.length : ∀ {d : List D} {v : List V}, RepL K ct w m H d v → d.length = v.length
  | _, _, .nil => rfl
  | _, _, .cons _ r => by simp [RepL.length r]
theorem RepK.length : ∀ {d : List (Ky × D)} {v : List (Key × V)}, RepK K ct w m H d v → d.length = v.length
  | _, _, .nil => rfl
  | _, _, .cons _ r => by simp [RepK.length r]
theorem RepL.get : ∀ {d : List D} {v : List V} {i : Nat} {x : D}, RepL K ct w m H d v → d[i]? = some x → ∃ y, v[i]? = some y ∧ RepD K ct w m H x y
  | _, _, _, _, .nil, h => by simp at h
  | _, _, 0, _, .cons r _, h => by simp at h; subst h; exact ⟨_, by simp, r⟩
  | _, _, i + 1, _, .cons _ r, h => by
    obtain ⟨y, h1, h2⟩ := RepL.get (i := i) r (by simpa using h)
    exact ⟨y, by simpa using h1, h2⟩
theorem RepL.append : ∀ {d e : List D} {v u : List V}, RepL K ct w m H d v → RepL K ct w m H e u → RepL K ct w m H (d ++ e) (v ++ u)
  | _, _, _, _, .nil, s => s
  | _, _, _, _, .cons r t, s => .cons r (RepL.append t s)
theorem RepL.take : ∀ {d : List D} {v : List V} (n : Nat), RepL K ct w m H d v → RepL K ct w m H (d.take n) (v.take n)
  | _, _, 0, _ => by simp; exact .nil
  | _, _, _ + 1, .nil => by simp; exact .nil
  | _, _, n + 1, .cons r t => by simp; exact .cons r (RepL.take n t)
theorem RepL.drop : ∀ {d : List D} {v : List V} (n : Nat), RepL K ct w m H d v → RepL K ct w m H (d.drop n) (v.drop n)
  | _, _, 0, h => by simpa using h
  | _, _, _ + 1, .nil => by simp; exact .nil
  | _, _, n + 1, .cons r t => by simp; exact RepL.drop n t
theorem RepL.set {x : D} {y : V} (h : RepD K ct w m H x y) : ∀ {d : List D} {v : List V} (i : Nat), RepL K ct w m H d v → RepL K ct w m H (d.set i x) (v.set i y)
  | _, _, _, .nil => .nil
  | _, _, 0, .cons r t => .cons h t
  | _, _, i + 1, .cons r t => .cons r (RepL.set h i t)
theorem RepL.ints : ∀ (ns : List Int), RepL K ct w m H (ns.map D.int) (ns.map V.int)
  | [] => .nil
  | n :: ns => .cons (.int n) (RepL.ints ns)
/-- a cell goes on, where its own object stands -/
theorem RepG.ext (e : Ext w m H w' m' H') {i : Nat} (hf : ∀ f, w'.α (.f i f) = w.α (.f i f)) : ∀ {d : List (String × FV)} {v : List (Str × V)}, RepG K ct w m H i d v → RepG K ct w' m' H' i d v
  | _, _, .nil => .nil
  | _, _, .v h r => .v (RepD.ext e h) (RepG.ext e hf r)
  | _, _, .o (k := k) r => by rw [← hf k]; exact .o (RepG.ext e hf r)
  | _, _, .l (k := k) r => by rw [← hf k]; exact .l (RepG.ext e hf r)
theorem CellR.ext (e : Ext w m H w' m' H') {p : Pl} {a : Addr} {c : SC} (hf : ∀ i f, p = .g i → w'.α (.f i f) = w.α (.f i f)) (hH : H' a = H a) (h : CellR K ct w m H p a c) : CellR K ct w' m' H' p a c := by
  cases c with
  | ins c fs =>
    obtain ⟨C, dx, vs, i, hp, h1, h2, h3⟩ := h
    exact ⟨C, dx, vs, i, hp, h1, by rw [hH]; exact h2, h3.ext e (fun f => hf i f hp)⟩
  | c x =>
    cases x with
    | lst xs => obtain ⟨vs, h1, h2⟩ := h; exact ⟨vs, by rw [hH]; exact h1, h2.ext e⟩
    | dct xs => obtain ⟨vs, h1, h2⟩ := h; exact ⟨vs, by rw [hH]; exact h1, h2.ext e⟩
    | lkd xs => obtain ⟨vs, o, h1, h2⟩ := h; exact ⟨vs, o, by rw [hH]; exact h1, h2.ext e⟩
    | dcT xs => obtain ⟨vs, h1, h2⟩ := h; exact h2.elim
theorem ERel.ext {σ : L2.St} (e : Ext w m H w' m' H') (hs : m'.σ = m.σ) (ha : ∀ i, w'.α (.s i) = w.α (.s i)) (h : ERel K ct w m H σ) : ERel K ct w' m' H' σ := by
  refine ⟨by rw [hs]; exact h.len, fun i x y h1 h2 => ?_⟩
  rw [hs] at h1
  have z := h.at_ i x y h1 h2
  cases x with
  | none => trivial
  | some f =>
    cases f with
    | v d => obtain ⟨u, e1, r⟩ := z; exact ⟨u, e1, r.ext e⟩
    | o c => show y = _; rw [ha]; exact z
    | lent => trivial
/-- nothing changed but the heap, by a new object that no place owns -/
theorem Ext.fresh {p : Addr} {o : HO} (hp : H p = none) : Ext w m H w m (upd H p o) :=
  ⟨fun _ h => h, fun _ _ _ _ h => h, fun i c h => ⟨⟨c, h⟩, rfl⟩, fun a u h n => ⟨by rw [upd_ne (ne_of_none h hp)]; exact h, n⟩⟩
theorem CellR.some_ {p : Pl} {a : Addr} {c : SC} (h : CellR K ct w m H p a c) : ∃ o, H a = some o := by
  cases c with
  | ins c fs => obtain ⟨C, dx, vs, i, hp, h1, h2, h3⟩ := h; exact ⟨_, h2⟩
  | c x =>
    cases x with
    | lst xs => obtain ⟨vs, h1, h2⟩ := h; exact ⟨_, h1⟩
    | dct xs => obtain ⟨vs, h1, h2⟩ := h; exact ⟨_, h1⟩
    | lkd xs => obtain ⟨vs, o, h1, h2⟩ := h; exact ⟨_, h1⟩
    | dcT xs => obtain ⟨vs, h1, h2⟩ := h; exact h2.elim
theorem MRel.there (M : MRel K ct w m H) {p : Pl} {c : SC} (h : cellAt m p = some c) : ∃ o, H (w.α p) = some o := (M.cells p c h).some_
theorem MRel.notBad (M : MRel K ct w m H) {p : Addr} (hp : H p = none) : ¬ Bad w m p := by
  rintro (z | ⟨q, c, h1, h2⟩)
  · obtain ⟨o, e⟩ := M.out p z
    rw [hp] at e; cases e
  · obtain ⟨o, e⟩ := M.there h1
    rw [h2, hp] at e; cases e
theorem MRel.fresh (M : MRel K ct w m H) {p : Addr} {o : HO} (hp : H p = none) : MRel K ct w m (upd H p o) := by
  refine ⟨M.inj, fun q c h => ?_, fun a h => ?_, M.nout⟩
  · obtain ⟨u, e⟩ := M.there h
    exact (M.cells q c h).ext (Ext.fresh hp) (fun _ _ _ => rfl) (upd_ne (ne_of_none e hp))
  · obtain ⟨u, e⟩ := M.out a h
    exact ⟨u, by rw [upd_ne (ne_of_none e hp)]; exact e⟩
theorem ndL_same {p : Addr} {xs : List V} : NdL (upd H p (.lst xs)) p xs := ⟨_, ⟨_, upd_same, rfl⟩, .inl rfl⟩
theorem nd_same {p : Addr} {o : HO} (h : norm o = o) : Nd (upd H p o) p o := ⟨o, upd_same, h⟩
end
end So

set_option Elab.async false
set_option linter.all false
set_option maxRecDepth 100000
set_option maxHeartbeats 4000000
namespace So
open PySem PySem.Spec PyProof.Rows L2
open Mi (D Cl FV SC Me Xc Res PV Ky Ev Tv Av Lv Iv Ov Sv Bd Out Env Tx)

theorem big_eq : Mi.big = sizeLine := Mi.big_is.trans sizeLine_eq.symm

section
variable (K : PySem.W.Frag) (ct : String → Option Addr)
def PVR (w : Wd) (m : Me) (H : Hp) (σ : L2.St) : PV → V → Prop
  | .v d, v => RepD K ct w m H d v
  | .sl i, v => σ[i]? = some (some v)
inductive PVRs (w : Wd) (m : Me) (H : Hp) (σ : L2.St) : List PV → List V → Prop
  | nil : PVRs w m H σ [] []
  | cons {p : PV} {v : V} {ps : List PV} {vs : List V} : PVR K ct w m H σ p v → PVRs w m H σ ps vs → PVRs w m H σ (p :: ps) (v :: vs)
/-- an exception -/
def ExR (w : Wd) (m : Me) (H : Hp) (x : Xc) (cls : Value) (dx : Option Addr) : Prop :=
  ∃ C, ct x.c = some C ∧ cls = .ref C ∧ (x.fs = [] → dx = none) ∧ (x.fs ≠ [] → ∃ d vs, dx = some d ∧ ¬ Bad w m d ∧ Nd H d (.xd vs) ∧ RepF K ct w m H x.fs vs)
/-- the state -/
structure SR (w : Wd) (m : Me) (H : Hp) (σ : L2.St) : Prop where
  M : MRel K ct w m H
  E : ERel K ct w m H σ
/-- what is wanted of an answer -/
def RE {α : Type} (σ : L2.St) (w : Wd) (m : Me) (H : Hp) (r : Res α) (P : α → Wd → Me → Hp → Prop) (Px : Xc → Wd → Me → Hp → Prop) : Prop :=
  match r with
  | .ok a m' => ∀ w' H', SR K ct w' m' H' σ → Ext w m H w' m' H' → P a w' m' H'
  | .ex x m' => ∀ w' H', SR K ct w' m' H' σ → Ext w m H w' m' H' → Px x w' m' H'
  | .bad => False
end
section
variable {K : PySem.W.Frag} {ct : String → Option Addr} {w w' : Wd} {m m' : Me} {H H' : Hp} {σ : L2.St}
theorem PVR.ext (e : Ext w m H w' m' H') {x : PV} {v : V} (h : PVR K ct w m H σ x v) : PVR K ct w' m' H' σ x v := by
  cases x with
  | v d => exact RepD.ext e h
  | sl i => exact h
theorem PVRs.ext (e : Ext w m H w' m' H') {x : List PV} {v : List V} (h : PVRs K ct w m H σ x v) : PVRs K ct w' m' H' σ x v := by
  induction h with
  | nil => exact .nil
  | cons h _ ih => exact .cons (h.ext e) ih
theorem ExR.ext (e : Ext w m H w' m' H') {x : Xc} {cls : Value} {dx : Option Addr} (h : ExR K ct w m H x cls dx) : ExR K ct w' m' H' x cls dx := by
  obtain ⟨C, h1, h2, h0, h3⟩ := h
  refine ⟨C, h1, h2, h0, fun n => ?_⟩
  obtain ⟨d, vs, e1, n1, n2, r⟩ := h3 n
  exact ⟨d, vs, e1, (e.nd n1 n2).1, (e.nd n1 n2).2, RepF.ext e r⟩
theorem RE.bind {α β : Type} {r : Res α} {k : α → Me → Res β} {P : β → Wd → Me → Hp → Prop} {Px : Xc → Wd → Me → Hp → Prop} (h : RE K ct σ w m H (r.bind k) P Px) :
    RE K ct σ w m H r (fun a w' m' H' => RE K ct σ w' m' H' (k a m') P Px) Px := by
  cases r with
  | ok a m' =>
    intro w' H' S e
    have h : RE K ct σ w m H (k a m') P Px := h
    show RE K ct σ w' m' H' (k a m') P Px
    cases q : k a m' with
    | ok b m2 => rw [q] at h; intro w2 H2 S2 e2; exact h w2 H2 S2 (e.trans e2)
    | ex x m2 => rw [q] at h; intro w2 H2 S2 e2; exact h w2 H2 S2 (e.trans e2)
    | bad => rw [q] at h; exact h
  | ex x m' => exact h
  | bad => exact h
theorem RE.imp {α : Type} {r : Res α} {P P' : α → Wd → Me → Hp → Prop} {Px Px' : Xc → Wd → Me → Hp → Prop} (h : RE K ct σ w m H r P Px)
    (hP : ∀ a w' m' H', SR K ct w' m' H' σ → Ext w m H w' m' H' → P a w' m' H' → P' a w' m' H') (hX : ∀ a w' m' H', SR K ct w' m' H' σ → Ext w m H w' m' H' → Px a w' m' H' → Px' a w' m' H') : RE K ct σ w m H r P' Px' := by
  cases r with
  | ok a m' => intro w' H' S e; exact hP _ _ _ _ S e (h w' H' S e)
  | ex x m' => intro w' H' S e; exact hX _ _ _ _ S e (h w' H' S e)
  | bad => exact h
theorem RE.ok {α : Type} {a : α} {P : α → Wd → Me → Hp → Prop} {Px : Xc → Wd → Me → Hp → Prop} (h : RE K ct σ w m H (.ok a m') P Px) (S : SR K ct w' m' H' σ) (e : Ext w m H w' m' H') : P a w' m' H' := h w' H' S e
/-- a partial answer is there -/
theorem RE.opt {α β : Type} {o : Option α} {k : α → Me → Res β} {P : β → Wd → Me → Hp → Prop} {Px : Xc → Wd → Me → Hp → Prop} (h : RE K ct σ w m H ((Res.opt o m).bind k) P Px) : ∃ a, o = some a ∧ RE K ct σ w m H (k a m) P Px := by
  cases o with
  | none => exact h.elim
  | some a => exact ⟨a, rfl, h⟩
end

/-! ### the judgements -/
section
variable (K : PySem.W.Frag) (ct : String → Option Addr) (W : WX)
/-- what is wanted of an exception -/
abbrev PxW (σ : L2.St) : Xc → Wd → Me → Hp → Prop := fun x w' m' H' => ∀ cls dx, ExR K ct w' m' H' x cls dx → W cls dx σ H'
def tE (f : Ev) : TE := fun σ H Q => ∃ w m, SR K ct w m H σ ∧ RE K ct σ w m H (f m) (fun x w' m' H' => ∀ v, PVR K ct w' m' H' σ x v → Q v H') (PxW K ct W σ)
def tT (f : Tv) : TT := fun σ H Q => ∃ w m, SR K ct w m H σ ∧ RE K ct σ w m H (f m) (fun b w' m' H' => Q b H') (PxW K ct W σ)
def tA (f : Av) : TA := fun σ H Q => ∃ w m, SR K ct w m H σ ∧ RE K ct σ w m H (f m) (fun xs w' m' H' => ∀ vs, PVRs K ct w' m' H' σ xs vs → Q vs H') (PxW K ct W σ)
def tL (f : Lv) : TE := fun σ H Q => ∃ w m, SR K ct w m H σ ∧ RE K ct σ w m H (f m) (fun xs w' m' H' => ∀ vs p, RepL K ct w' m' H' xs vs → H' p = none → Q (.ref p) (upd H' p (.lst vs))) (PxW K ct W σ)
def tO (f : Ov) : TO := fun σ H Q => ∃ w m, SR K ct w m H σ ∧ RE K ct σ w m H (f m) (fun b w' m' H' => Q b H') (PxW K ct W σ)
end
structure DE (X : Cx) (ct : String → Option Addr) (e : Expr) (f : Ev) : Prop where
  run : ∀ W, L2.Takes X W → PE X e (tE X.K ct W f)
structure DT (X : Cx) (ct : String → Option Addr) (e : Expr) (f : Tv) : Prop where
  run : ∀ W, L2.Takes X W → PT X e (tT X.K ct W f)
structure DW (X : Cx) (ct : String → Option Addr) (e : Expr) (f : Tv) : Prop where
  run : ∀ W, L2.Takes X W → PW X e (tT X.K ct W f)
structure DA (X : Cx) (ct : String → Option Addr) (es : List Expr) (f : Av) : Prop where
  run : ∀ W, L2.Takes X W → PA X es (tA X.K ct W f)
structure DL (X : Cx) (ct : String → Option Addr) (e : Expr) (f : Lv) : Prop where
  run : ∀ W, L2.Takes X W → PE X e (tL X.K ct W f)
structure DO (X : Cx) (ct : String → Option Addr) (e : Option Expr) (f : Ov) : Prop where
  run : ∀ W, L2.Takes X W → PO X e (tO X.K ct W f)

section
variable {X : Cx} {ct : String → Option Addr} {e a b : Expr} {pos : Pos}
theorem PE.imp {t t' : TE} (h : PE X e t) (i : ∀ σ H Q, t' σ H Q → t σ H Q) : PE X e t' := ⟨fun pins s σ H Q I q => h.run pins s σ H Q I (i _ _ _ q)⟩
theorem PT.imp {t t' : TT} (h : PT X e t) (i : ∀ σ H Q, t' σ H Q → t σ H Q) : PT X e t' := ⟨fun pins s σ H Q I q => h.run pins s σ H Q I (i _ _ _ q)⟩
theorem PW.imp {t t' : TT} (h : PW X e t) (i : ∀ σ H Q, t' σ H Q → t σ H Q) : PW X e t' := ⟨fun wh pins s σ H Q I q => h.run wh pins s σ H Q I (i _ _ _ q)⟩
theorem PA.imp {es : List Expr} {t t' : TA} (h : PA X es t) (i : ∀ σ H Q, t' σ H Q → t σ H Q) : PA X es t' := ⟨fun p pins s σ H Q I q => h.run p pins s σ H Q I (i _ _ _ q)⟩
theorem PO.imp {e : Option Expr} {t t' : TO} (h : PO X e t) (i : ∀ σ H Q, t' σ H Q → t σ H Q) : PO X e t' := ⟨fun pins s σ H Q I q => h.run pins s σ H Q I (i _ _ _ q)⟩

/-- an expression's part -/
theorem tE.part {K : PySem.W.Frag} {W : WX} {β : Type} {f : Ev} {k : PV → Me → Res β} {P : β → Wd → Me → Hp → Prop} {w : Wd} {m : Me} {H : Hp} {σ : L2.St} {Q : VK} (S : SR K ct w m H σ) (h : RE K ct σ w m H ((f m).bind k) P (PxW K ct W σ))
    (g : ∀ x w1 m1 H1 v, SR K ct w1 m1 H1 σ → Ext w m H w1 m1 H1 → PVR K ct w1 m1 H1 σ x v → RE K ct σ w1 m1 H1 (k x m1) P (PxW K ct W σ) → Q v H1) : tE K ct W f σ H Q :=
  ⟨w, m, S, h.bind.imp (fun x w1 m1 H1 S1 e1 h1 v pv => g x w1 m1 H1 v S1 e1 pv h1) fun _ _ _ _ _ _ z => z⟩
theorem tT.part {K : PySem.W.Frag} {W : WX} {β : Type} {f : Tv} {k : Bool → Me → Res β} {P : β → Wd → Me → Hp → Prop} {w : Wd} {m : Me} {H : Hp} {σ : L2.St} {Q : Bool → Hp → Prop} (S : SR K ct w m H σ) (h : RE K ct σ w m H ((f m).bind k) P (PxW K ct W σ))
    (g : ∀ x w1 m1 H1, SR K ct w1 m1 H1 σ → Ext w m H w1 m1 H1 → RE K ct σ w1 m1 H1 (k x m1) P (PxW K ct W σ) → Q x H1) : tT K ct W f σ H Q :=
  ⟨w, m, S, h.bind.imp (fun x w1 m1 H1 S1 e1 h1 => g x w1 m1 H1 S1 e1 h1) fun _ _ _ _ _ _ z => z⟩
theorem tA.part {K : PySem.W.Frag} {W : WX} {β : Type} {f : Av} {k : List PV → Me → Res β} {P : β → Wd → Me → Hp → Prop} {w : Wd} {m : Me} {H : Hp} {σ : L2.St} {Q : List V → Hp → Prop} (S : SR K ct w m H σ) (h : RE K ct σ w m H ((f m).bind k) P (PxW K ct W σ))
    (g : ∀ x w1 m1 H1 v, SR K ct w1 m1 H1 σ → Ext w m H w1 m1 H1 → PVRs K ct w1 m1 H1 σ x v → RE K ct σ w1 m1 H1 (k x m1) P (PxW K ct W σ) → Q v H1) : tA K ct W f σ H Q :=
  ⟨w, m, S, h.bind.imp (fun x w1 m1 H1 S1 e1 h1 v pv => g x w1 m1 H1 v S1 e1 pv h1) fun _ _ _ _ _ _ z => z⟩
theorem tO.part {K : PySem.W.Frag} {W : WX} {β : Type} {f : Ov} {k : Option Int → Me → Res β} {P : β → Wd → Me → Hp → Prop} {w : Wd} {m : Me} {H : Hp} {σ : L2.St} {Q : Option Int → Hp → Prop} (S : SR K ct w m H σ) (h : RE K ct σ w m H ((f m).bind k) P (PxW K ct W σ))
    (g : ∀ x w1 m1 H1, SR K ct w1 m1 H1 σ → Ext w m H w1 m1 H1 → RE K ct σ w1 m1 H1 (k x m1) P (PxW K ct W σ) → Q x H1) : tO K ct W f σ H Q :=
  ⟨w, m, S, h.bind.imp (fun x w1 m1 H1 S1 e1 h1 => g x w1 m1 H1 S1 e1 h1) fun _ _ _ _ _ _ z => z⟩

/-! ### names, constants -/
theorem de_var (i : Nat) {x : Str} (h : PE X (.Name x pos) (tVar i)) : DE X ct (.Name x pos) (Mi.eVar i) := ⟨fun W tk => PE.imp h fun σ H Q ⟨w, m, S, q⟩ => by
  have hl := S.E.len
  have ha := S.E.at_ i
  unfold Mi.eVar at q
  cases e1 : m.σ[i]? with
  | none => rw [e1] at q; exact q.elim
  | some o =>
    have hi : i < σ.length := by rw [← hl]; exact (List.getElem?_eq_some_iff.mp e1).1
    have e2 : σ[i]? = some σ[i] := List.getElem?_eq_some_iff.mpr ⟨hi, rfl⟩
    have z := ha o _ e1 e2
    rw [e1] at q
    cases o with
    | none => exact q.elim
    | some f =>
      cases f with
      | lent => exact q.elim
      | v d =>
        obtain ⟨u, e3, r⟩ := z
        exact ⟨u, by rw [e2, e3], RE.ok q S (Ext.refl ..) u r⟩
      | o c =>
        have z' : σ[i] = some (.ref (w.α (.s i))) := z
        exact ⟨_, by rw [e2, z'], RE.ok q S (Ext.refl ..) _ (by show σ[i]? = _; rw [e2, z'])⟩⟩
theorem de_c {d : D} {v : V} (h : PE X e (tC v)) (r : ∀ w m H, RepD X.K ct w m H d v) : DE X ct e (Mi.eC d) := ⟨fun W tk => PE.imp h fun σ H Q ⟨w, m, S, q⟩ => RE.ok q S (Ext.refl ..) v (r w m H)⟩
theorem de_int {i : Int} {j : Nat} : DE X ct (.Constant (.int i) j pos) (Mi.eC (.int i)) := de_c pe_int fun _ _ _ => .int i
theorem de_bl {i : Bool} {j : Nat} : DE X ct (.Constant (.bool i) j pos) (Mi.eC (.bl i)) := de_c pe_bl fun _ _ _ => .bl i
theorem de_non {j : Nat} : DE X ct (.Constant .none j pos) (Mi.eC .non) := de_c pe_non fun _ _ _ => .non
theorem de_str (x : Tx) {s : Str} {j : Nat} (h : tx x = s := by rfl) : DE X ct (.Constant (.str s) j pos) (Mi.eC (.str x)) := by
  subst h
  exact de_c pe_str fun _ _ _ => .str x

/-! ### operators -/
/-- a two-place operation of mine is one of the layer's -/
def OpOk (X : Cx) (ct : String → Option Addr) (g : PV → PV → Me → Option D) (r : R2) : Prop :=
  ∀ (w : Wd) (m : Me) (H : Hp) (σ : L2.St) (x y : PV) (v u : V) (d : D) (Q : VK), SR X.K ct w m H σ → PVR X.K ct w m H σ x v → PVR X.K ct w m H σ y u → g x y m = some d →
    (∀ v' H', SR X.K ct w m H' σ → Ext w m H w m H' → RepD X.K ct w m H' d v' → Q v' H') → r v u H Q
def UnOk (X : Cx) (ct : String → Option Addr) (g : PV → Me → Option D) (r : V → Hp → VK → Prop) : Prop :=
  ∀ (w : Wd) (m : Me) (H : Hp) (σ : L2.St) (x : PV) (v : V) (d : D) (Q : VK), SR X.K ct w m H σ → PVR X.K ct w m H σ x v → g x m = some d →
    (∀ v' H', SR X.K ct w m H' σ → Ext w m H w m H' → RepD X.K ct w m H' d v' → Q v' H') → r v H Q
/-- two expressions in a row, then the operation -/
theorem e2_read {W : WX} {g : PV → PV → Me → Option D} {r : R2} (hg : OpOk X ct g r) {fa fb : Ev} {σ : L2.St} {H : Hp} {Q : VK} (h : tE X.K ct W (Mi.e2 g fa fb) σ H Q) : tOp r (tE X.K ct W fa) (tE X.K ct W fb) σ H Q := by
  obtain ⟨w, m, S, h⟩ := h
  refine tE.part S h fun x w1 m1 H1 v S1 e1 pv h1 => ?_
  refine tE.part S1 h1 fun y w2 m2 H2 u S2 e2 pu h2 => ?_
  obtain ⟨d, hd, h3⟩ := h2.opt
  exact hg w2 m2 H2 σ x y v u d Q S2 (pv.ext e2) pu hd fun v' H' S' e' r' => RE.ok h3 S' e' v' r'
theorem e1_read {W : WX} {g : PV → Me → Option D} {r : V → Hp → VK → Prop} (hg : UnOk X ct g r) {fa : Ev} {σ : L2.St} {H : Hp} {Q : VK} (h : tE X.K ct W (Mi.e1 g fa) σ H Q) : tUn r (tE X.K ct W fa) σ H Q := by
  obtain ⟨w, m, S, h⟩ := h
  refine tE.part S h fun x w1 m1 H1 v S1 e1 pv h1 => ?_
  obtain ⟨d, hd, h3⟩ := h1.opt
  exact hg w1 m1 H1 σ x v d Q S1 pv hd fun v' H' S' e' r' => RE.ok h3 S' e' v' r'
theorem de_op {op : Operator} {g : PV → PV → Me → Option D} {r : R2} (ho : OpR X (binaryOp op) r) (hg : OpOk X ct g r) {fa fb : Ev} (ha : DE X ct a fa) (hb : DE X ct b fb) : DE X ct (.BinOp a op b pos) (Mi.e2 g fa fb) :=
  ⟨fun W tk => PE.imp (pe_op ho (ha.run W tk) (hb.run W tk)) fun _ _ _ h => e2_read hg h⟩
theorem de_cmp {op : CmpOp} {g : PV → PV → Me → Option D} {r : R2} (ho : OpR X (compareOp op) r) (hg : OpOk X ct g r) {fa fb : Ev} (ha : DE X ct a fa) (hb : DE X ct b fb) (hm : behindInMarks op b = false) : DE X ct (.Compare a [op] [b] pos) (Mi.e2 g fa fb) :=
  ⟨fun W tk => PE.imp (pe_cmpR ho (ha.run W tk) (hb.run W tk) hm) fun _ _ _ h => e2_read hg h⟩
theorem tv_read {W : WX} {f : Ev} {t : TE} (ht : ∀ σ H Q, tE X.K ct W f σ H Q → t σ H Q) {σ : L2.St} {H : Hp} {Q : Bool → Hp → Prop} (h : tT X.K ct W (Mi.tV f) σ H Q) : tTest t σ H Q := by
  obtain ⟨w, m, S, h⟩ := h
  refine ht σ H _ (tE.part S h fun x w1 m1 H1 v S1 e1 pv h1 => ?_)
  cases x with
  | sl i => exact h1.elim
  | v d =>
    cases d <;> first | exact h1.elim | skip
    cases pv
    exact ⟨_, rfl, RE.ok h1 S1 (Ext.refl ..)⟩
theorem dt_cmp {op : CmpOp} {g : PV → PV → Me → Option D} {r : R2} (ho : OpR X (compareOp op) r) (hg : OpOk X ct g r) {fa fb : Ev} (ha : DE X ct a fa) (hb : DE X ct b fb) (hm : behindInMarks op b = false) : DT X ct (.Compare a [op] [b] pos) (Mi.tV (Mi.e2 g fa fb)) :=
  ⟨fun W tk => PT.imp (pt_cmpR ho (ha.run W tk) (hb.run W tk) hm) fun _ _ _ h => tv_read (fun _ _ _ q => e2_read hg q) h⟩
theorem dt_val {f : Ev} (h : DE X ct e f) (he : ∀ whole, isTrue e X.env whole = (do let v ← whole; standAt e.pos; holding [v] (truthy v)) := by intro _; rfl) : DT X ct e (Mi.tV f) :=
  ⟨fun W tk => PT.imp (pt_val (h.run W tk) he) fun _ _ _ h => tv_read (t := tE X.K ct W f) (fun _ _ _ q => q) h⟩
theorem de_un {op : UnaryOp} {g : PV → Me → Option D} {r : V → Hp → VK → Prop} (ho : UnR X (unaryOp op) r) (hg : UnOk X ct g r) {fa : Ev} (ha : DE X ct a fa) : DE X ct (.UnaryOp op a pos) (Mi.e1 g fa) :=
  ⟨fun W tk => PE.imp (pe_un ho (ha.run W tk)) fun _ _ _ h => e1_read hg h⟩

/-! ints -/
theorem ok_int {p : Int → Int → Bool} {g : Int → Int → Int} {C : Int → Int → Prop} (hc : ∀ i j, p i j = true → C i j) : OpOk X ct (Mi.gI p g) (rI C fun i j => .int (g i j)) := by
  intro w m H σ x y v u d Q S rx ry hg k
  unfold Mi.gI at hg
  split at hg
  · rename_i i j
    cases rx; cases ry
    split at hg
    · rename_i hp
      cases hg
      exact ⟨i, j, rfl, rfl, hc i j hp, k _ H S (Ext.refl ..) (.int _)⟩
    · cases hg
  · cases hg
theorem ok_int0 {g : Int → Int → Int} : OpOk X ct (Mi.gI (fun _ _ => true) g) (rI0 fun i j => .int (g i j)) := by
  intro w m H σ x y v u d Q S rx ry hg k
  unfold Mi.gI at hg
  split at hg
  · rename_i i j
    cases rx; cases ry
    rw [if_pos rfl] at hg
    cases hg
    exact ⟨i, j, rfl, rfl, k _ H S (Ext.refl ..) (.int _)⟩
  · cases hg
theorem ok_cmp {g : Int → Int → Bool} : OpOk X ct (Mi.gCmp g) (rI0 fun i j => .bl (g i j)) := by
  intro w m H σ x y v u d Q S rx ry hg k
  unfold Mi.gCmp at hg
  split at hg
  · rename_i i j
    cases rx; cases ry
    cases hg
    exact ⟨i, j, rfl, rfl, k _ H S (Ext.refl ..) (.bl _)⟩
  · cases hg
theorem tx_length (x : Tx) : (tx x).length = x.length := by show x.toArray.size = x.length; simp
theorem tx_append (x y : Tx) : tx x ++ tx y = tx (x ++ y) := by
  show Str.mk (x.toArray ++ y.toArray) = Str.mk (x ++ y).toArray
  simp
def rAddU : R2 := fun x y H Q => rI0 (fun i j => .int (i + j)) x y H Q ∨ ∃ i j, x = .str i ∧ y = .str j ∧ i.length + j.length ≤ sizeLine ∧ Q (.str (i ++ j)) H
theorem ok_add : OpOk X ct Mi.gAdd rAddU := by
  intro w m H σ x y v u d Q S rx ry hg k
  unfold Mi.gAdd at hg
  split at hg
  · cases rx; cases ry; cases hg
    exact .inl ⟨_, _, rfl, rfl, k _ H S (Ext.refl ..) (.int _)⟩
  · cases rx; cases ry
    split at hg
    · rename_i hl
      cases hg
      refine .inr ⟨_, _, rfl, rfl, by rw [tx_length, tx_length, ← big_eq]; exact hl, k _ H S (Ext.refl ..) ?_⟩
      rw [tx_append]
      exact .str _
    · cases hg
  · cases hg
theorem de_add {fa fb : Ev} (ha : DE X ct a fa) (hb : DE X ct b fb) : DE X ct (.BinOp a .Add b pos) (Mi.e2 Mi.gAdd fa fb) := de_op (OpR.or op_add op_add_str) ok_add ha hb
theorem de_sub {fa fb : Ev} (ha : DE X ct a fa) (hb : DE X ct b fb) : DE X ct (.BinOp a .Sub b pos) (Mi.e2 Mi.gSub fa fb) := de_op op_sub ok_int0 ha hb
theorem small_is {i : Int} (h : Mi.small64 i = true) : -(2 ^ 64) < i ∧ i < 2 ^ 64 := by
  have h := of_decide_eq_true (show decide (-Mi.lim64 < i ∧ i < Mi.lim64) = true from h)
  rwa [Mi.lim64_is] at h
theorem de_mul {fa fb : Ev} (ha : DE X ct a fa) (hb : DE X ct b fb) : DE X ct (.BinOp a .Mult b pos) (Mi.e2 Mi.gMul fa fb) := de_op op_mul (ok_int fun i j h => by
  rcases Bool.or_eq_true _ _ ▸ h with h | h
  · exact .inl (small_is h)
  · exact .inr (small_is h)) ha hb
theorem de_mod {fa fb : Ev} (ha : DE X ct a fa) (hb : DE X ct b fb) : DE X ct (.BinOp a .Mod b pos) (Mi.e2 Mi.gMod fa fb) := de_op op_modN (ok_int fun i j h => by simpa using h) ha hb
theorem de_div {fa fb : Ev} (ha : DE X ct a fa) (hb : DE X ct b fb) : DE X ct (.BinOp a .FloorDiv b pos) (Mi.e2 Mi.gDiv fa fb) := de_op op_fdivN (ok_int fun i j h => by simpa [CDivN, Mi.lim30_is] using h) ha hb
theorem de_pow {fa fb : Ev} (ha : DE X ct a fa) (hb : DE X ct b fb) : DE X ct (.BinOp a .Pow b pos) (Mi.e2 Mi.gPow fa fb) := de_op op_pow (ok_int fun i j h => by simpa [CPow, Mi.limE_is, Mi.lim64N_is] using h) ha hb
theorem de_shl {fa fb : Ev} (ha : DE X ct a fa) (hb : DE X ct b fb) : DE X ct (.BinOp a .LShift b pos) (Mi.e2 Mi.gShl fa fb) := de_op op_shl (ok_int fun i j h => by simpa [CPow, Mi.limE_is, Mi.lim64N_is] using h) ha hb
theorem de_shr {fa fb : Ev} (ha : DE X ct a fa) (hb : DE X ct b fb) : DE X ct (.BinOp a .RShift b pos) (Mi.e2 Mi.gShr fa fb) := de_op op_shr (ok_int fun i j h => by simpa using h) ha hb
theorem de_neg {fa : Ev} (ha : DE X ct a fa) : DE X ct (.UnaryOp .USub a pos) (Mi.e1 Mi.gNeg fa) := de_un un_neg (fun w m H σ x v d Q S rx hg k => by
  unfold Mi.gNeg at hg
  split at hg
  · cases rx; cases hg
    exact ⟨_, rfl, k _ H S (Ext.refl ..) (.int _)⟩
  · cases hg) ha
end
end So

set_option Elab.async false
set_option linter.all false
set_option maxRecDepth 100000
set_option maxHeartbeats 4000000
namespace So
open PySem PySem.Spec PyProof.Rows L2
open Mi (D Cl FV SC Me Xc Res PV Ky Ev Tv Av Lv Iv Ov Sv Bd Out Env Tx)

/-! ### what stands behind a value or a slot -/
section
variable {K : PySem.W.Frag} {ct : String → Option Addr} {w : Wd} {m : Me} {H : Hp} {σ : L2.St}
theorem SR.slot (S : SR K ct w m H σ) {i : Nat} {c : Cl} (h : m.slot i = some c) : m.σ[i]? = some (some (.o c)) ∧ σ[i]? = some (some (.ref (w.α (.s i)))) ∧ cellAt m (.s i) = some (.c c) := by
  have h1 : m.σ[i]? = some (some (.o c)) := by
    unfold Mi.Me.slot at h
    split at h
    · rename_i q; cases h; exact q
    · cases h
  refine ⟨h1, ?_, by show (m.slot i).map SC.c = _; rw [h]; rfl⟩
  have hi : i < σ.length := by rw [← S.E.len]; exact (List.getElem?_eq_some_iff.mp h1).1
  have e2 : σ[i]? = some σ[i] := List.getElem?_eq_some_iff.mpr ⟨hi, rfl⟩
  have z : σ[i] = some (.ref (w.α (.s i))) := S.E.at_ i _ _ h1 e2
  rw [e2, z]
/-- a place that can be changed: its address, its cell -/
theorem SR.own (S : SR K ct w m H σ) {x : PV} {v : V} {c : Cl} (r : PVR K ct w m H σ x v) (h : m.own x = some c) :
    ∃ p, v = .ref (w.α p) ∧ cellAt m p = some (.c c) ∧ CellR K ct w m H p (w.α p) (.c c) ∧ ((∃ i, x = .sl i ∧ p = .s i) ∨ ∃ n, x = .v (.ref n) ∧ p = .g n) := by
  cases x with
  | sl i =>
    obtain ⟨h1, h2, h3⟩ := S.slot (i := i) h
    have r' : σ[i]? = some (some v) := r
    rw [h2] at r'
    cases r'
    exact ⟨.s i, rfl, h3, S.M.cells _ _ h3, .inl ⟨i, rfl, rfl⟩⟩
  | v d =>
    cases d with
    | ref n =>
      cases r with
      | ref hc =>
        have h1 : cellAt m (.g n) = some (.c c) := by
          have h : m.glob n = some c := h
          unfold Mi.Me.glob at h
          split at h
          · rename_i q; cases h; exact q
          · cases h
        exact ⟨.g n, rfl, h1, S.M.cells _ _ h1, .inr ⟨n, rfl, rfl⟩⟩
    | _ => cases h
theorem sqL_of {a : Addr} {vs : List V} (h : (¬ Bad w m a ∧ NdL H a vs) ∨ Wr K a vs) : SqL K H a vs := h.imp (fun z => z.2.rd) id
theorem SR.lst (S : SR K ct w m H σ) {x : PV} {v : V} {xs : List D} (r : PVR K ct w m H σ x v) (h : m.cl x = some (.lst xs)) :
    ∃ a vs, v = .ref a ∧ H a = some (.lst vs) ∧ RepL K ct w m H xs vs := by
  have viaOwn : m.own x = some (.lst xs) → ∃ a vs, v = .ref a ∧ H a = some (.lst vs) ∧ RepL K ct w m H xs vs := fun ho => by
    obtain ⟨p, e, h1, ⟨vs, h2, h3⟩, _⟩ := S.own r ho
    exact ⟨_, vs, e, h2, h3⟩
  cases x with
  | sl i => exact viaOwn h
  | v d =>
    cases d with
    | lst ys =>
      cases h
      cases r with
      | lst n h1 h2 => exact ⟨_, _, rfl, h1.lst, h2⟩
    | ref n => exact viaOwn h
    | _ => cases h
theorem SR.items (S : SR K ct w m H σ) {x : PV} {v : V} {xs : List D} (r : PVR K ct w m H σ x v) (h : m.items x = some xs) :
    ∃ a vs, v = .ref a ∧ (SqL K H a vs ∨ SqT K H a vs) ∧ RepL K ct w m H xs vs := by
  have viaL : m.cl x = some (.lst xs) → ∃ a vs, v = .ref a ∧ (SqL K H a vs ∨ SqT K H a vs) ∧ RepL K ct w m H xs vs := fun hc => by
    obtain ⟨a, vs, e, h1, h2⟩ := S.lst r hc
    exact ⟨a, vs, e, .inl (SqL.of h1), h2⟩
  unfold Mi.Me.items at h
  split at h
  · cases h
    cases r with
    | tup n h1 h2 => exact ⟨_, _, rfl, .inr (SqT.of h1.tup), h2⟩
  · cases h
    cases r with
    | scr h1 h2 => exact ⟨_, _, rfl, .inl (sqL_of h1), h2⟩
  · split at h
    · rename_i q; cases h; exact viaL q
    · cases h
theorem SR.kvs (S : SR K ct w m H σ) {x : PV} {v : V} {xs : List (Ky × D)} (r : PVR K ct w m H σ x v) (h : m.kvs x = some xs) :
    ∃ a vs, v = .ref a ∧ Rd H a (.dK vs) ∧ RepK K ct w m H xs vs := by
  unfold Mi.Me.kvs at h
  have viaOwn : ∀ c, (c = .dct xs ∨ c = .lkd xs) → m.own x = some c → ∃ a vs, v = .ref a ∧ Rd H a (.dK vs) ∧ RepK K ct w m H xs vs := fun c hc ho => by
    obtain ⟨p, e, h1, h2, _⟩ := S.own r ho
    rcases hc with rfl | rfl
    · obtain ⟨vs, h3, h4⟩ := h2; exact ⟨_, vs, e, .inl h3, h4⟩
    · obtain ⟨vs, o, h3, h4⟩ := h2; exact ⟨_, vs, e, .inr ⟨o, h3⟩, h4⟩
  have main : ∀ c, m.cl x = some c → (c = .dct xs ∨ c = .lkd xs) → ∃ a vs, v = .ref a ∧ Rd H a (.dK vs) ∧ RepK K ct w m H xs vs := fun c hq hc => by
    cases x with
    | sl i => exact viaOwn c hc hq
    | v d =>
      cases d with
      | dct ys =>
        have hq : some (Cl.dct ys) = some c := hq
        cases hq
        rcases hc with hc | hc
        · cases hc
          cases r with
          | dct n h1 h2 => exact ⟨_, _, rfl, h1.dK, h2⟩
        · cases hc
      | ref n => exact viaOwn c hc hq
      | lst ys =>
        have hq : some (Cl.lst ys) = some c := hq
        cases hq
        rcases hc with hc | hc <;> cases hc
      | _ => cases hq
  split at h
  · rename_i kvs q; cases h; exact main _ q (.inl rfl)
  · rename_i kvs q; cases h; exact main _ q (.inr rfl)
  · cases h
end

/-! ### == -/
mutual
def toP : D → PyData
  | .non => .none | .bl b => .bool b | .int i => .int i | .str x => .str (tx x)
  | .lst xs => .list (toPs xs) | .tup xs => .tuple (toPs xs)
  | .dct _ => .dict [] | .obj _ _ => .dict [] | .ref _ => .dict [] | .scr _ => .dict []
def toPs : List D → List PyData
  | [] => [] | x :: xs => toP x :: toPs xs
end
theorem dep_map {o : Option Nat} {k : Nat} (h : o.map (fun k => k + 1) = some k) : ∃ j, o = some j ∧ k = j + 1 := by
  cases o with
  | none => cases h
  | some j => exact ⟨j, rfl, (Option.some.inj h).symm⟩
theorem dep_ok (x : Tx) (h : x.all (fun c => decide (c < 1114112)) = true) : PyData.canLay0 (.str (tx x)) = true := by
  show PyData.strOk (tx x) = true
  show (x.toArray.all fun c => decide (c < 0x110000)) = true
  simpa using h
mutual
theorem dep_lay : ∀ {d : D} {k : Nat}, Mi.dep d = some k → (toP d).canLay0 = true ∧ (toP d).depth = k
  | .non, k, h => by cases h; exact ⟨rfl, rfl⟩
  | .bl b, k, h => by cases h; exact ⟨rfl, rfl⟩
  | .int i, k, h => by cases h; exact ⟨rfl, rfl⟩
  | .str x, k, h => by
    unfold Mi.dep at h
    split at h
    · rename_i q; cases h; exact ⟨dep_ok x q, rfl⟩
    · cases h
  | .lst xs, k, h => by
    unfold Mi.dep at h
    obtain ⟨j, e1, rfl⟩ := dep_map h
    obtain ⟨h1, h2⟩ := deps_lay e1
    exact ⟨h1, congrArg (· + 1) h2⟩
  | .tup xs, k, h => by
    unfold Mi.dep at h
    obtain ⟨j, e1, rfl⟩ := dep_map h
    obtain ⟨h1, h2⟩ := deps_lay e1
    exact ⟨h1, congrArg (· + 1) h2⟩
  | .dct _, k, h => by unfold Mi.dep at h; cases h
  | .obj _ _, k, h => by unfold Mi.dep at h; cases h
  | .ref _, k, h => by unfold Mi.dep at h; cases h
  | .scr _, k, h => by unfold Mi.dep at h; cases h
theorem deps_lay : ∀ {d : List D} {k : Nat}, Mi.deps d = some k → PyData.canLayAll0 (toPs d) = true ∧ PyData.depthAll (toPs d) = k
  | [], k, h => by cases h; exact ⟨rfl, rfl⟩
  | x :: xs, k, h => by
    unfold Mi.deps at h
    split at h
    · rename_i a b q1 q2
      cases h
      obtain ⟨h1, h2⟩ := dep_lay q1
      obtain ⟨h3, h4⟩ := deps_lay q2
      refine ⟨by show (PyData.canLay0 (toP x) && PyData.canLayAll0 (toPs xs)) = true; rw [h1, h3]; rfl, ?_⟩
      show max (PyData.depth (toP x)) (PyData.depthAll (toPs xs)) = max a b
      rw [h2, h4]
    · cases h
end
theorem datum_shaped {d : D} (h : Mi.datum d = true) : SeqAt.shaped (toP d) = true := by
  unfold Mi.datum at h
  split at h
  · rename_i k q
    obtain ⟨h1, h2⟩ := dep_lay q
    unfold SeqAt.shaped
    rw [h1, h2]
    simp at h ⊢
    omega
  · cases h
theorem beq_tx (x y : Tx) : (tx x == tx y) = (x == y) := by
  by_cases h : x = y
  · subst h; simp
  · have h' : ¬ tx x = tx y := fun z => h (tx_inj z)
    have e1 : (tx x == tx y) = false := by simpa using h'
    have e2 : (x == y) = false := by simpa using h
    rw [e1, e2]
mutual
theorem eqv_eq : ∀ (d e : D) (j k : Nat), Mi.dep d = some j → Mi.dep e = some k → PyData.eqv (toP d) (toP e) = Mi.eqv d e
  | .lst xs, .lst ys, j, k, h1, h2 => by
    unfold Mi.dep at h1 h2
    obtain ⟨j', e1, _⟩ := dep_map h1
    obtain ⟨k', e2, _⟩ := dep_map h2
    unfold toP Mi.eqv PyData.eqv
    exact eqvs_eq xs ys j' k' e1 e2
  | .tup xs, .tup ys, j, k, h1, h2 => by
    unfold Mi.dep at h1 h2
    obtain ⟨j', e1, _⟩ := dep_map h1
    obtain ⟨k', e2, _⟩ := dep_map h2
    unfold toP Mi.eqv PyData.eqv
    exact eqvs_eq xs ys j' k' e1 e2
  | .dct _, _, _, _, h1, _ | .obj _ _, _, _, _, h1, _ | .ref _, _, _, _, h1, _ | .scr _, _, _, _, h1, _ => by unfold Mi.dep at h1; cases h1
  | .non, .dct _, _, _, _, h2 | .non, .obj _ _, _, _, _, h2 | .non, .ref _, _, _, _, h2 | .non, .scr _, _, _, _, h2 => by unfold Mi.dep at h2; cases h2
  | .bl _, .dct _, _, _, _, h2 | .bl _, .obj _ _, _, _, _, h2 | .bl _, .ref _, _, _, _, h2 | .bl _, .scr _, _, _, _, h2 => by unfold Mi.dep at h2; cases h2
  | .int _, .dct _, _, _, _, h2 | .int _, .obj _ _, _, _, _, h2 | .int _, .ref _, _, _, _, h2 | .int _, .scr _, _, _, _, h2 => by unfold Mi.dep at h2; cases h2
  | .str _, .dct _, _, _, _, h2 | .str _, .obj _ _, _, _, _, h2 | .str _, .ref _, _, _, _, h2 | .str _, .scr _, _, _, _, h2 => by unfold Mi.dep at h2; cases h2
  | .lst _, .dct _, _, _, _, h2 | .lst _, .obj _ _, _, _, _, h2 | .lst _, .ref _, _, _, _, h2 | .lst _, .scr _, _, _, _, h2 => by unfold Mi.dep at h2; cases h2
  | .tup _, .dct _, _, _, _, h2 | .tup _, .obj _ _, _, _, _, h2 | .tup _, .ref _, _, _, _, h2 | .tup _, .scr _, _, _, _, h2 => by unfold Mi.dep at h2; cases h2
  | .str x, .str y, _, _, _, _ => by unfold toP Mi.eqv PyData.eqv; exact beq_tx x y
  | .non, .non, _, _, _, _ | .non, .bl _, _, _, _, _ | .non, .int _, _, _, _, _ | .non, .str _, _, _, _, _ | .non, .lst _, _, _, _, _ | .non, .tup _, _, _, _, _ => by unfold toP Mi.eqv PyData.eqv; rfl
  | .bl _, .non, _, _, _, _ | .bl _, .bl _, _, _, _, _ | .bl _, .int _, _, _, _, _ | .bl _, .str _, _, _, _, _ | .bl _, .lst _, _, _, _, _ | .bl _, .tup _, _, _, _, _ => by unfold toP Mi.eqv PyData.eqv; rfl
  | .int _, .non, _, _, _, _ | .int _, .bl _, _, _, _, _ | .int _, .int _, _, _, _, _ | .int _, .str _, _, _, _, _ | .int _, .lst _, _, _, _, _ | .int _, .tup _, _, _, _, _ => by unfold toP Mi.eqv PyData.eqv; rfl
  | .str _, .non, _, _, _, _ | .str _, .bl _, _, _, _, _ | .str _, .int _, _, _, _, _ | .str _, .lst _, _, _, _, _ | .str _, .tup _, _, _, _, _ => by unfold toP Mi.eqv PyData.eqv; rfl
  | .lst _, .non, _, _, _, _ | .lst _, .bl _, _, _, _, _ | .lst _, .int _, _, _, _, _ | .lst _, .str _, _, _, _, _ | .lst _, .tup _, _, _, _, _ => by unfold toP Mi.eqv PyData.eqv; rfl
  | .tup _, .non, _, _, _, _ | .tup _, .bl _, _, _, _, _ | .tup _, .int _, _, _, _, _ | .tup _, .str _, _, _, _, _ | .tup _, .lst _, _, _, _, _ => by unfold toP Mi.eqv PyData.eqv; rfl
theorem eqvs_eq : ∀ (d e : List D) (j k : Nat), Mi.deps d = some j → Mi.deps e = some k → PyData.eqvAll (toPs d) (toPs e) = Mi.eqvs d e
  | [], [], _, _, _, _ => by unfold toPs Mi.eqvs PyData.eqvAll; rfl
  | [], _ :: _, _, _, _, _ => by simp [toPs, Mi.eqvs, PyData.eqvAll]
  | _ :: _, [], _, _, _, _ => by simp [toPs, Mi.eqvs, PyData.eqvAll]
  | x :: xs, y :: ys, j, k, h1, h2 => by
    unfold Mi.deps at h1 h2
    split at h1
    · rename_i a b q1 q2
      split at h2
      · rename_i a' b' q3 q4
        simp only [toPs, Mi.eqvs, PyData.eqvAll]
        rw [eqv_eq x y _ _ q1 q3, eqvs_eq xs ys _ _ q2 q4]
      · cases h2
    · cases h1
end
theorem datum_eqv {d e : D} (h1 : Mi.datum d = true) (h2 : Mi.datum e = true) : PyData.eqv (toP d) (toP e) = Mi.eqv d e := by
  unfold Mi.datum at h1 h2
  split at h1
  · rename_i k q
    split at h2
    · rename_i k' q'; exact eqv_eq d e _ _ q q'
    · cases h2
  · cases h1
section
variable {K : PySem.W.Frag} {ct : String → Option Addr} {w : Wd} {m : Me} {H : Hp} {σ : L2.St}
mutual
theorem RepD.dp : ∀ {d : D} {v : V} {k : Nat}, RepD K ct w m H d v → Mi.dep d = some k → Dp K H v (toP d)
  | _, _, _, .non, _ => .non
  | _, _, _, .bl b, _ => .bl b
  | _, _, _, .int i, _ => .int i
  | _, _, _, .str x, _ => .str _
  | _, _, _, .lst n h r, e => by
    unfold Mi.dep at e
    obtain ⟨j', e1, _⟩ := dep_map e
    exact .lst (SqL.of h.lst) (RepL.dp r e1)
  | _, _, _, .scr _ _, e => by unfold Mi.dep at e; cases e
  | _, _, _, .tup n h r, e => by
    unfold Mi.dep at e
    obtain ⟨j', e1, _⟩ := dep_map e
    exact .tup (SqT.of h.tup) (RepL.dp r e1)
  | _, _, _, .dct _ _ _, e => by unfold Mi.dep at e; cases e
  | _, _, _, .obj _ _ _ _, e => by unfold Mi.dep at e; cases e
  | _, _, _, .ref _, e => by unfold Mi.dep at e; cases e
theorem RepL.dp : ∀ {d : List D} {v : List V} {k : Nat}, RepL K ct w m H d v → Mi.deps d = some k → DpAll K H v (toPs d)
  | _, _, _, .nil, _ => .nil
  | _, _, _, .cons h r, e => by
    unfold Mi.deps at e
    split at e
    · rename_i q1 q2
      exact .cons (RepD.dp h q1) (RepL.dp r q2)
    · cases e
end
theorem SR.dat (S : SR K ct w m H σ) {x : PV} {v : V} {d : D} (r : PVR K ct w m H σ x v) (h : m.dat x = some d) (hd : Mi.datum d = true) : Dp K H v (toP d) := by
  have hk : ∃ k, Mi.dep d = some k := by
    unfold Mi.datum at hd
    split at hd
    · rename_i k q; exact ⟨k, q⟩
    · cases hd
  obtain ⟨k, hk⟩ := hk
  unfold Mi.Me.dat at h
  split at h
  · rename_i xs q
    cases h
    obtain ⟨a, vs, rfl, h1, h2⟩ := S.lst r q
    unfold Mi.dep at hk
    obtain ⟨j, e1, _⟩ := dep_map hk
    exact .lst (SqL.of h1) (h2.dp e1)
  · cases h
  · cases x with
    | sl i => cases h
    | v e => cases h; exact RepD.dp r hk
theorem dat_scl {x : PV} {v : V} {d e : D} (r : PVR K ct w m H σ x v) (h : m.dat x = some d) (hs : Mi.scl d e = true ∨ Mi.scl e d = true) : RepD K ct w m H d v := by
  unfold Mi.Me.dat at h
  split at h
  · cases h
    rcases hs with hs | hs
    · cases hs
    · unfold Mi.scl at hs
      split at hs <;> contradiction
  · cases h
  · cases x with
    | sl i => cases h
    | v e => cases h; exact r
theorem scl_V {a b : D} {v u : V} (ra : RepD K ct w m H a v) (rb : RepD K ct w m H b u) (h : Mi.scl a b = true) : scal v u = true ∧ decide (v = u) = Mi.eqv a b := by
  unfold Mi.scl at h
  split at h <;> first
    | (cases h; done)
    | (cases ra; cases rb; refine ⟨rfl, ?_⟩; unfold Mi.eqv; first | rfl | exact dec_int | exact dec_bl | (rw [dec_str]; exact beq_tx _ _) | simp)
end
section
variable {X : Cx} {ct : String → Option Addr} {e a b c : Expr} {pos : Pos}
theorem ok_eq : OpOk X ct Mi.gEq (fun x y H Q => rEq x y H Q ∨ rEqD X.K x y H Q) := by
  intro w m H σ x y v u d Q S rx ry hg k
  unfold Mi.gEq at hg
  split at hg
  · rename_i a b q1 q2
    split at hg
    · rename_i hc
      cases hg
      by_cases hs : Mi.scl a b = true
      · obtain ⟨h1, h2⟩ := scl_V (dat_scl rx q1 (.inl hs)) (dat_scl ry q2 (.inr hs)) hs
        exact .inl ⟨h1, by rw [h2]; exact k _ H S (Ext.refl ..) (.bl _)⟩
      · rw [Bool.eq_false_iff.mpr hs, Bool.false_or, Bool.and_eq_true] at hc
        refine .inr ⟨_, _, S.dat rx q1 hc.1, S.dat ry q2 hc.2, datum_shaped hc.1, datum_shaped hc.2, ?_⟩
        rw [datum_eqv hc.1 hc.2]
        exact k _ H S (Ext.refl ..) (.bl _)
    · cases hg
  · cases hg
theorem ok_ne : OpOk X ct Mi.gNe (fun x y H Q => rNe x y H Q ∨ rNeD X.K x y H Q) := by
  intro w m H σ x y v u d Q S rx ry hg k
  unfold Mi.gNe at hg
  split at hg
  · rename_i a b q1 q2
    split at hg
    · rename_i hc
      cases hg
      by_cases hs : Mi.scl a b = true
      · obtain ⟨h1, h2⟩ := scl_V (dat_scl rx q1 (.inl hs)) (dat_scl ry q2 (.inr hs)) hs
        exact .inl ⟨h1, by rw [h2]; exact k _ H S (Ext.refl ..) (.bl _)⟩
      · rw [Bool.eq_false_iff.mpr hs, Bool.false_or, Bool.and_eq_true] at hc
        refine .inr ⟨_, _, S.dat rx q1 hc.1, S.dat ry q2 hc.2, datum_shaped hc.1, datum_shaped hc.2, ?_⟩
        rw [datum_eqv hc.1 hc.2]
        exact k _ H S (Ext.refl ..) (.bl _)
    · cases hg
  · cases hg
theorem de_eq (hu : X.A.units + 64 < cLine) {fa fb : Ev} (ha : DE X ct a fa) (hb : DE X ct b fb) : DE X ct (.Compare a [.Eq] [b] pos) (Mi.e2 Mi.gEq fa fb) := de_cmp (OpR.or op_eq (op_eqD hu)) ok_eq ha hb (nomark _)
theorem de_ne (hu : X.A.units + 64 < cLine) {fa fb : Ev} (ha : DE X ct a fa) (hb : DE X ct b fb) : DE X ct (.Compare a [.NotEq] [b] pos) (Mi.e2 Mi.gNe fa fb) := de_cmp (OpR.or op_ne (op_neD hu)) ok_ne ha hb (nomark _)
theorem dt_eq (hu : X.A.units + 64 < cLine) {fa fb : Ev} (ha : DE X ct a fa) (hb : DE X ct b fb) : DT X ct (.Compare a [.Eq] [b] pos) (Mi.tV (Mi.e2 Mi.gEq fa fb)) := dt_cmp (OpR.or op_eq (op_eqD hu)) ok_eq ha hb (nomark _)
theorem dt_ne (hu : X.A.units + 64 < cLine) {fa fb : Ev} (ha : DE X ct a fa) (hb : DE X ct b fb) : DT X ct (.Compare a [.NotEq] [b] pos) (Mi.tV (Mi.e2 Mi.gNe fa fb)) := dt_cmp (OpR.or op_ne (op_neD hu)) ok_ne ha hb (nomark _)
end
end So

set_option Elab.async false
set_option linter.all false
set_option maxRecDepth 100000
set_option maxHeartbeats 4000000
namespace So
open PySem PySem.Spec PyProof.Rows L2
open Mi (D Cl FV SC Me Xc Res PV Ky Ev Tv Av Lv Iv Ov Sv Bd Out Env Tx)

section
variable {K : PySem.W.Frag} {ct : String → Option Addr} {w : Wd} {m : Me} {H : Hp} {σ : L2.St}
theorem ky_rep {x : PV} {v : V} {k : Ky} (r : PVR K ct w m H σ x v) (h : Mi.ky x = some k) : v = kV (kyR k) := by
  unfold Mi.ky at h
  split at h
  · unfold Mi.kyOf at h
    split at h
    · cases h; cases r; rfl
    · cases h; cases r; rfl
    · cases h
  · cases h
theorem look_cons (k : Ky) (d : D) (r : List (Ky × D)) (j : Ky) : Mi.look ((k, d) :: r) j = if k = j then some d else Mi.look r j := by
  unfold Mi.look
  rw [List.find?_cons]
  by_cases h : k = j
  · subst h; simp
  · rw [if_neg h]; simp [h]
theorem RepK.look (j : Ky) : ∀ {kvs : List (Ky × D)} {vs : List (Key × V)}, RepK K ct w m H kvs vs →
    (∃ d v, Mi.look kvs j = some d ∧ valV vs (kyR j) = some v ∧ RepD K ct w m H d v) ∨ (Mi.look kvs j = none ∧ valV vs (kyR j) = none)
  | _, _, .nil => .inr ⟨rfl, rfl⟩
  | _, _, .cons (k := k) (d := d) (v := v) r t => by
    rw [look_cons]
    by_cases h : k = j
    · subst h
      rw [if_pos rfl]
      exact .inl ⟨d, v, rfl, valV_pos (p := (kyR k, v)) rfl, r⟩
    · rw [if_neg h, valV_neg (p := (kyR k, v)) (fun z => h (kyR_inj z))]
      exact RepK.look j t
theorem RepK.lookS {j : Ky} {d : D} {kvs : List (Ky × D)} {vs : List (Key × V)} (r : RepK K ct w m H kvs vs) (h : Mi.look kvs j = some d) : ∃ v, valV vs (kyR j) = some v ∧ RepD K ct w m H d v := by
  rcases r.look j with ⟨d', v, h1, h2, h3⟩ | ⟨h1, _⟩
  · rw [h] at h1; cases h1; exact ⟨v, h2, h3⟩
  · rw [h] at h1; cases h1
theorem RepK.isSome {j : Ky} {kvs : List (Ky × D)} {vs : List (Key × V)} (r : RepK K ct w m H kvs vs) : (valV vs (kyR j)).isSome = (Mi.look kvs j).isSome := by
  rcases r.look j with ⟨d', v, h1, h2, h3⟩ | ⟨h1, h2⟩ <;> rw [h1, h2] <;> rfl
theorem flat_rep {d : D} {v : V} (r : RepD K ct w m H d v) (h : Mi.flat d = true) : flatV v = true := by
  unfold Mi.flat at h
  split at h <;> first | contradiction | (cases r; rfl)
theorem flat_eq {d e : D} {v u : V} (r : RepD K ct w m H d v) (q : RepD K ct w m H e u) (h1 : Mi.flat d = true) (h2 : Mi.flat e = true) : eqV v u = Mi.eqv d e := by
  cases d <;> first | contradiction | skip
  all_goals (cases e <;> first | contradiction | skip)
  all_goals (cases r; cases q; unfold eqV Mi.eqv; first | rfl | exact beq_tx _ _)
theorem flats_rep : ∀ {xs : List D} {vs : List V}, RepL K ct w m H xs vs → xs.all Mi.flat = true → vs.all flatV = true
  | _, _, .nil, _ => rfl
  | _, _, .cons r t, h => by
    rw [List.all_cons, Bool.and_eq_true] at h
    rw [List.all_cons, flat_rep r h.1, flats_rep t h.2]
    rfl
theorem in_rep {a : D} {v : V} (ra : RepD K ct w m H a v) (ha : Mi.flat a = true) : ∀ {xs : List D} {vs : List V}, RepL K ct w m H xs vs → xs.all Mi.flat = true → inV v vs = xs.any fun y => Mi.eqv y a
  | _, _, .nil, _ => rfl
  | _, _, .cons r t, h => by
    rw [List.all_cons, Bool.and_eq_true] at h
    show (eqV _ v || inV v _) = _
    rw [List.any_cons, flat_eq r ra h.1 ha, in_rep ra ha t h.2]
theorem ixN_same (n : Nat) (i : Int) : Mi.ixN n i = L2.ixN n i := rfl
theorem atI_rep {xs : List D} {vs : List V} (r : RepL K ct w m H xs vs) {i : Int} {d : D} (h : Mi.atI xs i = some d) : ∃ v, L2.atI vs i = some v ∧ RepD K ct w m H d v := by
  unfold Mi.atI at h
  unfold L2.atI
  rw [← r.length, ← ixN_same]
  cases q : Mi.ixN xs.length i with
  | none => rw [q] at h; cases h
  | some j =>
    rw [q] at h
    exact r.get h
theorem sIx_same (n d : Nat) (o : Option Int) : Mi.sIx n d o = HT.sIx n d o := by cases o <;> rfl
theorem cut_rep {xs : List D} {vs : List V} (r : RepL K ct w m H xs vs) (l h : Option Int) : RepL K ct w m H (Mi.cut xs l h) (cutV vs l h) := by
  unfold Mi.cut cutV
  rw [sIx_same, sIx_same, ← r.length]
  exact (r.drop _).take _
theorem ints_rep : ∀ {xs : List D} {vs : List V} {ns : List Int}, RepL K ct w m H xs vs → Mi.asInts xs = some ns → vs = ns.map V.int
  | _, _, _, .nil, h => by cases h; rfl
  | _, _, _, .cons (d := d) (ds := ds) r t, h => by
    cases d with
    | int i =>
      have h : (Mi.asInts ds).map (fun l => i :: l) = some _ := h
      cases r
      cases e : Mi.asInts ds with
      | none => rw [e] at h; cases h
      | some l =>
        rw [e] at h
        cases h
        rw [ints_rep t e]
        rfl
    | _ => exact nomatch (show (none : Option (List Int)) = some _ from h)
theorem bls_rep : ∀ {xs : List D} {vs : List V} {ns : List Bool}, RepL K ct w m H xs vs → Mi.asBls xs = some ns → vs = ns.map V.bl
  | _, _, _, .nil, h => by cases h; rfl
  | _, _, _, .cons (d := d) (ds := ds) r t, h => by
    cases d with
    | bl i =>
      have h : (Mi.asBls ds).map (fun l => i :: l) = some _ := h
      cases r
      cases e : Mi.asBls ds with
      | none => rw [e] at h; cases h
      | some l =>
        rw [e] at h
        cases h
        rw [bls_rep t e]
        rfl
    | _ => exact nomatch (show (none : Option (List Bool)) = some _ from h)
theorem ds_rep : ∀ {ps : List PV} {vs : List V} {ds : List D}, PVRs K ct w m H σ ps vs → PV.ds ps = some ds → RepL K ct w m H ds vs
  | _, _, _, .nil, h => by cases h; exact .nil
  | _, _, _, .cons (p := p) (ps := ps) r t, h => by
    rw [PV.ds_cons] at h
    split at h
    · rename_i d e q1 q2
      cases h
      cases p with
      | sl i => cases q1
      | v d' => cases q1; exact .cons r (ds_rep t q2)
    · cases h
end

section
variable {X : Cx} {ct : String → Option Addr} {e a b c : Expr} {pos : Pos}
/-! ### in -/
theorem ok_in : OpOk X ct Mi.gIn (rIn X.K false) := by
  intro w m H σ x y v u d Q S rx ry hg k
  unfold Mi.gIn at hg
  split at hg
  · rename_i a xs q
    split at hg
    · rename_i hc
      rw [Bool.and_eq_true] at hc
      cases hg
      obtain ⟨p, vs, rfl, h1, h2⟩ := S.items ry q
      refine ⟨p, vs, rfl, h1, flat_rep rx hc.1, flats_rep h2 hc.2, ?_⟩
      rw [if_neg Bool.false_ne_true, in_rep rx hc.1 h2 hc.2]
      exact k _ H S (Ext.refl ..) (.bl _)
    · cases hg
  · cases hg
theorem ok_notIn : OpOk X ct Mi.gNotIn (rIn X.K true) := by
  intro w m H σ x y v u d Q S rx ry hg k
  unfold Mi.gNotIn at hg
  split at hg
  · rename_i a xs q
    split at hg
    · rename_i hc
      rw [Bool.and_eq_true] at hc
      cases hg
      obtain ⟨p, vs, rfl, h1, h2⟩ := S.items ry q
      refine ⟨p, vs, rfl, h1, flat_rep rx hc.1, flats_rep h2 hc.2, ?_⟩
      rw [if_pos rfl, in_rep rx hc.1 h2 hc.2]
      exact k _ H S (Ext.refl ..) (.bl _)
    · cases hg
  · cases hg
theorem ok_inT : OpOk X ct Mi.gInT (fun x y H Q => ∃ (c : Nat) (z : Str), x = .str ⟨#[c]⟩ ∧ y = .str z ∧ Q (.bl (decide (c ∈ z.cps.toList))) H) := by
  intro w m H σ x y v u d Q S rx ry hg k
  unfold Mi.gInT at hg
  split at hg
  · rename_i c z
    cases hg; cases rx; cases ry
    refine ⟨c, tx z, rfl, rfl, ?_⟩
    show Q (.bl (decide (c ∈ z.toArray.toList))) H
    rw [List.toList_toArray]
    exact k _ H S (Ext.refl ..) (.bl _)
  · cases hg
theorem ok_notInT : OpOk X ct Mi.gNotInT (fun x y H Q => ∃ (c : Nat) (z : Str), x = .str ⟨#[c]⟩ ∧ y = .str z ∧ Q (.bl (!decide (c ∈ z.cps.toList))) H) := by
  intro w m H σ x y v u d Q S rx ry hg k
  unfold Mi.gNotInT at hg
  split at hg
  · rename_i c z
    cases hg; cases rx; cases ry
    refine ⟨c, tx z, rfl, rfl, ?_⟩
    show Q (.bl (!decide (c ∈ z.toArray.toList))) H
    rw [List.toList_toArray]
    exact k _ H S (Ext.refl ..) (.bl _)
  · cases hg
theorem de_in {fa fb : Ev} (ha : DE X ct a fa) (hb : DE X ct b fb) (hm : behindInMarks .In b = false := by rfl) : DE X ct (.Compare a [.In] [b] pos) (Mi.e2 Mi.gIn fa fb) := de_cmp op_in_seq ok_in ha hb hm
theorem de_notIn {fa fb : Ev} (ha : DE X ct a fa) (hb : DE X ct b fb) (hm : behindInMarks .NotIn b = false := by rfl) : DE X ct (.Compare a [.NotIn] [b] pos) (Mi.e2 Mi.gNotIn fa fb) := de_cmp op_notIn_seq ok_notIn ha hb hm
theorem dt_in {fa fb : Ev} (ha : DE X ct a fa) (hb : DE X ct b fb) (hm : behindInMarks .In b = false := by rfl) : DT X ct (.Compare a [.In] [b] pos) (Mi.tV (Mi.e2 Mi.gIn fa fb)) := dt_cmp op_in_seq ok_in ha hb hm
theorem dt_notIn {fa fb : Ev} (ha : DE X ct a fa) (hb : DE X ct b fb) (hm : behindInMarks .NotIn b = false := by rfl) : DT X ct (.Compare a [.NotIn] [b] pos) (Mi.tV (Mi.e2 Mi.gNotIn fa fb)) := dt_cmp op_notIn_seq ok_notIn ha hb hm
theorem dt_inT {fa fb : Ev} (ha : DE X ct a fa) (hb : DE X ct b fb) (hm : behindInMarks .In b = false := by rfl) : DT X ct (.Compare a [.In] [b] pos) (Mi.tV (Mi.e2 Mi.gInT fa fb)) := dt_cmp op_in_sign ok_inT ha hb hm
theorem dt_notInT {fa fb : Ev} (ha : DE X ct a fa) (hb : DE X ct b fb) (hm : behindInMarks .NotIn b = false := by rfl) : DT X ct (.Compare a [.NotIn] [b] pos) (Mi.tV (Mi.e2 Mi.gNotInT fa fb)) := dt_cmp op_notIn_sign ok_notInT ha hb hm
theorem din_read {W : WX} {fa fb : Ev} {σ : L2.St} {H : Hp} {Q : VK} (h : tE X.K ct W (Mi.e2 Mi.gInK fa fb) σ H Q) : tDIn (tE X.K ct W fa) (tE X.K ct W fb) σ H Q :=
  e2_read (r := fun y x H2 Q => ∃ a o, x = .ref a ∧ DGet H2 a y o ∧ Q (.bl o.isSome) H2) (fun w m H σ x y v u d Q S rx ry hg k => by
    unfold Mi.gInK at hg
    split at hg
    · rename_i j kvs q1 q2
      cases hg
      obtain ⟨p, vs, rfl, h1, h2⟩ := S.kvs ry q2
      refine ⟨p, valV vs (kyR j), rfl, .inl ⟨vs, _, h1, ky_rep rx q1, rfl⟩, ?_⟩
      rw [h2.isSome]
      exact k _ H S (Ext.refl ..) (.bl _)
    · cases hg) h
theorem dnotin_read {W : WX} {fa fb : Ev} {σ : L2.St} {H : Hp} {Q : VK} (h : tE X.K ct W (Mi.e2 Mi.gNotInK fa fb) σ H Q) : tDNotIn (tE X.K ct W fa) (tE X.K ct W fb) σ H Q :=
  e2_read (r := fun y x H2 Q => ∃ a o, x = .ref a ∧ DGet H2 a y o ∧ Q (.bl (!o.isSome)) H2) (fun w m H σ x y v u d Q S rx ry hg k => by
    unfold Mi.gNotInK at hg
    split at hg
    · rename_i j kvs q1 q2
      cases hg
      obtain ⟨p, vs, rfl, h1, h2⟩ := S.kvs ry q2
      refine ⟨p, valV vs (kyR j), rfl, .inl ⟨vs, _, h1, ky_rep rx q1, rfl⟩, ?_⟩
      rw [h2.isSome]
      exact k _ H S (Ext.refl ..) (.bl _)
    · cases hg) h
theorem tB_eq (t : TE) : tB t = tTest t := rfl
theorem dt_inK (hu : X.A.units + 1 < cLine) {fa fb : Ev} (ha : DE X ct a fa) (hb : DE X ct b fb) (hm : behindInMarks .In b = false := by rfl) : DT X ct (.Compare a [.In] [b] pos) (Mi.tV (Mi.e2 Mi.gInK fa fb)) :=
  ⟨fun W tk => PT.imp (pt_cmp (pc_din hu (ha.run W tk) (hb.run W tk)) hm) fun _ _ _ h => tv_read (fun _ _ _ q => din_read q) h⟩
theorem dt_notInK (hu : X.A.units + 1 < cLine) {fa fb : Ev} (ha : DE X ct a fa) (hb : DE X ct b fb) (hm : behindInMarks .NotIn b = false := by rfl) : DT X ct (.Compare a [.NotIn] [b] pos) (Mi.tV (Mi.e2 Mi.gNotInK fa fb)) :=
  ⟨fun W tk => PT.imp (pt_cmp (pc_dnotin hu (ha.run W tk) (hb.run W tk)) hm) fun _ _ _ h => tv_read (fun _ _ _ q => dnotin_read q) h⟩
theorem de_inK (hu : X.A.units + 1 < cLine) {fa fb : Ev} (ha : DE X ct a fa) (hb : DE X ct b fb) (hm : behindInMarks .In b = false := by rfl) : DE X ct (.Compare a [.In] [b] pos) (Mi.e2 Mi.gInK fa fb) :=
  ⟨fun W tk => PE.imp (pe_cmp (pc_din hu (ha.run W tk) (hb.run W tk)) hm) fun _ _ _ h => din_read h⟩
/-! ### comparisons of ints -/
theorem de_lt {fa fb : Ev} (ha : DE X ct a fa) (hb : DE X ct b fb) : DE X ct (.Compare a [.Lt] [b] pos) (Mi.e2 (Mi.gCmp fun i j => decide (i < j)) fa fb) := de_cmp op_lt ok_cmp ha hb (nomark _)
theorem de_le {fa fb : Ev} (ha : DE X ct a fa) (hb : DE X ct b fb) : DE X ct (.Compare a [.LtE] [b] pos) (Mi.e2 (Mi.gCmp fun i j => decide (i ≤ j)) fa fb) := de_cmp op_le ok_cmp ha hb (nomark _)
theorem de_gt {fa fb : Ev} (ha : DE X ct a fa) (hb : DE X ct b fb) : DE X ct (.Compare a [.Gt] [b] pos) (Mi.e2 (Mi.gCmp fun i j => decide (j < i)) fa fb) := de_cmp op_gt ok_cmp ha hb (nomark _)
theorem de_ge {fa fb : Ev} (ha : DE X ct a fa) (hb : DE X ct b fb) : DE X ct (.Compare a [.GtE] [b] pos) (Mi.e2 (Mi.gCmp fun i j => decide (j ≤ i)) fa fb) := de_cmp op_ge ok_cmp ha hb (nomark _)
theorem dt_lt {fa fb : Ev} (ha : DE X ct a fa) (hb : DE X ct b fb) : DT X ct (.Compare a [.Lt] [b] pos) (Mi.tV (Mi.e2 (Mi.gCmp fun i j => decide (i < j)) fa fb)) := dt_cmp op_lt ok_cmp ha hb (nomark _)
theorem dt_le {fa fb : Ev} (ha : DE X ct a fa) (hb : DE X ct b fb) : DT X ct (.Compare a [.LtE] [b] pos) (Mi.tV (Mi.e2 (Mi.gCmp fun i j => decide (i ≤ j)) fa fb)) := dt_cmp op_le ok_cmp ha hb (nomark _)
theorem dt_gt {fa fb : Ev} (ha : DE X ct a fa) (hb : DE X ct b fb) : DT X ct (.Compare a [.Gt] [b] pos) (Mi.tV (Mi.e2 (Mi.gCmp fun i j => decide (j < i)) fa fb)) := dt_cmp op_gt ok_cmp ha hb (nomark _)
theorem dt_ge {fa fb : Ev} (ha : DE X ct a fa) (hb : DE X ct b fb) : DT X ct (.Compare a [.GtE] [b] pos) (Mi.tV (Mi.e2 (Mi.gCmp fun i j => decide (j ≤ i)) fa fb)) := dt_cmp op_ge ok_cmp ha hb (nomark _)
theorem isN_rep {K : PySem.W.Frag} {w : Wd} {m : Me} {H : Hp} {d : D} {v : V} (r : RepD K ct w m H d v) : decide (v = .non) = Mi.isN d := by
  cases r <;> rfl
theorem ok_isN : OpOk X ct Mi.gIsN (fun x y H Q => y = .non ∧ Q (.bl (decide (x = .non))) H) := by
  intro w m H σ x y v u d Q S rx ry hg k
  unfold Mi.gIsN at hg
  split at hg
  · cases ry
    cases hg
    refine ⟨rfl, ?_⟩
    rw [isN_rep rx]
    exact k _ H S (Ext.refl ..) (.bl _)
  · cases hg
theorem ok_notN : OpOk X ct Mi.gNotN (fun x y H Q => y = .non ∧ Q (.bl (!decide (x = .non))) H) := by
  intro w m H σ x y v u d Q S rx ry hg k
  unfold Mi.gNotN at hg
  split at hg
  · cases ry
    cases hg
    refine ⟨rfl, ?_⟩
    rw [isN_rep rx]
    exact k _ H S (Ext.refl ..) (.bl _)
  · cases hg
theorem dt_isN {fa fb : Ev} (ha : DE X ct a fa) (hb : DE X ct b fb) : DT X ct (.Compare a [.Is] [b] pos) (Mi.tV (Mi.e2 Mi.gIsN fa fb)) := dt_cmp op_isN ok_isN ha hb (nomark _)
theorem dt_notN {fa fb : Ev} (ha : DE X ct a fa) (hb : DE X ct b fb) : DT X ct (.Compare a [.IsNot] [b] pos) (Mi.tV (Mi.e2 Mi.gNotN fa fb)) := dt_cmp op_notN ok_notN ha hb (nomark _)
theorem de_isN {fa fb : Ev} (ha : DE X ct a fa) (hb : DE X ct b fb) : DE X ct (.Compare a [.Is] [b] pos) (Mi.e2 Mi.gIsN fa fb) := de_cmp op_isN ok_isN ha hb (nomark _)
/-! ### chains, and, or, not, if -/
theorem chain_read {W : WX} {p q : Int → Int → Bool} {fa fb fc : Ev} {σ : L2.St} {H : Hp} {Q : VK} (h : tE X.K ct W (Mi.eChain p q fa fb fc) σ H Q) :
    tChain (rI0 fun i j => .bl (p i j)) (rI0 fun i j => .bl (q i j)) (tE X.K ct W fa) (tE X.K ct W fb) (tE X.K ct W fc) σ H Q := by
  obtain ⟨w, m, S, h⟩ := h
  refine tE.part S h fun x w1 m1 H1 v S1 e1 pv h1 => ?_
  refine tE.part S1 h1 fun y w2 m2 H2 u S2 e2 pu h2 => ?_
  split at h2
  · rename_i i j
    cases pv; cases pu
    refine ⟨i, j, rfl, rfl, p i j, rfl, ?_⟩
    split at h2
    · rename_i hp
      rw [if_pos hp]
      refine tE.part S2 h2 fun z w3 m3 H3 u3 S3 e3 p3 h3 => ?_
      split at h3
      · rename_i k
        cases p3
        exact ⟨j, k, rfl, rfl, RE.ok h3 S3 (Ext.refl ..) _ (.bl _)⟩
      · exact h3.elim
    · rename_i hp
      rw [if_neg hp]
      exact RE.ok h2 S2 (Ext.refl ..) _ (.bl _)
  · exact h2.elim
theorem de_leLe {fa fb fc : Ev} (ha : DE X ct a fa) (hb : DE X ct b fb) (hc : DE X ct c fc) (hm : lastMarks [.LtE, .LtE] [b, c] = false := by with_unfolding_all rfl) :
    DE X ct (.Compare a [.LtE, .LtE] [b, c] pos) (Mi.eChain (fun i j => decide (i ≤ j)) (fun i j => decide (i ≤ j)) fa fb fc) :=
  ⟨fun W tk => PE.imp (pe_chain op_le op_le (ha.run W tk) (hb.run W tk) (hc.run W tk) hm) fun _ _ _ h => chain_read h⟩
theorem dt_leLe {fa fb fc : Ev} (ha : DE X ct a fa) (hb : DE X ct b fb) (hc : DE X ct c fc) (hm : lastMarks [.LtE, .LtE] [b, c] = false := by with_unfolding_all rfl) :
    DT X ct (.Compare a [.LtE, .LtE] [b, c] pos) (Mi.tV (Mi.eChain (fun i j => decide (i ≤ j)) (fun i j => decide (i ≤ j)) fa fb fc)) :=
  ⟨fun W tk => PT.imp (pt_chain op_le op_le (ha.run W tk) (hb.run W tk) (hc.run W tk) hm) fun _ _ _ h => tv_read (fun _ _ _ q => chain_read q) h⟩
theorem de_one {op : BoolOp} {f : Ev} (h : DE X ct a f) : DE X ct (.BoolOp op [a] pos) f := ⟨fun W tk => pe_one (h.run W tk)⟩
theorem de_and {rest : List Expr} {fa fb : Ev} (ha : DE X ct a fa) (hb : DE X ct (.BoolOp .And (b :: rest) pos) fb) : DE X ct (.BoolOp .And (a :: b :: rest) pos) (Mi.eAnd fa fb) :=
  ⟨fun W tk => PE.imp (pe_and (ha.run W tk) (hb.run W tk)) fun σ H Q ⟨w, m, S, h⟩ => by
    refine tE.part S h fun x w1 m1 H1 v S1 e1 pv h1 => ?_
    split at h1
    · cases pv
      exact ⟨true, rfl, by rw [if_pos rfl]; exact ⟨w1, m1, S1, h1⟩⟩
    · cases pv
      exact ⟨false, rfl, by rw [if_neg Bool.false_ne_true]; exact RE.ok h1 S1 (Ext.refl ..) _ (.bl _)⟩
    · exact h1.elim⟩
theorem de_or {rest : List Expr} {fa fb : Ev} (ha : DE X ct a fa) (hb : DE X ct (.BoolOp .Or (b :: rest) pos) fb) : DE X ct (.BoolOp .Or (a :: b :: rest) pos) (Mi.eOr fa fb) :=
  ⟨fun W tk => PE.imp (pe_or (ha.run W tk) (hb.run W tk)) fun σ H Q ⟨w, m, S, h⟩ => by
    refine tE.part S h fun x w1 m1 H1 v S1 e1 pv h1 => ?_
    split at h1
    · cases pv
      exact ⟨true, rfl, by rw [if_pos rfl]; exact RE.ok h1 S1 (Ext.refl ..) _ (.bl _)⟩
    · cases pv
      exact ⟨false, rfl, by rw [if_neg Bool.false_ne_true]; exact ⟨w1, m1, S1, h1⟩⟩
    · exact h1.elim⟩
theorem de_not {fa : Ev} (ha : DE X ct a fa) : DE X ct (.UnaryOp .Not a pos) (Mi.e1 Mi.gNot fa) :=
  ⟨fun W tk => PE.imp (pe_not (ha.run W tk)) fun σ H Q h => e1_read (X := X) (r := fun x H1 Q => ∃ c, x = .bl c ∧ Q (.bl (!c)) H1) (fun w m H σ x v d Q S rx hg k => by
    unfold Mi.gNot at hg
    split at hg
    · cases rx; cases hg
      exact ⟨_, rfl, k _ H S (Ext.refl ..) (.bl _)⟩
    · cases hg) h⟩
theorem dw_and1 {f : Tv} (h : DT X ct a f) : DW X ct (.BoolOp .And [a] pos) f := ⟨fun W tk => pw_and1 (h.run W tk)⟩
theorem dw_or1 {f : Tv} (h : DT X ct a f) : DW X ct (.BoolOp .Or [a] pos) f := ⟨fun W tk => pw_or1 (h.run W tk)⟩
theorem DW.dt {f : Tv} (h : DW X ct e f) : DT X ct e f := ⟨fun W tk => (h.run W tk).pt⟩
theorem dw_and {rest : List Expr} {fa fb : Tv} (ha : DT X ct a fa) (hb : DW X ct (.BoolOp .And (b :: rest) pos) fb) : DW X ct (.BoolOp .And (a :: b :: rest) pos) (Mi.tAnd fa fb) :=
  ⟨fun W tk => PW.imp (pw_and (ha.run W tk) (hb.run W tk)) fun σ H Q ⟨w, m, S, h⟩ => by
    refine tT.part S h fun x w1 m1 H1 S1 e1 h1 => ?_
    cases x with
    | true => rw [if_pos rfl] at h1 ⊢; exact ⟨w1, m1, S1, h1⟩
    | false => rw [if_neg Bool.false_ne_true] at h1 ⊢; exact RE.ok h1 S1 (Ext.refl ..)⟩
theorem dw_or {rest : List Expr} {fa fb : Tv} (ha : DT X ct a fa) (hb : DW X ct (.BoolOp .Or (b :: rest) pos) fb) : DW X ct (.BoolOp .Or (a :: b :: rest) pos) (Mi.tOr fa fb) :=
  ⟨fun W tk => PW.imp (pw_or (ha.run W tk) (hb.run W tk)) fun σ H Q ⟨w, m, S, h⟩ => by
    refine tT.part S h fun x w1 m1 H1 S1 e1 h1 => ?_
    cases x with
    | false => rw [if_neg Bool.false_ne_true] at h1 ⊢; exact ⟨w1, m1, S1, h1⟩
    | true => rw [if_pos rfl] at h1 ⊢; exact RE.ok h1 S1 (Ext.refl ..)⟩
theorem dt_not {fa : Tv} (ha : DT X ct a fa) : DT X ct (.UnaryOp .Not a pos) (Mi.tNot fa) :=
  ⟨fun W tk => PT.imp (pt_not (ha.run W tk)) fun σ H Q ⟨w, m, S, h⟩ => tT.part S h fun x w1 m1 H1 S1 e1 h1 => RE.ok h1 S1 (Ext.refl ..)⟩
theorem de_if {fc : Tv} {fa fb : Ev} (hc : DT X ct c fc) (ha : DE X ct a fa) (hb : DE X ct b fb) : DE X ct (.IfExp c a b pos) (Mi.eIf fc fa fb) :=
  ⟨fun W tk => PE.imp (pe_ifExp (hc.run W tk) (ha.run W tk) (hb.run W tk)) fun σ H Q ⟨w, m, S, h⟩ => by
    refine tT.part S h fun x w1 m1 H1 S1 e1 h1 => ?_
    cases x with
    | true => rw [if_pos rfl] at h1 ⊢; exact ⟨w1, m1, S1, h1⟩
    | false => rw [if_neg Bool.false_ne_true] at h1 ⊢; exact ⟨w1, m1, S1, h1⟩⟩
/-- truth -/
theorem dt_tru {fa : Ev} (ha : DE X ct a fa) (he : ∀ whole, isTrue a X.env whole = (do let v ← whole; standAt a.pos; holding [v] (truthy v)) := by intro _; rfl) : DT X ct a (Mi.tTru fa) :=
  ⟨fun W tk => PT.imp (pt_truth (ha.run W tk) he) fun σ H Q ⟨w, m, S, h⟩ => by
    refine tE.part S h fun x w1 m1 H1 v S1 e1 pv h1 => ?_
    split at h1
    · cases pv; exact ⟨_, rfl, RE.ok h1 S1 (Ext.refl ..)⟩
    · cases pv; exact ⟨_, rfl, RE.ok h1 S1 (Ext.refl ..)⟩
    · cases pv; exact ⟨_, rfl, RE.ok h1 S1 (Ext.refl ..)⟩
    · split at h1
      · rename_i xs q
        obtain ⟨p, vs, rfl, h2, h3⟩ := S1.items pv q
        have he : vs.isEmpty = xs.isEmpty := by
          cases h3 <;> rfl
        refine ⟨_, ?_, RE.ok h1 S1 (Ext.refl ..)⟩
        rcases h2 with h2 | h2
        · exact .inl ⟨vs, h2, by rw [he]⟩
        · exact .inr (.inl ⟨vs, h2, by rw [he]⟩)
      · exact h1.elim⟩

/-! ### arguments, displays -/
theorem da_nil : DA X ct [] Mi.aNil := ⟨fun W tk => PA.imp pa_nil fun σ H Q ⟨w, m, S, h⟩ => RE.ok h S (Ext.refl ..) [] .nil⟩
theorem da_cons {es : List Expr} {fa : Ev} {fr : Av} (ha : DE X ct e fa) (hr : DA X ct es fr) (hs : starEach (e :: es) X.env = (false, eval e X.env) :: starEach es X.env := by rfl) : DA X ct (e :: es) (Mi.aCons fa fr) :=
  ⟨fun W tk => PA.imp (pa_cons (ha.run W tk) (hr.run W tk) hs) fun σ H Q ⟨w, m, S, h⟩ => by
    refine tE.part S h fun x w1 m1 H1 v S1 e1 pv h1 => ?_
    refine tA.part S1 h1 fun xs w2 m2 H2 vs S2 e2 ps h2 => ?_
    exact RE.ok h2 S2 (Ext.refl ..) _ (.cons (pv.ext e2) ps)⟩
/-- a new object that nothing owns -/
theorem SR.fresh {K : PySem.W.Frag} {w : Wd} {m : Me} {H : Hp} {σ : L2.St} (S : SR K ct w m H σ) {p : Addr} {o : HO} (hp : H p = none) : SR K ct w m (upd H p o) σ := ⟨S.M.fresh hp, S.E.ext (Ext.fresh hp) rfl fun _ => rfl⟩
theorem de_tup {es : List Expr} {x1} {fa : Av} (ha : DA X ct es fa) : DE X ct (.Tuple es x1 pos) (Mi.eTup fa) :=
  ⟨fun W tk => PE.imp (pe_tup (ha.run W tk)) fun σ H Q ⟨w, m, S, h⟩ => by
    refine tA.part S h fun ps w1 m1 H1 vs S1 e1 pv h1 => ?_
    split at h1
    · rename_i xs q
      split at h1
      · rename_i hl
        have r := ds_rep pv q
        refine ⟨by rw [← r.length, ← big_eq]; exact hl, fun p hp => ?_⟩
        exact RE.ok h1 (S1.fresh hp) (Ext.fresh hp) _ (.tup (S1.M.notBad hp) (nd_same rfl) (r.ext (Ext.fresh hp)))
      · exact h1.elim
    · exact h1.elim⟩
theorem dl_disp {es : List Expr} {fa : Av} (ha : DA X ct es fa) : DL X ct (.List es pos) (Mi.lDisp fa) :=
  ⟨fun W tk => PE.imp (pe_lst (ha.run W tk)) fun σ H Q ⟨w, m, S, h⟩ => by
    refine tA.part S h fun ps w1 m1 H1 vs S1 e1 pv h1 => ?_
    split at h1
    · rename_i xs q
      split at h1
      · rename_i hl
        have r := ds_rep pv q
        refine ⟨by rw [← r.length, ← big_eq]; exact hl, fun p hp => ?_⟩
        exact RE.ok h1 S1 (Ext.refl ..) vs p r hp
      · exact h1.elim
    · exact h1.elim⟩
/-- a new list as a value -/
theorem de_l {f : Lv} (h : DL X ct e f) : DE X ct e (Mi.eL f) :=
  ⟨fun W tk => PE.imp (h.run W tk) fun σ H Q ⟨w, m, S, h⟩ => ⟨w, m, S, h.bind.imp (fun xs w1 m1 H1 S1 e1 h1 vs p r hp =>
    RE.ok h1 (S1.fresh hp) (Ext.fresh hp) _ (.lst (S1.M.notBad hp) (nd_same rfl) (r.ext (Ext.fresh hp)))) fun _ _ _ _ _ _ z => z⟩⟩
/-- xs + ys -/
theorem dl_cat {fa fb : Ev} (ha : DE X ct a fa) (hb : DE X ct b fb) : DL X ct (.BinOp a .Add b pos) (Mi.lCat fa fb) :=
  ⟨fun W tk => PE.imp (pe_op op_cat (ha.run W tk) (hb.run W tk)) fun σ H Q ⟨w, m, S, h⟩ => by
    refine tE.part S h fun x w1 m1 H1 v S1 e1 pv h1 => ?_
    refine tE.part S1 h1 fun y w2 m2 H2 u S2 e2 pu h2 => ?_
    split at h2
    · rename_i xs ys q1 q2
      split at h2
      · rename_i hl
        obtain ⟨l1, vs, rfl, g1, r1⟩ := S2.lst (pv.ext e2) q1
        obtain ⟨l2, us, rfl, g2, r2⟩ := S2.lst pu q2
        exact ⟨l1, l2, vs, us, rfl, rfl, g1, g2, by rw [← r1.length, ← r2.length, ← big_eq]; exact hl, fun p hp => RE.ok h2 S2 (Ext.refl ..) _ p (r1.append r2) hp⟩
      · exact h2.elim
    · exact h2.elim⟩
theorem rep_rep {K : PySem.W.Frag} {w : Wd} {m : Me} {H : Hp} {xs : List D} {vs : List V} (r : RepL K ct w m H xs vs) : ∀ n, RepL K ct w m H (List.replicate n xs).flatten (List.replicate n vs).flatten
  | 0 => .nil
  | n + 1 => by
    rw [List.replicate_succ, List.replicate_succ, List.flatten_cons, List.flatten_cons]
    exact r.append (rep_rep r n)
theorem dl_rep {fa fb : Ev} (ha : DE X ct a fa) (hb : DE X ct b fb) : DL X ct (.BinOp a .Mult b pos) (Mi.lRep fa fb) :=
  ⟨fun W tk => PE.imp (pe_op op_rep (ha.run W tk) (hb.run W tk)) fun σ H Q ⟨w, m, S, h⟩ => by
    refine tE.part S h fun x w1 m1 H1 v S1 e1 pv h1 => ?_
    refine tE.part S1 h1 fun y w2 m2 H2 u S2 e2 pu h2 => ?_
    split at h2
    · rename_i xs k q1
      split at h2
      · rename_i hl
        obtain ⟨l1, vs, rfl, g1, r1⟩ := S2.lst (pv.ext e2) q1
        cases pu
        exact ⟨l1, k, vs, rfl, rfl, g1, by have := hl.1; rwa [Mi.lim63_is] at this, by have := hl.2.1; rwa [Mi.lim63_is] at this, by rw [← r1.length, ← big_eq]; exact hl.2.2, fun p hp => RE.ok h2 S2 (Ext.refl ..) _ p (rep_rep r1 _) hp⟩
      · exact h2.elim
    · exact h2.elim⟩
theorem do_none : DO X ct none Mi.oNone := ⟨fun W tk => PO.imp po_none fun σ H Q ⟨w, m, S, h⟩ => RE.ok h S (Ext.refl ..)⟩
theorem do_some {fa : Ev} (ha : DE X ct a fa) : DO X ct (some a) (Mi.oSome fa) :=
  ⟨fun W tk => PO.imp (po_some (ha.run W tk)) fun σ H Q ⟨w, m, S, h⟩ => by
    refine tE.part S h fun x w1 m1 H1 v S1 e1 pv h1 => ?_
    split at h1
    · cases pv; exact ⟨_, rfl, RE.ok h1 S1 (Ext.refl ..)⟩
    · exact h1.elim⟩
theorem dl_cut {lo hi : Option Expr} {p2 : Pos} {fa : Ev} {fl fh : Ov} (ha : DE X ct a fa) (hl : DO X ct lo fl) (hh : DO X ct hi fh) : DL X ct (.Subscript a (.Slice lo hi none p2) pos) (Mi.lCut fa fl fh) :=
  ⟨fun W tk => PE.imp (pe_slice sl_list (ha.run W tk) (hl.run W tk) (hh.run W tk)) fun σ H Q ⟨w, m, S, h⟩ => by
    refine tE.part S h fun x w1 m1 H1 v S1 e1 pv h1 => ?_
    refine tO.part S1 h1 fun l w2 m2 H2 S2 e2 h2 => ?_
    refine tO.part S2 h2 fun u w3 m3 H3 S3 e3 h3 => ?_
    have pv3 := (pv.ext e2).ext e3
    split at h3
    · rename_i xs _
      cases pv3 with
      | scr g r => exact ⟨_, _, rfl, sqL_of g, fun p hp => RE.ok h3 S3 (Ext.refl ..) _ p (cut_rep r l u) hp⟩
    · rename_i xs _ q
      obtain ⟨l1, vs, rfl, g1, r1⟩ := S3.lst pv3 q
      exact ⟨l1, vs, rfl, SqL.of g1, fun p hp => RE.ok h3 S3 (Ext.refl ..) _ p (cut_rep r1 l u) hp⟩
    · exact h3.elim⟩
theorem de_cutT {lo hi : Option Expr} {p2 : Pos} {fa : Ev} {fl fh : Ov} (ha : DE X ct a fa) (hl : DO X ct lo fl) (hh : DO X ct hi fh) : DE X ct (.Subscript a (.Slice lo hi none p2) pos) (Mi.eCutT fa fl fh) :=
  ⟨fun W tk => PE.imp (pe_slice sl_str (ha.run W tk) (hl.run W tk) (hh.run W tk)) fun σ H Q ⟨w, m, S, h⟩ => by
    refine tE.part S h fun x w1 m1 H1 v S1 e1 pv h1 => ?_
    refine tO.part S1 h1 fun l w2 m2 H2 S2 e2 h2 => ?_
    refine tO.part S2 h2 fun u w3 m3 H3 S3 e3 h3 => ?_
    split at h3
    · rename_i z
      split at h3
      · rename_i hz
        cases pv
        refine ⟨_, rfl, by rw [tx_length, ← big_eq]; exact hz, ?_⟩
        have e : cutS (tx z) l u = tx (Mi.cut z l u) := by
          unfold cutS Mi.cut
          rw [tx_length, sIx_same, sIx_same]
          show (⟨((z.toArray.toList.drop _).take _).toArray⟩ : Str) = _
          rw [List.toList_toArray]
          rfl
        rw [e]
        exact RE.ok h3 S3 (Ext.refl ..) _ (.str _)
      · exact h3.elim
    · exact h3.elim⟩
/-! ### subscripts -/
theorem ok_ix : OpOk X ct Mi.gIx (fun x y H Q => rIxL X.K x y H Q ∨ rIxT X.K x y H Q) := by
  intro w m H σ x y v u d Q S rx ry hg k
  unfold Mi.gIx at hg
  split at hg
  · rename_i xs i q
    cases ry
    obtain ⟨p, vs, rfl, h1, h2⟩ := S.items rx q
    obtain ⟨v, h3, h4⟩ := atI_rep h2 hg
    rcases h1 with h1 | h1
    · exact .inl ⟨p, vs, i, v, rfl, rfl, h1, h3, k _ H S (Ext.refl ..) h4⟩
    · exact .inr ⟨p, vs, i, v, rfl, rfl, h1, h3, k _ H S (Ext.refl ..) h4⟩
  · cases hg
theorem de_ix {fa fb : Ev} (ha : DE X ct a fa) (hb : DE X ct b fb) (hs : PlainIx b := by exact fun _ _ => rfl) : DE X ct (.Subscript a b pos) (Mi.e2 Mi.gIx fa fb) :=
  ⟨fun W tk => PE.imp (pe_ix (IxR.or ix_list ix_tup) (ha.run W tk) (hb.run W tk) hs) fun _ _ _ h => e2_read ok_ix h⟩
theorem ok_ixT : OpOk X ct Mi.gIxT rIxS := by
  intro w m H σ x y v u d Q S rx ry hg k
  unfold Mi.gIxT at hg
  split at hg
  · rename_i z i
    split at hg
    · rename_i hz
      cases rx; cases ry
      cases q : Mi.atI z i with
      | none => rw [q] at hg; cases hg
      | some c =>
        rw [q] at hg
        cases hg
        refine ⟨tx z, i, c, rfl, rfl, by rw [tx_length, ← big_eq]; exact hz, ?_, k _ H S (Ext.refl ..) (.str _)⟩
        show L2.atI z.toArray.toList i = some c
        rw [List.toList_toArray]
        exact q
    · cases hg
  · cases hg
theorem de_ixT {fa fb : Ev} (ha : DE X ct a fa) (hb : DE X ct b fb) (hs : PlainIx b := by exact fun _ _ => rfl) : DE X ct (.Subscript a b pos) (Mi.e2 Mi.gIxT fa fb) :=
  ⟨fun W tk => PE.imp (pe_ix ix_str (ha.run W tk) (hb.run W tk) hs) fun _ _ _ h => e2_read ok_ixT h⟩
theorem de_key (hu : X.A.units + 1 < cLine) {fa fb : Ev} (ha : DE X ct a fa) (hb : DE X ct b fb) (hs : NoSl b := by exact fun _ _ => rfl) : DE X ct (.Subscript a b pos) (Mi.e2 Mi.gKey fa fb) :=
  ⟨fun W tk => PE.imp (pe_dget hu (ha.run W tk) (hb.run W tk) hs) fun _ _ _ h => e2_read (X := X) (r := fun x y H2 Q => ∃ a v, x = .ref a ∧ DGet H2 a y (some v) ∧ Q v H2) (fun w m H σ x y v u d Q S rx ry hg k => by
    unfold Mi.gKey at hg
    split at hg
    · rename_i kvs j q1 q2
      obtain ⟨p, vs, rfl, h1, h2⟩ := S.kvs rx q1
      obtain ⟨v, h3, h4⟩ := h2.lookS hg
      exact ⟨p, v, rfl, .inl ⟨vs, _, h1, ky_rep ry q2, h3.symm⟩, k _ H S (Ext.refl ..) h4⟩
    · cases hg) h⟩
/-! ### built-ins by name -/
def CallOk (X : Cx) (ct : String → Option Addr) (g : List PV → Me → Option D) (r : List V → Hp → VK → Prop) : Prop :=
  ∀ (w : Wd) (m : Me) (H : Hp) (σ : L2.St) (xs : List PV) (vs : List V) (d : D) (Q : VK), SR X.K ct w m H σ → PVRs X.K ct w m H σ xs vs → g xs m = some d →
    (∀ v' H', SR X.K ct w m H' σ → Ext w m H w m H' → RepD X.K ct w m H' d v' → Q v' H') → r vs H Q
theorem eA_read {W : WX} {g : List PV → Me → Option D} {r : List V → Hp → VK → Prop} (hg : CallOk X ct g r) {fa : Av} {σ : L2.St} {H : Hp} {Q : VK} (h : tE X.K ct W (Mi.eA g fa) σ H Q) : tCB r (tA X.K ct W fa) σ H Q := by
  obtain ⟨w, m, S, h⟩ := h
  refine tA.part S h fun x w1 m1 H1 v S1 e1 pv h1 => ?_
  obtain ⟨d, hd, h3⟩ := h1.opt
  exact hg w1 m1 H1 σ x v d Q S1 pv hd fun v' H' S' e' r' => RE.ok h3 S' e' v' r'
section
variable {x : Str} {p : Pos} {es : List Expr} {id T : String} {r : List V → Hp → VK → Prop} {g : List PV → Me → Option D} {fa : Av}
theorem de_callB (hc : CallR X (.builtin id) r) (hok : CallOk X ct g r) (hg : Gl X x) (hm : X.mg x = none) (hv : bootBuiltins x = some (.builtin id)) (ha : DA X ct (e :: es) fa) (hn : x ≠ "__name__" := by decide) (hdb : (x == ("__debug__" : Str)) = false := by decide)
    (he : starEach (e :: es) X.env = (false, eval e X.env) :: starEach es X.env := by rfl) (hpl : (backTo pos (starEach es X.env)).any (·.1) = false := by rfl) : DE X ct (.Call (.Name x p) (e :: es) [] pos) (Mi.eA g fa) :=
  ⟨fun W tk => PE.imp (pe_callB hc hg hm hv (ha.run W tk) hn hdb he hpl) fun _ _ _ h => eA_read hok h⟩
theorem de_callTy (hc : CallR X (.type T) r) (hok : CallOk X ct g r) (hg : Gl X x) (hm : X.mg x = none) (hv : bootBuiltins x = some (.type T)) (ha : DA X ct (e :: es) fa) (hn : x ≠ "__name__" := by decide) (hdb : (x == ("__debug__" : Str)) = false := by decide)
    (he : starEach (e :: es) X.env = (false, eval e X.env) :: starEach es X.env := by rfl) (hpl : (backTo pos (starEach es X.env)).any (·.1) = false := by rfl) : DE X ct (.Call (.Name x p) (e :: es) [] pos) (Mi.eA g fa) :=
  ⟨fun W tk => PE.imp (pe_callTy hc hg hm hv (ha.run W tk) hn hdb he hpl) fun _ _ _ h => eA_read hok h⟩
end
theorem CallR.or2 {f : Value} {r r' : List V → Hp → VK → Prop} (h : CallR X f r) (h' : CallR X f r') : CallR X f (fun xs H Q => r xs H Q ∨ r' xs H Q) := fun pins s σ H xs us Q I rv q => q.elim (h pins s σ H xs us Q I rv) (h' pins s σ H xs us Q I rv)
theorem ok_len : CallOk X ct Mi.aLen (fun xs H Q => (∃ p ys, xs = [.ref p] ∧ (SqL X.K H p ys ∨ SqT X.K H p ys) ∧ Q (.int ys.length) H) ∨ ∃ z, xs = [.str z] ∧ z.length ≤ sizeLine ∧ Q (.int z.length) H) := by
  intro w m H σ xs vs d Q S r hg k
  unfold Mi.aLen at hg
  split at hg
  · rename_i x
    cases r with
    | cons r t =>
      cases t
      unfold Mi.gLen at hg
      split at hg
      · rename_i z
        split at hg
        · rename_i hz
          cases hg; cases r
          refine .inr ⟨tx z, rfl, by rw [tx_length, ← big_eq]; exact hz, ?_⟩
          rw [tx_length]
          exact k _ H S (Ext.refl ..) (.int _)
        · cases hg
      · split at hg
        · rename_i ys q
          cases hg
          obtain ⟨p, us, rfl, h1, h2⟩ := S.items r q
          refine .inl ⟨p, us, rfl, h1, ?_⟩
          rw [← h2.length]
          exact k _ H S (Ext.refl ..) (.int _)
        · cases hg
  · cases hg
theorem ok_cint : CallOk X ct Mi.aInt (fun xs H Q => (∃ i, xs = [.int i] ∧ Q (.int i) H) ∨ ∃ k, xs = [.bl k] ∧ Q (.int (if k then 1 else 0)) H) := by
  intro w m H σ xs vs d Q S r hg k
  unfold Mi.aInt at hg
  split at hg
  · rename_i x
    cases r with
    | cons r t =>
      cases t
      unfold Mi.gInt at hg
      split at hg
      · cases hg; cases r; exact .inl ⟨_, rfl, k _ H S (Ext.refl ..) (.int _)⟩
      · cases hg; cases r; exact .inr ⟨_, rfl, k _ H S (Ext.refl ..) (.int _)⟩
      · cases hg
  · cases hg
theorem ok_min2 : CallOk X ct Mi.aMin (fun xs H Q => ∃ i j, xs = [.int i, .int j] ∧ Q (.int (if j < i then j else i)) H) := by
  intro w m H σ xs vs d Q S r hg k
  unfold Mi.aMin at hg
  split at hg
  · cases r with
    | cons r t => cases t with
      | cons r2 t =>
        cases t
        unfold Mi.gMin2 at hg
        split at hg
        · cases hg; cases r; cases r2; exact ⟨_, _, rfl, k _ H S (Ext.refl ..) (.int _)⟩
        · cases hg
  · cases hg
theorem ok_max2 : CallOk X ct Mi.aMax (fun xs H Q => ∃ i j, xs = [.int i, .int j] ∧ Q (.int (if j > i then j else i)) H) := by
  intro w m H σ xs vs d Q S r hg k
  unfold Mi.aMax at hg
  split at hg
  · cases r with
    | cons r t => cases t with
      | cons r2 t =>
        cases t
        unfold Mi.gMax2 at hg
        split at hg
        · cases hg; cases r; cases r2; exact ⟨_, _, rfl, k _ H S (Ext.refl ..) (.int _)⟩
        · cases hg
  · cases hg
theorem opt_map {α β : Type} {o : Option α} {f : α → β} {b : β} (h : o.map f = some b) : ∃ a, o = some a ∧ b = f a := by
  cases o with
  | none => cases h
  | some a => exact ⟨a, rfl, (Option.some.inj h).symm⟩
theorem opt_bind {α β : Type} {o : Option α} {f : α → Option β} {b : β} (h : o.bind f = some b) : ∃ a, o = some a ∧ f a = some b := by
  cases o with
  | none => cases h
  | some a => exact ⟨a, rfl, h⟩
end
end So

set_option Elab.async false
set_option linter.all false
set_option maxRecDepth 100000
set_option maxHeartbeats 4000000
namespace So
open PySem PySem.Spec PyProof.Rows L2
open Mi (D Cl FV SC Me Xc Res PV Ky Ev Tv Av Lv Iv Ov Sv Bd Out Env Tx)

/-! ### states that change -/
section
variable {K : PySem.W.Frag} {ct : String → Option Addr} {w w' : Wd} {m m' : Me} {H H' : Hp} {σ : L2.St}
theorem Ext.sub (hS : m'.S = m.S) (hc : ∀ p c, cellAt m' p = some c → cellAt m p = some c) : Ext w m H w m' H :=
  ⟨fun _ h => h, fun _ _ _ _ h => h, fun i c h => ⟨⟨c, by rw [hS]; exact h⟩, rfl⟩, fun a o h n => ⟨h, fun ⟨p, c, h1, h2⟩ => n ⟨p, c, hc p c h1, h2⟩⟩⟩
theorem MRel.sub (M : MRel K ct w m H) (hS : m'.S = m.S) (hc : ∀ p c, cellAt m' p = some c → cellAt m p = some c) : MRel K ct w m' H :=
  ⟨fun p q c c' h1 h2 => M.inj p q c c' (hc _ _ h1) (hc _ _ h2), fun p c h => (M.cells p c (hc _ _ h)).ext (Ext.sub hS hc) (fun _ _ _ => rfl) rfl, M.out, fun p c h => M.nout p c (hc _ _ h)⟩
theorem slot_set {σm : Mi.Env} {S : List SC} {i j : Nat} {x : Option FV} {c : Cl} (h : (Me.mk (σm.set i x) S).slot j = some c) : (j ≠ i ∧ (Me.mk σm S).slot j = some c) ∨ (j = i ∧ x = some (.o c)) := by
  unfold Mi.Me.slot at h ⊢
  by_cases e : i = j
  · subst e
    by_cases hl : i < σm.length
    · simp only [List.getElem?_set_self hl] at h
      refine .inr ⟨rfl, ?_⟩
      split at h
      · rename_i q; cases h; exact Option.some.inj q
      · cases h
    · rw [List.getElem?_eq_none (by simpa using hl)] at h
      cases h
  · simp only [List.getElem?_set_ne e] at h
    exact .inl ⟨fun z => e z.symm, h⟩
theorem cell_set {σm : Mi.Env} {S : List SC} {i : Nat} {x : Option FV} {p : Pl} {c : SC} (h : cellAt ⟨σm.set i x, S⟩ p = some c) : (p ≠ .s i ∧ cellAt ⟨σm, S⟩ p = some c) ∨ (p = .s i ∧ ∃ z, x = some (.o z) ∧ c = .c z) := by
  cases p with
  | g n => exact .inl ⟨by simp, h⟩
  | f n f => exact .inl ⟨by simp, h⟩
  | s j =>
    obtain ⟨z, h1, h2⟩ := opt_map (show ((Me.mk (σm.set i x) S).slot j).map SC.c = some c from h)
    rcases slot_set h1 with ⟨h3, h4⟩ | ⟨h3, h4⟩
    · exact .inl ⟨fun e => h3 (by cases e; rfl), by show ((Me.mk σm S).slot j).map SC.c = some c; rw [h4, h2]; rfl⟩
    · subst h3; exact .inr ⟨rfl, z, h4, h2⟩
theorem ERel.set {σm : Mi.Env} {S S' : List SC} (E : ERel K ct w ⟨σm, S⟩ H σ) (e : Ext w ⟨σm, S⟩ H w' m' H') {i : Nat} {x : Option FV} {v : Option V} (hm : m'.σ = σm.set i x) (ha : ∀ j, j ≠ i → w'.α (.s j) = w.α (.s j)) (h : SlotR K ct w' m' H' i x v) : ERel K ct w' m' H' (σ.set i v) := by
  refine ⟨by rw [hm, List.length_set, List.length_set]; exact E.len, fun j y z h1 h2 => ?_⟩
  rw [hm] at h1
  by_cases q : i = j
  · subst q
    by_cases hl : i < σm.length
    · rw [List.getElem?_set_self hl] at h1
      rw [List.getElem?_set_self (by rw [← E.len]; exact hl)] at h2
      cases h1; cases h2
      exact h
    · rw [List.getElem?_eq_none (by simpa using hl)] at h1; cases h1
  · rw [List.getElem?_set_ne q] at h1 h2
    have r := E.at_ j y z h1 h2
    cases y with
    | none => trivial
    | some f =>
      cases f with
      | v d => obtain ⟨u, e1, r'⟩ := r; exact ⟨u, e1, r'.ext e⟩
      | o c => show z = _; rw [ha j fun z => q z.symm]; exact r
      | lent => trivial
/-- a slot gets a value -/
theorem SR.setV {σm : Mi.Env} {S : List SC} (R : SR K ct w ⟨σm, S⟩ H σ) {i : Nat} {d : D} {v : V} (r : RepD K ct w ⟨σm, S⟩ H d v) : SR K ct w ⟨σm.set i (some (.v d)), S⟩ H (σ.set i (some v)) ∧ Ext w ⟨σm, S⟩ H w ⟨σm.set i (some (.v d)), S⟩ H := by
  have hc : ∀ p c, cellAt ⟨σm.set i (some (.v d)), S⟩ p = some c → cellAt ⟨σm, S⟩ p = some c := fun p c h => by
    rcases cell_set h with ⟨_, h⟩ | ⟨_, z, h, _⟩
    · exact h
    · cases h
  have e : Ext w ⟨σm, S⟩ H w ⟨σm.set i (some (.v d)), S⟩ H := Ext.sub rfl hc
  exact ⟨⟨R.M.sub rfl hc, R.E.set (S' := S) e rfl (fun _ _ => rfl) ⟨v, rfl, r.ext e⟩⟩, e⟩
def Wd.at (w : Wd) (p : Pl) (a : Addr) : Wd := ⟨fun q => match decEq_pl q p with | true => a | false => w.α q, w.O⟩
where decEq_pl : Pl → Pl → Bool
  | .g i, .g j => i == j
  | .f i s, .f j t => i == j && s == t
  | .s i, .s j => i == j
  | _, _ => false
theorem pl_eq {p q : Pl} : Wd.at.decEq_pl p q = true ↔ p = q := by
  cases p <;> cases q <;> simp [Wd.at.decEq_pl]
theorem Wd.at_same {w : Wd} {p : Pl} {a : Addr} : (w.at p a).α p = a := by
  unfold Wd.at
  show (match Wd.at.decEq_pl p p with | true => a | false => w.α p) = a
  rw [pl_eq.mpr rfl]
theorem Wd.at_ne {w : Wd} {p q : Pl} {a : Addr} (h : q ≠ p) : (w.at p a).α q = w.α q := by
  unfold Wd.at
  show (match Wd.at.decEq_pl q p with | true => a | false => w.α q) = w.α q
  cases e : Wd.at.decEq_pl q p with
  | true => exact absurd (pl_eq.mp e) h
  | false => rfl
/-- a slot gets a new cell -/
theorem SR.setO {σm : Mi.Env} {S : List SC} (R : SR K ct w ⟨σm, S⟩ H σ) {i : Nat} {c : Cl} {p : Addr} {o : HO} (hp : H p = none) (hc : ∀ w' m' H', Ext w ⟨σm, S⟩ H w' m' H' → H' p = some o → CellR K ct w' m' H' (.s i) p (.c c)) :
    SR K ct (w.at (.s i) p) ⟨σm.set i (some (.o c)), S⟩ (upd H p o) (σ.set i (some (.ref p))) ∧ Ext w ⟨σm, S⟩ H (w.at (.s i) p) ⟨σm.set i (some (.o c)), S⟩ (upd H p o) := by
  have e : Ext w ⟨σm, S⟩ H (w.at (.s i) p) ⟨σm.set i (some (.o c)), S⟩ (upd H p o) := by
    refine ⟨fun _ h => h, fun _ _ _ _ h => h, fun n x h => ⟨⟨x, h⟩, Wd.at_ne (by simp)⟩, fun a u h n => ⟨by rw [upd_ne (ne_of_none h hp)]; exact h, ?_⟩⟩
    rintro ⟨q, x, h1, h2⟩
    rcases cell_set h1 with ⟨h3, h4⟩ | ⟨h3, _⟩
    · rw [Wd.at_ne h3] at h2
      exact n ⟨q, x, h4, h2⟩
    · subst h3
      rw [Wd.at_same] at h2
      exact ne_of_none h hp h2.symm
  have hne : ∀ q x, cellAt ⟨σm, S⟩ q = some x → w.α q ≠ p := fun q x h => by
    obtain ⟨u, hu⟩ := R.M.there h
    exact ne_of_none hu hp
  refine ⟨⟨⟨fun q1 q2 c1 c2 h1 h2 h3 => ?_, fun q x h => ?_, fun a h => ?_, fun q x h => ?_⟩, R.E.set (S' := S) e rfl (fun j hj => Wd.at_ne (by simpa using hj)) (by show _ = _; rw [Wd.at_same])⟩, e⟩
  · rcases cell_set h1 with ⟨n1, k1⟩ | ⟨n1, _⟩ <;> rcases cell_set h2 with ⟨n2, k2⟩ | ⟨n2, _⟩
    · rw [Wd.at_ne n1, Wd.at_ne n2] at h3
      exact R.M.inj _ _ _ _ k1 k2 h3
    · subst n2
      rw [Wd.at_ne n1, Wd.at_same] at h3
      exact absurd h3 (hne _ _ k1)
    · subst n1
      rw [Wd.at_ne n2, Wd.at_same] at h3
      exact absurd h3.symm (hne _ _ k2)
    · rw [n1, n2]
  · rcases cell_set h with ⟨n1, k1⟩ | ⟨n1, z, h1, h2⟩
    · rw [Wd.at_ne n1]
      exact (R.M.cells q x k1).ext e (fun _ _ _ => Wd.at_ne (by simp)) (upd_ne (hne _ _ k1))
    · subst n1; subst h2
      cases h1
      rw [Wd.at_same]
      exact hc _ _ _ e upd_same
  · obtain ⟨u, hu⟩ := R.M.out a h
    exact ⟨u, by rw [upd_ne (ne_of_none hu hp)]; exact hu⟩
  · rcases cell_set h with ⟨n1, k1⟩ | ⟨n1, z, h1, h2⟩
    · rw [Wd.at_ne n1]; exact R.M.nout q x k1
    · subst n1
      rw [Wd.at_same]
      intro ho
      obtain ⟨u, hu⟩ := R.M.out p ho
      exact ne_of_none hu hp rfl
theorem glob_set {σm : Mi.Env} {S : List SC} {n : Nat} {x : SC} {p : Pl} {c : SC} (hx : ∃ z, S[n]? = some (.c z)) (hz : ∃ z, x = .c z) (h : cellAt ⟨σm, S.set n x⟩ p = some c) : (p ≠ .g n ∧ cellAt ⟨σm, S⟩ p = some c) ∨ (p = .g n ∧ c = x) := by
  obtain ⟨z, hz⟩ := hz
  obtain ⟨y, hx⟩ := hx
  have hl : n < S.length := (List.getElem?_eq_some_iff.mp hx).1
  cases p with
  | g k =>
    have h : (S.set n x)[k]? = some c := h
    by_cases e : n = k
    · subst e
      rw [List.getElem?_set_self hl] at h
      exact .inr ⟨rfl, (Option.some.inj h).symm⟩
    · rw [List.getElem?_set_ne e] at h
      exact .inl ⟨by simpa using fun z => e z.symm, h⟩
  | s j => exact .inl ⟨by simp, h⟩
  | f k f =>
    refine .inl ⟨by simp, ?_⟩
    obtain ⟨u, h1, h2⟩ := opt_map (show ((Me.mk σm (S.set n x)).field k f).map SC.c = some c from h)
    show ((Me.mk σm S).field k f).map SC.c = some c
    have : (Me.mk σm S).field k f = some u := by
      unfold Mi.Me.field at h1 ⊢
      by_cases e : n = k
      · subst e
        have h1 : (match (S.set n x)[n]? with | some (.ins _ fs) => (match fs.lookup f with | some (.o c) => some c | _ => none) | _ => none) = some u := h1
        rw [List.getElem?_set_self hl, hz] at h1
        cases h1
      · have h1 : (match (S.set n x)[k]? with | some (.ins _ fs) => (match fs.lookup f with | some (.o c) => some c | _ => none) | _ => none) = some u := h1
        rw [List.getElem?_set_ne e] at h1
        exact h1
    rw [this, h2]; rfl
/-- an owned cell is changed -/
theorem SR.put (R : SR K ct w m H σ) {x : PV} {v : V} {c : Cl} (pv : PVR K ct w m H σ x v) (h : m.own x = some c) : ∃ a p, v = .ref a ∧ CellR K ct w m H p a (.c c) ∧
    ∀ (c' : Cl) (o : HO), (∀ w' m' H' q, Ext w m H w' m' H' → H' a = some o → CellR K ct w' m' H' q a (.c c')) → SR K ct w (m.put x c') (upd H a o) σ ∧ Ext w m H w (m.put x c') (upd H a o) := by
  obtain ⟨p, e, h1, h2, h3⟩ := R.own pv h
  refine ⟨_, p, e, h2, fun c' o hc => ?_⟩
  have key : ∀ q y, cellAt (m.put x c') q = some y → (q ≠ p ∧ cellAt m q = some y) ∨ (q = p ∧ y = .c c') := by
    intro q y hq
    rcases h3 with ⟨i, hx, rfl⟩ | ⟨n, hx, rfl⟩
    · subst hx
      rcases cell_set (σm := m.σ) (S := m.S) hq with ⟨a1, a2⟩ | ⟨a1, z, a2, a3⟩
      · exact .inl ⟨a1, a2⟩
      · cases a2; exact .inr ⟨a1, a3⟩
    · subst hx
      exact glob_set (σm := m.σ) (S := m.S) ⟨c, h1⟩ ⟨c', rfl⟩ hq
  have at' : ∃ y, cellAt (m.put x c') p = some y ∧ y = .c c' := by
    rcases h3 with ⟨i, hx, rfl⟩ | ⟨n, hx, rfl⟩
    · subst hx
      have hl : i < m.σ.length := (List.getElem?_eq_some_iff.mp (R.slot (i := i) h).1).1
      refine ⟨.c c', ?_, rfl⟩
      show ((Me.mk (m.σ.set i (some (.o c'))) m.S).slot i).map SC.c = _
      unfold Mi.Me.slot
      rw [List.getElem?_set_self hl]
      rfl
    · subst hx
      have hl : n < m.S.length := (List.getElem?_eq_some_iff.mp (show m.S[n]? = some _ from h1)).1
      refine ⟨.c c', ?_, rfl⟩
      show (m.S.set n (.c c'))[n]? = _
      rw [List.getElem?_set_self hl]
  have gl : ∀ (i : Nat) (y : SC), m.S[i]? = some y → ∃ y', (m.put x c').S[i]? = some y' := by
    intro i y hi
    rcases h3 with ⟨j, hx, rfl⟩ | ⟨n, hx, rfl⟩
    · subst hx; exact ⟨y, hi⟩
    · subst hx
      have hl : i < (m.S.set n (.c c')).length := by rw [List.length_set]; exact (List.getElem?_eq_some_iff.mp hi).1
      exact ⟨_, List.getElem?_eq_some_iff.mpr ⟨hl, rfl⟩⟩
  have ext : Ext w m H w (m.put x c') (upd H (w.α p) o) := by
    refine ⟨fun _ h => h, fun _ _ _ _ h => h, fun i y hi => ⟨gl i y hi, rfl⟩, fun a u hu n => ⟨?_, ?_⟩⟩
    · rw [upd_ne]
      · exact hu
      · rintro rfl
        exact n ⟨p, _, h1, rfl⟩
    · rintro ⟨q, y, k1, k2⟩
      rcases key q y k1 with ⟨_, a2⟩ | ⟨rfl, _⟩
      · exact n ⟨q, y, a2, k2⟩
      · exact n ⟨q, _, h1, k2⟩
  refine ⟨⟨⟨fun q1 q2 c1 c2 k1 k2 k3 => ?_, fun q y hq => ?_, fun a ha => ?_, fun q y hq => ?_⟩, ?_⟩, ext⟩
  · have f1 : ∃ y, cellAt m q1 = some y := by
      rcases key _ _ k1 with ⟨_, a⟩ | ⟨rfl, _⟩
      · exact ⟨_, a⟩
      · exact ⟨_, h1⟩
    have f2 : ∃ y, cellAt m q2 = some y := by
      rcases key _ _ k2 with ⟨_, a⟩ | ⟨rfl, _⟩
      · exact ⟨_, a⟩
      · exact ⟨_, h1⟩
    obtain ⟨y1, f1⟩ := f1
    obtain ⟨y2, f2⟩ := f2
    exact R.M.inj _ _ _ _ f1 f2 k3
  · rcases key _ _ hq with ⟨n, a⟩ | ⟨rfl, rfl⟩
    · refine (R.M.cells q y a).ext ext (fun _ _ _ => rfl) (upd_ne fun z => n (R.M.inj _ _ _ _ a h1 z))
    · exact hc _ _ _ _ ext upd_same
  · obtain ⟨u, hu⟩ := R.M.out a ha
    by_cases z : a = w.α p
    · exact ⟨o, by rw [z]; exact upd_same⟩
    · exact ⟨u, by rw [upd_ne z]; exact hu⟩
  · rcases key _ _ hq with ⟨n, a⟩ | ⟨rfl, rfl⟩
    · exact R.M.nout q y a
    · exact R.M.nout q _ h1
  · rcases h3 with ⟨i, hx, rfl⟩ | ⟨n, hx, rfl⟩
    · subst hx
      have hs := R.slot (i := i) h
      refine ⟨by show (m.σ.set i _).length = _; rw [List.length_set]; exact R.E.len, fun j y z k1 k2 => ?_⟩
      have k1 : (m.σ.set i (some (.o c')))[j]? = some y := k1
      by_cases q : i = j
      · subst q
        have hl : i < m.σ.length := (List.getElem?_eq_some_iff.mp hs.1).1
        rw [List.getElem?_set_self hl] at k1
        cases k1
        have := hs.2.1
        rw [k2] at this
        exact Option.some.inj this
      · rw [List.getElem?_set_ne q] at k1
        have r := R.E.at_ j y z k1 k2
        cases y with
        | none => trivial
        | some f =>
          cases f with
          | v d => obtain ⟨u, e1, r'⟩ := r; exact ⟨u, e1, r'.ext ext⟩
          | o c => exact r
          | lent => trivial
    · subst hx
      exact R.E.ext ext rfl fun _ => rfl
/-- a slot's cell becomes a value -/
theorem SR.frz (R : SR K ct w m H σ) {i : Nat} {c : Cl} {d : D} (h : m.slot i = some c) (hd : (∃ xs, c = .lst xs ∧ d = .lst xs) ∨ ∃ xs, c = .dct xs ∧ d = .dct xs) :
    ∃ a, σ[i]? = some (some (.ref a)) ∧ SR K ct w ⟨m.σ.set i (some (.v d)), m.S⟩ H σ ∧ Ext w m H w ⟨m.σ.set i (some (.v d)), m.S⟩ H ∧ RepD K ct w ⟨m.σ.set i (some (.v d)), m.S⟩ H d (.ref a) := by
  obtain ⟨h1, h2, h3⟩ := R.slot h
  have hc : ∀ p c, cellAt ⟨m.σ.set i (some (.v d)), m.S⟩ p = some c → cellAt m p = some c ∧ p ≠ .s i := fun p c h => by
    rcases cell_set (σm := m.σ) (S := m.S) h with ⟨n, h⟩ | ⟨_, z, h, _⟩
    · exact ⟨h, n⟩
    · cases h
  have e : Ext w m H w ⟨m.σ.set i (some (.v d)), m.S⟩ H := Ext.sub rfl fun p c h => (hc p c h).1
  have nb : ¬ Bad w ⟨m.σ.set i (some (.v d)), m.S⟩ (w.α (.s i)) := by
    rintro (z | ⟨p, c, k1, k2⟩)
    · exact R.M.nout _ _ h3 z
    · exact (hc p c k1).2 (R.M.inj _ _ _ _ (hc p c k1).1 h3 k2)
  have cr := R.M.cells _ _ h3
  have r : RepD K ct w ⟨m.σ.set i (some (.v d)), m.S⟩ H d (.ref (w.α (.s i))) := by
    rcases hd with ⟨xs, rfl, rfl⟩ | ⟨xs, rfl, rfl⟩
    · obtain ⟨vs, k1, k2⟩ := cr
      exact .lst nb ⟨_, k1, rfl⟩ (k2.ext e)
    · obtain ⟨vs, k1, k2⟩ := cr
      exact .dct nb ⟨_, k1, rfl⟩ (k2.ext e)
  refine ⟨_, h2, ⟨R.M.sub rfl fun p c h => (hc p c h).1, ?_⟩, e, r⟩
  have := R.E.set (S' := m.S) (i := i) (x := some (.v d)) (v := some (.ref (w.α (.s i)))) e rfl (fun _ _ => rfl) ⟨_, rfl, r⟩
  have eq : σ.set i (some (.ref (w.α (.s i)))) = σ := by
    refine List.ext_getElem? fun j => ?_
    by_cases q : i = j
    · subst q
      have hl : i < σ.length := (List.getElem?_eq_some_iff.mp h2).1
      rw [List.getElem?_set_self hl, h2]
    · rw [List.getElem?_set_ne q]
  rw [eq] at this
  exact this
end

/-! ### statements -/
section
variable (K : PySem.W.Frag) (ct : String → Option Addr) (W : WX)
def RO (w : Wd) (m : Me) (H : Hp) (r : Out) (D : Ends) : Prop :=
  match r with
  | .nx m' => ∀ w' H' σ', SR K ct w' m' H' σ' → Ext w m H w' m' H' → D.nx σ' H'
  | .bk m' => ∀ w' H' σ', SR K ct w' m' H' σ' → Ext w m H w' m' H' → D.bk σ' H'
  | .ct m' => ∀ w' H' σ', SR K ct w' m' H' σ' → Ext w m H w' m' H' → D.ct σ' H'
  | .rt d m' => ∀ w' H' σ' v, SR K ct w' m' H' σ' → Ext w m H w' m' H' → RepD K ct w' m' H' d v → D.rt v H'
  | .ex x m' => ∀ w' H' σ' cls dx, SR K ct w' m' H' σ' → Ext w m H w' m' H' → ExR K ct w' m' H' x cls dx → W cls dx σ' H'
  | .bad => False
def tS (f : Sv) : TS := fun D σ H => ∃ w m, SR K ct w m H σ ∧ RO K ct W w m H (f m) D
end
theorem RO.ext {K : PySem.W.Frag} {ct : String → Option Addr} {W : WX} {w w' : Wd} {m m' : Me} {H H' : Hp} {r : Out} {D : Ends} (e : Ext w m H w' m' H') (h : RO K ct W w m H r D) : RO K ct W w' m' H' r D := by
  cases r with
  | nx m2 => exact fun w2 H2 σ2 S2 e2 => h w2 H2 σ2 S2 (e.trans e2)
  | bk m2 => exact fun w2 H2 σ2 S2 e2 => h w2 H2 σ2 S2 (e.trans e2)
  | ct m2 => exact fun w2 H2 σ2 S2 e2 => h w2 H2 σ2 S2 (e.trans e2)
  | rt d m2 => exact fun w2 H2 σ2 v S2 e2 => h w2 H2 σ2 v S2 (e.trans e2)
  | ex x m2 => exact fun w2 H2 σ2 cls dx S2 e2 => h w2 H2 σ2 cls dx S2 (e.trans e2)
  | bad => exact h
structure DS (X : Cx) (ct : String → Option Addr) (st : Stmt) (f : Sv) : Prop where
  run : ∀ W, L2.Takes X W → PS X st (tS X.K ct W f)
structure DSs (X : Cx) (ct : String → Option Addr) (st : List Stmt) (f : Sv) : Prop where
  run : ∀ W, L2.Takes X W → PSs X st (tS X.K ct W f)
theorem PS.imp {X : Cx} {st : Stmt} {t t' : TS} (h : PS X st t) (i : ∀ D σ H, t' D σ H → t D σ H) : PS X st t' := ⟨fun pins s σ H D I q => h.run pins s σ H D I (i _ _ _ q)⟩
theorem PSs.imp {X : Cx} {st : List Stmt} {t t' : TS} (h : PSs X st t) (i : ∀ D σ H, t' D σ H → t D σ H) : PSs X st t' := ⟨fun pins s σ H D I q => h.run pins s σ H D I (i _ _ _ q)⟩
section
variable {X : Cx} {ct : String → Option Addr} {K : PySem.W.Frag} {W : WX} {w : Wd} {m : Me} {H : Hp} {σ : L2.St} {D : Ends}
/-- an expression's part of a statement -/
theorem tE.so {f : Ev} {k : PV → Me → Out} {Q : VK} (S : SR K ct w m H σ) (h : RO K ct W w m H ((f m).so k) D)
    (g : ∀ x w1 m1 H1 v, SR K ct w1 m1 H1 σ → Ext w m H w1 m1 H1 → PVR K ct w1 m1 H1 σ x v → RO K ct W w1 m1 H1 (k x m1) D → Q v H1) : tE K ct W f σ H Q := by
  refine ⟨w, m, S, ?_⟩
  cases q : f m with
  | ok x m1 =>
    rw [q] at h
    intro w1 H1 S1 e1 v pv
    exact g x w1 m1 H1 v S1 e1 pv (h.ext e1)
  | ex x m1 =>
    rw [q] at h
    intro w1 H1 S1 e1 cls dx hx
    exact h w1 H1 σ cls dx S1 e1 hx
  | bad => rw [q] at h; exact h
theorem tT.so {f : Tv} {k : Bool → Me → Out} {Q : Bool → Hp → Prop} (S : SR K ct w m H σ) (h : RO K ct W w m H ((f m).so k) D)
    (g : ∀ x w1 m1 H1, SR K ct w1 m1 H1 σ → Ext w m H w1 m1 H1 → RO K ct W w1 m1 H1 (k x m1) D → Q x H1) : tT K ct W f σ H Q := by
  refine ⟨w, m, S, ?_⟩
  cases q : f m with
  | ok x m1 =>
    rw [q] at h
    intro w1 H1 S1 e1
    exact g x w1 m1 H1 S1 e1 (h.ext e1)
  | ex x m1 =>
    rw [q] at h
    intro w1 H1 S1 e1 cls dx hx
    exact h w1 H1 σ cls dx S1 e1 hx
  | bad => rw [q] at h; exact h
theorem tL.so {f : Lv} {k : List Mi.D → Me → Out} {Q : VK} (S : SR K ct w m H σ) (h : RO K ct W w m H ((f m).so k) D)
    (g : ∀ x w1 m1 H1 vs p, SR K ct w1 m1 H1 σ → Ext w m H w1 m1 H1 → RepL K ct w1 m1 H1 x vs → H1 p = none → RO K ct W w1 m1 H1 (k x m1) D → Q (.ref p) (upd H1 p (.lst vs))) : tL K ct W f σ H Q := by
  refine ⟨w, m, S, ?_⟩
  cases q : f m with
  | ok x m1 =>
    rw [q] at h
    intro w1 H1 S1 e1 vs p r hp
    exact g x w1 m1 H1 vs p S1 e1 r hp (h.ext e1)
  | ex x m1 =>
    rw [q] at h
    intro w1 H1 S1 e1 cls dx hx
    exact h w1 H1 σ cls dx S1 e1 hx
  | bad => rw [q] at h; exact h
theorem RO.nx (h : RO K ct W w m H (.nx m) D) (S : SR K ct w m H σ) : D.nx σ H := h w H σ S (Ext.refl ..)

theorem dss_nil : DSs X ct [] Mi.sNil := ⟨fun W tk => PSs.imp pss_nil fun D σ H ⟨w, m, S, h⟩ => RO.nx h S⟩
theorem seq_read {f g : Sv} (h : tS K ct W (Mi.sSeq f g) D σ H) : tSeq (tS K ct W f) (tS K ct W g) D σ H := by
  obtain ⟨w, m, S, h⟩ := h
  refine ⟨w, m, S, ?_⟩
  have h : RO K ct W w m H ((f m).seq g) D := h
  cases q : f m with
  | nx m' => rw [q] at h; exact fun w' H' σ' S' e => ⟨w', m', S', RO.ext e h⟩
  | bk m' => rw [q] at h; exact h
  | ct m' => rw [q] at h; exact h
  | rt d m' => rw [q] at h; exact h
  | ex x m' => rw [q] at h; exact h
  | bad => rw [q] at h; exact h
theorem dss_cons {st : Stmt} {rest : List Stmt} {f g : Sv} (h1 : DS X ct st f) (h2 : DSs X ct rest g) : DSs X ct (st :: rest) (Mi.sSeq f g) := ⟨fun W tk => PSs.imp (pss_cons (h1.run W tk) (h2.run W tk)) fun D σ H h => seq_read h⟩
theorem dss_one {st : Stmt} {f : Sv} (h1 : DS X ct st f) : DSs X ct [st] f := ⟨fun W tk => pss_one (h1.run W tk)⟩
theorem ds_pass {pos : Pos} : DS X ct (.Pass pos) Mi.sNil := ⟨fun W tk => PS.imp ps_pass fun D σ H ⟨w, m, S, h⟩ => RO.nx h S⟩
theorem ds_doc {x : Str} {j : Nat} {pos pos' : Pos} : DS X ct (.Expr (.Constant (.str x) j pos) pos') Mi.sNil := ⟨fun W tk => PS.imp ps_doc fun D σ H ⟨w, m, S, h⟩ => RO.nx h S⟩
theorem ds_break {pos : Pos} : DS X ct (.Break pos) Mi.sBk := ⟨fun W tk => PS.imp ps_break fun D σ H ⟨w, m, S, h⟩ => h w H σ S (Ext.refl ..)⟩
theorem ds_cont {pos : Pos} : DS X ct (.Continue pos) Mi.sCt := ⟨fun W tk => PS.imp ps_continue fun D σ H ⟨w, m, S, h⟩ => h w H σ S (Ext.refl ..)⟩
theorem ds_never {st : Stmt} : DS X ct st (fun _ => .bad) := ⟨fun W tk => PS.imp ps_never fun D σ H ⟨w, m, S, h⟩ => h⟩
theorem dss_never {st : List Stmt} : DSs X ct st (fun _ => .bad) := ⟨fun W tk => PSs.imp pss_never fun D σ H ⟨w, m, S, h⟩ => h⟩
theorem ds_ret {e : Expr} {pos : Pos} {f : Ev} (he : DE X ct e f) : DS X ct (.Return (some e) pos) (Mi.sRet f) := ⟨fun W tk => PS.imp (ps_ret (he.run W tk)) fun D σ H ⟨w, m, S, h⟩ => by
  refine tE.so S h fun x w1 m1 H1 v S1 e1 pv h1 => ?_
  split at h1
  · exact h1 w1 H1 σ v S1 (Ext.refl ..) pv
  · exact h1.elim⟩
theorem ds_retN {pos : Pos} : DS X ct (.Return none pos) Mi.sRetN := ⟨fun W tk => PS.imp ps_retN fun D σ H ⟨w, m, S, h⟩ => h w H σ .non S (Ext.refl ..) .non⟩
theorem ds_ex {e : Expr} {pos : Pos} {f : Ev} (he : DE X ct e f) (hs : swapsWith e none pos.line X.env = pure false := by rfl) : DS X ct (.Expr e pos) (Mi.sEx f) := ⟨fun W tk => PS.imp (ps_expr (he.run W tk) hs) fun D σ H ⟨w, m, S, h⟩ => by
  refine tE.so S h fun x w1 m1 H1 v S1 e1 pv h1 => ?_
  exact RO.nx h1 S1⟩
theorem ds_if {c : Expr} {a b : List Stmt} {pos : Pos} {t : Tv} {f g : Sv} (hc : DT X ct c t) (ha : DSs X ct a f) (hb : DSs X ct b g) : DS X ct (.If c a b pos) (Mi.sIf t f g) := ⟨fun W tk => PS.imp (ps_if (hc.run W tk) (ha.run W tk) (hb.run W tk)) fun D σ H ⟨w, m, S, h⟩ => by
  refine tT.so S h fun x w1 m1 H1 S1 e1 h1 => ?_
  cases x with
  | true => rw [if_pos rfl] at h1 ⊢; exact ⟨w1, m1, S1, h1⟩
  | false => rw [if_neg Bool.false_ne_true] at h1 ⊢; exact ⟨w1, m1, S1, h1⟩⟩
theorem ds_set {i : Nat} {x : Str} {e : Expr} {f : Ev} {pos pos' : Pos} (hN : X.N.Nodup) (hi : X.N[i]? = some x) (hx : Loc X.env.scope x) (he : DE X ct e f)
    (hs : swapsWith e (some (.Name x pos')) pos.line X.env = pure false := by rfl) (hf : X.fn x = true ∨ X.env.scope.names.lookup x = some .local := by first | exact .inl rfl | exact .inr rfl) : DS X ct (.Assign [.Name x pos'] e pos) (Mi.sSet i f) :=
  ⟨fun W tk => PS.imp (ps_set hN hi hx (he.run W tk) hs hf) fun D σ H ⟨w, m, S, h⟩ => by
    refine tE.so S h fun x w1 m1 H1 v S1 e1 pv h1 => ?_
    split at h1
    · split at h1
      · obtain ⟨S2, e2⟩ := SR.setV (σm := m1.σ) (S := m1.S) S1 (i := i) pv
        exact h1 w1 H1 _ S2 e2
      · exact h1.elim
    · exact h1.elim⟩
theorem ds_own {i : Nat} {x : Str} {e : Expr} {f : Lv} {pos pos' : Pos} (hN : X.N.Nodup) (hi : X.N[i]? = some x) (hx : Loc X.env.scope x) (he : DL X ct e f)
    (hs : swapsWith e (some (.Name x pos')) pos.line X.env = pure false := by rfl) (hf : X.fn x = true ∨ X.env.scope.names.lookup x = some .local := by first | exact .inl rfl | exact .inr rfl) : DS X ct (.Assign [.Name x pos'] e pos) (Mi.sOwn i f) :=
  ⟨fun W tk => PS.imp (ps_set hN hi hx (he.run W tk) hs hf) fun D σ H ⟨w, m, S, h⟩ => by
    refine tL.so S h fun x w1 m1 H1 vs p S1 e1 r hp h1 => ?_
    split at h1
    · obtain ⟨S2, e2⟩ := SR.setO (σm := m1.σ) (S := m1.S) S1 (i := i) (c := .lst x) hp (o := .lst vs) fun w' m' H' e' h' => ⟨vs, h', r.ext e'⟩
      exact h1 _ _ _ S2 e2
    · exact h1.elim⟩
theorem ds_ownD {i : Nat} {x : Str} {pos pos' p2 : Pos} (hN : X.N.Nodup) (hi : X.N[i]? = some x) (hx : Loc X.env.scope x)
    (hs : swapsWith (.Dict [] [] p2) (some (.Name x pos')) pos.line X.env = pure false := by rfl) (hf : X.fn x = true ∨ X.env.scope.names.lookup x = some .local := by first | exact .inl rfl | exact .inr rfl) : DS X ct (.Assign [.Name x pos'] (.Dict [] [] p2) pos) (Mi.sOwnD i) :=
  ⟨fun W tk => PS.imp (ps_set hN hi hx pe_dnewK hs hf) fun D σ H ⟨w, m, S, h⟩ => by
    intro p hp
    have h : RO X.K ct W w m H (if i < m.σ.length then .nx ⟨m.σ.set i (some (.o (.dct []))), m.S⟩ else .bad) D := h
    split at h
    · obtain ⟨S2, e2⟩ := SR.setO (σm := m.σ) (S := m.S) S (i := i) (c := .dct []) hp (o := .dK []) fun w' m' H' e' h' => ⟨[], h', .nil⟩
      exact h _ _ _ S2 e2
    · exact h.elim⟩
/-- the cell of slot i becomes a value -/
theorem de_frz (i : Nat) {x : Str} {pos : Pos} (h : PE X (.Name x pos) (tVar i)) : DE X ct (.Name x pos) (Mi.eFrz i) := ⟨fun W tk => PE.imp h fun σ H Q ⟨w, m, S, q⟩ => by
  unfold Mi.eFrz at q
  split at q
  · rename_i xs e1
    obtain ⟨a, h1, h2, h3, h4⟩ := S.frz (i := i) (c := .lst xs) (d := .lst xs) (by unfold Mi.Me.slot; rw [e1]) (.inl ⟨xs, rfl, rfl⟩)
    exact ⟨_, h1, RE.ok q h2 h3 _ h4⟩
  · rename_i xs e1
    obtain ⟨a, h1, h2, h3, h4⟩ := S.frz (i := i) (c := .dct xs) (d := .dct xs) (by unfold Mi.Me.slot; rw [e1]) (.inr ⟨xs, rfl, rfl⟩)
    exact ⟨_, h1, RE.ok q h2 h3 _ h4⟩
  · exact q.elim⟩
end
end So

set_option Elab.async false
set_option linter.all false
set_option maxRecDepth 100000
set_option maxHeartbeats 4000000
namespace So
open PySem PySem.Spec PyProof.Rows L2
open Mi (D Cl FV SC Me Xc Res PV Ky Ev Tv Av Lv Iv Ov Sv Bd Out Tx)

theorem SR.ls {K : PySem.W.Frag} {ct : String → Option Addr} {w : Wd} {m : Me} {H : Hp} {σ : L2.St} (S : SR K ct w m H σ) {x : PV} {v : V} {xs : List D} (r : PVR K ct w m H σ x v) (h : m.ls x = some xs) :
    ∃ a vs, v = .ref a ∧ SqL K H a vs ∧ RepL K ct w m H xs vs := by
  unfold Mi.Me.ls at h
  split at h
  · cases h
    cases r with
    | scr h1 h2 => exact ⟨_, _, rfl, sqL_of h1, h2⟩
  · split at h
    · rename_i q
      cases h
      obtain ⟨a, vs, e, h1, h2⟩ := S.lst r q
      exact ⟨a, vs, e, SqL.of h1, h2⟩
    · cases h
section
variable {X : Cx} {ct : String → Option Addr} {e a b c : Expr} {pos : Pos}
/-! ### more built-ins -/
theorem ok_sum : CallOk X ct Mi.aSum (rSum X.K) := by
  intro w m H σ xs vs d Q S r hg k
  unfold Mi.aSum at hg
  split at hg
  · cases r with
    | cons r t =>
      cases t
      obtain ⟨l, h1, rfl⟩ := opt_map hg
      obtain ⟨ys, h2, h3⟩ := opt_bind h1
      obtain ⟨p, us, rfl, h4, h5⟩ := S.ls r h2
      have e1 := ints_rep h5 h3
      subst e1
      exact ⟨p, l, rfl, h4, k _ H S (Ext.refl ..) (.int _)⟩
  · cases hg
theorem ok_any : CallOk X ct Mi.aAny (rAny X.K) := by
  intro w m H σ xs vs d Q S r hg k
  unfold Mi.aAny at hg
  split at hg
  · cases r with
    | cons r t =>
      cases t
      obtain ⟨l, h1, rfl⟩ := opt_map hg
      obtain ⟨ys, h2, h3⟩ := opt_bind h1
      obtain ⟨p, us, rfl, h4, h5⟩ := S.ls r h2
      have e1 := bls_rep h5 h3
      subst e1
      exact ⟨p, l, rfl, h4, k _ H S (Ext.refl ..) (.bl _)⟩
  · cases hg
theorem ok_all : CallOk X ct Mi.aAll (rAll X.K) := by
  intro w m H σ xs vs d Q S r hg k
  unfold Mi.aAll at hg
  split at hg
  · cases r with
    | cons r t =>
      cases t
      obtain ⟨l, h1, rfl⟩ := opt_map hg
      obtain ⟨ys, h2, h3⟩ := opt_bind h1
      obtain ⟨p, us, rfl, h4, h5⟩ := S.ls r h2
      have e1 := bls_rep h5 h3
      subst e1
      exact ⟨p, l, rfl, h4, k _ H S (Ext.refl ..) (.bl _)⟩
  · cases hg
/-- list(xs) -/
theorem dl_of {x : Str} {p : Pos} {es : List Expr} {fa : Av} (hg : Gl X x) (hm : X.mg x = none) (hv : bootBuiltins x = some (.type "list")) (ha : DA X ct (e :: es) fa) (hn : x ≠ "__name__" := by decide) (hdb : (x == ("__debug__" : Str)) = false := by decide)
    (he : starEach (e :: es) X.env = (false, eval e X.env) :: starEach es X.env := by rfl) (hpl : (backTo pos (starEach es X.env)).any (·.1) = false := by rfl) : DL X ct (.Call (.Name x p) (e :: es) [] pos) (Mi.lA Mi.aOf fa) :=
  ⟨fun W tk => PE.imp (pe_callTy call_list_of hg hm hv (ha.run W tk) hn hdb he hpl) fun σ H Q ⟨w, m, S, h⟩ => by
    refine tA.part (k := fun ps m1 => Res.opt (Mi.aOf ps m1) m1) S h fun ps w1 m1 H1 vs S1 e1 pv h1 => ?_
    cases q : Mi.aOf ps m1 with
    | none => rw [q] at h1; exact h1.elim
    | some ds =>
      rw [q] at h1
      unfold Mi.aOf at q
      split at q
      · cases pv with
        | cons r t =>
          cases t
          obtain ⟨l, us, rfl, h2, h3⟩ := S1.items r q
          exact ⟨l, us, rfl, h2, fun p hp => RE.ok h1 S1 (Ext.refl ..) us p h3 hp⟩
      · cases q⟩

/-! ### lists that change -/
def MutOk (X : Cx) (ct : String → Option Addr) (g : List D → List D → Option (D × List D)) (r : V → List V → Hp → VK → Prop) : Prop :=
  ∀ (w : Wd) (m : Me) (H : Hp) (l : Addr) (xs : List D) (vs : List V) (ds : List D) (us : List V) (d : D) (ys : List D) (Q : VK), H l = some (.lst vs) → RepL X.K ct w m H xs vs → RepL X.K ct w m H ds us → g xs ds = some (d, ys) →
    (∀ v' vs', RepD X.K ct w m H d v' → RepL X.K ct w m H ys vs' → Q v' (upd H l (.lst vs'))) → r (.ref l) us H Q
theorem mut_end {W : WX} {g : List D → List D → Option (D × List D)} {r : V → List V → Hp → VK → Prop} (hg : MutOk X ct g r) {w2 : Wd} {m2 : Me} {H2 : Hp} {σ : L2.St} {x : PV} {v : V} {ps : List PV} {us : List V} {P : PV → Wd → Me → Hp → Prop} {Q : VK}
    (S2 : SR X.K ct w2 m2 H2 σ) (pv2 : PVR X.K ct w2 m2 H2 σ x v) (pu : PVRs X.K ct w2 m2 H2 σ ps us)
    (h2 : RE X.K ct σ w2 m2 H2 (match m2.own x, PV.ds ps with
      | some (.lst xs), some ds => (match g xs ds with | some (d, ys) => Res.ok (.v d) (m2.put x (.lst ys)) | none => .bad)
      | _, _ => .bad) P (PxW X.K ct W σ)) (hP : ∀ x' w' m' H', P x' w' m' H' → ∀ v', PVR X.K ct w' m' H' σ x' v' → Q v' H') : r v us H2 Q := by
  split at h2
  · rename_i xs ds q1 q2
    split at h2
    · rename_i d ys q3
      obtain ⟨a, p, rfl, ⟨vs, g1, r1⟩, k⟩ := S2.put pv2 q1
      refine hg w2 m2 H2 a xs vs ds us d ys Q g1 r1 (ds_rep pu q2) q3 fun v' vs' rd rl => ?_
      obtain ⟨S3, e3⟩ := k (.lst ys) (.lst vs') fun w' m' H' q e' h' => ⟨vs', h', rl.ext e'⟩
      exact hP _ _ _ _ (RE.ok h2 S3 e3) _ (RepD.ext e3 rd)
    · exact h2.elim
  · exact h2.elim
theorem own_list {K : PySem.W.Frag} {w : Wd} {m : Me} {H : Hp} {σ : L2.St} (S : SR K ct w m H σ) {x : PV} {v : V} (r : PVR K ct w m H σ x v) (h : Mi.isL (m.own x) = true) : tyV K "list" v H := by
  unfold Mi.isL at h
  split at h
  · rename_i xs q
    obtain ⟨p, rfl, h1, ⟨vs, h2, _⟩, _⟩ := S.own r q
    exact .inl ⟨rfl, vs, SqL.of h2⟩
  · cases h
section
variable {name : Str} {apos cpos : Pos} {id : String} {es : List Expr} {r : V → List V → Hp → VK → Prop} {g : List D → List D → Option (D × List D)} {fo : Ev} {fa : Av}
theorem de_mut (slot : Slot "list" name id) (hty : typeOf (.builtin id) = pure (.type "method_descriptor")) (hm : MtR X id r) (hg : MutOk X ct g r) (ho : DE X ct a fo) (ha : DA X ct (e :: es) fa)
    (hbase : attributeBase a name X.env (eval a X.env) = eval a X.env := by rfl)
    (hfew : ((backTo cpos (starEach (e :: es) X.env)).all (fun x => !x.1) && (backToKw cpos (keywordEach [] X.env)).all (fun x => x.1.isSome)
      && decide ((e :: es).length + ([] : List Keyword).length + (if ([] : List Keyword).isEmpty then 0 else 1) < 30)) = true := by rfl)
    (hline : (apos.endLine == cpos.line) = true := by rfl) (hs : starEach (e :: es) X.env = (false, eval e X.env) :: starEach es X.env := by rfl) (hplain : (backTo cpos (starEach es X.env)).any (·.1) = false := by rfl) :
    DE X ct (.Call (.Attribute a name apos) (e :: es) [] cpos) (Mi.eMut g fo fa) :=
  ⟨fun W tk => PE.imp (pe_bm PySem.F.plainAttrs_list slot hty hm (ho.run W tk) (ha.run W tk) hbase hfew hline hs hplain) fun σ H Q ⟨w, m, S, h⟩ => by
    refine tE.part S h fun x w1 m1 H1 v S1 e1 pv h1 => ?_
    split at h1
    · rename_i hl
      refine ⟨own_list S1 pv hl, ?_⟩
      refine tA.part S1 h1 fun ps w2 m2 H2 us S2 e2 pu h2 => ?_
      exact mut_end hg S2 (pv.ext e2) pu h2 fun _ _ _ _ z => z
    · exact h1.elim⟩
theorem de_mut0 (slot : Slot "list" name id) (hty : typeOf (.builtin id) = pure (.type "method_descriptor")) (hm : MtR X id r) (hg : MutOk X ct g r) (ho : DE X ct a fo)
    (hbase : attributeBase a name X.env (eval a X.env) = eval a X.env := by rfl) (hline : (apos.endLine == cpos.line) = true := by rfl) :
    DE X ct (.Call (.Attribute a name apos) [] [] cpos) (Mi.eMut g fo Mi.aNil) :=
  ⟨fun W tk => PE.imp (pe_bm0 PySem.F.plainAttrs_list slot hty hm (ho.run W tk) hbase hline) fun σ H Q ⟨w, m, S, h⟩ => by
    refine tE.part S h fun x w1 m1 H1 v S1 e1 pv h1 => ?_
    split at h1
    · rename_i hl
      refine ⟨own_list S1 pv hl, ?_⟩
      have h2 := h1.bind
      have h2 := RE.ok h2 S1 (Ext.refl ..)
      exact mut_end hg S1 pv .nil h2 fun _ _ _ _ z => z
    · exact h1.elim⟩
end
theorem mo_app : MutOk X ct Mi.mApp rAppend := by
  intro w m H l xs vs ds us d ys Q h1 r1 r2 hg k
  unfold Mi.mApp at hg
  split at hg
  · split at hg
    · rename_i hl
      cases hg
      cases r2 with
      | cons r t =>
        cases t
        exact ⟨l, vs, _, rfl, rfl, h1, by rw [← r1.length, ← big_eq]; exact hl, k _ _ .non (r1.append (.cons r .nil))⟩
    · cases hg
  · cases hg
theorem mo_ext : MutOk X ct Mi.mExt rExtend := by
  intro w m H l xs vs ds us d ys Q h1 r1 r2 hg k
  unfold Mi.mExt at hg
  split at hg
  · split at hg
    · rename_i hl
      cases hg
      cases r2 with
      | cons r t =>
        cases t
        cases r with
        | lst n g r3 =>
          exact ⟨l, _, vs, _, rfl, rfl, h1, g.lst, by rw [← r1.length, ← r3.length, ← big_eq]; exact hl, k _ _ .non (r1.append r3)⟩
    · cases hg
  · cases hg
theorem RepL.dropLast {K : PySem.W.Frag} {w : Wd} {m : Me} {H : Hp} {xs : List D} {vs : List V} (r : RepL K ct w m H xs vs) : RepL K ct w m H xs.dropLast vs.dropLast := by
  rw [List.dropLast_eq_take, List.dropLast_eq_take, r.length]
  exact r.take _
theorem mo_pop : MutOk X ct Mi.mPop rPop := by
  intro w m H l xs vs ds us d ys Q h1 r1 r2 hg k
  unfold Mi.mPop at hg
  split at hg
  · obtain ⟨y, h2, h3⟩ := opt_map hg
    cases h3
    cases r2
    obtain ⟨v, h4, h5⟩ := r1.get h2
    exact ⟨l, vs, v, rfl, rfl, h1, by rw [← r1.length]; exact h4, k _ _ h5 r1.dropLast⟩
  · cases hg
theorem mo_clr : MutOk X ct Mi.mClr rClear := by
  intro w m H l xs vs ds us d ys Q h1 r1 r2 hg k
  unfold Mi.mClr at hg
  split at hg
  · cases hg
    cases r2
    exact ⟨l, vs, rfl, rfl, h1, k _ _ .non .nil⟩
  · cases hg
theorem de_app {apos cpos : Pos} {es : List Expr} {fo : Ev} {fa : Av} (ho : DE X ct a fo) (ha : DA X ct (e :: es) fa) (hbase : attributeBase a "append" X.env (eval a X.env) = eval a X.env := by rfl)
    (hfew : ((backTo cpos (starEach (e :: es) X.env)).all (fun x => !x.1) && (backToKw cpos (keywordEach [] X.env)).all (fun x => x.1.isSome)
      && decide ((e :: es).length + ([] : List Keyword).length + (if ([] : List Keyword).isEmpty then 0 else 1) < 30)) = true := by rfl)
    (hline : (apos.endLine == cpos.line) = true := by rfl) (hs : starEach (e :: es) X.env = (false, eval e X.env) :: starEach es X.env := by rfl) (hplain : (backTo cpos (starEach es X.env)).any (·.1) = false := by rfl) :
    DE X ct (.Call (.Attribute a "append" apos) (e :: es) [] cpos) (Mi.eMut Mi.mApp fo fa) := de_mut PySem.F.slot_list_append PySem.F.type_list_append mt_append mo_app ho ha hbase hfew hline hs hplain
theorem de_ext {apos cpos : Pos} {es : List Expr} {fo : Ev} {fa : Av} (ho : DE X ct a fo) (ha : DA X ct (e :: es) fa) (hbase : attributeBase a "extend" X.env (eval a X.env) = eval a X.env := by rfl)
    (hfew : ((backTo cpos (starEach (e :: es) X.env)).all (fun x => !x.1) && (backToKw cpos (keywordEach [] X.env)).all (fun x => x.1.isSome)
      && decide ((e :: es).length + ([] : List Keyword).length + (if ([] : List Keyword).isEmpty then 0 else 1) < 30)) = true := by rfl)
    (hline : (apos.endLine == cpos.line) = true := by rfl) (hs : starEach (e :: es) X.env = (false, eval e X.env) :: starEach es X.env := by rfl) (hplain : (backTo cpos (starEach es X.env)).any (·.1) = false := by rfl) :
    DE X ct (.Call (.Attribute a "extend" apos) (e :: es) [] cpos) (Mi.eMut Mi.mExt fo fa) := de_mut PySem.F.slot_list_extend PySem.F.type_list_extend mt_extend mo_ext ho ha hbase hfew hline hs hplain
theorem de_pop {apos cpos : Pos} {fo : Ev} (ho : DE X ct a fo) (hbase : attributeBase a "pop" X.env (eval a X.env) = eval a X.env := by rfl) (hline : (apos.endLine == cpos.line) = true := by rfl) :
    DE X ct (.Call (.Attribute a "pop" apos) [] [] cpos) (Mi.eMut Mi.mPop fo Mi.aNil) := de_mut0 PySem.F.slot_list_pop PySem.F.type_list_pop mt_pop mo_pop ho hbase hline
theorem de_clr {apos cpos : Pos} {fo : Ev} (ho : DE X ct a fo) (hbase : attributeBase a "clear" X.env (eval a X.env) = eval a X.env := by rfl) (hline : (apos.endLine == cpos.line) = true := by rfl) :
    DE X ct (.Call (.Attribute a "clear" apos) [] [] cpos) (Mi.eMut Mi.mClr fo Mi.aNil) := de_mut0 PySem.F.slot_list_clear PySem.F.type_list_clear mt_clear mo_clr ho hbase hline
/-! ### d[k] = e -/
theorem RepK.any {K : PySem.W.Frag} {w : Wd} {m : Me} {H : Hp} (k : Ky) : ∀ {xs : List (Ky × D)} {vs : List (Key × V)}, RepK K ct w m H xs vs → (vs.any fun kv => decide (kv.1 = kyR k)) = xs.any fun kv => decide (kv.1 = k)
  | _, _, .nil => rfl
  | _, _, .cons (k := j) r t => by
    rw [List.any_cons, List.any_cons, RepK.any k t]
    congr 1
    by_cases h : j = k
    · subst h; simp
    · rw [decide_eq_false (show ¬ (j, _).1 = k from h), decide_eq_false (show ¬ (kyR j, _).1 = kyR k from fun z => h (kyR_inj z))]
theorem RepK.app {K : PySem.W.Frag} {w : Wd} {m : Me} {H : Hp} {k : Ky} {d : D} {v : V} (r : RepD K ct w m H d v) : ∀ {xs : List (Ky × D)} {vs : List (Key × V)}, RepK K ct w m H xs vs → RepK K ct w m H (xs ++ [(k, d)]) (vs ++ [(kyR k, v)])
  | _, _, .nil => .cons r .nil
  | _, _, .cons q t => .cons q (RepK.app r t)
theorem RepK.rep {K : PySem.W.Frag} {w : Wd} {m : Me} {H : Hp} {k : Ky} {d : D} {v : V} (r : RepD K ct w m H d v) : ∀ {xs : List (Ky × D)} {vs : List (Key × V)}, RepK K ct w m H xs vs →
    RepK K ct w m H (xs.map fun kv => if kv.1 = k then (kv.1, d) else kv) (vs.map fun kv => if kv.1 = kyR k then (kv.1, v) else kv)
  | _, _, .nil => .nil
  | _, _, .cons (k := j) q t => by
    rw [List.map_cons, List.map_cons]
    by_cases h : j = k
    · subst h
      rw [if_pos rfl, if_pos rfl]
      exact .cons r (RepK.rep r t)
    · rw [if_neg (show ¬ (j, _).1 = k from h), if_neg (show ¬ (kyR j, _).1 = kyR k from fun z => h (kyR_inj z))]
      exact .cons q (RepK.rep r t)
theorem RepK.put {K : PySem.W.Frag} {w : Wd} {m : Me} {H : Hp} {k : Ky} {d : D} {v : V} (r : RepD K ct w m H d v) {xs : List (Ky × D)} {vs : List (Key × V)} (h : RepK K ct w m H xs vs) : RepK K ct w m H (Mi.putKv xs k d) (putK vs (kyR k) v) := by
  unfold Mi.putKv putK
  rw [h.any k]
  split
  · exact h.rep r
  · exact h.app r
theorem RepK.drop {K : PySem.W.Frag} {w : Wd} {m : Me} {H : Hp} {k : Ky} : ∀ {xs : List (Ky × D)} {vs : List (Key × V)}, RepK K ct w m H xs vs → RepK K ct w m H (Mi.dropKv xs k) (dropK vs (kyR k))
  | _, _, .nil => .nil
  | _, _, .cons (k := j) q t => by
    unfold Mi.dropKv dropK
    rw [List.filter_cons, List.filter_cons]
    by_cases h : j = k
    · subst h
      simp only [ne_eq, not_true_eq_false, decide_false, Bool.false_eq_true, if_false]
      exact RepK.drop t
    · have h' : ¬ kyR j = kyR k := fun z => h (kyR_inj z)
      simp only [ne_eq, h, h', not_false_eq_true, decide_true, if_true]
      exact .cons q (RepK.drop t)
theorem ds_put (hu : X.A.units + 1 < cLine) {pos' : Pos} {fo fi fe : Ev} (ho : DE X ct a fo) (hi : DE X ct b fi) (he : DE X ct e fe) (hs : swapsWith e (some (.Subscript a b pos')) pos.line X.env = pure false := by rfl) :
    DS X ct (.Assign [.Subscript a b pos'] e pos) (Mi.sPutK fo fi fe) :=
  ⟨fun W tk => PS.imp (ps_dput hu (ho.run W tk) (hi.run W tk) (he.run W tk) hs) fun D σ H ⟨w, m, S, h⟩ => by
    refine tE.so S h fun d w1 m1 H1 v S1 e1 pv h1 => ?_
    refine tE.so S1 h1 fun x w2 m2 H2 u S2 e2 pu h2 => ?_
    refine tE.so S2 h2 fun y w3 m3 H3 t S3 e3 pt h3 => ?_
    split at h3
    · rename_i kvs k d q1 q2
      split at h3
      · rename_i hl
        obtain ⟨l, p, rfl, ⟨vs, g1, r1⟩, k2⟩ := S3.put (pu.ext e3) q1
        have pv3 : RepD X.K ct w3 m3 H3 d v := (pv.ext e2).ext e3
        obtain ⟨S4, e4⟩ := k2 (.dct (Mi.putKv kvs k d)) (.dK (putK vs (kyR k) v)) fun w' m' H' q e' h' => ⟨_, h', (r1.ext e').put (RepD.ext e' pv3)⟩
        refine ⟨l, _, rfl, .inl ⟨vs, kyR k, g1, ky_rep pt q2, by rw [← r1.length, ← big_eq]; exact hl, rfl⟩, ?_⟩
        exact h3 _ _ _ S4 e4
      · exact h3.elim
    · exact h3.elim⟩
theorem ds_setIx {pos' : Pos} {fo fi fe : Ev} (ho : DE X ct a fo) (hi : DE X ct b fi) (he : DE X ct e fe) (h1 : swapsWithSole [.Subscript a b pos'] e pos.line X.env = pure false := by rfl) (h2 : swappedStores [.Subscript a b pos'] e X.env = pure none := by rfl)
    (hq : ∀ v, assign (.Subscript a b pos') X.env v = (do
      let ov ← holding [v] (eval a X.env)
      let iv ← holding [v, ov] (eval b X.env)
      standAt pos'
      holding [v, ov, iv] (setItem ov iv v)
      release [v, ov, iv] []) := by intro _; rfl) :
    DS X ct (.Assign [.Subscript a b pos'] e pos) (Mi.sSetIx fo fi fe) :=
  ⟨fun W tk => PS.imp (ps_asg (he.run W tk) (pg_sub (ho.run W tk) (hi.run W tk) set_list hq) h1 h2) fun D σ H ⟨w, m, S, h⟩ => by
    refine tE.so S h fun d w1 m1 H1 v S1 e1 pv h1 => ?_
    refine tE.so S1 h1 fun x w2 m2 H2 u S2 e2 pu h2 => ?_
    refine tE.so S2 h2 fun y w3 m3 H3 t S3 e3 pt h3 => ?_
    split at h3
    · rename_i xs k d q1
      split at h3
      · rename_i j hj
        obtain ⟨l, p, rfl, ⟨vs, g1, r1⟩, k2⟩ := S3.put (pu.ext e3) q1
        have pv3 : RepD X.K ct w3 m3 H3 d v := (pv.ext e2).ext e3
        obtain ⟨S4, e4⟩ := k2 (.lst (xs.set j d)) (.lst (vs.set j v)) fun w' m' H' q e' h' => ⟨_, h', (r1.ext e').set (RepD.ext e' pv3) j⟩
        cases pt
        exact ⟨l, vs, k, j, rfl, rfl, g1, by rw [← r1.length]; exact hj, h3 _ _ _ S4 e4⟩
      · exact h3.elim
    · exact h3.elim⟩
end
end So

set_option Elab.async false
set_option linter.all false
set_option maxRecDepth 100000
set_option maxHeartbeats 4000000
namespace So
open PySem PySem.Spec PyProof.Rows L2
open Mi (D Cl FV SC Me Xc Res PV Ky Ev Tv Av Lv Iv Ov Sv Bd Out Tx)

/-! ### what a loop's item is given to -/
section
variable (K : PySem.W.Frag) (ct : String → Option Addr)
def tG (b : Bd) : TG := fun v σ H Q => ∃ w m d σ1, SR K ct w m H σ ∧ RepD K ct w m H d v ∧ b.set d m.σ = some σ1 ∧
  ∀ σ', SR K ct w ⟨σ1, m.S⟩ H σ' → Ext w m H w ⟨σ1, m.S⟩ H → (∀ j, j ∉ b.ix → σ'[j]? = σ[j]?) → σ'.length = σ.length → Q σ' H
def tGs (is : List Nat) : TGs := fun vs σ H Q => ∃ w m ds σ1, SR K ct w m H σ ∧ RepL K ct w m H ds vs ∧ Mi.bTs is ds m.σ = some σ1 ∧
  ∀ σ', SR K ct w ⟨σ1, m.S⟩ H σ' → Ext w m H w ⟨σ1, m.S⟩ H → (∀ j, j ∉ is → σ'[j]? = σ[j]?) → σ'.length = σ.length → Q σ' H
end
structure DG (X : Cx) (ct : String → Option Addr) (tg : Expr) (b : Bd) : Prop where
  run : PG X tg (tG X.K ct b)
structure DGs (X : Cx) (ct : String → Option Addr) (tg : List Expr) (is : List Nat) : Prop where
  run : PGs X tg (tGs X.K ct is)
theorem PG.imp {X : Cx} {tg : Expr} {t t' : TG} (h : PG X tg t) (i : ∀ v σ H Q, t' v σ H Q → t v σ H Q) : PG X tg t' := ⟨fun pins s σ H v u Q I r q => h.run pins s σ H v u Q I r (i _ _ _ _ q)⟩
theorem PGs.imp {X : Cx} {tg : List Expr} {t t' : TGs} (h : PGs X tg t) (i : ∀ v σ H Q, t' v σ H Q → t v σ H Q) : PGs X tg t' := ⟨fun pins s σ H v u Q I r q => h.run pins s σ H v u Q I r (i _ _ _ _ q)⟩
section
variable {X : Cx} {ct : String → Option Addr}
theorem dg_n {i : Nat} {x : Str} {pos : Pos} (hN : X.N.Nodup) (hi : X.N[i]? = some x) (hx : Loc X.env.scope x) (hf : X.fn x = true ∨ X.env.scope.names.lookup x = some .local := by first | exact .inl rfl | exact .inr rfl) : DG X ct (.Name x pos) (.n i) :=
  ⟨PG.imp (pg_name hN hi hx hf) fun v σ H Q ⟨w, m, d, σ1, S, r, hs, k⟩ => by
    have hs : (if i < m.σ.length then some (m.σ.set i (some (.v d))) else none) = some σ1 := hs
    split at hs
    · cases hs
      obtain ⟨S2, e2⟩ := SR.setV (σm := m.σ) (S := m.S) S (i := i) r
      exact k _ S2 e2 (fun j hj => List.getElem?_set_ne fun z => hj (by rw [z]; exact List.mem_cons_self)) (List.length_set ..)
    · cases hs⟩
theorem dgs_nil : DGs X ct [] [] := ⟨PGs.imp pgs_nil fun v σ H Q ⟨w, m, ds, σ1, S, r, hs, k⟩ => by
  cases r with
  | nil =>
    have hs : some m.σ = some σ1 := hs
    cases hs
    exact ⟨rfl, k σ S (Ext.refl ..) (fun _ _ => rfl) rfl⟩
  | cons _ _ => cases hs⟩
theorem dgs_cons {i : Nat} {is : List Nat} {x : Str} {pos : Pos} {es : List Expr} (hN : X.N.Nodup) (hi : X.N[i]? = some x) (hx : Loc X.env.scope x) (h2 : DGs X ct es is)
    (hs : (assignEach (.Name x pos :: es) X.env).map (·.2) = assign (.Name x pos) X.env :: (assignEach es X.env).map (·.2) := by rfl) (hf : X.fn x = true ∨ X.env.scope.names.lookup x = some .local := by first | exact .inl rfl | exact .inr rfl) : DGs X ct (.Name x pos :: es) (i :: is) :=
  ⟨PGs.imp (pgs_cons (pg_name hN hi hx hf) h2.run hs) fun v σ H Q ⟨w, m, ds, σ1, S, r, hs, k⟩ => by
    cases r with
    | nil => cases hs
    | @cons d v ds vs r t =>
      have hs : (if i < m.σ.length then Mi.bTs is ds (m.σ.set i (some (.v d))) else none) = some σ1 := hs
      split at hs
      · obtain ⟨S2, e2⟩ := SR.setV (σm := m.σ) (S := m.S) S (i := i) r
        refine ⟨v, vs, rfl, w, _, ds, σ1, S2, t.ext e2, hs, fun σ' S3 e3 hj hl => ?_⟩
        refine k σ' S3 (e2.trans e3) (fun j hj' => ?_) (hl.trans (List.length_set ..))
        rw [List.mem_cons, not_or] at hj'
        rw [hj j hj'.2]
        exact List.getElem?_set_ne fun z => hj'.1 z.symm
      · cases hs⟩
theorem dg_t {is : List Nat} {es : List Expr} {k : Nat} {pos : Pos} (hc : X.calm = true) (h : DGs X ct es is) (hn : (assignEach es X.env).length = is.length := by rfl) (hst : (assignEach es X.env).findIdx? (·.1) = none := by rfl) : DG X ct (.Tuple es k pos) (.t is) :=
  ⟨PG.imp (pg_tup hc h.run hn hst) fun v σ H Q ⟨w, m, d, σ1, S, r, hs, k⟩ => by
    cases d with
    | tup ds =>
      cases r with
      | @tup a _ vs n g r =>
        have hs : Mi.bTs is ds m.σ = some σ1 := hs
        have hl : ∀ (is : List Nat) (ds : List D) (σm : Mi.Env), Mi.bTs is ds σm = some σ1 → ds.length = is.length := by
          intro is
          induction is with
          | nil => intro ds σm h; cases ds <;> first | rfl | cases h
          | cons i is ih =>
            intro ds σm h
            cases ds with
            | nil => cases h
            | cons d ds =>
              have h : (if i < σm.length then Mi.bTs is ds (σm.set i (some (.v d))) else none) = some σ1 := h
              split at h
              · rw [List.length_cons, List.length_cons, ih _ _ h]
              · cases h
        exact ⟨a, vs, rfl, SqT.of g.tup, by rw [← r.length]; exact hl _ _ _ hs, w, m, ds, σ1, S, r, hs, k⟩
    | _ => cases hs⟩
/-- a, b = e -/
theorem ds_bd {tg e : Expr} {pos : Pos} {b : Bd} {f : Ev} (he : DE X ct e f) (hg : DG X ct tg b) (h1 : swapsWithSole [tg] e pos.line X.env = pure false := by rfl) (h2 : swappedStores [tg] e X.env = pure none := by rfl) (h3 : (assignEach [tg] X.env).map (·.2) = [assign tg X.env] := by rfl) : DS X ct (.Assign [tg] e pos) (Mi.sBd b f) :=
  ⟨fun W tk => PS.imp (ps_asg (he.run W tk) hg.run h1 h2 h3) fun D σ H ⟨w, m, S, h⟩ => by
    refine tE.so S h fun x w1 m1 H1 v S1 e1 pv h1 => ?_
    split at h1
    · split at h1
      · rename_i σ1 q
        exact ⟨w1, m1, _, σ1, S1, pv, q, fun σ' S2 e2 _ _ => h1 w1 H1 σ' S2 e2⟩
      · exact h1.elim
    · exact h1.elim⟩
end

/-! ### what is walked -/
/-- J gives the items xs -/
def Deliv (K : PySem.W.Frag) (ct : String → Option Addr) (w : Wd) (m : Me) (H : Hp) (J : It) (xs : List D) : Prop :=
  ∀ (i : Nat) w1 m1 H1, MRel K ct w1 m1 H1 → Ext w m H w1 m1 H1 →
    (∀ d, xs[i]? = some d → J.go i H1 ∧ ∀ v H2, J.yld i H1 v H2 → RepD K ct w1 m1 H2 d v ∧ (H2 = H1 ∨ ∃ p o, H1 p = none ∧ H2 = upd H1 p o)) ∧ (xs.length ≤ i → J.stop i H1)
def tI (K : PySem.W.Frag) (ct : String → Option Addr) (W : WX) (f : Iv) : TI := fun σ H R => ∃ w m, SR K ct w m H σ ∧ RE K ct σ w m H (f m) (fun xs w' m' H' => ∀ J, Deliv K ct w' m' H' J xs → R J H') (PxW K ct W σ)
structure DI (X : Cx) (ct : String → Option Addr) (tg iter : Expr) (f : Iv) : Prop where
  run : ∀ W, L2.Takes X W → PI X tg iter (tI X.K ct W f)
theorem PI.imp {X : Cx} {tg e : Expr} {t t' : TI} (h : PI X tg e t) (i : ∀ σ H Q, t' σ H Q → t σ H Q) : PI X tg e t' := ⟨fun pins s σ H Q I q => h.run pins s σ H Q I (i _ _ _ q)⟩
section
variable {X : Cx} {ct : String → Option Addr} {tg e a b : Expr} {pos : Pos} {K : PySem.W.Frag} {w : Wd} {m : Me} {H : Hp}
/-- a list value stays -/
theorem list_at {a : Addr} {xs : List D} (h : RepD K ct w m H (.lst xs) (.ref a) ∨ RepD K ct w m H (.scr xs) (.ref a)) {w1 : Wd} {m1 : Me} {H1 : Hp} (e1 : Ext w m H w1 m1 H1) : ∃ vs, SqL K H1 a vs ∧ RepL K ct w1 m1 H1 xs vs := by
  rcases h with h | h
  · cases RepD.ext e1 h with
    | lst n g r => exact ⟨_, SqL.of g.lst, r⟩
  · cases RepD.ext e1 h with
    | scr g r => exact ⟨_, sqL_of g, r⟩
theorem deliv_lst {a : Addr} {xs : List D} (h : RepD K ct w m H (.lst xs) (.ref a) ∨ RepD K ct w m H (.scr xs) (.ref a)) : Deliv K ct w m H (Itl K a) xs := by
  intro i w1 m1 H1 _ e1
  obtain ⟨vs, h2, h3⟩ := list_at h e1
  refine ⟨fun d hd => ?_, fun hl => ⟨vs, h2, by rw [← h3.length]; exact hl⟩⟩
  obtain ⟨v, h4, h5⟩ := h3.get hd
  refine ⟨⟨vs, v, h2, h4⟩, fun u H2 ⟨q1, q2⟩ => ⟨?_, .inl q1⟩⟩
  subst q1
  have := q2 vs h2
  rw [h4] at this
  cases this
  exact h5
theorem di_lst {f : Ev} (he : DE X ct e f) : DI X ct tg e (Mi.iLst f) := ⟨fun W tk => PI.imp (pi_list (he.run W tk)) fun σ H R ⟨w, m, S, h⟩ => by
  refine tE.part S h fun x w1 m1 H1 v S1 e1 pv h1 => ?_
  split at h1
  · cases pv with
    | @lst a _ vs n g r => exact ⟨a, rfl, ⟨vs, SqL.of g.lst⟩, RE.ok h1 S1 (Ext.refl ..) _ (deliv_lst (.inl (.lst n g r)))⟩
  · cases pv with
    | @scr a _ vs g r => exact ⟨a, rfl, ⟨vs, sqL_of g⟩, RE.ok h1 S1 (Ext.refl ..) _ (deliv_lst (.inr (.scr g r)))⟩
  · exact h1.elim⟩
theorem di_tup {f : Ev} (he : DE X ct e f) : DI X ct tg e (Mi.iTup f) := ⟨fun W tk => PI.imp (pi_tup (he.run W tk)) fun σ H R ⟨w, m, S, h⟩ => by
  refine tE.part S h fun x w1 m1 H1 v S1 e1 pv h1 => ?_
  split at h1
  · cases pv with
    | @tup a _ vs n g r =>
      refine ⟨a, rfl, ⟨vs, SqT.of g.tup⟩, RE.ok h1 S1 (Ext.refl ..) _ ?_⟩
      intro i w2 m2 H2 _ e2
      have g2 : SqT X.K H2 a vs := SqT.of (e2.nd n g).2.tup
      have r2 := r.ext e2
      refine ⟨fun d hd => ?_, fun hl => ⟨vs, g2, by rw [← r2.length]; exact hl⟩⟩
      obtain ⟨v, h4, h5⟩ := r2.get hd
      refine ⟨⟨vs, v, g2, h4⟩, fun u H3 ⟨q1, q2⟩ => ⟨?_, .inl q1⟩⟩
      subst q1
      have := q2 vs g2
      rw [h4] at this
      cases this
      exact h5
  · exact h1.elim⟩
theorem ints_get {lo : Int} {n i : Nat} : (Mi.intsL lo n)[i]? = if i < n then some (.int (lo + i)) else none := by
  unfold Mi.intsL
  rw [List.getElem?_map]
  by_cases h : i < n
  · rw [if_pos h, List.getElem?_range h]; rfl
  · rw [if_neg h, List.getElem?_eq_none (by simpa using h)]; rfl
theorem ints_len {lo : Int} {n : Nat} : (Mi.intsL lo n).length = n := by unfold Mi.intsL; simp
theorem deliv_rng {lo : Int} {n : Nat} : Deliv K ct w m H (Itr lo n) (Mi.intsL lo n) := by
  intro i w1 m1 H1 _ e1
  refine ⟨fun d hd => ?_, fun hl => by rw [ints_len] at hl; exact hl⟩
  rw [ints_get] at hd
  split at hd
  · rename_i hi
    cases hd
    refine ⟨hi, fun v H2 ⟨q1, q2⟩ => ⟨?_, .inl q1⟩⟩
    subst q1; subst q2
    exact .int _
  · cases hd
theorem in62_ok {i : Int} (h : Mi.in62 i = true) : -(2 ^ 62) ≤ i ∧ i < 2 ^ 62 := by
  have h := of_decide_eq_true (show decide (-Mi.lim62 ≤ i ∧ i < Mi.lim62) = true from h)
  rwa [Mi.lim62_is] at h
theorem di_rg1 {p : Pos} {f : Ev} (hg : Gl X "range") (hm : X.mg "range" = none) (ha : DA X ct [a] (Mi.aCons f Mi.aNil)) (hs : starEach [a] X.env = [(false, eval a X.env)] := by rfl) : DI X ct tg (.Call (.Name "range" p) [a] [] pos) (Mi.iRg1 f) :=
  ⟨fun W tk => PI.imp (pi_range1 hg hm (ha.run W tk) hs) fun σ H R ⟨w, m, S, h⟩ => by
    refine ⟨w, m, S, ?_⟩
    have h2 := h.bind
    show RE X.K ct σ w m H ((f m).bind fun x m1 => Res.ok [x] m1) _ _
    cases q : f m with
    | ok x m1 =>
      rw [q] at h2
      intro w1 H1 S1 e1 vs pv
      have h3 := h2 w1 H1 S1 e1
      dsimp only at h3
      cases pv with
      | cons pv t =>
        cases t
        split at h3
        · split at h3
          · rename_i hj
            cases pv
            exact ⟨_, rfl, (in62_ok hj).1, (in62_ok hj).2, RE.ok h3 S1 (Ext.refl ..) _ deliv_rng⟩
          · exact h3.elim
        · exact h3.elim
    | ex x m1 => rw [q] at h2; exact h2
    | bad => rw [q] at h2; exact h2⟩
theorem di_rg2 {p : Pos} {f g : Ev} (hg : Gl X "range") (hm : X.mg "range" = none) (ha : DA X ct [a, b] (Mi.aCons f (Mi.aCons g Mi.aNil))) (hs : starEach [a, b] X.env = [(false, eval a X.env), (false, eval b X.env)] := by rfl) (hs2 : starEach [b] X.env = [(false, eval b X.env)] := by rfl) : DI X ct tg (.Call (.Name "range" p) [a, b] [] pos) (Mi.iRg2 f g) :=
  ⟨fun W tk => PI.imp (pi_range2 hg hm (ha.run W tk) hs hs2) fun σ H R ⟨w, m, S, h⟩ => by
    have h : RE X.K ct σ w m H ((f m).bind fun x m1 => (g m1).bind fun y m2 => match x, y with
      | .v (.int i), .v (.int j) => if Mi.in62 i && Mi.in62 j then Res.ok (Mi.intsL i (j - i).toNat) m2 else .bad
      | _, _ => .bad) _ _ := h
    refine ⟨w, m, S, ?_⟩
    show RE X.K ct σ w m H ((f m).bind fun x m1 => ((g m1).bind fun y m2 => Res.ok [y] m2).bind fun xs m2 => .ok (x :: xs) m2) _ _
    cases q : f m with
    | ok x m1 =>
      rw [q] at h
      show RE X.K ct σ w m H (((g m1).bind fun y m2 => Res.ok [y] m2).bind fun xs m2 => .ok (x :: xs) m2) _ _
      have h : RE X.K ct σ w m H ((g m1).bind fun y m2 => match x, y with
        | .v (.int i), .v (.int j) => if Mi.in62 i && Mi.in62 j then Res.ok (Mi.intsL i (j - i).toNat) m2 else .bad
        | _, _ => .bad) _ _ := h
      cases q2 : g m1 with
      | ok y m2 =>
        rw [q2] at h
        intro w1 H1 S1 e1 vs pv
        cases pv with
        | cons pv t =>
          cases t with
          | cons pu t =>
            cases t
            have h : RE X.K ct σ w m H (match x, y with
              | .v (.int i), .v (.int j) => if Mi.in62 i && Mi.in62 j then Res.ok (Mi.intsL i (j - i).toNat) m2 else .bad
              | _, _ => .bad) _ _ := h
            split at h
            · split at h
              · rename_i hj
                rw [Bool.and_eq_true] at hj
                cases pv; cases pu
                exact ⟨_, _, rfl, ⟨(in62_ok hj.1).1, (in62_ok hj.1).2, (in62_ok hj.2).1, (in62_ok hj.2).2⟩, RE.ok h S1 e1 _ deliv_rng⟩
              · exact h.elim
            · exact h.elim
      | ex x m1 => rw [q2] at h; exact h
      | bad => rw [q2] at h; exact h
    | ex x m1 => rw [q] at h; exact h
    | bad => rw [q] at h; exact h⟩
theorem di_str {f : Ev} (he : DE X ct e f) : DI X ct tg e (Mi.iStr f) := ⟨fun W tk => PI.imp (pi_str (he.run W tk)) fun σ H R ⟨w, m, S, h⟩ => by
  refine tE.part S h fun x w1 m1 H1 v S1 e1 pv h1 => ?_
  split at h1
  · rename_i z
    cases pv
    refine ⟨_, rfl, RE.ok h1 S1 (Ext.refl ..) _ ?_⟩
    intro i w2 m2 H2 _ e2
    refine ⟨fun d hd => ?_, fun hl => by show z.toArray.size ≤ i; simpa using hl⟩
    rw [List.getElem?_map] at hd
    obtain ⟨c, hc, rfl⟩ := opt_map hd
    refine ⟨by show i < z.toArray.size; simpa using (List.getElem?_eq_some_iff.mp hc).1, fun v H3 ⟨q1, c', q2, q3⟩ => ⟨?_, .inl q1⟩⟩
    subst q1; subst q3
    have q2 : z.toArray[i]? = some c' := q2
    rw [List.getElem?_toArray, hc] at q2
    cases q2
    exact .str [c]
  · exact h1.elim⟩
theorem enum_get {xs : List D} {i : Nat} : (Mi.enum xs)[i]? = (xs[i]?).map fun d => .tup [.int (i : Nat), d] := by
  unfold Mi.enum
  rw [List.getElem?_map, List.getElem?_zipIdx]
  cases xs[i]? with
  | none => rfl
  | some d => simp
theorem di_enum {p tpos : Pos} {elts : List Expr} {kk : Nat} {f : Ev} (hg : Gl X "enumerate") (hm : X.mg "enumerate" = none) (ha : DA X ct [e] (Mi.aCons f Mi.aNil)) (hs : starEach [e] X.env = [(false, eval e X.env)] := by rfl) :
    DI X ct (.Tuple elts kk tpos) (.Call (.Name "enumerate" p) [e] [] pos) (Mi.iEnum f) :=
  ⟨fun W tk => PI.imp (pi_enum hg hm (ha.run W tk) hs) fun σ H R ⟨w, m, S, h⟩ => by
    refine ⟨w, m, S, ?_⟩
    have h2 := h.bind
    show RE X.K ct σ w m H ((f m).bind fun x m1 => Res.ok [x] m1) _ _
    cases q : f m with
    | ok x m1 =>
      rw [q] at h2
      intro w1 H1 S1 e1 vs pv
      have h3 := h2 w1 H1 S1 e1
      dsimp only at h3
      cases pv with
      | cons pv t =>
        cases t
        split at h3
        · rename_i xs
          cases pv with
          | @lst l _ us n g r =>
            refine ⟨l, us, rfl, SqL.of g.lst, RE.ok h3 S1 (Ext.refl ..) _ ?_⟩
            intro i w2 m2 H2 M2 e2
            obtain ⟨ws, g2, r2⟩ := list_at (.inl (.lst n g r)) e2
            refine ⟨fun d hd => ?_, fun hl => ⟨ws, g2, ?_⟩⟩
            · rw [enum_get] at hd
              obtain ⟨c, hc, rfl⟩ := opt_map hd
              obtain ⟨v, h4, h5⟩ := r2.get hc
              refine ⟨⟨ws, v, g2, h4⟩, fun u H3 ⟨T, y, q1, q2, q3, q4⟩ => ?_⟩
              subst q1; subst q3
              have := q4 ws g2
              rw [h4] at this
              cases this
              exact ⟨.tup (M2.notBad q2) (nd_same rfl) (.cons (.int _) (.cons (RepD.ext (Ext.fresh q2) h5) .nil)), .inr ⟨T, _, q2, rfl⟩⟩
            · rw [← r2.length]; unfold Mi.enum at hl; simpa using hl
        · exact h3.elim
    | ex x m1 => rw [q] at h2; exact h2
    | bad => rw [q] at h2; exact h2⟩

/-! ### loops -/
theorem SR.step {σ : L2.St} {H2 : Hp} (S : SR K ct w m H σ) (h : H2 = H ∨ ∃ p o, H p = none ∧ H2 = upd H p o) : SR K ct w m H2 σ ∧ Ext w m H w m H2 := by
  rcases h with rfl | ⟨p, o, hp, rfl⟩
  · exact ⟨S, Ext.refl ..⟩
  · exact ⟨S.fresh hp, Ext.fresh hp⟩
theorem ds_for {iter : Expr} {body : List Stmt} {b : Bd} {it : Iv} {f : Sv} (hp : PassesOwn (model X.prog X.w) X.A X.env X.xe) (hc : X.calm = true) (hi : DI X ct tg iter it) (hg : DG X ct tg b) (hb : DSs X ct body f)
    (hs : ∀ x, foldedSetIterable iter X.env x = pure x := by intro _; rfl) : DS X ct (.For tg iter body [] pos) (Mi.sFor b it f) :=
  ⟨fun W tk => PS.imp (ps_for hp hc (hi.run W tk) hg.run (hb.run W tk) hs) fun D σ H ⟨w, m, S, h⟩ => by
    have h : RO X.K ct W w m H ((it m).so fun xs m1 => Mi.forL b f xs m1) D := h
    refine ⟨w, m, S, ?_⟩
    cases q : it m with
    | bad => rw [q] at h; exact h
    | ex x m1 => rw [q] at h; exact fun w1 H1 S1 e1 cls dx hx => h w1 H1 σ cls dx S1 e1 hx
    | ok xs m1 =>
      rw [q] at h
      intro w1 H1 S1 e1 J hJ
      refine ⟨fun i n σ' H' => ∃ w2 m2, SR X.K ct w2 m2 H' σ' ∧ Ext w1 m1 H1 w2 m2 H' ∧ n = xs.length - i ∧ RO X.K ct W w2 m2 H' (Mi.forL b f (xs.drop i) m2) D, ⟨_, w1, m1, S1, Ext.refl .., rfl, RO.ext e1 h⟩, ?_⟩
      rintro i n σ' H' ⟨w2, m2, S2, e2, rfl, h2⟩
      obtain ⟨j1, j2⟩ := hJ i w2 m2 H' S2.M e2
      cases hx : xs[i]? with
      | none =>
        have hl : xs.length ≤ i := List.getElem?_eq_none_iff.mp hx
        refine .inl ⟨j2 hl, ?_⟩
        rw [List.drop_eq_nil_of_le hl] at h2
        exact RO.nx h2 S2
      | some d =>
        obtain ⟨hl, hd⟩ := List.getElem?_eq_some_iff.mp hx
        obtain ⟨j3, j4⟩ := j1 d hx
        rw [List.drop_eq_getElem_cons hl, hd] at h2
        have h2 : RO X.K ct W w2 m2 H' (match b.set d m2.σ with
          | none => .bad
          | some σ1 => match f ⟨σ1, m2.S⟩ with
            | .nx m2 => Mi.forL b f (xs.drop (i + 1)) m2
            | .ct m2 => Mi.forL b f (xs.drop (i + 1)) m2
            | .bk m2 => .nx m2
            | o => o) D := h2
        refine .inr ⟨j3, fun σ'' H'' => ∃ w3 m3, SR X.K ct w3 m3 H'' σ'' ∧ Ext w1 m1 H1 w3 m3 H'' ∧ RO X.K ct W w3 m3 H'' (Mi.forL b f (xs.drop (i + 1)) m3) D, fun σ'' H'' ⟨w3, m3, a1, a2, a3⟩ => ⟨xs.length - (i + 1), by omega, w3, m3, a1, a2, rfl, a3⟩, fun v H3 hy => ?_⟩
        obtain ⟨r, hH⟩ := j4 v H3 hy
        obtain ⟨S3, e3⟩ := S2.step hH
        have h3 := RO.ext e3 h2
        split at h3
        · exact h3.elim
        · rename_i σ1 hσ
          refine ⟨w2, m2, d, σ1, S3, r, hσ, fun σ4 S4 e4 _ _ => ⟨w2, _, S4, ?_⟩⟩
          have h4 := RO.ext e4 h3
          have e14 := (e2.trans e3).trans e4
          cases hf : f ⟨σ1, m2.S⟩ with
          | nx m5 => rw [hf] at h4; exact fun w5 H5 σ5 S5 e5 => ⟨w5, m5, S5, e14.trans e5, RO.ext e5 h4⟩
          | ct m5 => rw [hf] at h4; exact fun w5 H5 σ5 S5 e5 => ⟨w5, m5, S5, e14.trans e5, RO.ext e5 h4⟩
          | bk m5 => rw [hf] at h4; exact fun w5 H5 σ5 S5 e5 => h4 w5 H5 σ5 S5 e5
          | rt d5 m5 => rw [hf] at h4; exact h4
          | ex x5 m5 => rw [hf] at h4; exact h4
          | bad => rw [hf] at h4; exact h4⟩
theorem ds_while {c : Expr} {body : List Stmt} {t : Tv} {f : Sv} (hp : PassesOwn (model X.prog X.w) X.A X.env X.xe) (hc : DT X ct c t) (hb : DSs X ct body f) : DS X ct (.While c body [] pos) (Mi.sWhile t f) :=
  ⟨fun W tk => PS.imp (ps_while hp (hc.run W tk) (hb.run W tk)) fun D σ H ⟨w, m, S, h⟩ => by
    refine ⟨fun n σ' H' => ∃ w2 m2, SR X.K ct w2 m2 H' σ' ∧ RO X.K ct W w2 m2 H' (Mi.whileN t f n m2) D, ⟨_, w, m, S, h⟩, ?_⟩
    rintro n σ' H' ⟨w2, m2, S2, h2⟩
    cases n with
    | zero => exact h2.elim
    | succ n =>
      refine ⟨w2, m2, S2, ?_⟩
      have h2 : RO X.K ct W w2 m2 H' (match t m2 with
        | .ok true m1 => (match f m1 with
          | .nx m2 => Mi.whileN t f n m2
          | .ct m2 => Mi.whileN t f n m2
          | .bk m2 => .nx m2
          | o => o)
        | .ok false m1 => .nx m1
        | .ex x m1 => .ex x m1
        | .bad => .bad) D := h2
      cases q : t m2 with
      | bad => rw [q] at h2; exact h2
      | ex x m1 => rw [q] at h2; exact fun w1 H1 S1 e1 cls dx hx => h2 w1 H1 σ' cls dx S1 e1 hx
      | ok k m1 =>
        rw [q] at h2
        intro w3 H3 S3 e3
        cases k with
        | false => rw [if_neg Bool.false_ne_true]; exact h2 w3 H3 σ' S3 e3
        | true =>
          rw [if_pos rfl]
          have h3 := RO.ext e3 h2
          refine ⟨fun σ'' H'' => ∃ w4 m4, SR X.K ct w4 m4 H'' σ'' ∧ RO X.K ct W w4 m4 H'' (Mi.whileN t f n m4) D, fun σ'' H'' z => ⟨n, Nat.lt_succ_self n, z⟩, w3, m1, S3, ?_⟩
          have h3 : RO X.K ct W w3 m1 H3 (match f m1 with
            | .nx m2 => Mi.whileN t f n m2
            | .ct m2 => Mi.whileN t f n m2
            | .bk m2 => .nx m2
            | o => o) D := h3
          cases hf : f m1 with
          | nx m5 => rw [hf] at h3; exact fun w5 H5 σ5 S5 e5 => ⟨w5, m5, S5, RO.ext e5 h3⟩
          | ct m5 => rw [hf] at h3; exact fun w5 H5 σ5 S5 e5 => ⟨w5, m5, S5, RO.ext e5 h3⟩
          | bk m5 => rw [hf] at h3; exact fun w5 H5 σ5 S5 e5 => h3 w5 H5 σ5 S5 e5
          | rt d5 m5 => rw [hf] at h3; exact h3
          | ex x5 m5 => rw [hf] at h3; exact h3
          | bad => rw [hf] at h3; exact h3⟩
end
end So

set_option Elab.async false
set_option linter.all false
set_option maxRecDepth 100000
set_option maxHeartbeats 4000000
namespace So
open PySem PySem.Spec PyProof.Rows L2
open Mi (D Cl FV SC Me Xc Res PV Ky Ev Tv Av Lv Iv Ov Sv Bd Out Tx)

/-! ### what is told is moved to other worlds -/
structure Mv (w : Wd) (m : Me) (H : Hp) (w' : Wd) (m' : Me) (H' : Hp) : Prop where
  nd : ∀ a u, ¬ Bad w m a → Nd H a u → ¬ Bad w' m' a ∧ Nd H' a u
  gl : ∀ i c, m.S[i]? = some c → (∃ c', m'.S[i]? = some c') ∧ w'.α (.g i) = w.α (.g i)
section
variable {K : PySem.W.Frag} {ct : String → Option Addr} {w w' : Wd} {m m' : Me} {H H' : Hp}
theorem Mv.ndL (e : Mv w m H w' m' H') {a : Addr} {xs : List V} (n : ¬ Bad w m a) (h : NdL H a xs) : ¬ Bad w' m' a ∧ NdL H' a xs := by
  obtain ⟨u, h1, h2⟩ := h
  exact ⟨(e.nd a _ n h1).1, u, (e.nd a _ n h1).2, h2⟩
mutual
theorem RepD.mv (e : Mv w m H w' m' H') : ∀ {d : D} {v : V}, RepD K ct w m H d v → RepD K ct w' m' H' d v
  | _, _, .non => .non
  | _, _, .bl b => .bl b
  | _, _, .int i => .int i
  | _, _, .str x => .str x
  | _, _, .lst n h r => .lst (e.nd _ _ n h).1 (e.nd _ _ n h).2 (RepL.mv e r)
  | _, _, .scr h r => .scr (h.imp (fun z => e.ndL z.1 z.2) id) (RepL.mv e r)
  | _, _, .tup n h r => .tup (e.nd _ _ n h).1 (e.nd _ _ n h).2 (RepL.mv e r)
  | _, _, .dct n h r => .dct (e.nd _ _ n h).1 (e.nd _ _ n h).2 (RepK.mv e r)
  | _, _, .obj c n h r => .obj c (e.nd _ _ n h).1 (e.nd _ _ n h).2 (RepF.mv e r)
  | _, _, .ref (i := i) h => by
    obtain ⟨⟨c', h1⟩, e1⟩ := e.gl i _ h
    rw [← e1]
    exact .ref h1
theorem RepL.mv (e : Mv w m H w' m' H') : ∀ {d : List D} {v : List V}, RepL K ct w m H d v → RepL K ct w' m' H' d v
  | _, _, .nil => .nil
  | _, _, .cons h r => .cons (RepD.mv e h) (RepL.mv e r)
theorem RepK.mv (e : Mv w m H w' m' H') : ∀ {d : List (Ky × D)} {v : List (Key × V)}, RepK K ct w m H d v → RepK K ct w' m' H' d v
  | _, _, .nil => .nil
  | _, _, .cons h r => .cons (RepD.mv e h) (RepK.mv e r)
theorem RepF.mv (e : Mv w m H w' m' H') : ∀ {d : List (String × D)} {v : List (Str × V)}, RepF K ct w m H d v → RepF K ct w' m' H' d v
  | _, _, .nil => .nil
  | _, _, .cons h r => .cons (RepD.mv e h) (RepF.mv e r)
end
theorem RepG.mv (e : Mv w m H w' m' H') {i : Nat} (hf : ∀ f, w'.α (.f i f) = w.α (.f i f)) : ∀ {d : List (String × FV)} {v : List (Str × V)}, RepG K ct w m H i d v → RepG K ct w' m' H' i d v
  | _, _, .nil => .nil
  | _, _, .v h r => .v (RepD.mv e h) (RepG.mv e hf r)
  | _, _, .o (k := k) r => by rw [← hf k]; exact .o (RepG.mv e hf r)
  | _, _, .l (k := k) r => by rw [← hf k]; exact .l (RepG.mv e hf r)
theorem CellR.mv (e : Mv w m H w' m' H') {p : Pl} {a : Addr} {c : SC} (hf : ∀ i f, p = .g i → w'.α (.f i f) = w.α (.f i f)) (hH : H' a = H a) (h : CellR K ct w m H p a c) : CellR K ct w' m' H' p a c := by
  cases c with
  | ins c fs =>
    obtain ⟨C, dx, vs, i, hp, h1, h2, h3⟩ := h
    exact ⟨C, dx, vs, i, hp, h1, by rw [hH]; exact h2, h3.mv e (fun f => hf i f hp)⟩
  | c x =>
    cases x with
    | lst xs => obtain ⟨vs, h1, h2⟩ := h; exact ⟨vs, by rw [hH]; exact h1, h2.mv e⟩
    | dct xs => obtain ⟨vs, h1, h2⟩ := h; exact ⟨vs, by rw [hH]; exact h1, h2.mv e⟩
    | lkd xs => obtain ⟨vs, o, h1, h2⟩ := h; exact ⟨vs, o, by rw [hH]; exact h1, h2.mv e⟩
    | dcT xs => obtain ⟨vs, h1, h2⟩ := h; exact h2.elim
theorem ERel.mv {σ : L2.St} (e : Mv w m H w' m' H') (hs : m'.σ = m.σ) (ha : ∀ i, w'.α (.s i) = w.α (.s i)) (h : ERel K ct w m H σ) : ERel K ct w' m' H' σ := by
  refine ⟨by rw [hs]; exact h.len, fun i x y h1 h2 => ?_⟩
  rw [hs] at h1
  have z := h.at_ i x y h1 h2
  cases x with
  | none => trivial
  | some f =>
    cases f with
    | v d => obtain ⟨u, e1, r⟩ := z; exact ⟨u, e1, r.mv e⟩
    | o c => show y = _; rw [ha]; exact z
    | lent => trivial
/-- an address that is nobody's is put aside -/
def Wd.add (w : Wd) (P : Addr → Prop) : Wd := ⟨w.α, fun a => w.O a ∨ P a⟩
def del (H : Hp) (p : Addr) : Hp := fun b => if b = p then none else H b
theorem del_ne {H : Hp} {p a : Addr} (h : a ≠ p) : del H p a = H a := by unfold del; rw [if_neg h]
theorem del_same {H : Hp} {p : Addr} : del H p p = none := by unfold del; rw [if_pos rfl]
theorem upd_del {H : Hp} {p : Addr} {o : HO} (h : H p = some o) : upd (del H p) p o = H := by
  funext b
  by_cases e : b = p
  · subst e; rw [upd_same, h]
  · rw [upd_ne e, del_ne e]
theorem mv_hide {p : Addr} {o : HO} (hp : H p = none) : Mv w m H (w.add fun a => a = p) m (upd H p o) := by
  refine ⟨fun a u n ⟨x, h1, h2⟩ => ?_, fun i c h => ⟨⟨c, h⟩, rfl⟩⟩
  have ne : a ≠ p := ne_of_none h1 hp
  refine ⟨?_, x, by rw [upd_ne ne]; exact h1, h2⟩
  rintro ((z | z) | z)
  · exact n (.inl z)
  · exact ne z
  · exact n (.inr z)
theorem SR.hide {σ : L2.St} {p : Addr} {o : HO} (S : SR K ct w m H σ) (hp : H p = none) : SR K ct (w.add fun a => a = p) m (upd H p o) σ := by
  have e := mv_hide (w := w) (m := m) (o := o) hp
  refine ⟨⟨S.M.inj, fun q c h => ?_, fun a h => ?_, fun q c h => ?_⟩, S.E.mv e rfl fun _ => rfl⟩
  · obtain ⟨u, hu⟩ := S.M.there h
    exact (S.M.cells q c h).mv e (fun _ _ _ => rfl) (upd_ne (ne_of_none hu hp))
  · rcases h with h | h
    · obtain ⟨u, hu⟩ := S.M.out a h
      exact ⟨u, by rw [upd_ne (ne_of_none hu hp)]; exact hu⟩
    · have h : a = p := h
      subst h; exact ⟨o, upd_same⟩
  · rintro (z | z)
    · exact S.M.nout q c h z
    · obtain ⟨u, hu⟩ := S.M.there h
      exact ne_of_none hu hp z
theorem mv_unhide {w1 : Wd} {p : Addr} (hO : ∀ a, (w.add fun a => a = p).O a → w1.O a) : Mv w1 m H ⟨w1.α, w.O⟩ m (del H p) := by
  refine ⟨fun a u n ⟨x, h1, h2⟩ => ?_, fun i c h => ⟨⟨c, h⟩, rfl⟩⟩
  have ne : a ≠ p := fun z => n (.inl (hO a (.inr z)))
  refine ⟨?_, x, by rw [del_ne ne]; exact h1, h2⟩
  rintro (z | z)
  · exact n (.inl (hO a (.inl z)))
  · exact n (.inr z)
theorem SR.unhide {σ : L2.St} {w1 : Wd} {p : Addr} (S : SR K ct w1 m H σ) (hO : ∀ a, (w.add fun a => a = p).O a → w1.O a) (hp : ¬ w.O p) : SR K ct ⟨w1.α, w.O⟩ m (del H p) σ := by
  have e := mv_unhide (m := m) (H := H) hO
  have nO : ∀ q c, cellAt m q = some c → w1.α q ≠ p := fun q c h z => S.M.nout q c h (hO _ (.inr z))
  refine ⟨⟨S.M.inj, fun q c h => ?_, fun a h => ?_, fun q c h z => ?_⟩, S.E.mv e rfl fun _ => rfl⟩
  · exact (S.M.cells q c h).mv e (fun _ _ _ => rfl) (del_ne (nO q c h))
  · obtain ⟨u, hu⟩ := S.M.out a (hO a (.inl h))
    exact ⟨u, by rw [del_ne (fun z => hp (by rw [← z]; exact h))]; exact hu⟩
  · exact S.M.nout q c h (hO _ (.inl z))
theorem ext_unhide {w1 : Wd} {m1 : Me} {H1 : Hp} {p : Addr} {o : HO} (hp : H p = none) (e : Ext (w.add fun a => a = p) m (upd H p o) w1 m1 H1) : Ext w m H ⟨w1.α, w.O⟩ m1 (del H1 p) := by
  refine ⟨fun _ h => h, fun _ _ _ _ h => h, fun i c h => e.gl i c h, fun a u hu n => ?_⟩
  have ne : a ≠ p := ne_of_none hu hp
  obtain ⟨h1, n'⟩ := e.keep a u (by rw [upd_ne ne]; exact hu) n
  exact ⟨by rw [del_ne ne]; exact h1, n'⟩
/-- into the world where it is put aside -/
theorem ext_hide {p : Addr} {o : HO} (hp : H p = none) : Ext w m H (w.add fun a => a = p) m (upd H p o) := by
  refine ⟨fun _ h => .inl h, fun a u hu _ z => ?_, fun i c h => ⟨⟨c, h⟩, rfl⟩, fun a u hu n => ⟨by rw [upd_ne (ne_of_none hu hp)]; exact hu, n⟩⟩
  rcases z with z | z
  · exact z
  · exact absurd z (ne_of_none hu hp)
end

/-! ### comprehensions -/
structure DTs (X : Cx) (ct : String → Option Addr) (ifs : List Expr) (f : Tv) : Prop where
  run : ∀ W, L2.Takes X W → PTs X ifs (tT X.K ct W f)
theorem PTs.imp {X : Cx} {e : List Expr} {t t' : TT} (h : PTs X e t) (i : ∀ σ H Q, t' σ H Q → t σ H Q) : PTs X e t' := ⟨fun pins s σ H Q I q => h.run pins s σ H Q I (i _ _ _ q)⟩
theorem dts_nil {X : Cx} {ct : String → Option Addr} : DTs X ct [] Mi.tYes := ⟨fun W tk => PTs.imp pts_nil fun σ H Q ⟨w, m, S, h⟩ => RE.ok h S (Ext.refl ..)⟩
theorem dts_one {X : Cx} {ct : String → Option Addr} {c : Expr} {f : Tv} (h : DT X ct c f) : DTs X ct [c] f := ⟨fun W tk => pts_one (h.run W tk)⟩
theorem mwipe_ne {σ : Mi.Env} {j : Nat} : ∀ {vs : List Nat}, j ∉ vs → (Mi.wipe σ vs)[j]? = σ[j]?
  | [], _ => rfl
  | v :: vs, h => by
    rw [List.mem_cons, not_or] at h
    show ((Mi.wipe σ vs).set v none)[j]? = _
    rw [List.getElem?_set_ne (fun z => h.1 z.symm)]
    exact mwipe_ne h.2
theorem mwipe_len {σ : Mi.Env} : ∀ vs : List Nat, (Mi.wipe σ vs).length = σ.length
  | [] => rfl
  | v :: vs => by show ((Mi.wipe σ vs).set v none).length = _; rw [List.length_set]; exact mwipe_len vs
theorem mwipe_mem {σ : Mi.Env} {j : Nat} {x : Option FV} : ∀ {vs : List Nat}, j ∈ vs → (Mi.wipe σ vs)[j]? = some x → x = none
  | v :: vs, h, e => by
    have e : ((Mi.wipe σ vs).set v none)[j]? = some x := e
    by_cases q : v = j
    · subst q
      by_cases hl : v < (Mi.wipe σ vs).length
      · rw [List.getElem?_set_self hl] at e; exact (Option.some.inj e).symm
      · rw [List.getElem?_eq_none (by simpa using hl)] at e; cases e
    · rw [List.getElem?_set_ne q] at e
      rcases List.mem_cons.mp h with h | h
      · exact absurd h.symm q
      · exact mwipe_mem h e
theorem lwipe_ne {σ : L2.St} {j : Nat} : ∀ {vs : List Nat}, j ∉ vs → (L2.wipe σ vs)[j]? = σ[j]?
  | [], _ => rfl
  | v :: vs, h => by
    rw [List.mem_cons, not_or] at h
    show ((L2.wipe σ vs).set v none)[j]? = _
    rw [List.getElem?_set_ne (fun z => h.1 z.symm)]
    exact lwipe_ne h.2
theorem lwipe_mem {σ : L2.St} {j : Nat} : ∀ {vs : List Nat}, j ∈ vs → j < σ.length → (L2.wipe σ vs)[j]? = some none
  | v :: vs, h, e => by
    show ((L2.wipe σ vs).set v none)[j]? = _
    by_cases q : v = j
    · subst q
      rw [List.getElem?_set_self (by rw [L2.wipe_length]; exact e)]
    · rw [List.getElem?_set_ne q]
      rcases List.mem_cons.mp h with h | h
      · exact absurd h.symm q
      · exact lwipe_mem h e
theorem lwipe_eq {σ σ' : L2.St} {vs : List Nat} (hl : σ'.length = σ.length) (h : ∀ j, j ∉ vs → σ'[j]? = σ[j]?) : L2.wipe σ' vs = L2.wipe σ vs := by
  refine List.ext_getElem? fun j => ?_
  by_cases q : j ∈ vs
  · by_cases hj : j < σ.length
    · rw [lwipe_mem q hj, lwipe_mem q (by rw [hl]; exact hj)]
    · rw [List.getElem?_eq_none (by rw [L2.wipe_length, hl]; omega), List.getElem?_eq_none (by rw [L2.wipe_length]; omega)]
  · rw [lwipe_ne q, lwipe_ne q, h j q]
theorem lwipe_idem {σ : L2.St} {vs : List Nat} : L2.wipe (L2.wipe σ vs) vs = L2.wipe σ vs := lwipe_eq (L2.wipe_length _ _) fun j h => lwipe_ne h
section
variable {K : PySem.W.Frag} {ct : String → Option Addr} {w w' : Wd} {m m' : Me} {H H' : Hp} {σ : L2.St} {own : List Nat}
theorem cell_wipe {σm : Mi.Env} {S : List SC} (ho : ∀ j ∈ own, (Me.mk σm S).slot j = none) (S' : List SC) (p : Pl) : cellAt ⟨Mi.wipe σm own, S'⟩ p = cellAt ⟨σm, S'⟩ p := by
  cases p with
  | g i => rfl
  | f i s => rfl
  | s j =>
    show ((Me.mk (Mi.wipe σm own) S').slot j).map SC.c = ((Me.mk σm S').slot j).map SC.c
    congr 1
    unfold Mi.Me.slot
    by_cases q : j ∈ own
    · have h1 := ho j q
      unfold Mi.Me.slot at h1
      have h1' : (match σm[j]? with | some (some (.o c)) => some c | _ => none) = (none : Option Cl) := h1
      show (match (Mi.wipe σm own)[j]? with | some (some (.o c)) => some c | _ => none) = (match σm[j]? with | some (some (.o c)) => some c | _ => none)
      rw [h1']
      cases e : (Mi.wipe σm own)[j]? with
      | none => rfl
      | some x => rw [mwipe_mem q e]
    · show (match (Mi.wipe σm own)[j]? with | some (some (.o c)) => some c | _ => none) = (match σm[j]? with | some (some (.o c)) => some c | _ => none)
      rw [mwipe_ne q]
/-- into the block -/
theorem SR.wiped {σm : Mi.Env} {S : List SC} (R : SR K ct w ⟨σm, S⟩ H σ) (ho : ∀ j ∈ own, (Me.mk σm S).slot j = none) : SR K ct w ⟨Mi.wipe σm own, S⟩ H (L2.wipe σ own) ∧ Ext w ⟨σm, S⟩ H w ⟨Mi.wipe σm own, S⟩ H ∧ Ext w ⟨Mi.wipe σm own, S⟩ H w ⟨σm, S⟩ H := by
  have e : Ext w ⟨σm, S⟩ H w ⟨Mi.wipe σm own, S⟩ H := Ext.sub rfl fun p c h => by rw [cell_wipe ho] at h; exact h
  have e' : Ext w ⟨Mi.wipe σm own, S⟩ H w ⟨σm, S⟩ H := Ext.sub rfl fun p c h => by rw [cell_wipe ho]; exact h
  refine ⟨⟨R.M.sub rfl fun p c h => by rw [cell_wipe ho] at h; exact h, ?_⟩, e, e'⟩
  refine ⟨by show (Mi.wipe σm own).length = _; rw [mwipe_len, L2.wipe_length]; exact R.E.len, fun j x y h1 h2 => ?_⟩
  have h1 : (Mi.wipe σm own)[j]? = some x := h1
  by_cases q : j ∈ own
  · rw [mwipe_mem q h1]; trivial
  · rw [mwipe_ne q] at h1
    rw [lwipe_ne q] at h2
    have r := R.E.at_ j x y h1 h2
    cases x with
    | none => trivial
    | some f =>
      cases f with
      | v d => obtain ⟨u, e1, r'⟩ := r; exact ⟨u, e1, r'.ext e⟩
      | o c => exact r
      | lent => trivial
/-- out of the block -/
theorem SR.unwiped {σm : Mi.Env} {S S' : List SC} (R : SR K ct w ⟨σm, S⟩ H σ) (ho : ∀ j ∈ own, (Me.mk σm S).slot j = none) (R' : SR K ct w' ⟨Mi.wipe σm own, S'⟩ H' (L2.wipe σ own)) (e : Ext w ⟨Mi.wipe σm own, S⟩ H w' ⟨Mi.wipe σm own, S'⟩ H') :
    SR K ct w' ⟨σm, S'⟩ H' σ ∧ Ext w ⟨σm, S⟩ H w' ⟨σm, S'⟩ H' ∧ Ext w' ⟨Mi.wipe σm own, S'⟩ H' w' ⟨σm, S'⟩ H' := by
  have ho' : ∀ j ∈ own, (Me.mk σm S').slot j = none := ho
  obtain ⟨_, e1, e1'⟩ := R.wiped ho
  have e2 : Ext w' ⟨Mi.wipe σm own, S'⟩ H' w' ⟨σm, S'⟩ H' := Ext.sub rfl fun p c h => by rw [cell_wipe ho']; exact h
  have e3 := (e1.trans e).trans e2
  refine ⟨⟨R'.M.sub rfl fun p c h => by rw [cell_wipe ho']; exact h, ⟨R.E.len, fun j x y h1 h2 => ?_⟩⟩, e3, e2⟩
  have r0 := R.E.at_ j x y h1 h2
  cases x with
  | none => trivial
  | some f =>
    cases f with
    | v d => obtain ⟨u, q1, r'⟩ := r0; exact ⟨u, q1, r'.ext e3⟩
    | lent => trivial
    | o c =>
      have nj : j ∉ own := fun hj => by
        have z := ho j hj
        unfold Mi.Me.slot at z
        have h1 : σm[j]? = some (some (.o c)) := h1
        have z : (match σm[j]? with | some (some (.o c)) => some c | _ => none) = (none : Option Cl) := z
        rw [h1] at z
        cases z
      exact R'.E.at_ j _ _ (by show (Mi.wipe σm own)[j]? = _; rw [mwipe_ne nj]; exact h1) (by rw [lwipe_ne nj]; exact h2)
end
end So

set_option Elab.async false
set_option linter.all false
set_option maxRecDepth 100000
set_option maxHeartbeats 4000000
namespace So
open PySem PySem.Spec PyProof.Rows L2
open Mi (D Cl FV SC Me Xc Res PV Ky Ev Tv Av Lv Iv Ov Sv Bd Out Tx)

theorem bTs_facts : ∀ {is : List Nat} {ds : List D} {σ σ1 : Mi.Env}, Mi.bTs is ds σ = some σ1 → σ1.length = σ.length ∧ (∀ j, j ∉ is → σ1[j]? = σ[j]?) ∧ ∀ (j : Nat) (c : Cl), σ1[j]? = some (some (FV.o c)) → σ[j]? = some (some (FV.o c))
  | [], [], σ, σ1, h => by
    have h : some σ = some σ1 := h
    cases h; exact ⟨rfl, fun _ _ => rfl, fun _ _ h => h⟩
  | [], _ :: _, _, _, h => by cases h
  | _ :: _, [], _, _, h => by cases h
  | i :: is, d :: ds, σ, σ1, h => by
    have h : (if i < σ.length then Mi.bTs is ds (σ.set i (some (.v d))) else none) = some σ1 := h
    split at h
    · rename_i hl
      obtain ⟨h1, h2, h3⟩ := bTs_facts h
      refine ⟨by rw [h1, List.length_set], fun j hj => ?_, fun j c hc => ?_⟩
      · rw [List.mem_cons, not_or] at hj
        rw [h2 j hj.2, List.getElem?_set_ne fun z => hj.1 z.symm]
      · have z := h3 j c hc
        by_cases q : i = j
        · subst q; rw [List.getElem?_set_self hl] at z; cases z
        · rw [List.getElem?_set_ne q] at z; exact z
    · cases h
theorem bset_facts {b : Bd} {d : D} {σ σ1 : Mi.Env} (h : b.set d σ = some σ1) : σ1.length = σ.length ∧ (∀ j, j ∉ b.ix → σ1[j]? = σ[j]?) ∧ ∀ (j : Nat) (c : Cl), σ1[j]? = some (some (FV.o c)) → σ[j]? = some (some (FV.o c)) := by
  cases b with
  | n i =>
    have h : (if i < σ.length then some (σ.set i (some (.v d))) else none) = some σ1 := h
    split at h
    · rename_i hl
      cases h
      refine ⟨List.length_set .., fun j hj => List.getElem?_set_ne fun z => hj (by rw [z]; exact List.mem_cons_self), fun j c hc => ?_⟩
      by_cases q : i = j
      · subst q; rw [List.getElem?_set_self hl] at hc; cases hc
      · rw [List.getElem?_set_ne q] at hc; exact hc
    · cases h
  | t is =>
    cases d with
    | tup ds => exact bTs_facts (show Mi.bTs is ds σ = some σ1 from h)
    | _ => cases h
theorem mwipe_eq {σ σ' : Mi.Env} {vs : List Nat} (hl : σ'.length = σ.length) (h : ∀ j, j ∉ vs → σ'[j]? = σ[j]?) : Mi.wipe σ' vs = Mi.wipe σ vs := by
  refine List.ext_getElem? fun j => ?_
  by_cases q : j ∈ vs
  · cases e1 : (Mi.wipe σ' vs)[j]? with
    | none =>
      have : (Mi.wipe σ vs).length ≤ j := by rw [mwipe_len, ← hl, ← mwipe_len vs]; exact List.getElem?_eq_none_iff.mp e1
      rw [List.getElem?_eq_none this]
    | some x =>
      have hj : j < (Mi.wipe σ vs).length := by rw [mwipe_len, ← hl, ← mwipe_len vs]; exact (List.getElem?_eq_some_iff.mp e1).1
      have e2 : (Mi.wipe σ vs)[j]? = some (Mi.wipe σ vs)[j] := List.getElem?_eq_some_iff.mpr ⟨hj, rfl⟩
      rw [e2, mwipe_mem q e1, mwipe_mem q e2]
  · rw [mwipe_ne q, mwipe_ne q, h j q]
theorem upd_del2 {H : Hp} {p : Addr} {o : HO} : upd (del H p) p o = upd H p o := by
  funext b
  by_cases e : b = p
  · subst e; rw [upd_same, upd_same]
  · rw [upd_ne e, upd_ne e, del_ne e]
section
variable {X : Cx} {ct : String → Option Addr} {elt tg iter : Expr} {ifs : List Expr} {scope : Scope} {own : List (Str × Nat)} {pos : Pos} {b : Bd} {it : Iv} {t : Tv} {f : Ev}
theorem own_none {m : Me} {vs : List Nat} (h : (vs.all fun j => (m.slot j).isNone) = true) : ∀ j ∈ vs, (Me.mk m.σ m.S).slot j = none := fun j hj => by
  have := List.all_eq_true.mp h j hj
  exact Option.isNone_iff_eq_none.mp this
theorem comp_read {W : WX} {σ : L2.St} {H : Hp} {Q : VK} (hix : ∀ j ∈ b.ix, j ∈ own.map (·.2)) (h : tL X.K ct W (Mi.lComp (own.map (·.2)) b it t f) σ H Q) :
    tLc (tI X.K ct W it) (tG X.K ct b) (tT X.K ct (fun _ _ _ _ => False) t) (tE X.K ct (fun _ _ _ _ => False) f) (own.map (·.2)) σ H Q := by
  obtain ⟨w, m, S, h⟩ := h
  generalize hvs : own.map (·.2) = vs at h hix ⊢
  refine ⟨w, m, S, h.bind.imp (fun xs w1 m1 H1 S1 e1 h1 J hJ D hD => ?_) fun _ _ _ _ _ _ z => z⟩
  split at h1
  · rename_i hown
    have ho := own_none hown
    split at h1
    · rename_i ys m2 hc
      obtain ⟨S1w, e1w, e1w'⟩ := S1.wiped (σm := m1.σ) (S := m1.S) ho
      -- the invariant
      refine ⟨fun i n H' => ∃ Hs wi Si us acc, H' = upd Hs D (.lst us) ∧ Hs D = none ∧ SR X.K ct wi ⟨Mi.wipe m1.σ vs, Si⟩ Hs (L2.wipe σ vs) ∧ Ext w1 ⟨Mi.wipe m1.σ vs, m1.S⟩ H1 wi ⟨Mi.wipe m1.σ vs, Si⟩ Hs ∧
        RepL X.K ct wi ⟨Mi.wipe m1.σ vs, Si⟩ Hs acc us ∧ n = xs.length - i ∧ Mi.comp b t f (Mi.wipe m1.σ vs) (xs.drop i) Si acc = .ok ys m2,
        ⟨_, H1, w1, m1.S, [], [], rfl, hD, S1w, Ext.refl .., .nil, rfl, hc⟩, ?_⟩
      rintro i n H' ⟨Hs, wi, Si, us, acc, rfl, hsD, Si1, ei, ra, rfl, hci⟩
      have hi : SR X.K ct (wi.add fun a => a = D) ⟨Mi.wipe m1.σ vs, Si⟩ (upd Hs D (.lst us)) (L2.wipe σ vs) := Si1.hide hsD
      have notO : ¬ wi.O D := fun z => by
        obtain ⟨o, ho⟩ := Si1.M.out D z
        rw [hsD] at ho; cases ho
      -- the iterator sees the world with D put aside
      obtain ⟨Su, eu, eu'⟩ := S1.unwiped (σm := m1.σ) (S := m1.S) (S' := Si) ho Si1 ei
      have eO : Ext wi ⟨m1.σ, Si⟩ Hs wi ⟨m1.σ, Si⟩ (upd Hs D (.lst us)) := Ext.fresh hsD
      have Sh : SR X.K ct (wi.add fun a => a = D) ⟨m1.σ, Si⟩ (upd Hs D (.lst us)) σ := Su.hide hsD
      obtain ⟨j1, j2⟩ := hJ i (wi.add fun a => a = D) ⟨m1.σ, Si⟩ (upd Hs D (.lst us)) Sh.M (eu.trans (ext_hide hsD))
      cases hx : xs[i]? with
      | none =>
        have hl : xs.length ≤ i := List.getElem?_eq_none_iff.mp hx
        refine .inl ⟨j2 hl, ?_⟩
        rw [List.drop_eq_nil_of_le hl] at hci
        have hci : (Res.ok acc ⟨Mi.wipe m1.σ vs, Si⟩ : Res (List Mi.D)) = .ok ys m2 := by
          rw [← hci]; unfold Mi.comp; rfl
        cases hci
        exact RE.ok h1 Su eu us D (ra.ext eu') hsD
      | some d =>
        obtain ⟨hl, hd⟩ := List.getElem?_eq_some_iff.mp hx
        obtain ⟨j3, j4⟩ := j1 d hx
        rw [List.drop_eq_getElem_cons hl, hd] at hci
        unfold Mi.comp at hci
        refine .inr ⟨j3, fun H'' => ∃ Hs wi Si us acc, H'' = upd Hs D (.lst us) ∧ Hs D = none ∧ SR X.K ct wi ⟨Mi.wipe m1.σ vs, Si⟩ Hs (L2.wipe σ vs) ∧ Ext w1 ⟨Mi.wipe m1.σ vs, m1.S⟩ H1 wi ⟨Mi.wipe m1.σ vs, Si⟩ Hs ∧
          RepL X.K ct wi ⟨Mi.wipe m1.σ vs, Si⟩ Hs acc us ∧ Mi.comp b t f (Mi.wipe m1.σ vs) (xs.drop (i + 1)) Si acc = .ok ys m2,
          fun H'' ⟨a1, a2, a3, a4, a5, a6, a7, a8, a9, a10, a11⟩ => ⟨xs.length - (i + 1), by omega, a1, a2, a3, a4, a5, a6, a7, a8, a9, a10, rfl, a11⟩, fun v H3 hy => ?_⟩
        obtain ⟨rv, hH⟩ := j4 v H3 hy
        obtain ⟨S3, e3⟩ := hi.step hH
        have rv' : RepD X.K ct (wi.add fun a => a = D) ⟨Mi.wipe m1.σ vs, Si⟩ H3 d v := RepD.ext (Ext.sub (m' := ⟨Mi.wipe m1.σ vs, Si⟩) (m := ⟨m1.σ, Si⟩) rfl fun p c h => by rw [cell_wipe (S := m1.S) ho] at h; exact h) rv
        split at hci
        · cases hci
        · rename_i σ1 hσ
          obtain ⟨f1, f2, f3⟩ := bset_facts hσ
          refine ⟨wi.add fun a => a = D, ⟨Mi.wipe m1.σ vs, Si⟩, d, σ1, S3, rv', hσ, fun σ2 S4 e4 g1 g2 => ?_⟩
          have hw2 : L2.wipe σ2 vs = L2.wipe σ vs := by
            rw [lwipe_eq (σ := L2.wipe σ vs) g2 fun j hj => g1 j fun z => hj (hix j z)]
            exact lwipe_idem
          have hw1 : Mi.wipe σ1 vs = Mi.wipe m1.σ vs := by
            rw [mwipe_eq (σ := Mi.wipe m1.σ vs) f1 fun j hj => f2 j fun z => hj (hix j z)]
            exact mwipe_eq (mwipe_len _) fun j hj => mwipe_ne hj
          have ho1 : ∀ j ∈ vs, (Me.mk σ1 Si).slot j = none := fun j hj => by
            unfold Mi.Me.slot
            show (match σ1[j]? with | some (some (.o c)) => some c | _ => none) = (none : Option Cl)
            split
            · rename_i c q
              have z := mwipe_mem hj (f3 j c q)
              cases z
            · rfl
          refine ⟨hw2, ?_⟩
          have e34 := (ext_hide (w := wi) (m := ⟨Mi.wipe m1.σ vs, Si⟩) (o := .lst us) hsD).trans (e3.trans e4)
          have eD : Ext (wi.add fun a => a = D) ⟨Mi.wipe m1.σ vs, Si⟩ (upd Hs D (.lst us)) (wi.add fun a => a = D) ⟨σ1, Si⟩ H3 := e3.trans e4
          -- back to the world between the turns
          have back : ∀ {w5 : Wd} {S5 : List SC} {H5 : Hp}, SR X.K ct w5 ⟨σ1, S5⟩ H5 σ2 → Ext (wi.add fun a => a = D) ⟨σ1, Si⟩ H3 w5 ⟨σ1, S5⟩ H5 →
              H5 D = some (.lst us) ∧ SR X.K ct ⟨w5.α, wi.O⟩ ⟨Mi.wipe m1.σ vs, S5⟩ (del H5 D) (L2.wipe σ vs) ∧ Ext w1 ⟨Mi.wipe m1.σ vs, m1.S⟩ H1 ⟨w5.α, wi.O⟩ ⟨Mi.wipe m1.σ vs, S5⟩ (del H5 D) ∧
              RepL X.K ct ⟨w5.α, wi.O⟩ ⟨Mi.wipe m1.σ vs, S5⟩ (del H5 D) acc us ∧ ∀ d v, RepD X.K ct w5 ⟨σ1, S5⟩ H5 d v → RepD X.K ct ⟨w5.α, wi.O⟩ ⟨Mi.wipe m1.σ vs, S5⟩ (del H5 D) d v := by
            intro w5 S5 H5 R5 e5
            have e05 := eD.trans e5
            have hO : ∀ a, (wi.add fun a => a = D).O a → w5.O a := fun a h => e05.Om a h
            have hD5 : H5 D = some (.lst us) := by
              exact (e05.keep D _ upd_same fun ⟨p, c, k1, k2⟩ => hi.M.nout p c k1 (.inr k2)).1
            have ho5 : ∀ j ∈ vs, (Me.mk σ1 S5).slot j = none := ho1
            obtain ⟨R6, e6, _⟩ := R5.wiped ho5
            rw [hw1, hw2] at R6
            rw [hw1] at e6
            have R7 := R6.unhide hO notO
            have e7 := ext_unhide hsD (e05.trans e6)
            exact ⟨hD5, R7, ei.trans e7, ra.ext e7, fun d v r => RepD.mv (mv_unhide hO) (RepD.ext e6 r)⟩
          refine ⟨_, ⟨σ1, Si⟩, S4, ?_⟩
          cases q : t ⟨σ1, Si⟩ with
          | bad => rw [q] at hci; cases hci
          | ex x mt => rw [q] at hci; cases hci
          | ok k mt =>
            rw [q] at hci
            intro w5 H5 S5 e5
            cases k with
            | false =>
              rw [if_neg Bool.false_ne_true]
              dsimp only at hci
              split at hci
              · rename_i hm
                obtain ⟨σt, St⟩ := mt
                subst hm
                obtain ⟨b1, b2, b3, b4, _⟩ := back S5 e5
                exact ⟨_, _, St, us, acc, (upd_del b1).symm, del_same, b2, b3, b4, hci⟩
              · cases hci
            | true =>
              rw [if_pos rfl]
              dsimp only at hci
              split at hci
              · rename_i hm
                split at hci
                · rename_i y mf hf
                  split at hci
                  · rename_i hz
                    refine ⟨w5, mt, S5, ?_⟩
                    rw [hf]
                    intro w6 H6 S6 e6 u pu
                    obtain ⟨σt, St⟩ := mt
                    obtain ⟨σf, Sf⟩ := mf
                    obtain ⟨hz1, hz2⟩ := hz
                    have hm : σt = σ1 := hm
                    have hz1 : σf = σ1 := hz1
                    subst hm
                    subst hz1
                    obtain ⟨b1, b2, b3, b4, b5⟩ := back S6 (e5.trans e6)
                    refine ⟨us, b1, by rw [← ra.length, ← big_eq]; exact hz2, ?_⟩
                    exact ⟨_, _, Sf, us ++ [u], acc ++ [y], upd_del2.symm, del_same, b2, b3, b4.append (.cons (b5 _ _ pu) .nil), hci⟩
                  · cases hci
                · cases hci
              · cases hci
    · exact h1.elim
  · exact h1.elim
/-- [e for x in xs if t] -/
theorem dl_comp (hc : X.calm = true) (hN : X.N.Nodup) (hi : DI X ct tg iter it) (ok : BlkOk X.N X.env.scope scope own)
    (hg : ∀ (s : Shared) (H : Hp) (C : Addr) (cl : List (Str × Addr)) (fp : List Addr), DG (X.blk s H scope (compEnvC scope cl C X.env) fp) ct tg b) (ht : ∀ (s : Shared) (H : Hp) (C : Addr) (cl : List (Str × Addr)) (fp : List Addr), DTs (X.blk s H scope (compEnvC scope cl C X.env) fp) ct ifs t)
    (he : ∀ (s : Shared) (H : Hp) (C : Addr) (cl : List (Str × Addr)) (fp : List Addr), DE (X.blk s H scope (compEnvC scope cl C X.env) fp) ct elt f) (hix : ∀ j ∈ b.ix, j ∈ own.map (·.2)) (hs : ∀ x, foldedSetIterable iter X.env x = pure x := by intro _; rfl) :
    DL X ct (.ListComp elt [⟨tg, iter, ifs, 0⟩] scope pos) (Mi.lComp (own.map (·.2)) b it t f) :=
  ⟨fun W tk => PE.imp (pe_lc hc hN (hi.run W tk) ok (fun s H C cl fp => (hg s H C cl fp).run) (fun s H C cl fp => (ht s H C cl fp).run _ takes0) (fun s H C cl fp => (he s H C cl fp).run _ takes0) hs) fun σ H Q h => comp_read hix h⟩
/-- y = [..], y a slot that is not changed -/
theorem ds_setLc {i : Nat} {y : Str} {py spos : Pos} (hc : X.calm = true) (hN : X.N.Nodup) (hy : X.N[i]? = some y) (hyl : X.env.scope.names.lookup y = some .local)
    (hsw : swapsWith (.ListComp elt [⟨tg, iter, ifs, 0⟩] scope pos) (some (.Name y py)) spos.line X.env = pure true) (hi : DI X ct tg iter it) (ok : BlkOk X.N X.env.scope scope own)
    (hg : ∀ (s : Shared) (H : Hp) (C : Addr) (cl : List (Str × Addr)) (fp : List Addr), DG (X.blk s H scope (compEnvC scope cl C X.env) fp) ct tg b) (ht : ∀ (s : Shared) (H : Hp) (C : Addr) (cl : List (Str × Addr)) (fp : List Addr), DTs (X.blk s H scope (compEnvC scope cl C X.env) fp) ct ifs t)
    (he : ∀ (s : Shared) (H : Hp) (C : Addr) (cl : List (Str × Addr)) (fp : List Addr), DE (X.blk s H scope (compEnvC scope cl C X.env) fp) ct elt f) (hix : ∀ j ∈ b.ix, j ∈ own.map (·.2)) (hs : ∀ x, foldedSetIterable iter X.env x = pure x := by intro _; rfl) :
    DS X ct (.Assign [.Name y py] (.ListComp elt [⟨tg, iter, ifs, 0⟩] scope pos) spos) (Mi.sSet i (Mi.eL (Mi.lComp (own.map (·.2)) b it t f))) :=
  ⟨fun W tk => PS.imp (ps_setLc hc hN hy hyl hsw (hi.run W tk) ok (fun s H C cl fp => (hg s H C cl fp).run) (fun s H C cl fp => (ht s H C cl fp).run _ takes0) (fun s H C cl fp => (he s H C cl fp).run _ takes0) hs) fun D σ H ⟨w, m, S, h⟩ => by
    refine comp_read (W := W) (t := t) (f := f) hix ?_
    have h' : RO X.K ct W w m H ((Mi.lComp (own.map (·.2)) b it t f m).so fun xs m1 => if i < m1.σ.length then .nx ⟨m1.σ.set i (some (.v (.lst xs))), m1.S⟩ else .bad) D := by
      unfold Mi.sSet Mi.eL at h
      cases q : Mi.lComp (own.map (·.2)) b it t f m with
      | ok xs m1 => rw [q] at h; exact h
      | ex x m1 => rw [q] at h; exact h
      | bad => rw [q] at h; exact h
    refine tL.so S h' fun x w1 m1 H1 vs p S1 e1 r hp h1 => ?_
    split at h1
    · have r' : RepD X.K ct w1 ⟨m1.σ, m1.S⟩ (upd H1 p (.lst vs)) (.lst x) (.ref p) := .lst (S1.M.notBad hp) (nd_same rfl) (r.ext (Ext.fresh hp))
      obtain ⟨S2, e2⟩ := SR.setV (σm := m1.σ) (S := m1.S) (S1.fresh hp) (i := i) r'
      exact h1 _ _ _ S2 ((Ext.fresh hp).trans e2)
    · exact h1.elim⟩
/-- .. that owns it -/
theorem ds_ownLc {i : Nat} {y : Str} {py spos : Pos} (hc : X.calm = true) (hN : X.N.Nodup) (hy : X.N[i]? = some y) (hyl : X.env.scope.names.lookup y = some .local)
    (hsw : swapsWith (.ListComp elt [⟨tg, iter, ifs, 0⟩] scope pos) (some (.Name y py)) spos.line X.env = pure true) (hi : DI X ct tg iter it) (ok : BlkOk X.N X.env.scope scope own)
    (hg : ∀ (s : Shared) (H : Hp) (C : Addr) (cl : List (Str × Addr)) (fp : List Addr), DG (X.blk s H scope (compEnvC scope cl C X.env) fp) ct tg b) (ht : ∀ (s : Shared) (H : Hp) (C : Addr) (cl : List (Str × Addr)) (fp : List Addr), DTs (X.blk s H scope (compEnvC scope cl C X.env) fp) ct ifs t)
    (he : ∀ (s : Shared) (H : Hp) (C : Addr) (cl : List (Str × Addr)) (fp : List Addr), DE (X.blk s H scope (compEnvC scope cl C X.env) fp) ct elt f) (hix : ∀ j ∈ b.ix, j ∈ own.map (·.2)) (hs : ∀ x, foldedSetIterable iter X.env x = pure x := by intro _; rfl) :
    DS X ct (.Assign [.Name y py] (.ListComp elt [⟨tg, iter, ifs, 0⟩] scope pos) spos) (Mi.sOwn i (Mi.lComp (own.map (·.2)) b it t f)) :=
  ⟨fun W tk => PS.imp (ps_setLc hc hN hy hyl hsw (hi.run W tk) ok (fun s H C cl fp => (hg s H C cl fp).run) (fun s H C cl fp => (ht s H C cl fp).run _ takes0) (fun s H C cl fp => (he s H C cl fp).run _ takes0) hs) fun D σ H ⟨w, m, S, h⟩ => by
    refine comp_read (W := W) (t := t) (f := f) hix ?_
    refine tL.so S h fun x w1 m1 H1 vs p S1 e1 r hp h1 => ?_
    split at h1
    · obtain ⟨S2, e2⟩ := SR.setO (σm := m1.σ) (S := m1.S) S1 (i := i) (c := .lst x) hp (o := .lst vs) fun w' m' H' e' h' => ⟨vs, h', r.ext e'⟩
      exact h1 _ _ _ S2 e2
    · exact h1.elim⟩
end
end So

set_option Elab.async false
set_option linter.all false
set_option maxRecDepth 100000
set_option maxHeartbeats 4000000
namespace So
open PySem PySem.Spec PyProof.Rows L2
open Mi (D Cl FV SC Me Xc Res PV Ky Ev Tv Av Lv Iv Ov Sv Bd Out Tx RG Cal Tb)

theorem RE.ext {K : PySem.W.Frag} {ct : String → Option Addr} {α : Type} {w w1 : Wd} {m m1 : Me} {H H1 : Hp} {σ : L2.St} {r : Res α} {P : α → Wd → Me → Hp → Prop} {Px : Xc → Wd → Me → Hp → Prop} (e : Ext w m H w1 m1 H1) (h : RE K ct σ w m H r P Px) : RE K ct σ w1 m1 H1 r P Px := by
  cases r with
  | ok a m2 => exact fun w2 H2 S2 e2 => h w2 H2 S2 (e.trans e2)
  | ex a m2 => exact fun w2 H2 S2 e2 => h w2 H2 S2 (e.trans e2)
  | bad => exact h
/-! ### what a function promises -/
section
variable (K : PySem.W.Frag) (ct : String → Option Addr)
def spOf (g : List D → List SC → RG) : Sp := fun vs H Q E => ∃ w S ds, MRel K ct w ⟨[], S⟩ H ∧ RepL K ct w ⟨[], S⟩ H ds vs ∧
  match g ds S with
  | .ok d S' => ∀ w' v H', MRel K ct w' ⟨[], S'⟩ H' → Ext w ⟨[], S⟩ H w' ⟨[], S'⟩ H' → RepD K ct w' ⟨[], S'⟩ H' d v → Q v H'
  | .ex x S' => ∀ w' cls dx H', MRel K ct w' ⟨[], S'⟩ H' → Ext w ⟨[], S⟩ H w' ⟨[], S'⟩ H' → ExR K ct w' ⟨[], S'⟩ H' x cls dx → E cls dx H'
  | .bad => False
end
theorem cell_nil {σm : Mi.Env} {S : List SC} {p : Pl} {c : SC} (h : cellAt ⟨[], S⟩ p = some c) : cellAt ⟨σm, S⟩ p = some c ∧ ∀ i, p ≠ .s i := by
  cases p with
  | g i => exact ⟨h, fun _ => by simp⟩
  | f i s => exact ⟨h, fun _ => by simp⟩
  | s i =>
    have h : ((Me.mk [] S).slot i).map SC.c = some c := h
    have e : (Me.mk [] S).slot i = none := by unfold Mi.Me.slot; rfl
    rw [e] at h; cases h
section
variable {K : PySem.W.Frag} {ct : String → Option Addr} {w w1 : Wd} {σm : Mi.Env} {S S1 : List SC} {H H1 : Hp} {σ : L2.St}
/-- the callee's world: this frame's cells are put aside -/
def Wd.call (w : Wd) (m : Me) : Wd := ⟨w.α, fun a => w.O a ∨ ∃ i c, m.slot i = some c ∧ a = w.α (.s i)⟩
/-- the world behind a call -/
def Wd.back (w w1 : Wd) : Wd := ⟨fun p => match p with | .s i => w.α (.s i) | p => w1.α p, w.O⟩
theorem mv_call : Mv w ⟨σm, S⟩ H (w.call ⟨σm, S⟩) ⟨[], S⟩ H := by
  refine ⟨fun a u n h => ⟨?_, h⟩, fun i c h => ⟨⟨c, h⟩, rfl⟩⟩
  rintro ((z | ⟨i, c, z1, z2⟩) | ⟨p, c, z1, z2⟩)
  · exact n (.inl z)
  · exact n (.inr ⟨.s i, .c c, by show ((Me.mk σm S).slot i).map SC.c = _; rw [z1]; rfl, z2.symm⟩)
  · exact n (.inr ⟨p, c, (cell_nil z1).1, z2⟩)
theorem slot_cell {m : Me} {i : Nat} {c : Cl} (h : m.slot i = some c) : cellAt m (.s i) = some (.c c) := by show (m.slot i).map SC.c = _; rw [h]; rfl
theorem MRel.call (M : MRel K ct w ⟨σm, S⟩ H) : MRel K ct (w.call ⟨σm, S⟩) ⟨[], S⟩ H := by
  refine ⟨fun p q c c' h1 h2 => M.inj p q c c' (cell_nil h1).1 (cell_nil h2).1, fun p c h => (M.cells p c (cell_nil h).1).mv mv_call (fun _ _ _ => rfl) rfl, fun a h => ?_, fun p c h z => ?_⟩
  · rcases h with h | ⟨i, c, h1, rfl⟩
    · exact M.out a h
    · exact M.there (slot_cell h1)
  · rcases z with z | ⟨i, c', h1, h2⟩
    · exact M.nout p c (cell_nil h).1 z
    · exact (cell_nil (σm := σm) h).2 i (M.inj _ _ _ _ (cell_nil h).1 (slot_cell h1) h2)
theorem cell_back {p : Pl} {c : SC} (h : cellAt ⟨σm, S1⟩ p = some c) : (∃ i z, p = .s i ∧ c = .c z ∧ (Me.mk σm S).slot i = some z) ∨ ((∀ i, p ≠ .s i) ∧ cellAt ⟨[], S1⟩ p = some c) := by
  cases p with
  | g i => exact .inr ⟨fun _ => by simp, h⟩
  | f i s => exact .inr ⟨fun _ => by simp, h⟩
  | s i =>
    obtain ⟨z, h1, h2⟩ := opt_map (show ((Me.mk σm S1).slot i).map SC.c = some c from h)
    exact .inl ⟨i, z, rfl, h2, h1⟩
theorem back_ne {p : Pl} (h : ∀ i, p ≠ .s i) : (w.back w1).α p = w1.α p := by
  cases p with
  | g i => rfl
  | f i s => rfl
  | s i => exact absurd rfl (h i)
theorem after_call (R : SR K ct w ⟨σm, S⟩ H σ) (M1 : MRel K ct w1 ⟨[], S1⟩ H1) (e : Ext (w.call ⟨σm, S⟩) ⟨[], S⟩ H w1 ⟨[], S1⟩ H1) :
    SR K ct (w.back w1) ⟨σm, S1⟩ H1 σ ∧ Ext w ⟨σm, S⟩ H (w.back w1) ⟨σm, S1⟩ H1 ∧ Mv w1 ⟨[], S1⟩ H1 (w.back w1) ⟨σm, S1⟩ H1 := by
  -- this frame's cells are as they were
  have own : ∀ i c, (Me.mk σm S).slot i = some c → w1.O (w.α (.s i)) ∧ ∃ o, H (w.α (.s i)) = some o ∧ H1 (w.α (.s i)) = some o := fun i c h => by
    have ho : (w.call ⟨σm, S⟩).O (w.α (.s i)) := .inr ⟨i, c, h, rfl⟩
    obtain ⟨o, h1⟩ := R.M.there (slot_cell h)
    exact ⟨e.Om _ ho, o, h1, (e.keep _ o h1 fun ⟨p, c', k1, k2⟩ => MRel.nout R.M.call p c' k1 (by rw [k2]; exact ho)).1⟩
  have ext : Ext w ⟨σm, S⟩ H (w.back w1) ⟨σm, S1⟩ H1 := by
    refine ⟨fun _ h => h, fun _ _ _ _ h => h, fun i c h => e.gl i c h, fun a o h n => ?_⟩
    have n' : ¬ MutA (w.call ⟨σm, S⟩).α ⟨[], S⟩ a := fun ⟨p, c, k1, k2⟩ => n ⟨p, c, (cell_nil k1).1, k2⟩
    obtain ⟨h1, h2⟩ := e.keep a o h n'
    refine ⟨h1, ?_⟩
    rintro ⟨p, c, k1, k2⟩
    rcases cell_back (S := S) k1 with ⟨i, z, rfl, rfl, hs⟩ | ⟨hp, k3⟩
    · exact n ⟨.s i, .c z, slot_cell hs, k2⟩
    · rw [back_ne hp] at k2
      exact h2 ⟨p, c, k3, k2⟩
  have mv : Mv w1 ⟨[], S1⟩ H1 (w.back w1) ⟨σm, S1⟩ H1 := by
    refine ⟨fun a u n h => ⟨?_, h⟩, fun i c h => ⟨⟨c, h⟩, rfl⟩⟩
    rintro (z | ⟨p, c, k1, k2⟩)
    · exact n (.inl (e.Om a (.inl z)))
    · rcases cell_back (S := S) k1 with ⟨i, z, rfl, rfl, hs⟩ | ⟨hp, k3⟩
      · exact n (.inl (by rw [← k2]; exact (own i z hs).1))
      · rw [back_ne hp] at k2
        exact n (.inr ⟨p, c, k3, k2⟩)
  have apart : ∀ {p : Pl} {c : SC} {i : Nat} {z : Cl}, cellAt ⟨[], S1⟩ p = some c → (Me.mk σm S).slot i = some z → w1.α p ≠ w.α (.s i) := fun {p c i z} h1 h2 h3 => M1.nout p c h1 (by rw [h3]; exact (own i z h2).1)
  refine ⟨⟨⟨fun p q c c' h1 h2 h3 => ?_, fun p c h => ?_, fun a h => M1.out a (e.Om a (.inl h)), fun p c h z => ?_⟩, R.E.ext ext rfl fun _ => rfl⟩, ext, mv⟩
  · rcases cell_back (S := S) h1 with ⟨i, z, rfl, rfl, hs⟩ | ⟨hp, k3⟩ <;> rcases cell_back (S := S) h2 with ⟨j, y, rfl, rfl, hs'⟩ | ⟨hq, k4⟩
    · exact R.M.inj _ _ _ _ (slot_cell hs) (slot_cell hs') h3
    · rw [back_ne hq] at h3
      exact absurd h3.symm (apart k4 hs)
    · rw [back_ne hp] at h3
      exact absurd h3 (apart k3 hs')
    · rw [back_ne hp, back_ne hq] at h3
      exact M1.inj _ _ _ _ k3 k4 h3
  · rcases cell_back (S := S) h with ⟨i, z, rfl, rfl, hs⟩ | ⟨hp, k3⟩
    · obtain ⟨_, o, h1, h2⟩ := own i z hs
      exact (R.M.cells _ _ (slot_cell hs)).ext ext (fun _ _ q => nomatch q) (by show H1 (w.α (.s i)) = H (w.α (.s i)); rw [h1, h2])
    · rw [back_ne hp]
      exact (M1.cells p c k3).mv mv (fun _ _ _ => rfl) rfl
  · rcases cell_back (S := S) h with ⟨i, y, rfl, rfl, hs⟩ | ⟨hp, k3⟩
    · exact R.M.nout _ _ (slot_cell hs) z
    · rw [back_ne hp] at z
      exact M1.nout p c k3 (e.Om _ (.inl z))
theorem ExR.mv {m m' : Me} {w' : Wd} {H' : Hp} (e : Mv w m H w' m' H') {x : Xc} {cls : Value} {dx : Option Addr} (h : ExR K ct w m H x cls dx) : ExR K ct w' m' H' x cls dx := by
  obtain ⟨C, h1, h2, h0, h3⟩ := h
  refine ⟨C, h1, h2, h0, fun n => ?_⟩
  obtain ⟨d, vs, e1, n1, n2, r⟩ := h3 n
  exact ⟨d, vs, e1, (e.nd _ _ n1 n2).1, (e.nd _ _ n1 n2).2, RepF.mv e r⟩
/-- the callee's promise from the caller's wish -/
theorem call_read {g : List D → List SC → RG} {ds : List D} {vs : List V} {P : PV → Wd → Me → Hp → Prop} {Q : VK} {E : XK} {Px : Xc → Wd → Me → Hp → Prop} (R : SR K ct w ⟨σm, S⟩ H σ) (r : RepL K ct w ⟨σm, S⟩ H ds vs)
    (h : RE K ct σ w ⟨σm, S⟩ H ((g ds S).res σm) P Px) (hP : ∀ x' w' m' H' v, PVR K ct w' m' H' σ x' v → P x' w' m' H' → Q v H') (hX : ∀ x w' m' H' cls dx, ExR K ct w' m' H' x cls dx → Px x w' m' H' → E cls dx H') : spOf K ct g vs H Q E := by
  refine ⟨w.call ⟨σm, S⟩, S, ds, R.M.call, r.mv mv_call, ?_⟩
  cases q : g ds S with
  | ok d S' =>
    rw [q] at h
    intro w1 v H1 M1 e1 rd
    obtain ⟨R2, e2, mv⟩ := after_call R M1 e1
    exact hP (.v d) _ ⟨σm, S'⟩ _ v (RepD.mv mv rd) (RE.ok h R2 e2)
  | ex x S' =>
    rw [q] at h
    intro w1 cls dx H1 M1 e1 rx
    obtain ⟨R2, e2, mv⟩ := after_call R M1 e1
    exact hX _ _ _ _ cls dx (rx.mv mv) (h _ _ R2 e2)
  | bad => rw [q] at h; exact h
end

/-! ### the program's functions and classes -/
structure FnAt (K : PySem.W.Frag) (ct : String → Option Addr) (P : Program) (w : World) (mg : Str → Option Value) (base : Heap) (k : Nat) (f : Addr) (g : List D → List SC → RG) : Prop where
  ex : ∃ fd ps, Binds K fd ps [] ∧ FnOk P w K mg base (L2.CX P w) k f fd ps (spOf K ct g)
structure PF (K : PySem.W.Frag) (ct : String → Option Addr) (P : Program) (w : World) (mg : Str → Option Value) (base : Heap) (k : Nat) (C : Cal) (T : Tb) (fns : List String) : Prop where
  fn : ∀ f ∈ fns, ∃ a, mg (nm f) = some (.ref a) ∧ PySem.W.keepIn K (.ref a) = true ∧ FnAt K ct P w mg base k a (C f)
  mt : ∀ c f key, T.mt c f = some key → ∃ Ca a, ct c = some Ca ∧ Cls K Ca ∧ Meth K Ca (nm f) a ∧ FnAt K ct P w mg base k a (C key)
  ini : ∀ c key, T.ini c = some key → key ≠ "" → ∃ Ca a, ct c = some Ca ∧ mg (nm c) = some (.ref Ca) ∧ Mk K Ca a ∧ FnAt K ct P w mg base k a (C key)
  ini0 : ∀ c, T.ini c = some "" → ∃ Ca, ct c = some Ca ∧ mg (nm c) = some (.ref Ca) ∧ PySem.W.makesIn K Ca = true ∧ PySem.W.findIn K (.ref Ca) "__init__" = some (some (.builtin "object.__init__")) ∧ PySem.W.keepIn K (.ref Ca) = true ∧ PySem.W.mroIn K Ca (.type "object") = some true
  fl : ∀ c f, T.fl c f = true → ∃ Ca, ct c = some Ca ∧ Cls K Ca ∧ NoAttr K Ca (nm f)
section
variable {X : Cx} {ct : String → Option Addr} {k : Nat} {C : Cal} {T : Tb} {fns : List String} {x : Str} {p pos apos : Pos} {e o : Expr} {es : List Expr} {fa : Av} {fo : Ev}
theorem args_read {W : WX} {w : Wd} {m : Me} {H : Hp} {σ : L2.St} {P : PV → Wd → Me → Hp → Prop} {g : List D → List SC → RG} {Q : VK} (S : SR X.K ct w m H σ)
    (h : RE X.K ct σ w m H ((fa m).bind fun ps m1 => match PV.ds ps with | some ds => (g ds m1.S).res m1.σ | none => .bad) P (PxW X.K ct W σ)) (hP : ∀ x' w' m' H' v, PVR X.K ct w' m' H' σ x' v → P x' w' m' H' → Q v H') :
    tA X.K ct W fa σ H fun vs H1 => spOf X.K ct g vs H1 Q fun cls dx H' => W cls dx σ H' := by
  refine tA.part S h fun ps w1 m1 H1 vs S1 e1 pv h1 => ?_
  cases qd : PV.ds ps with
  | none => rw [qd] at h1; exact h1.elim
  | some ds =>
    rw [qd] at h1
    exact call_read (σm := m1.σ) (S := m1.S) S1 (ds_rep pv qd) h1 hP fun x w' m' H' cls dx hx hp => hp cls dx hx
theorem de_call (G : PF X.K ct X.prog X.w X.mg X.base k C T fns) (hr : Room k X.A) (f : String) (hf : f ∈ fns) (ha : DA X ct (e :: es) fa) (hx : nm f = x := by rfl) (hg : Gl X x := by rfl) (hdb : (x == ("__debug__" : Str)) = false := by decide)
    (he : starEach (e :: es) X.env = (false, eval e X.env) :: starEach es X.env := by rfl) (hpl : (backTo pos (starEach es X.env)).any (·.1) = false := by rfl) : DE X ct (.Call (.Name x p) (e :: es) [] pos) (Mi.eCall C f fa) := by
  subst hx
  obtain ⟨a, h1, h2, ⟨fd, ps, hb, F⟩⟩ := G.fn f hf
  refine ⟨fun W tk => PE.imp (pe_callS F hr hg h1 h2 hb (fun σ => passAt tk σ) (ha.run W tk) hdb he hpl) fun σ H Q ⟨w, m, S, h⟩ => ?_⟩
  exact args_read S h fun _ _ _ _ v pv hp => hp v pv
/-- f() -/
theorem pe_callS0 {CX : CXT} {a : Addr} {fd : FuncData} {ps : List Str} {sp : Sp} {E : L2.St → XK} (F : FnOk X.prog X.w X.K X.mg X.base CX k a fd ps sp) (hr : Room k X.A) (hg : Gl X x) (hm : X.mg x = some (.ref a)) (hk : PySem.W.keepIn X.K (.ref a) = true) (hb : Binds X.K fd ps []) (hx : ∀ σ, PassesAt CX X σ (E σ))
    (hdb : (x == ("__debug__" : Str)) = false := by decide) : PE X (.Call (.Name x p) [] [] pos) (tCallS sp E tNil) :=
  ⟨fun pins s σ H Q I h => wpAny_Call_Name_kw (ld_glob I hg hm (PySem.W.callWith_K0 I.kIn hk (run_fnS (us := []) F hr hb (hx σ) I .nil h)) hdb)⟩
theorem de_call0 (G : PF X.K ct X.prog X.w X.mg X.base k C T fns) (hr : Room k X.A) (f : String) (hf : f ∈ fns) (hx : nm f = x := by rfl) (hg : Gl X x := by rfl) (hdb : (x == ("__debug__" : Str)) = false := by decide) : DE X ct (.Call (.Name x p) [] [] pos) (Mi.eCall C f Mi.aNil) := by
  subst hx
  obtain ⟨a, h1, h2, ⟨fd, ps, hb, F⟩⟩ := G.fn f hf
  refine ⟨fun W tk => PE.imp (pe_callS0 F hr hg h1 h2 hb (fun σ => passAt tk σ) hdb) fun σ H Q ⟨w, m, S, h⟩ => ?_⟩
  exact call_read (σm := m.σ) (S := m.S) S (ds := []) (vs := []) .nil h (fun _ _ _ _ v pv hp => hp v pv) fun x w' m' H' cls dx hx hp => hp cls dx hx

/-! ### objects -/
theorem lookup_nm {α β : Type} (f : String) (k : String) (a : α) (r : List (Str × α)) : List.lookup (nm f) ((nm k, a) :: r) = if k = f then some a else List.lookup (nm f) r := by
  rw [List.lookup_cons]
  by_cases h : k = f
  · subst h; simp
  · have h' : ¬ nm f = nm k := fun z => h (nm_inj z).symm
    have : (nm f == nm k) = false := by simpa using h'
    rw [this, if_neg h]
theorem lookup_s {α : Type} (f k : String) (a : α) (r : List (String × α)) : List.lookup f ((k, a) :: r) = if k = f then some a else List.lookup f r := by
  rw [List.lookup_cons]
  by_cases h : k = f
  · subst h; simp
  · have : (f == k) = false := by simpa using fun z => h z.symm
    rw [this, if_neg h]
section
variable {K : PySem.W.Frag} {w : Wd} {m : Me} {H : Hp} {σ : L2.St}
theorem RepF.look (f : String) : ∀ {fs : List (String × D)} {vs : List (Str × V)}, RepF K ct w m H fs vs → (vs.lookup (nm f) = none ∧ (fs.map fun p => (p.1, FV.v p.2)).lookup f = none) ∨ ∃ d v, vs.lookup (nm f) = some v ∧ (fs.map fun p => (p.1, FV.v p.2)).lookup f = some (.v d) ∧ RepD K ct w m H d v
  | _, _, .nil => .inl ⟨rfl, rfl⟩
  | _, _, .cons (k := j) (d := d) (v := v) r t => by
    rw [List.map_cons, lookup_nm (β := Nat), lookup_s]
    by_cases h : j = f
    · rw [if_pos h, if_pos h]; exact .inr ⟨d, v, rfl, rfl, r⟩
    · rw [if_neg h, if_neg h]; exact RepF.look f t
theorem RepG.look (f : String) {i : Nat} : ∀ {fs : List (String × FV)} {vs : List (Str × V)}, RepG K ct w m H i fs vs → (vs.lookup (nm f) = none ∧ fs.lookup f = none) ∨ ∃ x v, vs.lookup (nm f) = some v ∧ fs.lookup f = some x ∧ ∀ d, x = .v d → RepD K ct w m H d v
  | _, _, .nil => .inl ⟨rfl, rfl⟩
  | _, _, @RepG.v _ _ _ _ _ _ j d u _ _ r t => by
    rw [lookup_nm (β := Nat), lookup_s]
    by_cases h : j = f
    · rw [if_pos h, if_pos h]; exact .inr ⟨_, u, rfl, rfl, fun d' e => by cases e; exact r⟩
    · rw [if_neg h, if_neg h]; exact RepG.look f t
  | _, _, .o (k := j) t => by
    rw [lookup_nm (β := Nat), lookup_s]
    by_cases h : j = f
    · rw [if_pos h, if_pos h]; exact .inr ⟨_, _, rfl, rfl, fun d' e => nomatch e⟩
    · rw [if_neg h, if_neg h]; exact RepG.look f t
  | _, _, .l (k := j) t => by
    rw [lookup_nm (β := Nat), lookup_s]
    by_cases h : j = f
    · rw [if_pos h, if_pos h]; exact .inr ⟨_, _, rfl, rfl, fun d' e => nomatch e⟩
    · rw [if_neg h, if_neg h]; exact RepG.look f t
/-- an object and its fields -/
theorem SR.obj (S : SR K ct w m H σ) {y : PV} {v : V} {c : String} {fs : List (String × FV)} (r : PVR K ct w m H σ y v) (h : m.obj y = some (c, fs)) :
    ∃ a Ca dx vs, v = .ref a ∧ ct c = some Ca ∧ H a = some (.ins Ca dx vs) ∧ ∀ f, (vs.lookup (nm f) = none ∧ fs.lookup f = none) ∨ ∃ x v, vs.lookup (nm f) = some v ∧ fs.lookup f = some x ∧ ∀ d, x = .v d → RepD K ct w m H d v := by
  cases y with
  | sl i => cases h
  | v d =>
    cases d with
    | obj c' fs' =>
      cases h
      cases r with
      | obj hc n g r => exact ⟨_, _, _, _, rfl, hc, g.ins, fun f => (r.look f).imp id fun ⟨d, v, a1, a2, a3⟩ => ⟨_, v, a1, a2, fun d' e => by cases e; exact a3⟩⟩
    | ref n =>
      have h : (match m.S[n]? with | some (.ins c fs) => some (c, fs) | _ => none) = some (c, fs) := h
      split at h
      · rename_i q
        cases h
        cases r
        obtain ⟨Ca, dx, vs, i, _, h1, h2, h3⟩ := S.M.cells (.g n) _ q
        exact ⟨_, Ca, dx, vs, rfl, h1, h2, fun f => h3.look f⟩
      · cases h
    | _ => cases h
end
theorem de_fld (G : PF X.K ct X.prog X.w X.mg X.base k C T fns) (f : String) {fS : Str} (ho : DE X ct o fo) (hx : nm f = fS := by rfl) (hb : attributeBase o fS X.env (eval o X.env) = eval o X.env := by rfl) : DE X ct (.Attribute o fS pos) (Mi.eFld T f fo) := by
  subst hx
  refine ⟨fun W tk => PE.imp (pe_fld (ho.run W tk) hb) fun σ H Q ⟨w, m, S, h⟩ => ?_⟩
  refine tE.part S h fun y w1 m1 H1 v S1 e1 pv h1 => ?_
  split at h1
  · rename_i c fs q
    split at h1
    · rename_i hfl
      split at h1
      · rename_i d ql
        obtain ⟨a, Ca, dx, vs, rfl, g1, g2, g3⟩ := S1.obj pv q
        obtain ⟨Ca', g4, g5, g6⟩ := G.fl c f hfl
        rw [g1] at g4; cases g4
        rcases g3 f with ⟨_, z⟩ | ⟨y', v', z1, z2, z3⟩
        · rw [ql] at z; cases z
        · rw [ql] at z2; cases z2
          exact ⟨a, Ca, dx, vs, v', rfl, g2, g5, g6, z1, RE.ok h1 S1 (Ext.refl ..) _ (z3 d rfl)⟩
      · exact h1.elim
    · exact h1.elim
  · exact h1.elim
/-- one of several readings -/
theorem PE.any {ι : Type} {G : ι → Prop} {t : ι → TE} (h : ∀ i, G i → PE X e (t i)) : PE X e (fun σ H Q => ∃ i, G i ∧ t i σ H Q) := ⟨fun pins s σ H Q I ⟨i, g, q⟩ => (h i g).run pins s σ H Q I q⟩
/-- o.m(..), what is raised is wished for at the slots -/
def tMethS (Ca : Addr) (m : Str) (sp : Sp) (E : L2.St → XK) (ta : TE) (t : TA) : TE := fun σ H Q => ta σ H fun x H1 => ∃ a dx fs, x = .ref a ∧ H1 a = some (.ins Ca dx fs) ∧ fs.lookup m = none ∧ t σ H1 fun vs H2 => sp (x :: vs) H2 Q (E σ)
theorem pe_methS {CX : CXT} {Ca a : Addr} {fd : FuncData} {ps : List Str} {sp : Sp} {E : L2.St → XK} {mS : Str} {ta : TE} {t : TA} {pl : Sem Bool} (ho : PE X o ta) (c : Cls X.K Ca) (hm : Meth X.K Ca mS a) (F : FnOk X.prog X.w X.K X.mg X.base CX k a fd ps sp) (hr : Room k X.A) (hb : Binds X.K fd ps []) (hx : ∀ σ, PassesAt CX X σ (E σ))
    (ha : PA X (e :: es) t) (hst : starEach (e :: es) X.env = (false, eval e X.env) :: starEach es X.env) (hpl : (backTo pos (starEach es X.env)).any (·.1) = false)
    (ht : eval (.Call (.Attribute o mS apos) (e :: es) [] pos) X.env = (do
      let ov ← eval o X.env
      standAt apos.atName
      let (f, first) ← holding [ov] (getMethod ov mS pl)
      callWith pos f first (backTo pos (starEach (e :: es) X.env)) (backToKw pos (keywordEach [] X.env)))) :
    PE X (.Call (.Attribute o mS apos) (e :: es) [] pos) (tMethS Ca mS sp E ta t) :=
  ⟨fun pins s σ H Q I h => PySem.W.methodCall_KW (pl := pl) (thn (ho.run pins s σ H _ I h) fun u s1 ⟨x, H1, I1, rx, b, dx, fs, ex, eb, l, q⟩ => by
    subst ex
    obtain rfl : u = Value.ref b := rx
    refine getmeth_ok I1 eb c hm l (PySem.W.callWith_K (first := [.ref b]) (h₀ := X.base) I.ok.mod.kin hm.kp (thn (ha.run pos pins s1 σ H1 _ I1 q) fun us s2 ⟨vs, H2, I2, r, q2⟩ => ⟨I2.kIn, ?_⟩) hst hpl)
    exact run_fnS (us := .ref b :: us) (vs := .ref b :: vs) F hr hb (hx σ) I2 (.cons rfl r) q2) ht⟩
theorem pe_methS0 {CX : CXT} {Ca a : Addr} {fd : FuncData} {ps : List Str} {sp : Sp} {E : L2.St → XK} {mS : Str} {ta : TE} {pl : Sem Bool} (ho : PE X o ta) (c : Cls X.K Ca) (hm : Meth X.K Ca mS a) (F : FnOk X.prog X.w X.K X.mg X.base CX k a fd ps sp) (hr : Room k X.A) (hb : Binds X.K fd ps []) (hx : ∀ σ, PassesAt CX X σ (E σ))
    (ht : eval (.Call (.Attribute o mS apos) [] [] pos) X.env = (do
      let ov ← eval o X.env
      standAt apos.atName
      let (f, first) ← holding [ov] (getMethod ov mS pl)
      callWith pos f first (backTo pos (starEach [] X.env)) (backToKw pos (keywordEach [] X.env)))) :
    PE X (.Call (.Attribute o mS apos) [] [] pos) (tMethS Ca mS sp E ta tNil) :=
  ⟨fun pins s σ H Q I h => PySem.W.methodCall_KW (pl := pl) (thn (ho.run pins s σ H _ I h) fun u s1 ⟨x, H1, I1, rx, b, dx, fs, ex, eb, l, q⟩ => by
    subst ex
    obtain rfl : u = Value.ref b := rx
    exact getmeth_ok I1 eb c hm l (PySem.W.callWith_K0 (first := [.ref b]) I1.kIn hm.kp (run_fnS (us := [.ref b]) (vs := [.ref b]) F hr hb (hx σ) I1 (.cons rfl .nil) q))) ht⟩
/-- a method's class, its function -/
structure MtAt (X : Cx) (ct : String → Option Addr) (C : Cal) (T : Tb) (k : Nat) (f : String) where
  c : String
  key : String
  Ca : Addr
  a : Addr
  fd : FuncData
  ps : List Str
def MtAt.Ok {X : Cx} {ct : String → Option Addr} {C : Cal} {T : Tb} {k : Nat} {f : String} (i : MtAt X ct C T k f) : Prop :=
  T.mt i.c f = some i.key ∧ ct i.c = some i.Ca ∧ Cls X.K i.Ca ∧ Meth X.K i.Ca (nm f) i.a ∧ Binds X.K i.fd i.ps [] ∧ FnOk X.prog X.w X.K X.mg X.base (L2.CX X.prog X.w) k i.a i.fd i.ps (spOf X.K ct (C i.key))
theorem de_meth (G : PF X.K ct X.prog X.w X.mg X.base k C T fns) (hr : Room k X.A) (f : String) {fS : Str} {pl : Sem Bool} (ho : DE X ct o fo) (ha : DA X ct (e :: es) fa) (hx : nm f = fS := by rfl) (hst : starEach (e :: es) X.env = (false, eval e X.env) :: starEach es X.env := by rfl) (hpl : (backTo pos (starEach es X.env)).any (·.1) = false := by rfl)
    (ht : eval (.Call (.Attribute o fS apos) (e :: es) [] pos) X.env = (do
      let ov ← eval o X.env
      standAt apos.atName
      let (f, first) ← holding [ov] (getMethod ov fS pl)
      callWith pos f first (backTo pos (starEach (e :: es) X.env)) (backToKw pos (keywordEach [] X.env))) := by rfl) : DE X ct (.Call (.Attribute o fS apos) (e :: es) [] pos) (Mi.eMeth C T f fo fa) := by
  subst hx
  refine ⟨fun W tk => PE.imp (PE.any (ι := MtAt X ct C T k f) (G := MtAt.Ok) (t := fun i => tMethS i.Ca (nm f) (spOf X.K ct (C i.key)) (fun σ cls dx H' => W cls dx σ H') (tE X.K ct W fo) (tA X.K ct W fa)) fun i g => pe_methS (pl := pl) (ho.run W tk) g.2.2.1 g.2.2.2.1 g.2.2.2.2.2 hr g.2.2.2.2.1 (fun σ => passAt tk σ) (ha.run W tk) hst hpl ht) fun σ H Q ⟨w, m, S, h⟩ => ?_⟩
  unfold Mi.eMeth at h
  split at h
  · rename_i y m1 qo
    split at h
    · rename_i c fs d q1 q2
      split at h
      · rename_i key q3 q4
        obtain ⟨Ca, a, g1, g2, g3, ⟨fd, ps, g4, g5⟩⟩ := G.mt c f key q3
        refine ⟨⟨c, key, Ca, a, fd, ps⟩, ⟨q3, g1, g2, g3, g4, g5⟩, w, m, S, ?_⟩
        rw [qo]
        intro w1 H1 S1 e1 v pv
        obtain ⟨b, Cb, dx, vs, rfl, g6, g7, g8⟩ := S1.obj pv q1
        rw [g1] at g6; cases g6
        refine ⟨b, dx, vs, rfl, g7, ?_, ?_⟩
        · rcases g8 f with ⟨z, _⟩ | ⟨_, _, _, z, _⟩
          · exact z
          · rw [q4] at z; cases z
        · cases y with
          | sl i => cases q2
          | v dd =>
            have q2 : some dd = some d := q2
            have q2' := Option.some.inj q2
            subst q2'
            have h' := RE.ext e1 h
            refine tA.part S1 h' fun ps w2 m2 H2 us S2 e2 pu h2 => ?_
            cases qd : PV.ds ps with
            | none => rw [qd] at h2; exact h2.elim
            | some ds =>
              rw [qd] at h2
              exact call_read (g := C key) (σm := m2.σ) (S := m2.S) (ds := dd :: ds) (vs := .ref b :: us) S2 (.cons (RepD.ext e2 pv) (ds_rep pu qd)) h2 (fun _ _ _ _ v pv hp => hp v pv) fun x w' m' H' cls dx hx hp => hp cls dx hx
      · exact h.elim
    · exact h.elim
  · exact h.elim
theorem de_meth0 (G : PF X.K ct X.prog X.w X.mg X.base k C T fns) (hr : Room k X.A) (f : String) {fS : Str} {pl : Sem Bool} (ho : DE X ct o fo) (hx : nm f = fS := by rfl)
    (ht : eval (.Call (.Attribute o fS apos) [] [] pos) X.env = (do
      let ov ← eval o X.env
      standAt apos.atName
      let (f, first) ← holding [ov] (getMethod ov fS pl)
      callWith pos f first (backTo pos (starEach [] X.env)) (backToKw pos (keywordEach [] X.env))) := by rfl) : DE X ct (.Call (.Attribute o fS apos) [] [] pos) (Mi.eMeth C T f fo Mi.aNil) := by
  subst hx
  refine ⟨fun W tk => PE.imp (PE.any (ι := MtAt X ct C T k f) (G := MtAt.Ok) (t := fun i => tMethS i.Ca (nm f) (spOf X.K ct (C i.key)) (fun σ cls dx H' => W cls dx σ H') (tE X.K ct W fo) tNil) fun i g => pe_methS0 (pl := pl) (ho.run W tk) g.2.2.1 g.2.2.2.1 g.2.2.2.2.2 hr g.2.2.2.2.1 (fun σ => passAt tk σ) ht) fun σ H Q ⟨w, m, S, h⟩ => ?_⟩
  unfold Mi.eMeth at h
  split at h
  · rename_i y m1 qo
    split at h
    · rename_i c fs d q1 q2
      split at h
      · rename_i key q3 q4
        obtain ⟨Ca, a, g1, g2, g3, ⟨fd, ps, g4, g5⟩⟩ := G.mt c f key q3
        refine ⟨⟨c, key, Ca, a, fd, ps⟩, ⟨q3, g1, g2, g3, g4, g5⟩, w, m, S, ?_⟩
        rw [qo]
        intro w1 H1 S1 e1 v pv
        obtain ⟨b, Cb, dx, vs, rfl, g6, g7, g8⟩ := S1.obj pv q1
        rw [g1] at g6; cases g6
        refine ⟨b, dx, vs, rfl, g7, ?_, ?_⟩
        · rcases g8 f with ⟨z, _⟩ | ⟨_, _, _, z, _⟩
          · exact z
          · rw [q4] at z; cases z
        · cases y with
          | sl i => cases q2
          | v dd =>
            have q2 : some dd = some d := q2
            have q2' := Option.some.inj q2
            subst q2'
            have h' := RE.ext e1 h
            exact call_read (g := C key) (σm := m1.σ) (S := m1.S) (ds := [dd]) (vs := [.ref b]) S1 (.cons pv .nil) h' (fun _ _ _ _ v pv hp => hp v pv) fun x w' m' H' cls dx hx hp => hp cls dx hx
      · exact h.elim
    · exact h.elim
  · exact h.elim
end
end So

set_option Elab.async false
set_option linter.all false
set_option maxRecDepth 100000
set_option maxHeartbeats 4000000
namespace So
open PySem PySem.Spec PyProof.Rows L2
open Mi (D Cl FV SC Me Xc Res PV Ky Ev Tv Av Lv Iv Ov Sv Bd Out Tx RG Cal Tb)

/-! ### references that lie below -/
section
variable {K : PySem.W.Frag} {ct : String → Option Addr} {w w' : Wd} {m m' : Me} {H H' : Hp}
mutual
theorem RepD.blw : ∀ {d : D} {v : V}, RepD K ct w m H d v → d.blw m.S.length = true
  | _, _, .non => by unfold Mi.D.blw; rfl
  | _, _, .bl b => by unfold Mi.D.blw; rfl
  | _, _, .int i => by unfold Mi.D.blw; rfl
  | _, _, .str x => by unfold Mi.D.blw; rfl
  | _, _, .lst n h r => by unfold Mi.D.blw; exact RepL.blw r
  | _, _, .scr h r => by unfold Mi.D.blw; exact RepL.blw r
  | _, _, .tup n h r => by unfold Mi.D.blw; exact RepL.blw r
  | _, _, .dct n h r => by unfold Mi.D.blw; exact RepK.blw r
  | _, _, .obj c n h r => by unfold Mi.D.blw; exact RepF.blw r
  | _, _, .ref (i := i) h => by unfold Mi.D.blw; exact decide_eq_true (List.getElem?_eq_some_iff.mp h).1
theorem RepL.blw : ∀ {d : List D} {v : List V}, RepL K ct w m H d v → Mi.D.blws m.S.length d = true
  | _, _, .nil => by unfold Mi.D.blws; rfl
  | _, _, .cons h r => by unfold Mi.D.blws; rw [RepD.blw h, RepL.blw r]; rfl
theorem RepK.blw : ∀ {d : List (Ky × D)} {v : List (Key × V)}, RepK K ct w m H d v → Mi.D.blwk m.S.length d = true
  | _, _, .nil => by unfold Mi.D.blwk; rfl
  | _, _, .cons h r => by unfold Mi.D.blwk; rw [RepD.blw h, RepK.blw r]; rfl
theorem RepF.blw : ∀ {d : List (String × D)} {v : List (Str × V)}, RepF K ct w m H d v → Mi.D.blwf m.S.length d = true
  | _, _, .nil => by unfold Mi.D.blwf; rfl
  | _, _, .cons h r => by unfold Mi.D.blwf; rw [RepD.blw h, RepF.blw r]; rfl
end
/-- moved, the references below n -/
structure Mvb (n : Nat) (w : Wd) (m : Me) (H : Hp) (w' : Wd) (m' : Me) (H' : Hp) : Prop where
  nd : ∀ a u, ¬ Bad w m a → Nd H a u → ¬ Bad w' m' a ∧ Nd H' a u
  gl : ∀ i c, i < n → m.S[i]? = some c → (∃ c', m'.S[i]? = some c') ∧ w'.α (.g i) = w.α (.g i)
theorem Mvb.ndL {n : Nat} (e : Mvb n w m H w' m' H') {a : Addr} {xs : List V} (q : ¬ Bad w m a) (h : NdL H a xs) : ¬ Bad w' m' a ∧ NdL H' a xs := by
  obtain ⟨u, h1, h2⟩ := h
  exact ⟨(e.nd a _ q h1).1, u, (e.nd a _ q h1).2, h2⟩
section
variable {n : Nat}
mutual
theorem RepD.mvb (e : Mvb n w m H w' m' H') : ∀ {d : D} {v : V}, RepD K ct w m H d v → d.blw n = true → RepD K ct w' m' H' d v
  | _, _, .non, _ => .non
  | _, _, .bl b, _ => .bl b
  | _, _, .int i, _ => .int i
  | _, _, .str x, _ => .str x
  | _, _, .lst n h r, q => .lst (e.nd _ _ n h).1 (e.nd _ _ n h).2 (RepL.mvb e r (by unfold Mi.D.blw at q; exact q))
  | _, _, .scr h r, q => .scr (h.imp (fun z => e.ndL z.1 z.2) id) (RepL.mvb e r (by unfold Mi.D.blw at q; exact q))
  | _, _, .tup n h r, q => .tup (e.nd _ _ n h).1 (e.nd _ _ n h).2 (RepL.mvb e r (by unfold Mi.D.blw at q; exact q))
  | _, _, .dct n h r, q => .dct (e.nd _ _ n h).1 (e.nd _ _ n h).2 (RepK.mvb e r (by unfold Mi.D.blw at q; exact q))
  | _, _, .obj c n h r, q => .obj c (e.nd _ _ n h).1 (e.nd _ _ n h).2 (RepF.mvb e r (by unfold Mi.D.blw at q; exact q))
  | _, _, .ref (i := i) h, q => by
    unfold Mi.D.blw at q
    obtain ⟨⟨c', h1⟩, e1⟩ := e.gl i _ (of_decide_eq_true q) h
    rw [← e1]
    exact .ref h1
theorem RepL.mvb (e : Mvb n w m H w' m' H') : ∀ {d : List D} {v : List V}, RepL K ct w m H d v → Mi.D.blws n d = true → RepL K ct w' m' H' d v
  | _, _, .nil, _ => .nil
  | _, _, .cons h r, q => by
    unfold Mi.D.blws at q
    rw [Bool.and_eq_true] at q
    exact .cons (RepD.mvb e h q.1) (RepL.mvb e r q.2)
theorem RepK.mvb (e : Mvb n w m H w' m' H') : ∀ {d : List (Ky × D)} {v : List (Key × V)}, RepK K ct w m H d v → Mi.D.blwk n d = true → RepK K ct w' m' H' d v
  | _, _, .nil, _ => .nil
  | _, _, .cons h r, q => by
    unfold Mi.D.blwk at q
    rw [Bool.and_eq_true] at q
    exact .cons (RepD.mvb e h q.1) (RepK.mvb e r q.2)
theorem RepF.mvb (e : Mvb n w m H w' m' H') : ∀ {d : List (String × D)} {v : List (Str × V)}, RepF K ct w m H d v → Mi.D.blwf n d = true → RepF K ct w' m' H' d v
  | _, _, .nil, _ => .nil
  | _, _, .cons h r, q => by
    unfold Mi.D.blwf at q
    rw [Bool.and_eq_true] at q
    exact .cons (RepD.mvb e h q.1) (RepF.mvb e r q.2)
end
-- the fields of a store's object: the references below n
def gblw (n : Nat) : List (String × FV) → Bool
  | [] => true
  | (_, .v d) :: r => d.blw n && gblw n r
  | (_, .o _) :: r => gblw n r
  | (_, .lent) :: r => gblw n r
theorem RepG.blw {i : Nat} : ∀ {d : List (String × FV)} {vs : List (Str × V)}, RepG K ct w m H i d vs → gblw m.S.length d = true
  | _, _, .nil => rfl
  | _, _, .v h r => by unfold gblw; rw [RepD.blw h, RepG.blw r]; rfl
  | _, _, .o r => by unfold gblw; exact RepG.blw r
  | _, _, .l r => by unfold gblw; exact RepG.blw r
theorem RepG.mvb (e : Mvb n w m H w' m' H') {i : Nat} (hf : ∀ f, w'.α (.f i f) = w.α (.f i f)) : ∀ {d : List (String × FV)} {vs : List (Str × V)}, RepG K ct w m H i d vs → gblw n d = true → RepG K ct w' m' H' i d vs
  | _, _, .nil, _ => .nil
  | _, _, .v h r, q => by
    unfold gblw at q
    rw [Bool.and_eq_true] at q
    exact .v (RepD.mvb e h q.1) (RepG.mvb e hf r q.2)
  | _, _, .o (k := k) r, q => by unfold gblw at q; rw [← hf k]; exact .o (RepG.mvb e hf r q)
  | _, _, .l (k := k) r, q => by unfold gblw at q; rw [← hf k]; exact .l (RepG.mvb e hf r q)
def cblw (n : Nat) : SC → Bool
  | .ins _ fs => gblw n fs
  | .c c => c.blw n
theorem CellR.blw {p : Pl} {a : Addr} {c : SC} (h : CellR K ct w m H p a c) : cblw m.S.length c = true := by
  cases c with
  | ins c fs => obtain ⟨C, dx, vs, i, hp, h1, h2, h3⟩ := h; exact h3.blw
  | c x =>
    cases x with
    | lst xs => obtain ⟨vs, h1, h2⟩ := h; exact h2.blw
    | dct xs => obtain ⟨vs, h1, h2⟩ := h; exact h2.blw
    | lkd xs => obtain ⟨vs, o, h1, h2⟩ := h; exact h2.blw
    | dcT xs => obtain ⟨vs, h1, h2⟩ := h; exact h2.elim
theorem CellR.mvb (e : Mvb n w m H w' m' H') {p : Pl} {a : Addr} {c : SC} (hb : cblw n c = true) (hf : ∀ i f, p = .g i → w'.α (.f i f) = w.α (.f i f)) (hH : H' a = H a) (h : CellR K ct w m H p a c) : CellR K ct w' m' H' p a c := by
  cases c with
  | ins c fs =>
    obtain ⟨C, dx, vs, i, hp, h1, h2, h3⟩ := h
    exact ⟨C, dx, vs, i, hp, h1, by rw [hH]; exact h2, h3.mvb e (fun f => hf i f hp) hb⟩
  | c x =>
    cases x with
    | lst xs => obtain ⟨vs, h1, h2⟩ := h; exact ⟨vs, by rw [hH]; exact h1, h2.mvb e hb⟩
    | dct xs => obtain ⟨vs, h1, h2⟩ := h; exact ⟨vs, by rw [hH]; exact h1, h2.mvb e hb⟩
    | lkd xs => obtain ⟨vs, o, h1, h2⟩ := h; exact ⟨vs, o, by rw [hH]; exact h1, h2.mvb e hb⟩
    | dcT xs => obtain ⟨vs, h1, h2⟩ := h; exact h2.elim
theorem CellR.pl {p q : Pl} {a : Addr} {x : Cl} (h : CellR K ct w m H p a (.c x)) : CellR K ct w m H q a (.c x) := by
  cases x <;> exact h
end
end

/-! ### an instance is made -/
section
variable {K : PySem.W.Frag} {ct : String → Option Addr} {w w1 : Wd} {σm : Mi.Env} {S S1 : List SC} {H H1 : Hp} {σ : L2.St}
theorem app_get {S : List SC} {x : SC} {i : Nat} {c : SC} (h : (S ++ [x])[i]? = some c) : S[i]? = some c ∨ (i = S.length ∧ c = x) := by
  by_cases hi : i < S.length
  · rw [List.getElem?_append_left hi] at h; exact .inl h
  · rw [List.getElem?_append_right (by omega)] at h
    cases q : i - S.length with
    | zero => rw [q] at h; exact .inr ⟨by omega, (Option.some.inj h).symm⟩
    | succ j => rw [q] at h; cases h
/-- a cell more in the store, without owned fields -/
theorem cell_app {x : SC} (hx : ∀ c fs f z, x = .ins c fs → fs.lookup f = some (.o z) → False) {p : Pl} {c : SC} (h : cellAt ⟨σm, S ++ [x]⟩ p = some c) : (p ≠ .g S.length ∧ cellAt ⟨σm, S⟩ p = some c) ∨ (p = .g S.length ∧ c = x) := by
  cases p with
  | g i =>
    rcases app_get (show (S ++ [x])[i]? = some c from h) with h | ⟨h1, h2⟩
    · refine .inl ⟨?_, h⟩
      have := (List.getElem?_eq_some_iff.mp h).1
      intro z; cases z; omega
    · exact .inr ⟨by rw [h1], h2⟩
  | s i => exact .inl ⟨by simp, h⟩
  | f i f =>
    refine .inl ⟨by simp, ?_⟩
    obtain ⟨u, h1, h2⟩ := opt_map (show ((Me.mk σm (S ++ [x])).field i f).map SC.c = some c from h)
    show ((Me.mk σm S).field i f).map SC.c = some c
    have h1 : (match (S ++ [x])[i]? with | some (.ins _ fs) => (match fs.lookup f with | some (.o c) => some c | _ => none) | _ => none) = some u := h1
    have : (Me.mk σm S).field i f = some u := by
      show (match S[i]? with | some (.ins _ fs) => (match fs.lookup f with | some (.o c) => some c | _ => none) | _ => none) = some u
      cases q : (S ++ [x])[i]? with
      | none => rw [q] at h1; cases h1
      | some y =>
        rcases app_get q with q' | ⟨_, q'⟩
        · rw [q']; rw [q] at h1; exact h1
        · rw [q, q'] at h1
          split at h1
          · rename_i cc fs qq
            split at h1
            · rename_i z ql
              cases qq
              exact (hx _ _ _ _ rfl ql).elim
            · cases h1
          · cases h1
    rw [this, h2]; rfl
theorem app_old {x : SC} {p : Pl} {c : SC} (h : cellAt ⟨σm, S⟩ p = some c) : cellAt ⟨σm, S ++ [x]⟩ p = some c := by
  cases p with
  | g i =>
    have h : S[i]? = some c := h
    show (S ++ [x])[i]? = some c
    rw [List.getElem?_append_left (List.getElem?_eq_some_iff.mp h).1]; exact h
  | s i => exact h
  | f i f =>
    obtain ⟨u, h1, h2⟩ := opt_map (show ((Me.mk σm S).field i f).map SC.c = some c from h)
    show ((Me.mk σm (S ++ [x])).field i f).map SC.c = some c
    have h1 : (match S[i]? with | some (.ins _ fs) => (match fs.lookup f with | some (.o c) => some c | _ => none) | _ => none) = some u := h1
    have : (Me.mk σm (S ++ [x])).field i f = some u := by
      show (match (S ++ [x])[i]? with | some (.ins _ fs) => (match fs.lookup f with | some (.o c) => some c | _ => none) | _ => none) = some u
      cases q : S[i]? with
      | none => rw [q] at h1; cases h1
      | some y => rw [List.getElem?_append_left (List.getElem?_eq_some_iff.mp q).1, q]; rw [q] at h1; exact h1
    rw [this, h2]; rfl
/-- a new cell of the store at a new address -/
theorem SR.newG (R : SR K ct w ⟨σm, S⟩ H σ) {x : SC} {p : Addr} {o : HO} {H' : Hp} (hp : H p = none) (hH : ∀ a u, H a = some u → H' a = some u) (hx : ∀ c fs f z, x = .ins c fs → fs.lookup f = some (.o z) → False) (hP : H' p = some o)
    (hc : ∀ w' m', w'.α (.g S.length) = p → Ext w ⟨σm, S⟩ H w' m' H' → CellR K ct w' m' H' (.g S.length) p x) :
    SR K ct (w.at (.g S.length) p) ⟨σm, S ++ [x]⟩ H' σ ∧ Ext w ⟨σm, S⟩ H (w.at (.g S.length) p) ⟨σm, S ++ [x]⟩ H' := by
  have hne : ∀ q c, cellAt ⟨σm, S⟩ q = some c → w.α q ≠ p := fun q c h => by
    obtain ⟨u, hu⟩ := R.M.there h
    exact ne_of_none hu hp
  have e : Ext w ⟨σm, S⟩ H (w.at (.g S.length) p) ⟨σm, S ++ [x]⟩ H' := by
    refine ⟨fun _ h => h, fun _ _ _ _ h => h, fun i c h => ⟨⟨c, app_old (p := .g i) (σm := σm) h⟩, Wd.at_ne ?_⟩, fun a u h n => ⟨hH a u h, ?_⟩⟩
    · have h : S[i]? = some c := h
      have := (List.getElem?_eq_some_iff.mp h).1
      intro z; cases z; omega
    · rintro ⟨q, c, h1, h2⟩
      rcases cell_app hx h1 with ⟨n1, k1⟩ | ⟨n1, _⟩
      · rw [Wd.at_ne n1] at h2; exact n ⟨q, c, k1, h2⟩
      · subst n1
        rw [Wd.at_same] at h2
        exact ne_of_none h hp h2.symm
  refine ⟨⟨⟨fun q1 q2 c1 c2 h1 h2 h3 => ?_, fun q c h => ?_, fun a h => ?_, fun q c h => ?_⟩, R.E.ext e rfl fun i => Wd.at_ne (by simp)⟩, e⟩
  · rcases cell_app hx h1 with ⟨n1, k1⟩ | ⟨n1, _⟩ <;> rcases cell_app hx h2 with ⟨n2, k2⟩ | ⟨n2, _⟩
    · rw [Wd.at_ne n1, Wd.at_ne n2] at h3; exact R.M.inj _ _ _ _ k1 k2 h3
    · subst n2
      rw [Wd.at_ne n1, Wd.at_same] at h3
      exact absurd h3 (hne _ _ k1)
    · subst n1
      rw [Wd.at_ne n2, Wd.at_same] at h3
      exact absurd h3.symm (hne _ _ k2)
    · rw [n1, n2]
  · rcases cell_app hx h with ⟨n1, k1⟩ | ⟨n1, rfl⟩
    · rw [Wd.at_ne n1]
      obtain ⟨u, hu⟩ := R.M.there k1
      exact (R.M.cells q c k1).ext e (fun i f z => Wd.at_ne (by simp)) (by rw [hu, hH _ _ hu])
    · subst n1
      rw [Wd.at_same]
      exact hc _ _ Wd.at_same e
  · obtain ⟨u, hu⟩ := R.M.out a h
    exact ⟨u, hH a u hu⟩
  · rcases cell_app hx h with ⟨n1, k1⟩ | ⟨n1, rfl⟩
    · rw [Wd.at_ne n1]; exact R.M.nout q c k1
    · subst n1
      rw [Wd.at_same]
      intro z
      obtain ⟨u, hu⟩ := R.M.out p z
      rw [hp] at hu; cases hu
end
end So

set_option Elab.async false
set_option linter.all false
set_option maxRecDepth 100000
set_option maxHeartbeats 4000000
namespace So
open PySem PySem.Spec PyProof.Rows L2
open Mi (D Cl FV SC Me Xc Res PV Ky Ev Tv Av Lv Iv Ov Sv Bd Out Tx RG Cal Tb)

section
variable {K : PySem.W.Frag} {ct : String → Option Addr} {w w1 : Wd} {σm : Mi.Env} {S S1 : List SC} {H H1 : Hp} {σ : L2.St}
/-- all that stands in the state refers below n -/
structure BlwS (n : Nat) (m : Me) : Prop where
  cell : ∀ p c, cellAt m p = some c → cblw n c = true
  env : ∀ (i : Nat) d, m.σ[i]? = some (some (FV.v d)) → d.blw n = true
theorem SR.blw {m : Me} (R : SR K ct w m H σ) : BlwS m.S.length m := by
  refine ⟨fun p c h => (R.M.cells p c h).blw, fun i d h => ?_⟩
  have hi : i < σ.length := by rw [← R.E.len]; exact (List.getElem?_eq_some_iff.mp h).1
  obtain ⟨u, _, r⟩ := R.E.at_ i _ _ h (List.getElem?_eq_some_iff.mpr ⟨hi, rfl⟩)
  exact r.blw
/-- the last cell is dropped -/
theorem mvb_drop {x : SC} : Mvb S.length w ⟨σm, S ++ [x]⟩ H w ⟨σm, S⟩ H := by
  refine ⟨fun a u n h => ⟨?_, h⟩, fun i c hi h => ?_⟩
  · rintro (z | ⟨p, c, k1, k2⟩)
    · exact n (.inl z)
    · exact n (.inr ⟨p, c, app_old k1, k2⟩)
  · have h : (S ++ [x])[i]? = some c := h
    rw [List.getElem?_append_left hi] at h
    exact ⟨⟨c, h⟩, rfl⟩
theorem SR.drop {x : SC} (R : SR K ct w ⟨σm, S ++ [x]⟩ H σ) (B : BlwS S.length ⟨σm, S⟩) : SR K ct w ⟨σm, S⟩ H σ ∧ ¬ Bad w ⟨σm, S⟩ (w.α (.g S.length)) := by
  have hn : cellAt ⟨σm, S ++ [x]⟩ (.g S.length) = some x := by show (S ++ [x])[S.length]? = some x; simp
  have e := mvb_drop (w := w) (σm := σm) (S := S) (x := x) (H := H)
  refine ⟨⟨⟨fun p q c c' h1 h2 => R.M.inj p q c c' (app_old h1) (app_old h2), fun p c h => (R.M.cells p c (app_old h)).mvb e (B.cell p c h) (fun _ _ _ => rfl) rfl, R.M.out, fun p c h => R.M.nout p c (app_old h)⟩, ⟨R.E.len, fun i y z h1 h2 => ?_⟩⟩, ?_⟩
  · have r := R.E.at_ i y z h1 h2
    cases y with
    | none => trivial
    | some f =>
      cases f with
      | v d => obtain ⟨u, e1, r'⟩ := r; exact ⟨u, e1, r'.mvb e (B.env i d h1)⟩
      | o c => exact r
      | lent => trivial
  · rintro (z | ⟨p, c, k1, k2⟩)
    · exact R.M.nout _ _ hn z
    · have := R.M.inj _ _ _ _ (app_old k1) hn k2
      subst this
      have k1 : S[S.length]? = some c := k1
      simp at k1
theorem ext_drop {w0 : Wd} {S0 : List SC} {σ0 : Mi.Env} {H0 : Hp} {x : SC} (hl : S0.length ≤ S.length) (e : Ext w0 ⟨σ0, S0⟩ H0 w ⟨σm, S ++ [x]⟩ H) : Ext w0 ⟨σ0, S0⟩ H0 w ⟨σm, S⟩ H := by
  refine ⟨e.Om, e.Oa, fun i c h => ?_, fun a o h n => ?_⟩
  · obtain ⟨⟨c', h1⟩, h2⟩ := e.gl i c h
    have hi : i < S0.length := (List.getElem?_eq_some_iff.mp (show S0[i]? = some c from h)).1
    have h1 : (S ++ [x])[i]? = some c' := h1
    rw [List.getElem?_append_left (by omega)] at h1
    exact ⟨⟨c', h1⟩, h2⟩
  · obtain ⟨h1, h2⟩ := e.keep a o h n
    exact ⟨h1, fun ⟨p, c, k1, k2⟩ => h2 ⟨p, c, app_old k1, k2⟩⟩
theorem plain_rep {m : Me} {i : Nat} : ∀ {fs : List (String × FV)} {l : List (String × D)} {vs : List (Str × V)}, RepG K ct w m H i fs vs → Mi.plainF fs = some l → RepF K ct w m H l vs
  | _, _, _, .nil, h => by cases h; exact .nil
  | _, _, _, .v r t, h => by
    obtain ⟨l', h1, rfl⟩ := opt_map h
    exact .cons r (plain_rep t h1)
  | _, _, _, .o _, h => by cases h
  | _, _, _, .l _, h => by cases h
theorem drop_one {α : Type} {S S' : List α} {x : α} (h1 : S'.drop S.length = [x]) (h2 : S'.take S.length = S) : S' = S ++ [x] := by
  rw [← List.take_append_drop S.length S', h1, h2]
end

/-! ### C(..) -/
section
variable {X : Cx} {ct : String → Option Addr} {k : Nat} {C : Cal} {T : Tb} {fns : List String} {x : Str} {p pos apos : Pos} {e o : Expr} {es : List Expr} {fa : Av} {fo fe : Ev}
def tMakeS (Ca : Addr) (sp : Sp) (E : L2.St → XK) (t : TA) : TE := fun σ H Q => t σ H fun vs H1 => ∀ y dx, H1 y = none → H1 dx = none → dx ≠ y →
  sp (.ref y :: vs) (upd (upd H1 dx (.own y)) y (.ins Ca dx [])) (fun v H2 => v = .non ∧ Q (.ref y) H2) (E σ)
theorem run_makeS {CX : CXT} {Ca a : Addr} {fd : FuncData} {ps : List Str} {sp : Sp} {E : L2.St → XK} {pins : List (Addr × Obj)} {σ : L2.St} {H : Hp} {s : Shared} {Q : VK} {us : List Value} {vs : List V} (M : Mk X.K Ca a) (F : FnOk X.prog X.w X.K X.mg X.base CX k a fd ps sp) (hr : Room (k + 1) X.A) (hb : L2.Binds X.K fd ps [])
    (hx : PassesAt CX X σ (E σ)) (I : Inv X pins σ H s) (r : Vals vs us)
    (h : ∀ y dx, H y = none → H dx = none → dx ≠ y → sp (.ref y :: vs) (upd (upd H dx (.own y)) y (.ins Ca dx [])) (fun v H2 => v = .non ∧ Q (.ref y) H2) (E σ)) :
    wpAny (model X.prog X.w) X.A (call (.ref Ca) us) (EP X pins σ Q) X.xe s := by
  have hq := h (s.heap.objs.size + 1) s.heap.objs.size (I.hok.fresh (Nat.le_succ _)) (I.hok.fresh (Nat.le_refl _)) (Nat.ne_of_lt (Nat.lt_succ_self _))
  have I2 := Inv.made (C := Ca) I
  have r2 : Vals (V.ref (s.heap.objs.size + 1) :: vs) (Value.ref (s.heap.objs.size + 1) :: us) := .cons rfl r
  have hl : (Value.ref (s.heap.objs.size + 1) :: us).length = ps.length := by rw [← r2.length]; exact F.len _ _ _ _ hq
  have b := hb _ (Value.ref (s.heap.objs.size + 1) :: us) I2.kIn (by rw [List.append_nil]; exact hl)
  rw [List.append_nil] at b
  refine wpAny_call (make_map (f := a) I.kIn M.makes M.init (beq_iff_eq.mp M.fn) (codeAny_mono (F.run _ X.stack _ _ ⟨Value.ref (s.heap.objs.size + 1) :: us, []⟩ _ _ _ (E σ) (hr.make Ca us [])
    (I2.env0.make Ca us []) b r2 hq) fun r s' hq' => ?_))
  cases r with
  | error e => exact hx pins _ _ e s' I2 hq'
  | ok fl =>
    cases fl with
    | ret u =>
      obtain ⟨v, H', I3, rv, ev, q3⟩ := I2.after hq'
      subst ev
      exact ⟨rv, ⟨V.ref (s.heap.objs.size + 1), H', I3, rfl, q3⟩⟩
    | next => exact hq'.elim
    | brk => exact hq'.elim
    | cont => exact hq'.elim
theorem pe_makeS {CX : CXT} {Ca a : Addr} {fd : FuncData} {ps : List Str} {sp : Sp} {E : L2.St → XK} {t : TA} (M : Mk X.K Ca a) (F : FnOk X.prog X.w X.K X.mg X.base CX k a fd ps sp) (hr : Room (k + 1) X.A) (hg : Gl X x) (hm : X.mg x = some (.ref Ca)) (hb : L2.Binds X.K fd ps []) (hx : ∀ σ, PassesAt CX X σ (E σ))
    (ha : PA X (e :: es) t) (hdb : (x == ("__debug__" : Str)) = false) (he : starEach (e :: es) X.env = (false, eval e X.env) :: starEach es X.env) (hpl : (backTo pos (starEach es X.env)).any (·.1) = false) :
    PE X (.Call (.Name x p) (e :: es) [] pos) (tMakeS Ca sp E t) :=
  ⟨fun pins s σ H Q I h => wpAny_Call_Name_kw (ld_glob I hg hm (PySem.W.callWith_K (h₀ := X.base) I.ok.mod.kin M.kp (thn (ha.run pos pins s σ H _ I h) fun us s1 ⟨vs, H1, I1, r, q⟩ => ⟨I1.kIn, run_makeS M F hr hb (hx σ) I1 r q⟩) he hpl) hdb)⟩
theorem pe_makeS0 {CX : CXT} {Ca a : Addr} {fd : FuncData} {ps : List Str} {sp : Sp} {E : L2.St → XK} (M : Mk X.K Ca a) (F : FnOk X.prog X.w X.K X.mg X.base CX k a fd ps sp) (hr : Room (k + 1) X.A) (hg : Gl X x) (hm : X.mg x = some (.ref Ca)) (hb : L2.Binds X.K fd ps []) (hx : ∀ σ, PassesAt CX X σ (E σ))
    (hdb : (x == ("__debug__" : Str)) = false) : PE X (.Call (.Name x p) [] [] pos) (tMakeS Ca sp E tNil) :=
  ⟨fun pins s σ H Q I h => wpAny_Call_Name_kw (ld_glob I hg hm (PySem.W.callWith_K0 I.kIn M.kp (run_makeS (us := []) M F hr hb (hx σ) I .nil h)) hdb)⟩
/-- a new instance in the store -/
theorem make_new {K : PySem.W.Frag} {w : Wd} {σm : Mi.Env} {S : List SC} {H : Hp} {σ : L2.St} {c : String} {Ca y dx : Addr} (R : SR K ct w ⟨σm, S⟩ H σ) (hc : ct c = some Ca) (hy : H y = none) (hd : H dx = none) (hne : dx ≠ y) :
    SR K ct (w.at (.g S.length) y) ⟨σm, S ++ [.ins c []]⟩ (upd (upd H dx (.own y)) y (.ins Ca dx [])) σ ∧ Ext w ⟨σm, S⟩ H (w.at (.g S.length) y) ⟨σm, S ++ [.ins c []]⟩ (upd (upd H dx (.own y)) y (.ins Ca dx [])) :=
  R.newG hy (fun a u h => by rw [upd_ne (ne_of_none h hy), upd_ne (ne_of_none h hd)]; exact h) (fun c fs f z h1 h2 => by cases h1; cases h2) upd_same fun w' m' _ _ => ⟨Ca, dx, [], _, rfl, hc, upd_same, .nil⟩
/-- what the class's __init__ leaves -/
theorem make_read {W : WX} {w1 : Wd} {m1 : Me} {H1 : Hp} {σ : L2.St} {ds : List D} {vs : List V} {c : String} {Ca : Addr} {g : List D → List SC → RG} {Q : VK} (S1 : SR X.K ct w1 m1 H1 σ) (hc : ct c = some Ca) (r : RepL X.K ct w1 m1 H1 ds vs)
    (h : match g (.ref m1.S.length :: ds) (m1.S ++ [.ins c []]) with
      | .ok d S' => d = .non ∧ ∀ w2 H2 y, SR X.K ct w2 ⟨m1.σ, S'⟩ H2 σ → Ext w1 m1 H1 w2 ⟨m1.σ, S'⟩ H2 → w2.α (.g m1.S.length) = y → (∃ z, S'[m1.S.length]? = some z) → Q (.ref y) H2
      | .ex xc S' => ∀ w2 H2, SR X.K ct w2 ⟨m1.σ, S'⟩ H2 σ → Ext w1 m1 H1 w2 ⟨m1.σ, S'⟩ H2 → PxW X.K ct W σ xc w2 ⟨m1.σ, S'⟩ H2
      | .bad => False) :
    ∀ y dx, H1 y = none → H1 dx = none → dx ≠ y → spOf X.K ct g (.ref y :: vs) (upd (upd H1 dx (.own y)) y (.ins Ca dx [])) (fun v H2 => v = .non ∧ Q (.ref y) H2) (fun cls dx H' => W cls dx σ H') := by
  intro y dx hy hd hne
  obtain ⟨σm, S⟩ := m1
  obtain ⟨R2, e2⟩ := make_new S1 hc hy hd hne
  have rn : RepD X.K ct (w1.at (.g S.length) y) ⟨σm, S ++ [.ins c []]⟩ (upd (upd H1 dx (.own y)) y (.ins Ca dx [])) (.ref S.length) (.ref y) := by
    have : RepD X.K ct (w1.at (.g S.length) y) ⟨σm, S ++ [.ins c []]⟩ (upd (upd H1 dx (.own y)) y (.ins Ca dx [])) (.ref S.length) (.ref ((w1.at (.g S.length) y).α (.g S.length))) := .ref (c := .ins c []) (by show (S ++ [SC.ins c []])[S.length]? = _; simp)
    rw [Wd.at_same] at this
    exact this
  refine call_read (σm := σm) (S := S ++ [.ins c []]) (ds := .ref S.length :: ds) (P := fun x' w' m' H' => x' = .v .non ∧ Q (.ref y) H') (Px := PxW X.K ct W σ) R2 (.cons rn (r.ext e2)) ?_ (fun x' w' m' H' v pv ⟨h1, h2⟩ => ?_) fun xc w' m' H' cls dx hx hp => hp cls dx hx
  · cases q : g (.ref S.length :: ds) (S ++ [.ins c []]) with
    | bad => rw [q] at h; exact h.elim
    | ex xc S' => rw [q] at h; exact fun w3 H3 R3 e3 => h w3 H3 R3 (e2.trans e3)
    | ok d S' =>
      rw [q] at h
      obtain ⟨rfl, h⟩ := h
      intro w3 H3 R3 e3
      obtain ⟨⟨z, hz⟩, ha⟩ := e3.gl S.length (.ins c []) (by show (S ++ [SC.ins c []])[S.length]? = _; simp)
      exact ⟨rfl, h w3 H3 y R3 (e2.trans e3) (by rw [ha, Wd.at_same]) ⟨z, hz⟩⟩
  · subst h1
    cases pv
    exact ⟨rfl, h2⟩
theorem mk_read {W : WX} {c key : String} {Ca : Addr} {w1 : Wd} {m1 : Me} {H1 : Hp} {σ : L2.St} {ps : List PV} {vs : List V} {Q : VK} (hk : T.ini c = some key) (hc : ct c = some Ca) (S1 : SR X.K ct w1 m1 H1 σ) (pv : PVRs X.K ct w1 m1 H1 σ ps vs)
    (h1 : RE X.K ct σ w1 m1 H1 (match PV.ds ps, T.ini c with
      | some ds, some key => (match C key (.ref m1.S.length :: ds) (m1.S ++ [.ins c []]) with
        | .ok .non S' => .ok (.v (.ref m1.S.length)) ⟨m1.σ, S'⟩
        | .ex x S' => .ex x ⟨m1.σ, S'⟩
        | _ => .bad)
      | _, _ => .bad) (fun x w' m' H' => ∀ v, PVR X.K ct w' m' H' σ x v → Q v H') (PxW X.K ct W σ)) :
    ∀ y dx, H1 y = none → H1 dx = none → dx ≠ y → spOf X.K ct (C key) (.ref y :: vs) (upd (upd H1 dx (.own y)) y (.ins Ca dx [])) (fun v H2 => v = .non ∧ Q (.ref y) H2) (fun cls dx H' => W cls dx σ H') := by
  rw [hk] at h1
  cases qd : PV.ds ps with
  | none => rw [qd] at h1; exact h1.elim
  | some ds =>
    rw [qd] at h1
    refine make_read S1 hc (ds_rep pv qd) ?_
    dsimp only at h1
    cases q : C key (.ref m1.S.length :: ds) (m1.S ++ [.ins c []]) with
    | bad => rw [q] at h1; exact h1.elim
    | ex xc S' => rw [q] at h1; exact h1
    | ok d S' =>
      rw [q] at h1
      cases d <;> first | exact h1.elim | skip
      exact ⟨rfl, fun w2 H2 y R2 e2 ha ⟨z, hz⟩ => h1 w2 H2 R2 e2 (.ref y) (by subst ha; exact RepD.ref (m := ⟨m1.σ, S'⟩) hz)⟩
theorem de_make (G : PF X.K ct X.prog X.w X.mg X.base k C T fns) (hr : Room (k + 1) X.A) (c : String) {key : String} (hk : T.ini c = some key) (hk0 : key ≠ "") (ha : DA X ct (e :: es) fa) (hx : nm c = x := by rfl) (hg : Gl X x := by rfl) (hdb : (x == ("__debug__" : Str)) = false := by decide)
    (he : starEach (e :: es) X.env = (false, eval e X.env) :: starEach es X.env := by rfl) (hpl : (backTo pos (starEach es X.env)).any (·.1) = false := by rfl) : DE X ct (.Call (.Name x p) (e :: es) [] pos) (Mi.eMake C T c fa) := by
  subst hx
  obtain ⟨Ca, a, g1, g2, g3, ⟨fd, ps, g4, g5⟩⟩ := G.ini c key hk hk0
  refine ⟨fun W tk => PE.imp (pe_makeS g3 g5 hr hg g2 g4 (fun σ => passAt tk σ) (ha.run W tk) hdb he hpl) fun σ H Q ⟨w, m, S, h⟩ => ?_⟩
  refine tA.part S h fun ps w1 m1 H1 vs S1 e1 pv h1 => ?_
  exact mk_read hk g1 S1 pv h1
theorem de_make_0 (G : PF X.K ct X.prog X.w X.mg X.base k C T fns) (hr : Room (k + 1) X.A) (c : String) {key : String} (hk : T.ini c = some key) (hk0 : key ≠ "") (hx : nm c = x := by rfl) (hg : Gl X x := by rfl) (hdb : (x == ("__debug__" : Str)) = false := by decide) :
    DE X ct (.Call (.Name x p) [] [] pos) (Mi.eMake C T c Mi.aNil) := by
  subst hx
  obtain ⟨Ca, a, g1, g2, g3, ⟨fd, ps, g4, g5⟩⟩ := G.ini c key hk hk0
  refine ⟨fun W tk => PE.imp (pe_makeS0 g3 g5 hr hg g2 g4 (fun σ => passAt tk σ) hdb) fun σ H Q ⟨w, m, S, h⟩ => ?_⟩
  exact mk_read (ps := []) (vs := []) hk g1 S .nil h
theorem mkF_read {W : WX} {c key : String} {Ca : Addr} {w1 : Wd} {m1 : Me} {H1 : Hp} {σ : L2.St} {ps : List PV} {vs : List V} {Q : VK} (hk : T.ini c = some key) (hc : ct c = some Ca) (S1 : SR X.K ct w1 m1 H1 σ) (pv : PVRs X.K ct w1 m1 H1 σ ps vs)
    {r : Res PV} (hr : r = (match PV.ds ps, T.ini c with
      | some ds, some key => (match C key (.ref m1.S.length :: ds) (m1.S ++ [.ins c []]) with
        | .ok .non S' => (match S'.drop m1.S.length with
          | [.ins c' fs] => (match Mi.plainF fs with
            | some l => (open Classical in if c' = c ∧ Mi.D.blwf m1.S.length l = true ∧ S'.take m1.S.length = m1.S then .ok (.v (.obj c l)) m1 else .bad)
            | none => .bad)
          | _ => .bad)
        | _ => .bad)
      | _, _ => .bad)) (h1 : RE X.K ct σ w1 m1 H1 r (fun x w' m' H' => ∀ v, PVR X.K ct w' m' H' σ x v → Q v H') (PxW X.K ct W σ)) :
    ∀ y dx, H1 y = none → H1 dx = none → dx ≠ y → spOf X.K ct (C key) (.ref y :: vs) (upd (upd H1 dx (.own y)) y (.ins Ca dx [])) (fun v H2 => v = .non ∧ Q (.ref y) H2) (fun cls dx H' => W cls dx σ H') := by
  rw [hk] at hr
  cases qd : PV.ds ps with
  | none => rw [qd] at hr; subst hr; exact h1.elim
  | some ds =>
    rw [qd] at hr
    refine make_read S1 hc (ds_rep pv qd) ?_
    dsimp only at hr
    cases q : C key (.ref m1.S.length :: ds) (m1.S ++ [.ins c []]) with
    | bad => rw [q] at hr; subst hr; exact h1.elim
    | ex xc S' => rw [q] at hr; subst hr; exact h1.elim
    | ok d S' =>
      rw [q] at hr
      cases d <;> first | (subst hr; exact h1.elim) | skip
      dsimp only at hr
      split at hr
      · rename_i c' fs q1
        split at hr
        · rename_i l q2
          split at hr
          · rename_i hcc
            obtain ⟨rfl, hb, ht⟩ := hcc
            subst hr
            obtain ⟨σm, S⟩ := m1
            have hS' : S' = S ++ [.ins c' fs] := drop_one q1 ht
            subst hS'
            refine ⟨rfl, fun w2 H2 y R2 e2 ha _ => ?_⟩
            obtain ⟨R3, nb⟩ := R2.drop (S := S) S1.blw
            have e3 := ext_drop (Nat.le_refl _) e2
            obtain ⟨Cb, dx, us, i, _, k1, k2, k3⟩ := R2.M.cells (.g S.length) (.ins c' fs) (by show (S ++ [SC.ins c' fs])[S.length]? = _; simp)
            have ha : w2.α (.g S.length) = y := ha
            rw [ha] at nb k2
            refine RE.ok h1 R3 e3 (.ref y) (RepD.obj (dx := dx) k1 nb ⟨_, k2, rfl⟩ ?_)
            exact (plain_rep k3 q2).mvb mvb_drop hb
          · subst hr; exact h1.elim
        · subst hr; exact h1.elim
      · subst hr; exact h1.elim
theorem de_makeF (G : PF X.K ct X.prog X.w X.mg X.base k C T fns) (hr : Room (k + 1) X.A) (c : String) {key : String} (hk : T.ini c = some key) (hk0 : key ≠ "") (ha : DA X ct (e :: es) fa) (hx : nm c = x := by rfl) (hg : Gl X x := by rfl) (hdb : (x == ("__debug__" : Str)) = false := by decide)
    (he : starEach (e :: es) X.env = (false, eval e X.env) :: starEach es X.env := by rfl) (hpl : (backTo pos (starEach es X.env)).any (·.1) = false := by rfl) : DE X ct (.Call (.Name x p) (e :: es) [] pos) (Mi.eMakeF C T c fa) := by
  subst hx
  obtain ⟨Ca, a, g1, g2, g3, ⟨fd, ps, g4, g5⟩⟩ := G.ini c key hk hk0
  refine ⟨fun W tk => PE.imp (pe_makeS g3 g5 hr hg g2 g4 (fun σ => passAt tk σ) (ha.run W tk) hdb he hpl) fun σ H Q ⟨w, m, S, h⟩ => ?_⟩
  refine tA.part S h fun ps w1 m1 H1 vs S1 e1 pv h1 => ?_
  exact mkF_read hk g1 S1 pv rfl h1
end
end So

set_option Elab.async false
set_option linter.all false
set_option maxRecDepth 100000
set_option maxHeartbeats 4000000
namespace So
open PySem PySem.Spec PyProof.Rows L2
open Mi (D Cl FV SC Me Xc Res PV Ky Ev Tv Av Lv Iv Ov Sv Bd Out Tx RG Cal Tb)

/-! ### o.f = e -/
section
variable {K : PySem.W.Frag} {ct : String → Option Addr} {w w1 : Wd} {m : Me} {H : Hp} {σ : L2.St}
def allV (fs : List (String × FV)) : Bool := fs.all fun p => match p.2 with | .v _ => true | _ => false
theorem allV_look : ∀ {fs : List (String × FV)} {f : String} {z : Cl}, allV fs = true → fs.lookup f = some (.o z) → False
  | (k, y) :: r, f, z, h, q => by
    unfold allV at h
    rw [List.all_cons, Bool.and_eq_true] at h
    rw [lookup_s] at q
    split at q
    · cases q; exact absurd h.1 (by simp)
    · exact allV_look (by unfold allV; exact h.2) q
theorem allV_put {f : String} {d : D} : ∀ {fs : List (String × FV)}, allV fs = true → allV (Mi.putF fs f (.v d)) = true
  | [], _ => rfl
  | (k, y) :: r, h => by
    unfold allV at h
    rw [List.all_cons, Bool.and_eq_true] at h
    show allV (if k = f then (k, FV.v d) :: r else (k, y) :: Mi.putF r f (.v d)) = true
    split
    · unfold allV; rw [List.all_cons, h.2]; rfl
    · have := allV_put (f := f) (d := d) (fs := r) (by unfold allV; exact h.2)
      unfold allV at this ⊢
      rw [List.all_cons, this, Bool.and_true]; exact h.1
theorem RepG.put {i : Nat} {f : String} {d : D} {u : V} (q : RepD K ct w m H d u) : ∀ {fs : List (String × FV)} {vs : List (Str × V)}, RepG K ct w m H i fs vs → RepG K ct w m H i (Mi.putF fs f (.v d)) (L2.putF (nm f) u vs)
  | _, _, .nil => .v q .nil
  | _, _, @RepG.v _ _ _ _ _ _ j d' u' fs vs r t => by
    show RepG K ct w m H i (if j = f then (j, FV.v d) :: fs else (j, .v d') :: Mi.putF fs f (.v d)) (if nm j = nm f then (nm j, u) :: vs else (nm j, u') :: L2.putF (nm f) u vs)
    by_cases h : j = f
    · subst h; rw [if_pos rfl, if_pos rfl]; exact .v q t
    · rw [if_neg h, if_neg fun z => h (nm_inj z)]; exact .v r (RepG.put q t)
  | _, _, @RepG.o _ _ _ _ _ _ j c' fs vs t => by
    show RepG K ct w m H i (if j = f then (j, FV.v d) :: fs else (j, .o c') :: Mi.putF fs f (.v d)) (if nm j = nm f then (nm j, u) :: vs else (nm j, .ref (w.α (.f i j))) :: L2.putF (nm f) u vs)
    by_cases h : j = f
    · subst h; rw [if_pos rfl, if_pos rfl]; exact .v q t
    · rw [if_neg h, if_neg fun z => h (nm_inj z)]; exact .o (RepG.put q t)
  | _, _, @RepG.l _ _ _ _ _ _ j fs vs t => by
    show RepG K ct w m H i (if j = f then (j, FV.v d) :: fs else (j, .lent) :: Mi.putF fs f (.v d)) (if nm j = nm f then (nm j, u) :: vs else (nm j, .ref (w.α (.f i j))) :: L2.putF (nm f) u vs)
    by_cases h : j = f
    · subst h; rw [if_pos rfl, if_pos rfl]; exact .v q t
    · rw [if_neg h, if_neg fun z => h (nm_inj z)]; exact .l (RepG.put q t)
theorem RepG.len {i : Nat} : ∀ {fs : List (String × FV)} {vs : List (Str × V)}, RepG K ct w m H i fs vs → vs.length = fs.length
  | _, _, .nil => rfl
  | _, _, .v _ t => by rw [List.length_cons, List.length_cons, RepG.len t]
  | _, _, .o t => by rw [List.length_cons, List.length_cons, RepG.len t]
  | _, _, .l t => by rw [List.length_cons, List.length_cons, RepG.len t]
theorem ins_set {σm : Mi.Env} {S : List SC} {n : Nat} {c : String} {fs : List (String × FV)} {p : Pl} {x : SC} (hn : n < S.length) (hz : allV fs = true) (h : cellAt ⟨σm, S.set n (.ins c fs)⟩ p = some x) : (p ≠ .g n ∧ cellAt ⟨σm, S⟩ p = some x) ∨ (p = .g n ∧ x = .ins c fs) := by
  cases p with
  | g k =>
    have h : (S.set n (.ins c fs))[k]? = some x := h
    by_cases e : n = k
    · subst e
      rw [List.getElem?_set_self hn] at h
      exact .inr ⟨rfl, (Option.some.inj h).symm⟩
    · rw [List.getElem?_set_ne e] at h
      exact .inl ⟨by simpa using fun z => e z.symm, h⟩
  | s j => exact .inl ⟨by simp, h⟩
  | f k f =>
    refine .inl ⟨by simp, ?_⟩
    obtain ⟨u, h1, h2⟩ := opt_map (show ((Me.mk σm (S.set n (.ins c fs))).field k f).map SC.c = some x from h)
    show ((Me.mk σm S).field k f).map SC.c = some x
    have h1 : (match (S.set n (.ins c fs))[k]? with | some (.ins _ fs) => (match fs.lookup f with | some (.o c) => some c | _ => none) | _ => none) = some u := h1
    have : (Me.mk σm S).field k f = some u := by
      show (match S[k]? with | some (.ins _ fs) => (match fs.lookup f with | some (.o c) => some c | _ => none) | _ => none) = some u
      by_cases e : n = k
      · subst e
        rw [List.getElem?_set_self hn] at h1
        dsimp only at h1
        split at h1
        · rename_i z ql; exact (allV_look hz ql).elim
        · cases h1
      · rw [List.getElem?_set_ne e] at h1
        exact h1
    rw [this, h2]; rfl
theorem SR.setF {σm : Mi.Env} {S : List SC} (R : SR K ct w ⟨σm, S⟩ H σ) {n : Nat} {c : String} {fs : List (String × FV)} {f : String} {d : D} {u : V} (hn : S[n]? = some (.ins c fs)) (hv : allV fs = true) (r : RepD K ct w ⟨σm, S⟩ H d u) :
    ∃ Ca dx vs, ct c = some Ca ∧ H (w.α (.g n)) = some (.ins Ca dx vs) ∧ vs.length = fs.length ∧ SR K ct w ⟨σm, S.set n (.ins c (Mi.putF fs f (.v d)))⟩ (upd H (w.α (.g n)) (.ins Ca dx (L2.putF (nm f) u vs))) σ ∧
      Ext w ⟨σm, S⟩ H w ⟨σm, S.set n (.ins c (Mi.putF fs f (.v d)))⟩ (upd H (w.α (.g n)) (.ins Ca dx (L2.putF (nm f) u vs))) := by
  have hl : n < S.length := (List.getElem?_eq_some_iff.mp hn).1
  have h1 : cellAt ⟨σm, S⟩ (.g n) = some (.ins c fs) := hn
  obtain ⟨Ca, dx, vs, i, hi, g1, g2, g3⟩ := R.M.cells _ _ h1
  cases hi
  have hv' := allV_put (f := f) (d := d) hv
  have at' : cellAt ⟨σm, S.set n (.ins c (Mi.putF fs f (.v d)))⟩ (.g n) = some (.ins c (Mi.putF fs f (.v d))) := by show (S.set n _)[n]? = _; rw [List.getElem?_set_self hl]
  have ext : Ext w ⟨σm, S⟩ H w ⟨σm, S.set n (.ins c (Mi.putF fs f (.v d)))⟩ (upd H (w.α (.g n)) (.ins Ca dx (L2.putF (nm f) u vs))) := by
    refine ⟨fun _ h => h, fun _ _ _ _ h => h, fun i y hi => ⟨?_, rfl⟩, fun a o h n' => ⟨?_, ?_⟩⟩
    · have : i < (S.set n (.ins c (Mi.putF fs f (.v d)))).length := by rw [List.length_set]; exact (List.getElem?_eq_some_iff.mp (show S[i]? = some y from hi)).1
      exact ⟨_, List.getElem?_eq_some_iff.mpr ⟨this, rfl⟩⟩
    · rw [upd_ne]
      · exact h
      · rintro rfl; exact n' ⟨.g n, _, h1, rfl⟩
    · rintro ⟨q, y, k1, k2⟩
      rcases ins_set hl hv' k1 with ⟨_, a2⟩ | ⟨rfl, _⟩
      · exact n' ⟨q, y, a2, k2⟩
      · exact n' ⟨.g n, _, h1, k2⟩
  refine ⟨Ca, dx, vs, g1, g2, g3.len, ⟨⟨fun q1 q2 c1 c2 k1 k2 k3 => ?_, fun q y hq => ?_, fun a ha => ?_, fun q y hq => ?_⟩, R.E.ext ext rfl fun _ => rfl⟩, ext⟩
  · have f1 : ∃ y, cellAt ⟨σm, S⟩ q1 = some y := by
      rcases ins_set hl hv' k1 with ⟨_, a⟩ | ⟨rfl, _⟩
      · exact ⟨_, a⟩
      · exact ⟨_, h1⟩
    have f2 : ∃ y, cellAt ⟨σm, S⟩ q2 = some y := by
      rcases ins_set hl hv' k2 with ⟨_, a⟩ | ⟨rfl, _⟩
      · exact ⟨_, a⟩
      · exact ⟨_, h1⟩
    obtain ⟨y1, f1⟩ := f1
    obtain ⟨y2, f2⟩ := f2
    exact R.M.inj _ _ _ _ f1 f2 k3
  · rcases ins_set hl hv' hq with ⟨nq, a⟩ | ⟨rfl, rfl⟩
    · exact (R.M.cells q y a).ext ext (fun _ _ _ => rfl) (upd_ne fun z => nq (R.M.inj _ _ _ _ a h1 z))
    · exact ⟨Ca, dx, _, n, rfl, g1, upd_same, (g3.ext ext fun _ => rfl).put (RepD.ext ext r)⟩
  · obtain ⟨o, ho⟩ := R.M.out a ha
    by_cases z : a = w.α (.g n)
    · exact ⟨_, by rw [z]; exact upd_same⟩
    · exact ⟨o, by rw [upd_ne z]; exact ho⟩
  · rcases ins_set hl hv' hq with ⟨nq, a⟩ | ⟨rfl, rfl⟩
    · exact R.M.nout q y a
    · exact R.M.nout _ _ h1
end
section
variable {X : Cx} {ct : String → Option Addr} {k : Nat} {C : Cal} {T : Tb} {fns : List String} {x : Str} {p pos pos' apos : Pos} {e o : Expr} {es : List Expr} {fa : Av} {fo fe : Ev}
theorem ds_fld (G : PF X.K ct X.prog X.w X.mg X.base k C T fns) (f : String) {fS : Str} (ho : DE X ct o fo) (he : DE X ct e fe) (hx : nm f = fS := by rfl) (hs : swapsWith e (some (.Attribute o fS pos')) pos.line X.env = pure false := by rfl) :
    DS X ct (.Assign [.Attribute o fS pos'] e pos) (Mi.sFld T f fo fe) := by
  subst hx
  refine ⟨fun W tk => PS.imp (ps_fld (ho.run W tk) (he.run W tk) hs) fun D σ H ⟨w, m, S, h⟩ => ?_⟩
  refine tE.so S h fun y w1 m1 H1 v S1 e1 pv h1 => ?_
  refine tE.so S1 h1 fun x w2 m2 H2 u S2 e2 pu h2 => ?_
  split at h2
  · rename_i n d
    split at h2
    · rename_i c fs q
      split at h2
      · rename_i hc
        obtain ⟨c1, c2, c3⟩ := hc
        have pv2 : RepD X.K ct w2 m2 H2 d v := RepD.ext e2 pv
        obtain ⟨σm, Sm⟩ := m2
        obtain ⟨Ca, dx, vs, g1, g2, g3, R3, e3⟩ := SR.setF (f := f) S2 q c3 pv2
        cases pu
        obtain ⟨Ca', g4, g5, g6⟩ := G.fl c f c1
        rw [g1] at g4; cases g4
        exact ⟨_, Ca, dx, vs, rfl, g2, g5, g6, by rw [g3]; exact c2, h2 _ _ _ R3 e3⟩
      · exact h2.elim
    · exact h2.elim
  · exact h2.elim
/-! ### a cell lent -/
theorem de_lend (i : Nat) {f : Ev} (he : DE X ct e f) : DE X ct e (Mi.eLend i f) := ⟨fun W tk => PE.imp (he.run W tk) fun σ H Q ⟨w, m, S, h⟩ => by
  unfold Mi.eLend at h
  split at h
  · rename_i c hc
    obtain ⟨hs1, hs2, hs3⟩ := S.slot hc
    obtain ⟨σm, Sm⟩ := m
    have B := S.blw
    have hil : i < σm.length := (List.getElem?_eq_some_iff.mp (show σm[i]? = some (some (FV.o c)) from hs1)).1
    -- the lent state
    have key : ∀ {q : Pl} {x : SC}, cellAt ⟨σm.set i (some (.v (.ref Sm.length))), Sm ++ [.c c]⟩ q = some x → (q ≠ .g Sm.length ∧ q ≠ .s i ∧ cellAt ⟨σm, Sm⟩ q = some x) ∨ (q = .g Sm.length ∧ x = .c c) := fun {q x} hq => by
      rcases cell_app (fun _ _ _ _ z _ => by cases z) hq with ⟨n1, k1⟩ | z
      · rcases cell_set k1 with ⟨n2, k2⟩ | ⟨_, z, k2, _⟩
        · exact .inl ⟨n1, n2, k2⟩
        · cases k2
      · exact .inr z
    have mv : Mv w ⟨σm, Sm⟩ H (w.at (.g Sm.length) (w.α (.s i))) ⟨σm.set i (some (.v (.ref Sm.length))), Sm ++ [.c c]⟩ H := by
      refine ⟨fun a u n h => ⟨?_, h⟩, fun j y hj => ?_⟩
      · rintro (z | ⟨q, y, k1, k2⟩)
        · exact n (.inl z)
        · rcases key k1 with ⟨n1, n2, k3⟩ | ⟨rfl, rfl⟩
          · rw [Wd.at_ne n1] at k2; exact n (.inr ⟨q, y, k3, k2⟩)
          · rw [Wd.at_same] at k2; exact n (.inr ⟨.s i, _, hs3, k2⟩)
      · have hj : Sm[j]? = some y := hj
        have hl := (List.getElem?_eq_some_iff.mp hj).1
        exact ⟨⟨y, by show (Sm ++ [SC.c c])[j]? = _; rw [List.getElem?_append_left hl]; exact hj⟩, Wd.at_ne (by intro z; cases z; omega)⟩
    have R1 : SR X.K ct (w.at (.g Sm.length) (w.α (.s i))) ⟨σm.set i (some (.v (.ref Sm.length))), Sm ++ [.c c]⟩ H σ := by
      refine ⟨⟨fun q1 q2 c1 c2 k1 k2 k3 => ?_, fun q y hq => ?_, S.M.out, fun q y hq => ?_⟩, ⟨by show (σm.set i _).length = _; rw [List.length_set]; exact S.E.len, fun j y z k1 k2 => ?_⟩⟩
      · rcases key k1 with ⟨n1, n1', a1⟩ | ⟨n1, _⟩ <;> rcases key k2 with ⟨n2, n2', a2⟩ | ⟨n2, _⟩
        · rw [Wd.at_ne n1, Wd.at_ne n2] at k3; exact S.M.inj _ _ _ _ a1 a2 k3
        · subst n2
          rw [Wd.at_ne n1, Wd.at_same] at k3
          exact absurd (S.M.inj _ _ _ _ a1 hs3 k3) n1'
        · subst n1
          rw [Wd.at_ne n2, Wd.at_same] at k3
          exact absurd (S.M.inj _ _ _ _ a2 hs3 k3.symm) n2'
        · rw [n1, n2]
      · rcases key hq with ⟨n1, _, a1⟩ | ⟨rfl, rfl⟩
        · rw [Wd.at_ne n1]; exact (S.M.cells q y a1).mv mv (fun _ _ _ => Wd.at_ne (by simp)) rfl
        · rw [Wd.at_same]; exact ((S.M.cells _ _ hs3).mv mv (by intro _ _ z; cases z) rfl).pl
      · rcases key hq with ⟨n1, _, a1⟩ | ⟨rfl, rfl⟩
        · rw [Wd.at_ne n1]; exact S.M.nout q y a1
        · rw [Wd.at_same]; exact S.M.nout _ _ hs3
      · have k1 : (σm.set i (some (.v (.ref Sm.length))))[j]? = some y := k1
        by_cases q : i = j
        · subst q
          rw [List.getElem?_set_self hil] at k1
          cases k1
          have hs2' := hs2
          rw [k2] at hs2'
          cases hs2'
          refine ⟨_, rfl, ?_⟩
          have : RepD X.K ct (w.at (.g Sm.length) (w.α (.s i))) ⟨σm.set i (some (.v (.ref Sm.length))), Sm ++ [.c c]⟩ H (.ref Sm.length) (.ref ((w.at (.g Sm.length) (w.α (.s i))).α (.g Sm.length))) := .ref (c := .c c) (by show (Sm ++ [SC.c c])[Sm.length]? = _; simp)
          rw [Wd.at_same] at this
          exact this
        · rw [List.getElem?_set_ne q] at k1
          have r := S.E.at_ j y z k1 k2
          cases y with
          | none => trivial
          | some f =>
            cases f with
            | v d => obtain ⟨u, e1, r'⟩ := r; exact ⟨u, e1, r'.mv mv⟩
            | o c => show z = _; rw [Wd.at_ne (by simp)]; exact r
            | lent => trivial
    refine ⟨_, _, R1, ?_⟩
    cases q : f ⟨σm.set i (some (.v (.ref Sm.length))), Sm ++ [.c c]⟩ with
    | bad => dsimp only at h; rw [q] at h; exact h
    | ex x m2 => dsimp only at h; rw [q] at h; exact h.elim
    | ok x m2 =>
      dsimp only at h
      rw [q] at h
      cases x with
      | sl j => exact h.elim
      | v d =>
        dsimp only at h
        split at h
        · rename_i c' hd
          split at h
          · rename_i hcc
            obtain ⟨z1, z2, z3, z4⟩ := hcc
            obtain ⟨σ2, S2⟩ := m2
            have z1 : σ2 = σm.set i (some (.v (.ref Sm.length))) := z1
            subst z1
            have hS2 : S2 = Sm ++ [.c c'] := drop_one hd z2
            subst hS2
            intro w2 H2 R2 e2 v pv
            -- back into the slot
            have ha : w2.α (.g Sm.length) = w.α (.s i) := by
              have := (e2.gl Sm.length (.c c) (by show (Sm ++ [SC.c c])[Sm.length]? = _; simp)).2
              rw [this, Wd.at_same]
            have hn : cellAt ⟨σm.set i (some (.v (.ref Sm.length))), Sm ++ [.c c']⟩ (.g Sm.length) = some (.c c') := by show (Sm ++ [SC.c c'])[Sm.length]? = _; simp
            have key2 : ∀ {q : Pl} {x : SC}, cellAt ⟨σm.set i (some (.o c')), Sm⟩ q = some x → (q ≠ .s i ∧ cellAt ⟨σm.set i (some (.v (.ref Sm.length))), Sm ++ [.c c']⟩ q = some x ∧ q ≠ .g Sm.length ∧ cellAt ⟨σm, Sm⟩ q = some x) ∨ (q = .s i ∧ x = .c c') := fun {q x} hq => by
              rcases cell_set hq with ⟨n1, k1⟩ | ⟨n1, z, k1, k2⟩
              · refine .inl ⟨n1, app_old ?_, ?_, k1⟩
                · cases q with
                  | g j => exact k1
                  | f j s => exact k1
                  | s j =>
                    have hj : i ≠ j := fun z => n1 (by rw [z])
                    show ((Me.mk (σm.set i _) Sm).slot j).map SC.c = _
                    have : (Me.mk (σm.set i (some (.v (.ref Sm.length)))) Sm).slot j = (Me.mk σm Sm).slot j := by
                      unfold Mi.Me.slot
                      show (match (σm.set i _)[j]? with | some (some (.o c)) => some c | _ => none) = (match σm[j]? with | some (some (.o c)) => some c | _ => none)
                      rw [List.getElem?_set_ne hj]
                    rw [this]; exact k1
                · rintro rfl
                  have k1 : Sm[Sm.length]? = some x := k1
                  simp at k1
              · cases k1; exact .inr ⟨n1, k2⟩
            have mv2 : Mvb Sm.length w2 ⟨σm.set i (some (.v (.ref Sm.length))), Sm ++ [.c c']⟩ H2 (w2.at (.s i) (w.α (.s i))) ⟨σm.set i (some (.o c')), Sm⟩ H2 := by
              refine ⟨fun a u n h => ⟨?_, h⟩, fun j y hj hy => ?_⟩
              · rintro (z | ⟨q, y, k1, k2⟩)
                · exact n (.inl z)
                · rcases key2 k1 with ⟨n1, k3, _, _⟩ | ⟨rfl, rfl⟩
                  · rw [Wd.at_ne n1] at k2; exact n (.inr ⟨q, y, k3, k2⟩)
                  · rw [Wd.at_same] at k2; exact n (.inr ⟨.g Sm.length, _, hn, by rw [ha]; exact k2⟩)
              · have hy : (Sm ++ [SC.c c'])[j]? = some y := hy
                rw [List.getElem?_append_left hj] at hy
                exact ⟨⟨y, hy⟩, Wd.at_ne (by simp)⟩
            have ext : Ext w ⟨σm, Sm⟩ H (w2.at (.s i) (w.α (.s i))) ⟨σm.set i (some (.o c')), Sm⟩ H2 := by
              refine ⟨fun a h => e2.Om a h, fun a o h n z => ?_, fun j y hj => ⟨⟨y, hj⟩, ?_⟩, fun a o h n => ?_⟩
              · refine e2.Oa a o h ?_ z
                rintro ⟨q, y, k1, k2⟩
                rcases key k1 with ⟨n1, n2, k3⟩ | ⟨rfl, rfl⟩
                · rw [Wd.at_ne n1] at k2; exact n ⟨q, y, k3, k2⟩
                · rw [Wd.at_same] at k2; exact n ⟨.s i, _, hs3, k2⟩
              · have hj : Sm[j]? = some y := hj
                have hl := (List.getElem?_eq_some_iff.mp hj).1
                have := (e2.gl j y (by show (Sm ++ [SC.c c])[j]? = _; rw [List.getElem?_append_left hl]; exact hj)).2
                rw [Wd.at_ne (by simp), this, Wd.at_ne (by intro z; cases z; omega)]
              · have n' : ¬ MutA (w.at (.g Sm.length) (w.α (.s i))).α ⟨σm.set i (some (.v (.ref Sm.length))), Sm ++ [.c c]⟩ a := by
                  rintro ⟨q, y, k1, k2⟩
                  rcases key k1 with ⟨n1, n2, k3⟩ | ⟨rfl, rfl⟩
                  · rw [Wd.at_ne n1] at k2; exact n ⟨q, y, k3, k2⟩
                  · rw [Wd.at_same] at k2; exact n ⟨.s i, _, hs3, k2⟩
                obtain ⟨h1, h2⟩ := e2.keep a o h n'
                refine ⟨h1, ?_⟩
                rintro ⟨q, y, k1, k2⟩
                rcases key2 k1 with ⟨n1, k3, _, _⟩ | ⟨rfl, rfl⟩
                · rw [Wd.at_ne n1] at k2; exact h2 ⟨q, y, k3, k2⟩
                · rw [Wd.at_same] at k2; exact n ⟨.s i, _, hs3, k2⟩
            have R3 : SR X.K ct (w2.at (.s i) (w.α (.s i))) ⟨σm.set i (some (.o c')), Sm⟩ H2 σ := by
              refine ⟨⟨fun q1 q2 c1 c2 k1 k2 k3 => ?_, fun q y hq => ?_, R2.M.out, fun q y hq => ?_⟩, ⟨by show (σm.set i _).length = _; rw [List.length_set]; exact S.E.len, fun j y z k1 k2 => ?_⟩⟩
              · rcases key2 k1 with ⟨n1, a1, n1', _⟩ | ⟨n1, _⟩ <;> rcases key2 k2 with ⟨n2, a2, n2', _⟩ | ⟨n2, _⟩
                · rw [Wd.at_ne n1, Wd.at_ne n2] at k3; exact R2.M.inj _ _ _ _ a1 a2 k3
                · subst n2
                  rw [Wd.at_ne n1, Wd.at_same, ← ha] at k3
                  exact absurd (R2.M.inj _ _ _ _ a1 hn k3) n1'
                · subst n1
                  rw [Wd.at_ne n2, Wd.at_same, ← ha] at k3
                  exact absurd (R2.M.inj _ _ _ _ a2 hn k3.symm) n2'
                · rw [n1, n2]
              · rcases key2 hq with ⟨n1, a1, _, a3⟩ | ⟨rfl, rfl⟩
                · rw [Wd.at_ne n1]; exact (R2.M.cells q y a1).mvb mv2 (B.cell q y a3) (fun _ _ _ => Wd.at_ne (by simp)) rfl
                · rw [Wd.at_same]
                  have q9 := (R2.M.cells _ _ hn).mvb mv2 (show cblw Sm.length (.c c') = true from z4) (fun _ _ z => Wd.at_ne (by simp)) rfl
                  rw [ha] at q9
                  exact q9.pl
              · rcases key2 hq with ⟨n1, a1, _, _⟩ | ⟨rfl, rfl⟩
                · rw [Wd.at_ne n1]; exact R2.M.nout q y a1
                · rw [Wd.at_same, ← ha]; exact R2.M.nout _ _ hn
              · have k1 : (σm.set i (some (.o c')))[j]? = some y := k1
                by_cases q : i = j
                · subst q
                  rw [List.getElem?_set_self hil] at k1
                  cases k1
                  rw [hs2] at k2
                  cases k2
                  show _ = _
                  rw [Wd.at_same]
                · rw [List.getElem?_set_ne q] at k1
                  have r := R2.E.at_ j y z (by show (σm.set i _)[j]? = _; rw [List.getElem?_set_ne q]; exact k1) k2
                  cases y with
                  | none => trivial
                  | some f =>
                    cases f with
                    | v d => obtain ⟨u, e1, r'⟩ := r; exact ⟨u, e1, r'.mvb mv2 (B.env j d k1)⟩
                    | o c => show z = _; rw [Wd.at_ne (by simpa using fun z => q z.symm)]; exact r
                    | lent => trivial
            exact RE.ok h R3 ext v (RepD.mvb mv2 pv z3)
          · exact h.elim
        · exact h.elim
  · exact h.elim⟩
end
end So

set_option Elab.async false
set_option linter.all false
set_option maxRecDepth 100000
set_option maxHeartbeats 4000000
namespace So
open PySem PySem.Spec PyProof.Rows L2
open Mi (D Cl FV SC Me Xc Res PV Ky Ev Tv Av Lv Iv Ov Sv Bd Out Tx RG Cal Tb)

/-! ### a def -/
section
variable {K : PySem.W.Frag} {ct : String → Option Addr} {w w1 : Wd} {S S1 : List SC} {H H1 : Hp} {σ : L2.St}
theorem slot_start {ds : List D} {n i : Nat} : (Me.mk (ds.map (fun d => some (FV.v d)) ++ List.replicate n none) S).slot i = none := by
  unfold Mi.Me.slot
  split
  · rename_i c h
    rcases List.mem_append.mp (List.mem_of_getElem? h) with z | z
    · obtain ⟨d, _, e⟩ := List.mem_map.mp z
      cases e
    · cases (List.mem_replicate.mp z).2
  · rfl
theorem cell_start {ds : List D} {n : Nat} {p : Pl} {c : SC} (h : cellAt ⟨ds.map (fun d => some (FV.v d)) ++ List.replicate n none, S⟩ p = some c) : cellAt ⟨[], S⟩ p = some c := by
  cases p with
  | g i => exact h
  | f i s => exact h
  | s i =>
    have h : ((Me.mk (ds.map (fun d => some (FV.v d)) ++ List.replicate n none) S).slot i).map SC.c = some c := h
    rw [slot_start] at h; cases h
theorem mv_start {σm : Mi.Env} (hσ : ∀ p c, cellAt ⟨σm, S⟩ p = some c → cellAt ⟨[], S⟩ p = some c) : Mv w ⟨[], S⟩ H w ⟨σm, S⟩ H := by
  refine ⟨fun a u n h => ⟨?_, h⟩, fun i c h => ⟨⟨c, h⟩, rfl⟩⟩
  rintro (z | ⟨p, c, k1, k2⟩)
  · exact n (.inl z)
  · exact n (.inr ⟨p, c, hσ p c k1, k2⟩)
theorem start_SR (M : MRel K ct w ⟨[], S⟩ H) {ds : List D} {vs : List V} (r : RepL K ct w ⟨[], S⟩ H ds vs) {N : List Str} :
    SR K ct w ⟨ds.map (fun d => some (FV.v d)) ++ List.replicate (N.length - ds.length) none, S⟩ H (L2.start N vs) := by
  have hm := fun p c h => cell_start (S := S) (ds := ds) (n := N.length - ds.length) (p := p) (c := c) h
  have mv : Mv w ⟨[], S⟩ H w ⟨ds.map (fun d => some (FV.v d)) ++ List.replicate (N.length - ds.length) none, S⟩ H := mv_start hm
  have hl := r.length
  refine ⟨⟨fun p q c c' h1 h2 => M.inj p q c c' (hm _ _ h1) (hm _ _ h2), fun p c h => (M.cells p c (hm _ _ h)).mv mv (fun _ _ _ => rfl) rfl, M.out, fun p c h => M.nout p c (hm _ _ h)⟩, ⟨by simp [L2.start, hl], fun i x y h1 h2 => ?_⟩⟩
  have h1 : (ds.map (fun d => some (FV.v d)) ++ List.replicate (N.length - ds.length) none)[i]? = some x := h1
  unfold L2.start at h2
  by_cases hi : i < ds.length
  · rw [List.getElem?_append_left (by simpa using hi), List.getElem?_map] at h1
    rw [List.getElem?_append_left (by simpa [← hl] using hi), List.getElem?_map] at h2
    obtain ⟨d, hd, rfl⟩ := Option.map_eq_some_iff.mp h1
    obtain ⟨v, hv, rfl⟩ := Option.map_eq_some_iff.mp h2
    obtain ⟨v', hv', rd⟩ := r.get hd
    rw [hv] at hv'; cases hv'
    exact ⟨v, rfl, rd.mv mv⟩
  · rw [List.getElem?_append_right (by simpa using hi)] at h1
    have := List.mem_of_getElem? h1
    obtain ⟨_, rfl⟩ := List.mem_replicate.mp this
    trivial
/-- the frame is left -/
theorem leave_SR {σm : Mi.Env} (R : SR K ct w ⟨σm, S⟩ H σ) : ∃ w', MRel K ct w' ⟨[], S⟩ H ∧ Mv w ⟨σm, S⟩ H w' ⟨[], S⟩ H ∧ w'.α = w.α ∧ w'.O = w.O := by
  have mv : Mv w ⟨σm, S⟩ H w ⟨[], S⟩ H := by
    refine ⟨fun a u n h => ⟨?_, h⟩, fun i c h => ⟨⟨c, h⟩, rfl⟩⟩
    rintro (z | ⟨p, c, k1, k2⟩)
    · exact n (.inl z)
    · exact n (.inr ⟨p, c, (cell_nil k1).1, k2⟩)
  exact ⟨w, ⟨fun p q c c' h1 h2 => R.M.inj p q c c' (cell_nil h1).1 (cell_nil h2).1, fun p c h => (R.M.cells p c (cell_nil h).1).mv mv (fun _ _ _ => rfl) rfl, R.M.out, fun p c h => R.M.nout p c (cell_nil h).1⟩, mv, rfl, rfl⟩
theorem ext_leave {w0 : Wd} {S0 : List SC} {σ0 σm : Mi.Env} {H0 : Hp} (h0 : ∀ p c, cellAt ⟨σ0, S0⟩ p = some c → cellAt ⟨[], S0⟩ p = some c) (e : Ext w0 ⟨σ0, S0⟩ H0 w ⟨σm, S⟩ H) : Ext w0 ⟨[], S0⟩ H0 w ⟨[], S⟩ H := by
  refine ⟨e.Om, fun a o h n z => e.Oa a o h (fun ⟨p, c, k1, k2⟩ => n ⟨p, c, h0 p c k1, k2⟩) z, e.gl, fun a o h n => ?_⟩
  obtain ⟨h1, h2⟩ := e.keep a o h fun ⟨p, c, k1, k2⟩ => n ⟨p, c, h0 p c k1, k2⟩
  exact ⟨h1, fun ⟨p, c, k1, k2⟩ => h2 ⟨p, c, (cell_nil k1).1, k2⟩⟩
end
/-- a def by its body -/
theorem fn_sound {P : Program} {w : World} {K : PySem.W.Frag} {mg : Str → Option Value} {base : Heap} {ct : String → Option Addr} {x qual : Str} {st : Stmt} {f : Addr} {fd : FuncData} {N ps : List Str} {k : Nat} {body : Sv} (F : Fun K x qual st f fd) (S : FnScope N ps (defScope st))
    (hb : ∀ (cdv : Value) (A : Around) (outer : List Env) (s : Shared) (H : Hp) (E : XK), Room k (A.deeper (envOfC qual (defScope st) s.heap.objs.size f cdv)) → DSs (cxOf (L2.CX P w) P w K mg base N qual (defScope st) f cdv A outer s H E) ct (defBody st) body) :
    FnOk P w K mg base (L2.CX P w) (k + 1) f fd ps (spOf K ct (Mi.runF ps.length N.length body)) := by
  refine F.okX S (fun vs H Q E h => ?_) (fun cdv A outer s H vs Q E hr h => ?_)
  · obtain ⟨w, S, ds, M, r, h⟩ := h
    rw [← r.length]
    unfold Mi.runF at h
    by_cases hl : ds.length = ps.length
    · exact hl
    · rw [if_neg hl] at h; exact h.elim
  · refine ⟨_, (hb cdv A outer s H E hr).run (fun cls d _ H => E cls d H) (takes_of rfl rfl rfl rfl), ?_⟩
    obtain ⟨w, S, ds, M, r, h⟩ := h
    refine ⟨w, _, start_SR M r, ?_⟩
    unfold Mi.runF at h
    by_cases hl : ds.length = ps.length
    case neg => rw [if_neg hl] at h; exact h.elim
    rw [if_pos hl] at h
    have h0 : ∀ p c, cellAt ⟨ds.map (fun d => some (FV.v d)) ++ List.replicate (N.length - ds.length) none, S⟩ p = some c → cellAt ⟨[], S⟩ p = some c := fun p c h => cell_start h
    cases q : body ⟨ds.map (fun d => some (FV.v d)) ++ List.replicate (N.length - ds.length) none, S⟩ with
    | nx m =>
      rw [q] at h
      obtain ⟨σm, S'⟩ := m
      intro w1 H1 σ1 S1 e1
      obtain ⟨w2, M2, mv, e, e'⟩ := leave_SR S1
      obtain ⟨_, _⟩ := w1
      obtain ⟨_, _⟩ := w2
      cases e; cases e'
      exact h _ .non H1 M2 (ext_leave h0 e1) .non
    | rt d m =>
      rw [q] at h
      obtain ⟨σm, S'⟩ := m
      intro w1 H1 σ1 v S1 e1 rd
      obtain ⟨w2, M2, mv, e, e'⟩ := leave_SR S1
      obtain ⟨_, _⟩ := w1
      obtain ⟨_, _⟩ := w2
      cases e; cases e'
      exact h _ v H1 M2 (ext_leave h0 e1) (rd.mv mv)
    | ex xc m =>
      rw [q] at h
      obtain ⟨σm, S'⟩ := m
      intro w1 H1 σ1 cls dx S1 e1 rx
      obtain ⟨w2, M2, mv, e, e'⟩ := leave_SR S1
      obtain ⟨_, _⟩ := w1
      obtain ⟨_, _⟩ := w2
      cases e; cases e'
      exact h _ cls dx H1 M2 (ext_leave h0 e1) (rx.mv mv)
    | bk m => rw [q] at h; exact h.elim
    | ct m => rw [q] at h; exact h.elim
    | bad => rw [q] at h; exact h.elim
end So

set_option Elab.async false
set_option linter.all false
set_option maxRecDepth 100000
set_option maxHeartbeats 4000000
namespace So
open PySem PySem.Spec PyProof.Rows L2
open Mi (D Cl FV SC Me Xc Res PV Ky Ev Tv Av Lv Iv Ov Sv Bd Out Tx RG Cal Tb)

/-! ### dict(d), dicts that are the same -/
section
variable {X : Cx} {ct : String → Option Addr} {a b e : Expr} {pos p : Pos} {es : List Expr} {x : Str}
theorem ok_dict : CallOk X ct Mi.aDict (fun xs H Q => ∃ (a : Addr) (kvs : List (Key × V)), xs = [.ref a] ∧ Rd H a (.dK kvs) ∧ ∀ p, H p = none → Q (.ref p) (upd H p (.dK kvs))) := by
  intro w m H σ xs vs d Q S r hg k
  unfold Mi.aDict at hg
  split at hg
  · rename_i x
    cases r with
    | cons r t =>
      cases t
      obtain ⟨kvs, q, rfl⟩ := opt_map hg
      obtain ⟨a, us, rfl, h1, h2⟩ := S.kvs r q
      refine ⟨a, us, rfl, h1, fun p hp => k _ _ (S.fresh hp) (Ext.fresh hp) ?_⟩
      exact .dct (S.M.notBad hp) ⟨_, upd_same, rfl⟩ (h2.ext (Ext.fresh hp))
  · cases hg
theorem eqF_flat {K : PySem.W.Frag} {w : Wd} {m : Me} {H : Hp} {d e : D} {v u : V} (r : RepD K ct w m H d v) (r' : RepD K ct w m H e u) (h : Mi.eqF d e = true) : v = u ∧ flatB u = true := by
  unfold Mi.eqF at h
  split at h
  · cases r; cases r'; exact ⟨rfl, rfl⟩
  · rename_i a b
    have : a = b := by simpa using h
    subst this
    cases r; cases r'; exact ⟨rfl, rfl⟩
  · rename_i a b
    have : a = b := by simpa using h
    subst this
    cases r; cases r'; exact ⟨rfl, rfl⟩
  · rename_i a b
    have : a = b := by simpa using h
    subst this
    cases r; cases r'; exact ⟨rfl, rfl⟩
  · cases h
theorem same_hits {K : PySem.W.Frag} {w : Wd} {m : Me} {H : Hp} {ls : List (Ky × D)} {us : List (Key × V)} (rl : RepK K ct w m H ls us) : ∀ {ks : List (Ky × D)} {vs : List (Key × V)}, RepK K ct w m H ks vs →
    (ks.all fun p => match Mi.look ls p.1 with | some d => Mi.eqF d p.2 | none => false) = true → ∀ p ∈ vs, valV us p.1 = some p.2 ∧ flatB p.2 = true
  | _, _, .nil, _, p, hp => absurd hp List.not_mem_nil
  | _, _, .cons (k := k) (d := d) (v := v) r t, h, p, hp => by
    rw [List.all_cons, Bool.and_eq_true] at h
    rcases List.mem_cons.mp hp with rfl | hp
    · have h1 := h.1
      dsimp only at h1
      cases q : Mi.look ls k with
      | none => rw [q] at h1; cases h1
      | some d' =>
        rw [q] at h1
        obtain ⟨v', e1, e2⟩ := rl.lookS q
        obtain ⟨e3, e4⟩ := eqF_flat e2 r h1
        subst e3
        exact ⟨e1, e4⟩
    · exact same_hits rl t h.2 p hp
def rSameK (b : Bool) : R2 := fun x y H Q => ∃ a b' ks ls, x = .ref a ∧ y = .ref b' ∧ Rd H a (.dK ks) ∧ Rd H b' (.dK ls) ∧ ks.length = ls.length ∧ (∀ p ∈ ks, valV ls p.1 = some p.2 ∧ flatB p.2 = true) ∧ Q (.bl b) H
theorem op_eqK (hu : X.A.units < cLine) : OpR X (compareOp .Eq) (rSameK true) := by
  intro pins s σ H x y v u Q I rx ry h
  obtain ⟨a, b, ks, ls, rfl, rfl, ea, eb, hlen, hp, q⟩ := h
  obtain rfl : v = Value.ref a := rx
  obtain rfl : u = Value.ref b := ry
  obtain ⟨_, ya, va, ra, da⟩ := dk_rd I.hok ea
  obtain ⟨_, yb, vb, rb, db⟩ := dk_rd I.hok eb
  have hl : va.length = vb.length := by rw [← ra.length, ← rb.length]; exact hlen
  exact PySem.W.keq_eq (knd := mixKind X.prog X.w) (r := true) ya yb da db hu (fun _ => hits_all rb ra hp) (fin_bl I q (by simp [hl]))
theorem op_neK (hu : X.A.units < cLine) : OpR X (compareOp .NotEq) (rSameK false) := by
  intro pins s σ H x y v u Q I rx ry h
  obtain ⟨a, b, ks, ls, rfl, rfl, ea, eb, hlen, hp, q⟩ := h
  obtain rfl : v = Value.ref a := rx
  obtain rfl : u = Value.ref b := ry
  obtain ⟨_, ya, va, ra, da⟩ := dk_rd I.hok ea
  obtain ⟨_, yb, vb, rb, db⟩ := dk_rd I.hok eb
  have hl : va.length = vb.length := by rw [← ra.length, ← rb.length]; exact hlen
  exact PySem.W.keq_ne (knd := mixKind X.prog X.w) (r := true) ya yb da db hu (fun _ => hits_all rb ra hp) (fin_bl I q (by simp [hl]))
theorem ok_eqK : OpOk X ct Mi.gEqK (rSameK true) := by
  intro w m H σ x y v u d Q S rx ry hg k
  unfold Mi.gEqK at hg
  split at hg
  · rename_i ks ls q1 q2
    split at hg
    · rename_i hs
      cases hg
      unfold Mi.sameKv at hs
      rw [Bool.and_eq_true] at hs
      obtain ⟨a, us, rfl, h1, h2⟩ := S.kvs rx q1
      obtain ⟨a', us', rfl, h1', h2'⟩ := S.kvs ry q2
      refine ⟨_, _, us, us', rfl, rfl, h1, h1', ?_, same_hits h2' h2 hs.2, k _ H S (Ext.refl ..) (.bl _)⟩
      rw [← h2.length, ← h2'.length]; simpa using hs.1
    · cases hg
  · cases hg
theorem ok_neK : OpOk X ct Mi.gNeK (rSameK false) := by
  intro w m H σ x y v u d Q S rx ry hg k
  unfold Mi.gNeK at hg
  split at hg
  · rename_i ks ls q1 q2
    split at hg
    · rename_i hs
      cases hg
      unfold Mi.sameKv at hs
      rw [Bool.and_eq_true] at hs
      obtain ⟨a, us, rfl, h1, h2⟩ := S.kvs rx q1
      obtain ⟨a', us', rfl, h1', h2'⟩ := S.kvs ry q2
      refine ⟨_, _, us, us', rfl, rfl, h1, h1', ?_, same_hits h2' h2 hs.2, k _ H S (Ext.refl ..) (.bl _)⟩
      rw [← h2.length, ← h2'.length]; simpa using hs.1
    · cases hg
  · cases hg
theorem de_eqK (hu : X.A.units + 64 < cLine) {fa fb : Ev} (ha : DE X ct a fa) (hb : DE X ct b fb) : DE X ct (.Compare a [.Eq] [b] pos) (Mi.e2 Mi.gEqK fa fb) := de_cmp (op_eqK (by omega)) ok_eqK ha hb (nomark _)
theorem de_neK (hu : X.A.units + 64 < cLine) {fa fb : Ev} (ha : DE X ct a fa) (hb : DE X ct b fb) : DE X ct (.Compare a [.NotEq] [b] pos) (Mi.e2 Mi.gNeK fa fb) := de_cmp (op_neK (by omega)) ok_neK ha hb (nomark _)
theorem dt_eqK (hu : X.A.units + 64 < cLine) {fa fb : Ev} (ha : DE X ct a fa) (hb : DE X ct b fb) : DT X ct (.Compare a [.Eq] [b] pos) (Mi.tV (Mi.e2 Mi.gEqK fa fb)) := dt_cmp (op_eqK (by omega)) ok_eqK ha hb (nomark _)
theorem dt_neK (hu : X.A.units + 64 < cLine) {fa fb : Ev} (ha : DE X ct a fa) (hb : DE X ct b fb) : DT X ct (.Compare a [.NotEq] [b] pos) (Mi.tV (Mi.e2 Mi.gNeK fa fb)) := dt_cmp (op_neK (by omega)) ok_neK ha hb (nomark _)

/-! ### isinstance(x, bool) -/
theorem kit_bools {K : PySem.W.Frag} : PySem.W.kitOne K (.type "bool") (.type "bool") = some true ∧ PySem.W.kitOne K (.type "NoneType") (.type "bool") = some false ∧ PySem.W.kitOne K (.type "int") (.type "bool") = some false ∧ PySem.W.kitOne K (.type "str") (.type "bool") = some false :=
  ⟨by rfl, by rfl, by rfl, by rfl⟩
theorem de_isB (hg : Gl X "isinstance") (hm : X.mg "isinstance" = none) (hg2 : Gl X "bool") (hm2 : X.mg "bool" = none) {fa : Ev} {p2 : Pos} (ha : DE X ct e fa)
    (he : starEach [e, .Name "bool" p2] X.env = (false, eval e X.env) :: starEach [.Name "bool" p2] X.env := by rfl) (he2 : starEach [.Name "bool" p2] X.env = (false, eval (.Name "bool" p2) X.env) :: starEach [] X.env := by rfl)
    (hpl : (backTo pos (starEach [.Name "bool" p2] X.env)).any (·.1) = false := by rfl) : DE X ct (.Call (.Name "isinstance" p) [e, .Name "bool" p2] [] pos) (Mi.e1 Mi.gIsB fa) := by
  refine ⟨fun W tk => PE.imp (pe_callB call_isi hg hm (by rfl) (pa_cons (ha.run W tk) (pa_cons (pe_bltn (v := .ty "bool") (u := .type "bool") hg2 hm2 (by rfl) rfl) pa_nil (by exact he2)) (by exact he)) (by decide) (by decide) he hpl) fun σ H Q ⟨w, m, S, h⟩ => ?_⟩
  refine tE.part S h fun x w1 m1 H1 v S1 e1 pv h1 => ?_
  obtain ⟨d, hd, h3⟩ := h1.opt
  have fin : ∀ (t : Value) (b : Bool), TyX X.K H1 v t → PySem.W.kitOne X.K t (.type "bool") = some b → d = .bl b → rIsi X.K [v, .ty "bool"] H1 Q := fun t b ty hk hb => by
    subst hb
    exact ⟨v, .ty "bool", t, .type "bool", b, rfl, .ty _, ty, hk, RE.ok h3 S1 (Ext.refl ..) _ (.bl _)⟩
  unfold Mi.gIsB at hd
  split at hd
  · cases hd; cases pv; exact fin _ _ (.base (.bl _)) kit_bools.1 rfl
  · cases hd; cases pv; exact fin _ _ (.base .non) kit_bools.2.1 rfl
  · cases hd; cases pv; exact fin _ _ (.base (.int _)) kit_bools.2.2.1 rfl
  · cases hd; cases pv; exact fin _ _ (.base (.str _)) kit_bools.2.2.2 rfl
  · cases hd
end
end So

set_option Elab.async false
set_option linter.all false
set_option maxRecDepth 100000
set_option maxHeartbeats 4000000
namespace So
open PySem PySem.Spec PyProof.Rows L2
open Mi (D Cl FV SC Me Xc Res PV Ky Ev Tv Av Lv Iv Ov Sv Bd Out Tx RG Cal Tb)

/-! ### max(xs, default=d) -/
section
variable {X : Cx} {ct : String → Option Addr} {a b e : Expr} {pos p : Pos} {es : List Expr} {x : Str}
theorem maxOf_int (x : Int) (xs : List Int) : PySem.W.maxOf x xs = Mi.maxI x xs := by
  unfold PySem.W.maxOf Mi.maxI
  congr 1
  funext a y
  by_cases h : a < y
  · rw [if_pos h, if_pos (by show decide (a < y) = true; simpa using h)]
  · rw [if_neg h, if_neg (by show ¬ decide (a < y) = true; simpa using h)]
theorem ints_hold {h : Heap} : ∀ {vs : List Value} {ns : List Int}, Vals (ns.map V.int) vs → PySem.W.HoldAll h vs ns
  | _, [], .nil => .nil
  | _, n :: ns, .cons r t => by
    obtain ⟨tk, rfl⟩ := r
    exact .cons (PySem.W.holds_int n tk) (ints_hold t)
def rMaxD (K : PySem.W.Frag) : List V → List V → Hp → VK → Prop := fun vs zs H Q => ∃ (a : Addr) (ns : List Int) (d : V), vs = [.ref a] ∧ zs = [d] ∧ SqL K H a (ns.map V.int) ∧
  (ns = [] → Q d H) ∧ ∀ y ys, ns = y :: ys → Q (.int (Mi.maxI y ys)) H
theorem call_maxDef (hc : X.calm = true) (hu : X.A.units + 64 < cLine) : CallRK X (.builtin "max") ["default"] (rMaxD X.K) := by
  intro pins s σ H vs zs us ws Q I r rz h
  obtain ⟨a, ns, d, rfl, rfl, hs, q0, q1⟩ := h
  obtain ⟨its, rv, hl, _⟩ := I.list hs
  rw [Vals.ref1 r]
  obtain ⟨u, rfl, ru⟩ := vals1 rz
  refine PySem.W.max_list_datum_default (α := Int) (I.ok.hd hc) hl.isList (ints_hold rv) (by show X.A.units + 1 + 0 < cLine; omega) (fun e h' tk hk => ⟨d, H, I.kept hk, ru, q0 e⟩) fun y ys i v h' tk e hi hh hk => ?_
  obtain ⟨as, ra⟩ := hh
  refine ⟨.int _, H, I.kept hk, ?_, q1 y ys e⟩
  rw [maxOf_int] at ra
  cases ra
  exact ⟨_, rfl⟩
/-- keywords -/
structure DKw (X : Cx) (ct : String → Option Addr) (kws : List Keyword) (f : Av) : Prop where
  run : ∀ W, L2.Takes X W → PK X kws (tA X.K ct W f)
theorem PK.imp {kws : List Keyword} {t t' : TA} (h : PK X kws t) (i : ∀ σ H Q, t' σ H Q → t σ H Q) : PK X kws t' := ⟨fun p pins s σ H Q I q => h.run p pins s σ H Q I (i _ _ _ q)⟩
theorem cons_read {W : WX} {fa : Ev} {fr : Av} {σ : L2.St} {H : Hp} {Q : List V → Hp → Prop} (h : tA X.K ct W (Mi.aCons fa fr) σ H Q) : tCons (tE X.K ct W fa) (tA X.K ct W fr) σ H Q := by
  obtain ⟨w, m, S, h⟩ := h
  refine tE.part S h fun x w1 m1 H1 v S1 e1 pv h1 => ?_
  refine tA.part S1 h1 fun xs w2 m2 H2 vs S2 e2 pvs h2 => ?_
  exact RE.ok h2 S2 (Ext.refl ..) _ (.cons (pv.ext e2) pvs)
theorem dk_nil : DKw X ct [] Mi.aNil := ⟨fun W tk => PK.imp pk_nil fun σ H Q ⟨w, m, S, h⟩ => RE.ok h S (Ext.refl ..) [] .nil⟩
theorem dk_cons {nmk : Option Str} {kp : Pos} {kws : List Keyword} {fa : Ev} {fr : Av} (ha : DE X ct e fa) (hr : DKw X ct kws fr) : DKw X ct (⟨nmk, e, kp⟩ :: kws) (Mi.aCons fa fr) :=
  ⟨fun W tk => PK.imp (pk_cons (ha.run W tk) (hr.run W tk)) fun σ H Q h => cons_read h⟩
theorem asInts_rep {K : PySem.W.Frag} {w : Wd} {m : Me} {H : Hp} : ∀ {ds : List D} {vs : List V} {ns : List Int}, RepL K ct w m H ds vs → Mi.asInts ds = some ns → vs = ns.map V.int
  | _, _, _, .nil, h => by cases h; rfl
  | _, _, _, .cons (d := d) r t, h => by
    cases d <;> first | (cases h; done) | skip
    obtain ⟨l, h1, rfl⟩ := opt_map h
    cases r
    rw [asInts_rep t h1]
    rfl
theorem sqL_ls {K : PySem.W.Frag} {w : Wd} {m : Me} {H : Hp} {σ : L2.St} (S : SR K ct w m H σ) {x : PV} {v : V} {xs : List D} (r : PVR K ct w m H σ x v) (h : m.ls x = some xs) : ∃ a vs, v = .ref a ∧ SqL K H a vs ∧ RepL K ct w m H xs vs := by
  unfold Mi.Me.ls at h
  split at h
  · cases h
    cases r with
    | scr h1 h2 => exact ⟨_, _, rfl, sqL_of h1, h2⟩
  · split at h
    · rename_i q
      cases h
      obtain ⟨a, vs, e, h1, h2⟩ := S.lst r q
      exact ⟨a, vs, e, SqL.of h1, h2⟩
    · cases h
theorem de_maxD (hc : X.calm = true) (hu : X.A.units + 64 < cLine) (hg : Gl X "max") (hm : X.mg "max" = none) {kp : Pos} {fa fb : Ev} (ha : DE X ct a fa) (hb : DE X ct b fb)
    (hs1 : starEach [a] X.env = (false, eval a X.env) :: starEach [] X.env := by rfl) (he : backTo pos (starEach [a] X.env) = (false, eval a X.env) :: backTo pos (starEach [] X.env) := by rfl) (hpl : (backTo pos (starEach [a] X.env)).any (·.1) = false := by rfl)
    (hall : (backToKw pos (keywordEach [⟨some "default", b, kp⟩] X.env)).all (·.1.isSome) = true := by rfl) (hnone : (backToKw pos (keywordEach [⟨some "default", b, kp⟩] X.env)).any (·.1.isNone) = false := by rfl) (hks : (backToKw pos (keywordEach [⟨some "default", b, kp⟩] X.env)).filterMap (·.1) = (["default"] : List Str) := by rfl) :
    DE X ct (.Call (.Name "max" p) [a] [⟨some "default", b, kp⟩] pos) (Mi.eAK Mi.aMaxD (Mi.aCons fa Mi.aNil) (Mi.aCons fb Mi.aNil)) := by
  refine ⟨fun W tk => PE.imp (pe_callBK (call_maxDef hc hu) hg hm (by rfl) ((da_cons ha da_nil hs1).run W tk) ((dk_cons hb dk_nil).run W tk) (by decide) (by decide) he hpl hall hnone hks) fun σ H Q ⟨w, m, S, h⟩ => ?_⟩
  refine tA.part S h fun xs w1 m1 H1 vs S1 e1 pv h1 => ?_
  refine tA.part S1 h1 fun zs w2 m2 H2 us S2 e2 pz h2 => ?_
  obtain ⟨d, hd, h3⟩ := h2.opt
  have pv := pv.ext e2
  unfold Mi.aMaxD at hd
  split at hd
  · rename_i x dz
    cases pv with
    | cons px t =>
      cases t
      cases pz with
      | cons pz t =>
        cases t
        split at hd
        · rename_i q
          cases hd
          obtain ⟨xs, q1, q2⟩ := opt_bind q
          obtain ⟨a, vs, rfl, g1, g2⟩ := sqL_ls S2 px q1
          have := asInts_rep g2 q2
          subst this
          exact ⟨a, [], _, rfl, rfl, g1, fun _ => RE.ok h3 S2 (Ext.refl ..) _ pz, fun y ys e => by cases e⟩
        · rename_i y ys q
          cases hd
          obtain ⟨xs, q1, q2⟩ := opt_bind q
          obtain ⟨a, vs, rfl, g1, g2⟩ := sqL_ls S2 px q1
          have := asInts_rep g2 q2
          subst this
          refine ⟨a, y :: ys, _, rfl, rfl, g1, ⟨(fun e => nomatch e), ?_⟩⟩
          intro y' ys' e
          cases e
          exact RE.ok h3 S2 (Ext.refl ..) _ (.int _)
        · cases hd
  · cases hd
end

/-! ### C() where there is no __init__ -/
section
variable {X : Cx} {ct : String → Option Addr} {k : Nat} {C : Cal} {T : Tb} {fns : List String} {x : Str} {p pos : Pos}
theorem run_make0 {Ca : Addr} {pins : List (Addr × Obj)} {σ : L2.St} {H : Hp} {s : Shared} {Q : VK} (I : Inv X pins σ H s) (hm : PySem.W.makesIn X.K Ca = true) (hi : PySem.W.findIn X.K (.ref Ca) "__init__" = some (some (.builtin "object.__init__"))) (ht : PySem.W.mroIn X.K Ca (.type "object") = some true)
    (h : ∀ y dx, H y = none → H dx = none → dx ≠ y → Q (.ref y) (upd (upd H dx (.own y)) y (.ins Ca dx []))) : wpAny (model X.prog X.w) X.A (call (.ref Ca) []) (EP X pins σ Q) X.xe s := by
  have hq := h (s.heap.objs.size + 1) s.heap.objs.size (I.hok.fresh (Nat.le_succ _)) (I.hok.fresh (Nat.le_refl _)) (Nat.ne_of_lt (Nat.lt_succ_self _))
  have I2 := Inv.made (C := Ca) I
  refine wpAny_call (make_map0 I.kIn hm hi (fun self => PySem.W.Looks.of_pure (PySem.W.oi_bind self)) ?_)
  have g1 : ((s.heap.push PySem.W.emptyDict).push (PySem.W.instObj Ca s.heap.objs.size)).get? (s.heap.objs.size + 1) = some (PySem.W.instObj Ca s.heap.objs.size) := by
    have := Heap.get?_push_size (s.heap.push PySem.W.emptyDict) (o := PySem.W.instObj Ca s.heap.objs.size) rfl
    rwa [Heap.size_push] at this
  have t1 : PySem.W.Looks (model X.prog X.w) ((s.heap.push PySem.W.emptyDict).push (PySem.W.instObj Ca s.heap.objs.size)) (typeOf (.ref (s.heap.objs.size + 1))) (.ref Ca) := (PySem.W.Looks.ld g1).andThen .now
  have t2 : PySem.W.Looks (model X.prog X.w) ((s.heap.push PySem.W.emptyDict).push (PySem.W.instObj Ca s.heap.objs.size)) (isInstance (.ref (s.heap.objs.size + 1)) (.type "object")) true := t1.andThen (PySem.W.looks_mroIn I2.kIn ht)
  refine codeAny_call_builtin PySem.W.oi_plain PySem.W.entry_oi (@PySem.W.check_slot (model X.prog X.w) _ _ _ "object.__init__" "object" "__init__" (.ref (s.heap.objs.size + 1)) [] [] _ PySem.W.oi_kind PySem.W.oi_split t2 (PySem.W.oi_args (.ref (s.heap.objs.size + 1))) ?_)
  rw [PySem.W.oi_run]
  exact wpAny_pure (And.intro rfl ⟨.ref (s.heap.objs.size + 1), _, I2, rfl, hq⟩)
def tMk0 (Ca : Addr) : TE := fun σ H Q => ∀ y dx, H y = none → H dx = none → dx ≠ y → Q (.ref y) (upd (upd H dx (.own y)) y (.ins Ca dx []))
theorem pe_mk0 {Ca : Addr} (hm : PySem.W.makesIn X.K Ca = true) (hi : PySem.W.findIn X.K (.ref Ca) "__init__" = some (some (.builtin "object.__init__"))) (hk : PySem.W.keepIn X.K (.ref Ca) = true) (ht : PySem.W.mroIn X.K Ca (.type "object") = some true) (hg : Gl X x) (hmg : X.mg x = some (.ref Ca))
    (hdb : (x == ("__debug__" : Str)) = false) : PE X (.Call (.Name x p) [] [] pos) (tMk0 Ca) :=
  ⟨fun pins s σ H Q I h => wpAny_Call_Name_kw (ld_glob I hg hmg (PySem.W.callWith_K0 I.kIn hk (run_make0 I hm hi ht h)) hdb)⟩
theorem de_make0 (G : PF X.K ct X.prog X.w X.mg X.base k C T fns) (c : String) (hk : T.ini c = some "") (hx : nm c = x := by rfl) (hg : Gl X x := by rfl) (hdb : (x == ("__debug__" : Str)) = false := by decide) : DE X ct (.Call (.Name x p) [] [] pos) (Mi.eMake0 T c) := by
  subst hx
  obtain ⟨Ca, g1, g2, g3, g4, g5, g6⟩ := G.ini0 c hk
  refine ⟨fun W tk => PE.imp (pe_mk0 g3 g4 g5 g6 hg g2 hdb) fun σ H Q ⟨w, m, S, h⟩ => ?_⟩
  intro y dx hy hd hne
  unfold Mi.eMake0 at h
  rw [if_pos hk] at h
  obtain ⟨σm, Sm⟩ := m
  have hy' : (upd H dx (.own y)) y = none := by rw [upd_ne (Ne.symm hne)]; exact hy
  have S1 : SR X.K ct w ⟨σm, Sm⟩ (upd H dx (.own y)) σ := S.fresh hd
  have S2 : SR X.K ct w ⟨σm, Sm⟩ (upd (upd H dx (.own y)) y (.ins Ca dx [])) σ := S1.fresh hy'
  exact RE.ok h S2 ((Ext.fresh hd).trans (Ext.fresh hy')) _ (.obj (dx := dx) g1 (S1.M.notBad hy') (nd_same rfl) .nil)
end
end So

set_option Elab.async false
set_option linter.all false
set_option maxRecDepth 100000
set_option maxHeartbeats 4000000
namespace So
open PySem PySem.Spec PyProof.Rows L2
open Mi (D Cl FV SC Me Xc Res PV Ky Ev Tv Av Lv Iv Ov Sv Bd Out Tx RG Cal Tb)

/-! ### either of two readings -/
section
variable {X : Cx} {ct : String → Option Addr} {a b e : Expr} {pos p : Pos} {es : List Expr} {x : Str}
theorem RE.bad {α : Type} {K : PySem.W.Frag} {w : Wd} {m : Me} {H : Hp} {σ : L2.St} {P : α → Wd → Me → Hp → Prop} {Px : Xc → Wd → Me → Hp → Prop} {q : Prop} {r : Res α} (hr : r = .bad) (h : RE K ct σ w m H r P Px) : q := by
  subst hr; exact h.elim
theorem de_or2 {f f1 f2 : Ev} (h1 : DE X ct e f1) (h2 : DE X ct e f2) (hf : ∀ m, f m = f1 m ∨ f m = f2 m ∨ f m = .bad) : DE X ct e f :=
  ⟨fun W tk => ⟨fun pins s σ H Q I ⟨w, m, S, h⟩ => by
    rcases hf m with q | q | q
    · rw [q] at h; exact (h1.run W tk).run pins s σ H Q I ⟨w, m, S, h⟩
    · rw [q] at h; exact (h2.run W tk).run pins s σ H Q I ⟨w, m, S, h⟩
    · rw [q] at h; exact h.elim⟩⟩
theorem dt_or2 {f f1 f2 : Tv} (h1 : DT X ct e f1) (h2 : DT X ct e f2) (hf : ∀ m, f m = f1 m ∨ f m = f2 m ∨ f m = .bad) : DT X ct e f :=
  ⟨fun W tk => ⟨fun pins s σ H Q I ⟨w, m, S, h⟩ => by
    rcases hf m with q | q | q
    · rw [q] at h; exact (h1.run W tk).run pins s σ H Q I ⟨w, m, S, h⟩
    · rw [q] at h; exact (h2.run W tk).run pins s σ H Q I ⟨w, m, S, h⟩
    · rw [q] at h; exact h.elim⟩⟩
theorem e2_orG {g h : PV → PV → Me → Option D} {fa fb : Ev} (m : Me) : Mi.e2 (Mi.orG g h) fa fb m = Mi.e2 g fa fb m ∨ Mi.e2 (Mi.orG g h) fa fb m = Mi.e2 h fa fb m ∨ Mi.e2 (Mi.orG g h) fa fb m = .bad := by
  unfold Mi.e2
  cases fa m with
  | ok x m1 =>
    show (fb m1).bind _ = (fb m1).bind _ ∨ (fb m1).bind _ = (fb m1).bind _ ∨ (fb m1).bind _ = .bad
    cases fb m1 with
    | ok y m2 =>
      show (Res.opt (Mi.orG g h x y m2) m2).bind _ = (Res.opt (g x y m2) m2).bind _ ∨ (Res.opt (Mi.orG g h x y m2) m2).bind _ = (Res.opt (h x y m2) m2).bind _ ∨ _
      unfold Mi.orG
      cases g x y m2 with
      | some d => exact .inl rfl
      | none => exact .inr (.inl rfl)
    | ex x m2 => exact .inl rfl
    | bad => exact .inl rfl
  | ex x m1 => exact .inl rfl
  | bad => exact .inl rfl
theorem tV_or {f f1 f2 : Ev} (m : Me) (h : f m = f1 m ∨ f m = f2 m ∨ f m = .bad) : Mi.tV f m = Mi.tV f1 m ∨ Mi.tV f m = Mi.tV f2 m ∨ Mi.tV f m = .bad := by
  unfold Mi.tV
  rcases h with q | q | q
  · exact .inl (by rw [q])
  · exact .inr (.inl (by rw [q]))
  · exact .inr (.inr (by rw [q]; rfl))
theorem de_orG {g h : PV → PV → Me → Option D} {fa fb : Ev} (h1 : DE X ct e (Mi.e2 g fa fb)) (h2 : DE X ct e (Mi.e2 h fa fb)) : DE X ct e (Mi.e2 (Mi.orG g h) fa fb) := de_or2 h1 h2 fun m => e2_orG m
theorem dt_orG {g h : PV → PV → Me → Option D} {fa fb : Ev} (h1 : DT X ct e (Mi.tV (Mi.e2 g fa fb))) (h2 : DT X ct e (Mi.tV (Mi.e2 h fa fb))) : DT X ct e (Mi.tV (Mi.e2 (Mi.orG g h) fa fb)) := dt_or2 h1 h2 fun m => tV_or m (e2_orG m)
theorem de_catV {fa fb : Ev} (ha : DE X ct a fa) (hb : DE X ct b fb) : DE X ct (.BinOp a .Add b pos) (Mi.e2 Mi.gCat fa fb) := by
  refine de_or2 (de_l (dl_cat ha hb)) (de_l (dl_cat ha hb)) fun m => .inl ?_
  unfold Mi.e2 Mi.eL Mi.lCat Mi.gCat
  cases fa m with
  | ok x m1 =>
    simp only [Res.bind_ok, Mi.Res.bind_ok]
    cases fb m1 with
    | ok y m2 =>
      simp only [Mi.Res.bind_ok]
      split
      · split <;> rfl
      · rfl
    | ex x m2 => rfl
    | bad => rfl
  | ex x m1 => rfl
  | bad => rfl
theorem de_addU {fa fb : Ev} (ha : DE X ct a fa) (hb : DE X ct b fb) : DE X ct (.BinOp a .Add b pos) (Mi.e2 Mi.gAddU fa fb) := de_orG (de_add ha hb) (de_catV ha hb)
theorem de_ixU (hu : X.A.units + 1 < cLine) {fa fb : Ev} (ha : DE X ct a fa) (hb : DE X ct b fb) (hs : PlainIx b := by exact fun _ _ => rfl) (hs2 : NoSl b := by exact fun _ _ => rfl) : DE X ct (.Subscript a b pos) (Mi.e2 Mi.gIxU fa fb) :=
  de_orG (de_ix ha hb hs) (de_orG (de_ixT ha hb hs) (de_key hu ha hb hs2))
theorem de_inT {fa fb : Ev} (ha : DE X ct a fa) (hb : DE X ct b fb) (hm : behindInMarks .In b = false := by rfl) : DE X ct (.Compare a [.In] [b] pos) (Mi.e2 Mi.gInT fa fb) := de_cmp op_in_sign ok_inT ha hb hm
theorem de_notInT {fa fb : Ev} (ha : DE X ct a fa) (hb : DE X ct b fb) (hm : behindInMarks .NotIn b = false := by rfl) : DE X ct (.Compare a [.NotIn] [b] pos) (Mi.e2 Mi.gNotInT fa fb) := de_cmp op_notIn_sign ok_notInT ha hb hm
theorem de_notInK (hu : X.A.units + 1 < cLine) {fa fb : Ev} (ha : DE X ct a fa) (hb : DE X ct b fb) (hm : behindInMarks .NotIn b = false := by rfl) : DE X ct (.Compare a [.NotIn] [b] pos) (Mi.e2 Mi.gNotInK fa fb) :=
  ⟨fun W tk => PE.imp (pe_cmp (pc_dnotin hu (ha.run W tk) (hb.run W tk)) hm) fun _ _ _ h => dnotin_read h⟩
theorem de_inU (hu : X.A.units + 1 < cLine) {fa fb : Ev} (ha : DE X ct a fa) (hb : DE X ct b fb) (hm : behindInMarks .In b = false := by rfl) : DE X ct (.Compare a [.In] [b] pos) (Mi.e2 Mi.gInU fa fb) :=
  de_orG (de_in ha hb hm) (de_orG (de_inT ha hb hm) (de_inK hu ha hb hm))
theorem de_notInU (hu : X.A.units + 1 < cLine) {fa fb : Ev} (ha : DE X ct a fa) (hb : DE X ct b fb) (hm : behindInMarks .NotIn b = false := by rfl) : DE X ct (.Compare a [.NotIn] [b] pos) (Mi.e2 Mi.gNotInU fa fb) :=
  de_orG (de_notIn ha hb hm) (de_orG (de_notInT ha hb hm) (de_notInK hu ha hb hm))
theorem dt_inU (hu : X.A.units + 1 < cLine) {fa fb : Ev} (ha : DE X ct a fa) (hb : DE X ct b fb) (hm : behindInMarks .In b = false := by rfl) : DT X ct (.Compare a [.In] [b] pos) (Mi.tV (Mi.e2 Mi.gInU fa fb)) :=
  dt_orG (dt_in ha hb hm) (dt_orG (dt_inT ha hb hm) (dt_inK hu ha hb hm))
theorem dt_notInU (hu : X.A.units + 1 < cLine) {fa fb : Ev} (ha : DE X ct a fa) (hb : DE X ct b fb) (hm : behindInMarks .NotIn b = false := by rfl) : DT X ct (.Compare a [.NotIn] [b] pos) (Mi.tV (Mi.e2 Mi.gNotInU fa fb)) :=
  dt_orG (dt_notIn ha hb hm) (dt_orG (dt_notInT ha hb hm) (dt_notInK hu ha hb hm))
theorem de_eqU (hu : X.A.units + 64 < cLine) {fa fb : Ev} (ha : DE X ct a fa) (hb : DE X ct b fb) : DE X ct (.Compare a [.Eq] [b] pos) (Mi.e2 Mi.gEqU fa fb) := de_orG (de_eq hu ha hb) (de_eqK hu ha hb)
theorem de_neU (hu : X.A.units + 64 < cLine) {fa fb : Ev} (ha : DE X ct a fa) (hb : DE X ct b fb) : DE X ct (.Compare a [.NotEq] [b] pos) (Mi.e2 Mi.gNeU fa fb) := de_orG (de_ne hu ha hb) (de_neK hu ha hb)
theorem dt_eqU (hu : X.A.units + 64 < cLine) {fa fb : Ev} (ha : DE X ct a fa) (hb : DE X ct b fb) : DT X ct (.Compare a [.Eq] [b] pos) (Mi.tV (Mi.e2 Mi.gEqU fa fb)) := dt_orG (dt_eq hu ha hb) (dt_eqK hu ha hb)
theorem dt_neU (hu : X.A.units + 64 < cLine) {fa fb : Ev} (ha : DE X ct a fa) (hb : DE X ct b fb) : DT X ct (.Compare a [.NotEq] [b] pos) (Mi.tV (Mi.e2 Mi.gNeU fa fb)) := dt_orG (dt_ne hu ha hb) (dt_neK hu ha hb)
theorem di_or2 {tg : Expr} {f f1 f2 : Iv} (h1 : DI X ct tg e f1) (h2 : DI X ct tg e f2) (hf : ∀ m, f m = f1 m ∨ f m = f2 m ∨ f m = .bad) : DI X ct tg e f := by
  refine ⟨fun W tk => ⟨fun pins s σ H R I ⟨w, m, S, h⟩ => ?_⟩⟩
  rcases hf m with q | q | q
  · rw [q] at h; exact (h1.run W tk).run pins s σ H R I ⟨w, m, S, h⟩
  · rw [q] at h; exact (h2.run W tk).run pins s σ H R I ⟨w, m, S, h⟩
  · rw [q] at h; exact h.elim
/-- a list or a tuple -/
def iLT (f : Ev) : Iv := fun m => (f m).bind fun x m1 => match x with
  | .v (.lst xs) => .ok xs m1
  | .v (.scr xs) => .ok xs m1
  | .v (.tup xs) => .ok xs m1
  | _ => .bad
theorem di_any {tg : Expr} {f : Ev} (he : DE X ct e f) : DI X ct tg e (Mi.iAny f) := by
  refine di_or2 (f1 := iLT f) (f2 := Mi.iStr f) (di_or2 (di_lst he) (di_tup he) fun m => ?_) (di_str he) fun m => ?_
  · unfold iLT Mi.iLst Mi.iTup
    cases f m with
    | ok x m1 =>
      cases x with
      | sl i => exact .inr (.inr rfl)
      | v d => cases d <;> first | exact .inl rfl | exact .inr (.inl rfl) | exact .inr (.inr rfl)
    | ex x m1 => exact .inl rfl
    | bad => exact .inl rfl
  · unfold iLT Mi.iAny Mi.iStr
    cases f m with
    | ok x m1 =>
      cases x with
      | sl i => exact .inr (.inr rfl)
      | v d => cases d <;> first | exact .inl rfl | exact .inr (.inl rfl) | exact .inr (.inr rfl)
    | ex x m1 => exact .inl rfl
    | bad => exact .inl rfl
end
end So

set_option Elab.async false
set_option linter.all false
set_option maxRecDepth 100000
set_option maxHeartbeats 4000000
namespace So
open PySem PySem.Spec PyProof.Rows L2
open Mi (D Cl FV SC Me Xc Res PV Ky Ev Tv Av Lv Iv Ov Sv Bd Out Tx RG Cal Tb)

theorem all_nil {α : Type} {P : α → Prop} : ∀ x ∈ ([] : List α), P x := fun x h => absurd h List.not_mem_nil
theorem all_cons {α : Type} {P : α → Prop} {a : α} {l : List α} (h : P a) (t : ∀ x ∈ l, P x) : ∀ x ∈ a :: l, P x := fun x hx => by
  rcases List.mem_cons.mp hx with rfl | hx
  · exact h
  · exact t x hx
section
variable {M : List (String × String × String)} {I F : List (String × String)}
theorem mt_all {Q : String → String → String → Prop} (h : ∀ p ∈ M, Q p.1 p.2.1 p.2.2) : ∀ c f key, (Mi.tbOf M I F).mt c f = some key → Q c f key := fun c f key e => by
  obtain ⟨p, q, rfl⟩ := opt_map (show (M.find? fun p => p.1 == c && p.2.1 == f).map (·.2.2) = some key from e)
  have h1 := List.find?_some q
  have h2 := h p (List.mem_of_find?_eq_some q)
  rw [Bool.and_eq_true, beq_iff_eq, beq_iff_eq] at h1
  rw [h1.1, h1.2] at h2
  exact h2
theorem in_all {Q : String → String → Prop} (h : ∀ p ∈ I, p.2 ≠ "" → Q p.1 p.2) : ∀ c key, (Mi.tbOf M I F).ini c = some key → key ≠ "" → Q c key := fun c key e n => by
  obtain ⟨p, q, rfl⟩ := opt_map (show (I.find? fun p => p.1 == c).map (·.2) = some key from e)
  have h1 := List.find?_some q
  have h2 := h p (List.mem_of_find?_eq_some q) n
  rw [beq_iff_eq] at h1
  rw [h1] at h2
  exact h2
theorem in0_all {Q : String → Prop} (h : ∀ p ∈ I, p.2 = "" → Q p.1) : ∀ c, (Mi.tbOf M I F).ini c = some "" → Q c := fun c e => by
  obtain ⟨p, q, e2⟩ := opt_map (show (I.find? fun p => p.1 == c).map (·.2) = some "" from e)
  have h1 := List.find?_some q
  have h2 := h p (List.mem_of_find?_eq_some q) e2.symm
  rw [beq_iff_eq] at h1
  rw [h1] at h2
  exact h2
theorem fl_all {Q : String → String → Prop} (h : ∀ p ∈ F, Q p.1 p.2) : ∀ c f, (Mi.tbOf M I F).fl c f = true → Q c f := fun c f e => by
  obtain ⟨p, q, e2⟩ := List.any_eq_true.mp (show (F.any fun p => p.1 == c && p.2 == f) = true from e)
  have h2 := h p q
  rw [Bool.and_eq_true, beq_iff_eq, beq_iff_eq] at e2
  rw [e2.1, e2.2] at h2
  exact h2
end
section
variable {P : Program} {w : World} {K : PySem.W.Frag} {mg : Str → Option Value} {base : Heap} {ct : String → Option Addr}
theorem sp_bad {vs : List V} {H : Hp} {Q : VK} {E : XK} : ¬ spOf K ct (fun _ _ => RG.bad) vs H Q E := fun ⟨_, _, _, _, _, h⟩ => h
theorem fn_bad {k : Nat} {f : Addr} {fd : FuncData} {ps : List Str} : FnOk P w K mg base (L2.CX P w) k f fd ps (spOf K ct (fun _ _ => RG.bad)) :=
  ⟨fun vs H Q E h => absurd h sp_bad, fun A outer s H args us vs Q E hr he hb hv h => absurd h sp_bad⟩
/-- the law's own promise -/
theorem law_sp {g : List D → List SC → RG} {H : Hp} {a : Addr} {ns : List Int} {Q : VK} {E : XK} (h : ∃ S, g [.scr (ns.map D.int)] [] = .ok (.bl true) S) (hS : SqL K H a (ns.map V.int)) (q : ∀ H', Q (.bl true) H') : spOf K ct g [.ref a] H Q E := by
  obtain ⟨S, h⟩ := h
  have no : ∀ (p : Pl) (c : SC), cellAt ⟨[], []⟩ p = some c → False := fun p c h => by
    cases p with
    | g i => cases h
    | f i s => cases h
    | s i => exact ((cell_nil (σm := []) h).2 i) rfl
  have nb : ¬ Bad ⟨fun _ => 0, fun _ => False⟩ ⟨[], []⟩ a := by
    rintro (z | ⟨p, c, k1, k2⟩)
    · exact z
    · exact no p c k1
  refine ⟨⟨fun _ => 0, fun _ => False⟩, [], [.scr (ns.map D.int)], ⟨fun p q c c' h1 => (no p c h1).elim, fun p c h1 => (no p c h1).elim, fun a h => h.elim, fun p c h1 => (no p c h1).elim⟩, .cons (.scr ?_ (RepL.ints ns)) .nil, ?_⟩
  · rcases hS with hS | hS
    · rcases hS with hS | ⟨o, hS⟩
      · exact .inl ⟨nb, _, ⟨_, hS, rfl⟩, .inl rfl⟩
      · exact .inl ⟨nb, _, ⟨_, hS, rfl⟩, .inr ⟨o, rfl⟩⟩
    · exact .inr hS
  · rw [h]
    intro w' v H' M e r
    cases r
    exact q H'
theorem cx_none {l : World → Program} : ∀ (w : World) (H : Hp) (s : Shared) (e : Value) (s' : Shared), L2.CX (l w) w [] H s (fun _ _ _ => False) e s' → False := fun _ _ _ _ _ h => by
  obtain ⟨_, _, _, _, _, _, _, _, _, _, _, _, z⟩ := h
  exact z.elim
end
end So

set_option Elab.async false
set_option linter.all false
set_option maxRecDepth 100000
set_option maxHeartbeats 4000000
namespace So
open PySem PySem.Spec PyProof.Rows L2
open Mi (D Cl FV SC Me Xc Res PV Ky Ev Tv Av Lv Iv Ov Sv Bd Out Tx RG Cal Tb)
theorem call_lenU {X : Cx} : CallR X (.builtin "len") (fun xs H Q => (∃ p ys, xs = [.ref p] ∧ (SqL X.K H p ys ∨ SqT X.K H p ys) ∧ Q (.int ys.length) H) ∨ ∃ z, xs = [.str z] ∧ z.length ≤ sizeLine ∧ Q (.int z.length) H) := by
  intro pins s σ H xs us Q I r h
  refine call_len pins s σ H xs us Q I r ?_
  rcases h with ⟨p, ys, rfl, h1, q⟩ | ⟨z, rfl, h1, q⟩
  · exact ⟨.ref p, ys.length, rfl, h1.imp (fun h => ⟨ys, h, rfl⟩) (fun h => ⟨ys, h, rfl⟩), q⟩
  · exact ⟨.str z, z.length, rfl, ⟨h1, rfl⟩, q⟩
end So

set_option Elab.async false
set_option linter.all false
set_option maxRecDepth 100000
set_option maxHeartbeats 4000000
namespace So
open PySem PySem.Spec PyProof.Rows L2
open Mi (D Cl FV SC Me Xc Res PV Ky Ev Tv Av Lv Iv Ov Sv Bd Out Tx RG Cal Tb)
/-! ### isinstance with built-in types -/
def tys : List String := ["NoneType", "bool", "int", "str", "list", "tuple", "dict"]
theorem kit_ty {K : PySem.W.Frag} (t T : String) (ht : t ∈ tys) (hT : T ∈ tys) : PySem.W.kitOne K (.type t) (.type T) = some (Mi.isTy t T) := by
  simp only [tys, List.mem_cons, List.not_mem_nil, or_false] at ht hT
  rcases ht with rfl | rfl | rfl | rfl | rfl | rfl | rfl <;> rcases hT with rfl | rfl | rfl | rfl | rfl | rfl | rfl <;> rfl
section
variable {X : Cx} {ct : String → Option Addr} {a b e : Expr} {pos p : Pos} {es : List Expr} {x : Str}
theorem ty_of {K : PySem.W.Frag} {w : Wd} {m : Me} {H : Hp} {d : D} {v : V} {t : String} (r : RepD K ct w m H d v) (h : Mi.tyD d = some t) : TyX K H v (.type t) ∧ t ∈ tys := by
  unfold Mi.tyD at h
  split at h <;> first | (cases h; done) | skip
  · cases h; cases r; exact ⟨.base .non, by decide⟩
  · cases h; cases r; exact ⟨.base (.bl _), by decide⟩
  · cases h; cases r; exact ⟨.base (.int _), by decide⟩
  · cases h; cases r; exact ⟨.base (.str _), by decide⟩
  · cases h
    cases r with
    | lst n g r => exact ⟨.base (.lst g.lst), by decide⟩
  · cases h
    cases r with
    | tup n g r => exact ⟨.base (.tup g.tup), by decide⟩
  · cases h
    cases r with
    | dct n g r =>
      rcases g.dK with g | ⟨o, g⟩
      · exact ⟨.base (.dK g), by decide⟩
      · exact ⟨.fDict g, by decide⟩
theorem ty_own {K : PySem.W.Frag} {w : Wd} {m : Me} {H : Hp} {σ : L2.St} (S : SR K ct w m H σ) {y : PV} {v : V} (r : PVR K ct w m H σ y v) : (∀ xs, m.own y = some (.lst xs) → TyX K H v (.type "list")) ∧ ∀ xs, m.own y = some (.dct xs) → TyX K H v (.type "dict") := by
  refine ⟨fun xs h => ?_, fun xs h => ?_⟩
  · obtain ⟨p, e, h1, ⟨vs, h2, _⟩, _⟩ := S.own r h
    subst e
    exact .base (.lst h2)
  · obtain ⟨p, e, h1, ⟨vs, h2, _⟩, _⟩ := S.own r h
    subst e
    exact .base (.dK h2)
theorem de_isT (T : String) (hT : T ∈ tys) (hg : Gl X "isinstance") (hm : X.mg "isinstance" = none) {tn : Str} (hg2 : Gl X tn) (hm2 : X.mg tn = none) (hv2 : bootBuiltins tn = some (.type T)) {fa : Ev} {p2 : Pos} (ha : DE X ct e fa)
    (hn : tn ≠ "__name__" := by decide) (hd : (tn == ("__debug__" : Str)) = false := by decide)
    (he : starEach [e, .Name tn p2] X.env = (false, eval e X.env) :: starEach [.Name tn p2] X.env := by rfl) (he2 : starEach [.Name tn p2] X.env = (false, eval (.Name tn p2) X.env) :: starEach [] X.env := by rfl)
    (hpl : (backTo pos (starEach [.Name tn p2] X.env)).any (·.1) = false := by rfl) : DE X ct (.Call (.Name "isinstance" p) [e, .Name tn p2] [] pos) (Mi.e1 (Mi.gIsT T) fa) := by
  refine ⟨fun W tk => PE.imp (pe_callB call_isi hg hm (by rfl) (pa_cons (ha.run W tk) (pa_cons (pe_bltn (v := .ty T) (u := .type T) hg2 hm2 hv2 rfl hn hd) pa_nil (by exact he2)) (by exact he)) (by decide) (by decide) he hpl) fun σ H Q ⟨w, m, S, h⟩ => ?_⟩
  refine tE.part S h fun y w1 m1 H1 v S1 e1 pv h1 => ?_
  obtain ⟨d, hd, h3⟩ := h1.opt
  have fin : ∀ (t : String), t ∈ tys → TyX X.K H1 v (.type t) → d = .bl (Mi.isTy t T) → rIsi X.K [v, .ty T] H1 Q := fun t ht ty hb => by
    subst hb
    exact ⟨v, .ty T, .type t, .type T, _, rfl, .ty _, ty, kit_ty t T ht hT, RE.ok h3 S1 (Ext.refl ..) _ (.bl _)⟩
  obtain ⟨o1, o2⟩ := ty_own S1 pv
  unfold Mi.gIsT at hd
  split at hd
  · split at hd
    · rename_i xs q; cases hd; exact fin "list" (by decide) (o1 xs q) rfl
    · rename_i xs q; cases hd; exact fin "dict" (by decide) (o2 xs q) rfl
    · cases hd
  · rename_i d' _
    obtain ⟨t, q, rfl⟩ := opt_map hd
    obtain ⟨ty, ht⟩ := ty_of pv q
    exact fin t ht ty rfl
  · split at hd
    · rename_i xs q; cases hd; exact fin "list" (by decide) (o1 xs q) rfl
    · rename_i xs q; cases hd; exact fin "dict" (by decide) (o2 xs q) rfl
    · cases hd
end
end So

set_option Elab.async false
set_option linter.all false
set_option maxRecDepth 100000
set_option maxHeartbeats 4000000
namespace So
open PySem PySem.Spec PyProof.Rows L2
open Mi (D Cl FV SC Me Xc Res PV Ky Ev Tv Av Lv Iv Ov Sv Bd Out Tx RG Cal Tb)
section
variable {X : Cx} {ct : String → Option Addr} {a b e : Expr} {pos p : Pos} {es : List Expr} {x : Str}
theorem keyInts_rep {K : PySem.W.Frag} {w : Wd} {m : Me} {H : Hp} : ∀ {kvs : List (Ky × D)} {vs : List (Key × V)} {ns : List Int}, RepK K ct w m H kvs vs → Mi.keyInts kvs = some ns → vs.map (·.1) = ns.map Sum.inl
  | _, _, _, .nil, h => by cases h; rfl
  | _, _, _, .cons (k := k) r t, h => by
    cases k with
    | i n =>
      obtain ⟨l, h1, rfl⟩ := opt_map h
      rw [List.map_cons, keyInts_rep t h1]
      rfl
    | s x => cases h
theorem dl_sort (hc : X.calm = true) (hg : Gl X "sorted") (hm : X.mg "sorted" = none) {fa : Av} (ha : DA X ct (e :: es) fa)
    (he : starEach (e :: es) X.env = (false, eval e X.env) :: starEach es X.env := by rfl) (hpl : (backTo pos (starEach es X.env)).any (·.1) = false := by rfl) : DL X ct (.Call (.Name "sorted" p) (e :: es) [] pos) (Mi.lA Mi.aSort fa) :=
  ⟨fun W tk => PE.imp (pe_callB (CallR.or2 cr_sorted (call_sortedDI hc)) hg hm (by rfl) (ha.run W tk) (by decide) (by decide) he hpl) fun σ H Q ⟨w, m, S, h⟩ => by
    refine tA.part (k := fun ps m1 => Res.opt (Mi.aSort ps m1) m1) S h fun ps w1 m1 H1 vs S1 e1 pv h1 => ?_
    cases q : Mi.aSort ps m1 with
    | none => rw [q] at h1; exact h1.elim
    | some ds =>
      rw [q] at h1
      have fin : ∀ (ns ys : List Int) (p : Addr), ds = (Mi.sortI ns).map .int → ys.Perm ns → ys.Pairwise (· ≤ ·) → H1 p = none → Q (.ref p) (upd H1 p (.lst (ys.map V.int))) := fun ns ys p hds hp hs hn => by
        have := Mi.sort_uniq (hp.trans (Mi.sortI_perm ns).symm) hs (Mi.sortI_le ns)
        subst this
        subst hds
        exact RE.ok h1 S1 (Ext.refl ..) _ p (RepL.ints _) hn
      unfold Mi.aSort at q
      split at q
      · cases pv with
        | cons r t =>
          cases t
          split at q
          · rename_i kvs q1
            split at q
            · rename_i ns q2
              split at q
              · rename_i h64
                cases q
                obtain ⟨a, us, rfl, g1, g2⟩ := S1.kvs r q1
                exact .inr ⟨a, us, ns, rfl, g1, keyInts_rep g2 q2, h64, fun ys p hp hs hn => fin ns ys p rfl hp hs hn⟩
              · cases q
            · cases q
          · split at q
            · rename_i ns q2
              split at q
              · rename_i h64
                cases q
                obtain ⟨xs, q3, q4⟩ := opt_bind q2
                obtain ⟨a, us, rfl, g1, g2⟩ := sqL_ls S1 r q3
                have := asInts_rep g2 q4
                subst this
                exact .inl ⟨a, ns, rfl, g1, h64, fun ys p hp hs hn => fin ns ys p rfl hp hs hn⟩
              · cases q
            · cases q
      · cases q⟩
theorem ok_max1 : CallOk X ct Mi.aMax1 (rMax X.K) := by
  intro w m H σ xs vs d Q S r hg k
  unfold Mi.aMax1 at hg
  split at hg
  · cases r with
    | cons r t =>
      cases t
      split at hg
      · rename_i y ys q
        cases hg
        obtain ⟨xs, q3, q4⟩ := opt_bind q
        obtain ⟨a, us, rfl, g1, g2⟩ := sqL_ls S r q3
        have := asInts_rep g2 q4
        subst this
        refine ⟨a, y :: ys, rfl, g1, by simp, fun z hz hall => ?_⟩
        obtain ⟨h1, h2⟩ := Mi.maxI_top y ys
        have : z = Mi.maxI y ys := Int.le_antisymm (h2 z hz) (hall _ h1)
        subst this
        exact k _ H S (Ext.refl ..) (.int _)
      · cases hg
  · cases hg
theorem ok_min1 : CallOk X ct Mi.aMin1 (rMin X.K) := by
  intro w m H σ xs vs d Q S r hg k
  unfold Mi.aMin1 at hg
  split at hg
  · cases r with
    | cons r t =>
      cases t
      split at hg
      · rename_i y ys q
        cases hg
        obtain ⟨xs, q3, q4⟩ := opt_bind q
        obtain ⟨a, us, rfl, g1, g2⟩ := sqL_ls S r q3
        have := asInts_rep g2 q4
        subst this
        refine ⟨a, y :: ys, rfl, g1, by simp, fun z hz hall => ?_⟩
        obtain ⟨h1, h2⟩ := Mi.minI_top y ys
        have : z = Mi.minI y ys := Int.le_antisymm (hall _ h1) (h2 z hz)
        subst this
        exact k _ H S (Ext.refl ..) (.int _)
      · cases hg
  · cases hg
end
end So

set_option Elab.async false
set_option linter.all false
set_option maxRecDepth 100000
set_option maxHeartbeats 4000000
namespace So
open PySem PySem.Spec PyProof.Rows L2
open Mi (D Cl FV SC Me Xc Res PV Ky Ev Tv Av Lv Iv Ov Sv Bd Out Tx RG Cal Tb)
/-! ### lists and dicts in the store -/
section
variable {X : Cx} {ct : String → Option Addr} {a b e : Expr} {pos p : Pos} {es : List Expr} {x : Str}
theorem new_cell {K : PySem.W.Frag} {w : Wd} {m : Me} {H : Hp} {σ : L2.St} {c : Cl} {q : Addr} {o : HO} (S : SR K ct w m H σ) (hq : H q = none)
    (hc : ∀ w' m', w'.α (.g m.S.length) = q → Ext w m H w' m' (upd H q o) → CellR K ct w' m' (upd H q o) (.g m.S.length) q (.c c)) :
    SR K ct (w.at (.g m.S.length) q) ⟨m.σ, m.S ++ [.c c]⟩ (upd H q o) σ ∧ Ext w m H (w.at (.g m.S.length) q) ⟨m.σ, m.S ++ [.c c]⟩ (upd H q o) ∧ RepD K ct (w.at (.g m.S.length) q) ⟨m.σ, m.S ++ [.c c]⟩ (upd H q o) (.ref m.S.length) (.ref q) := by
  obtain ⟨σm, Sm⟩ := m
  obtain ⟨S2, e2⟩ := SR.newG (x := .c c) S hq (fun a u h => by rw [upd_ne (ne_of_none h hq)]; exact h) (fun _ _ _ _ z _ => by cases z) upd_same hc
  refine ⟨S2, e2, ?_⟩
  have : RepD K ct (w.at (.g Sm.length) q) ⟨σm, Sm ++ [.c c]⟩ (upd H q o) (.ref Sm.length) (.ref ((w.at (.g Sm.length) q).α (.g Sm.length))) := .ref (c := .c c) (by show (Sm ++ [SC.c c])[Sm.length]? = _; simp)
  rw [Wd.at_same] at this
  exact this
theorem de_newL {f : Lv} (h : DL X ct e f) : DE X ct e (Mi.eNewL f) := ⟨fun W tk => PE.imp (h.run W tk) fun σ H Q ⟨w, m, S, hh⟩ => by
  refine ⟨w, m, S, ?_⟩
  have hh : RE X.K ct σ w m H ((f m).bind fun xs m1 => Res.ok (PV.v (.ref m1.S.length)) ⟨m1.σ, m1.S ++ [.c (.lst xs)]⟩) _ _ := hh
  cases q : f m with
  | ok xs m1 =>
    rw [q] at hh
    intro w1 H1 S1 e1 vs p r hp
    have hh2 := RE.ext e1 hh
    obtain ⟨S2, e2, r2⟩ := new_cell (c := .lst xs) (o := .lst vs) S1 hp fun w' m' _ e' => ⟨vs, upd_same, r.ext e'⟩
    exact RE.ok hh2 S2 e2 _ r2
  | ex xc m1 => rw [q] at hh; exact hh
  | bad => rw [q] at hh; exact hh.elim⟩
theorem de_newD {p2 : Pos} : DE X ct (.Dict [] [] p2) Mi.eNewD := ⟨fun W tk => PE.imp pe_dnewK fun σ H Q ⟨w, m, S, hh⟩ => by
  intro p hp
  obtain ⟨S2, e2, r2⟩ := new_cell (c := .dct []) (o := .dK []) S hp fun w' m' _ e' => ⟨[], upd_same, .nil⟩
  exact RE.ok hh S2 e2 _ r2⟩
end
end So

set_option Elab.async false
set_option linter.all false
set_option maxRecDepth 100000
set_option maxHeartbeats 4000000
namespace So
open PySem PySem.Spec PyProof.Rows L2
open Mi (D Cl FV SC Me Xc Res PV Ky Ev Tv Av Lv Iv Ov Sv Bd Out Tx RG Cal Tb)
section
variable {X : Cx} {ct : String → Option Addr} {a b e : Expr} {pos p : Pos} {es : List Expr} {x : Str}
theorem de_dpop {apos cpos : Pos} {fo fi : Ev} (ho : DE X ct a fo) (hi : DE X ct b fi) (hm : M1 X a "pop" apos b cpos) : DE X ct (.Call (.Attribute a "pop" apos) [b] [] cpos) (Mi.eDPop fo fi) :=
  ⟨fun W tk => PE.imp (pe_dpop1 (ho.run W tk) (hi.run W tk) hm) fun σ H Q ⟨w, m, S, h⟩ => by
    refine tE.part S h fun x w1 m1 H1 v S1 e1 pv h1 => ?_
    split at h1
    · rename_i hk
      have hown : ∃ xs, m1.own x = some (.dct xs) := by
        unfold Mi.isK at hk
        split at hk
        · rename_i xs q; exact ⟨xs, q⟩
        · cases hk
      obtain ⟨xs, q⟩ := hown
      obtain ⟨a, p, rfl, ⟨vs, g1, r1⟩, _⟩ := S1.put pv q
      refine ⟨a, rfl, .inl ⟨vs, .inl g1⟩, ?_⟩
      refine tE.part S1 h1 fun y w2 m2 H2 u S2 e2 pu h2 => ?_
      split at h2
      · rename_i kvs k q1 q2
        split at h2
        · rename_i d q3
          obtain ⟨a2, p2, ea, ⟨vs2, g2, r2⟩, kk⟩ := S2.put (pv.ext e2) q1
          cases ea
          obtain ⟨v2, h3, h4⟩ := r2.lookS q3
          obtain ⟨S3, e3⟩ := kk (.dct (Mi.dropKv kvs k)) (.dK (dropK vs2 (kyR k))) fun w' m' H' q e' h' => ⟨_, h', r2.drop.ext e'⟩
          exact ⟨vs2, kyR k, v2, g2, ky_rep pu q2, h3, RE.ok h2 S3 e3 _ (RepD.ext e3 h4)⟩
        · exact h2.elim
      · exact h2.elim
    · exact h1.elim⟩
end
end So

set_option Elab.async false
set_option linter.all false
set_option maxRecDepth 100000
set_option maxHeartbeats 4000000
namespace So
open PySem PySem.Spec PyProof.Rows L2
open Mi (D Cl FV SC Me Xc Res PV Ky Ev Tv Av Lv Iv Ov Sv Bd Out Tx RG Cal Tb)
section
variable {X : Cx} {ct : String → Option Addr} {a e : Expr}
theorem de_extL {apos cpos : Pos} {fo fe : Ev} (ho : DE X ct a fo) (he : DE X ct e fe) (hbase : attributeBase a "extend" X.env (eval a X.env) = eval a X.env := by rfl)
    (hfew : ((backTo cpos (starEach [e] X.env)).all (fun x => !x.1) && (backToKw cpos (keywordEach [] X.env)).all (fun x => x.1.isSome)
      && decide (([e] : List Expr).length + ([] : List Keyword).length + (if ([] : List Keyword).isEmpty then 0 else 1) < 30)) = true := by rfl)
    (hline : (apos.endLine == cpos.line) = true := by rfl) (hs : starEach [e] X.env = (false, eval e X.env) :: starEach [] X.env := by rfl) (hplain : (backTo cpos (starEach [] X.env)).any (·.1) = false := by rfl) :
    DE X ct (.Call (.Attribute a "extend" apos) [e] [] cpos) (Mi.eExtL fo fe) :=
  ⟨fun W tk => PE.imp (pe_bm PySem.F.plainAttrs_list PySem.F.slot_list_extend PySem.F.type_list_extend mt_extend (ho.run W tk) ((da_cons he da_nil hs).run W tk) hbase hfew hline hs hplain) fun σ H Q ⟨w, m, S, h⟩ => by
    refine tE.part S h fun x w1 m1 H1 v S1 e1 pv h1 => ?_
    split at h1
    · rename_i hl
      refine ⟨own_list S1 pv hl, ?_⟩
      refine ⟨w1, m1, S1, ?_⟩
      have h1 : RE X.K ct σ w1 m1 H1 ((fe m1).bind fun y m2 => (match m2.own x, m2.cl y with
        | some (.lst xs), some (.lst ys) => if xs.length + ys.length ≤ Mi.big then Res.ok (PV.v .non) (m2.put x (.lst (xs ++ ys))) else .bad
        | _, _ => .bad)) _ _ := h1
      show RE X.K ct σ w1 m1 H1 ((fe m1).bind fun y m2 => Res.ok [y] m2) _ _
      cases q : fe m1 with
      | ok y m2 =>
        rw [q] at h1
        intro w2 H2 S2 e2 us pus
        cases pus with
        | cons pu t =>
          cases t
          have h2 := RE.ext e2 h1
          rw [Mi.Res.bind_ok] at h2
          split at h2
          · rename_i xs ys q1 q2
            split at h2
            · rename_i hb
              obtain ⟨l, p, ea, ⟨vs, g1, r1⟩, kk⟩ := S2.put (pv.ext e2) q1
              obtain ⟨b, us, eb, g2, r2⟩ := S2.lst pu q2
              subst ea eb
              obtain ⟨S3, e3⟩ := kk (.lst (xs ++ ys)) (.lst (vs ++ us)) fun w' m' H' q e' h' => ⟨_, h', (r1.append r2).ext e'⟩
              exact ⟨l, b, vs, us, rfl, rfl, g1, g2, by rw [← r1.length, ← r2.length, ← big_eq]; exact hb, RE.ok h2 S3 e3 _ .non⟩
            · exact h2.elim
          · exact h2.elim
      | ex xc m2 => rw [q] at h1; exact h1
      | bad => rw [q] at h1; exact h1.elim
    · exact h1.elim⟩
end
end So

set_option linter.all false
/-! # Mj: more of the small world -/
namespace Mi
noncomputable section
/-! ### exceptions -/
/-- raise C('..') -/
def sRaise0 (c : String) : Sv := fun m => .ex ⟨c, []⟩ m
/-- raise C(e), f its field -/
def sRaiseF (c f : String) (e : Ev) : Sv := fun m => (e m).so fun x m1 => match x with | .v d => .ex ⟨c, [(f, d)]⟩ m1 | _ => .bad
/-- behind an except suite: its name goes -/
def aft (i : Nat) (r : Out) : Out := match r with
  | .nx m => .nx ⟨m.σ.set i none, m.S⟩
  | .rt d m => .rt d ⟨m.σ.set i none, m.S⟩
  | .bk m => .bk ⟨m.σ.set i none, m.S⟩
  | .ct m => .ct ⟨m.σ.set i none, m.S⟩
  | _ => .bad
/-- try: body except c as i: suite -/
def sTryAs (sub : String → String → Option Bool) (body : Sv) (i : Nat) (c : String) (suite : Xc → Sv) : Sv := fun m => match body m with
  | .ex x m1 => (match sub x.c c with
    | some true => if (m1.slot i).isNone = true ∧ i < m1.σ.length then aft i (suite x ⟨m1.σ.set i none, m1.S⟩) else .bad
    | some false => .ex x m1
    | none => .bad)
  | o => o
/-- x = e of an except suite -/
def xSet (j : Nat) (f : Xc → Me → Option D) : Xc → Sv := fun x m => match f x m with
  | some d => if j < m.σ.length ∧ (m.slot j).isNone = true then .nx ⟨m.σ.set j (some (.v d)), m.S⟩ else .bad
  | none => .bad
/-- a field of the exception -/
def xFld (f : String) : Xc → Me → Option D := fun x _ => x.fs.lookup f
def subOf (L : List (String × String × Bool)) : String → String → Option Bool := fun c d => (L.find? fun p => p.1 == c && p.2.1 == d).map (·.2.2)
/-! ### texts and numbers -/
def decT (i : Int) : Tx := (toString i).toList.map Char.toNat
/-- str(n) -/
def aStr : List PV → Me → Option D := fun ps _ => match ps with
  | [.v (.int i)] => if small64 i then some (.str (decT i)) else none
  | _ => none
def digV (z : Tx) : Nat := z.foldl (fun a c => a * 10 + (c - 48)) 0
def digs (z : Tx) : Bool := z.all fun c => decide (48 ≤ c ∧ c ≤ 57)
/-- the longest text of figures -/
def lim600 : Nat := Classical.choose (⟨600, rfl⟩ : ∃ n : Nat, n = 600)
theorem lim600_is : lim600 = 600 := Classical.choose_spec (⟨600, rfl⟩ : ∃ n : Nat, n = 600)
/-- int(x) of an int, a truth, figures -/
def aInt2 : List PV → Me → Option D := fun ps m => match ps with
  | [.v (.str z)] => if digs z ∧ z ≠ [] ∧ z.length ≤ lim600 then some (.int (digV z)) else none
  | _ => aInt ps m
/-- a text in a text -/
def inT (x z : Tx) : Bool := (List.range (z.length + 1)).any fun i => decide (i + x.length ≤ z.length ∧ (z.drop i).take x.length = x)
def gInS : PV → PV → Me → Option D := fun x y _ => match x, y with
  | .v (.str a), .v (.str z) => some (.bl (inT a z))
  | _, _ => none
def gNotInS : PV → PV → Me → Option D := fun x y _ => match x, y with
  | .v (.str a), .v (.str z) => some (.bl (!inT a z))
  | _, _ => none
def gInV := orG gInU gInS
def gNotInV := orG gNotInU gNotInS
/-- isinstance(x, C) of an own class -/
def gIsC (sub : String → String → Option Bool) (TY : List String) (T : String) : PV → Me → Option D := fun x m => match m.obj x with
  | some (c, _) => (sub c T).map .bl
  | none => (match x with
    | .v d => (tyD d).bind fun t => if t ∈ TY then some (.bl false) else none
    | .sl _ => none)
/-- enumerate of a text -/
def iEnumT (e : Ev) : Iv := fun m => (e m).bind fun x m1 => match x with | .v (.str z) => .ok (enum (z.map fun c => .str [c])) m1 | _ => .bad
def iEnumU (e : Ev) : Iv := fun m => (e m).bind fun x m1 => match x with
  | .v (.lst xs) => .ok (enum xs) m1
  | .v (.str z) => .ok (enum (z.map fun c => .str [c])) m1
  | _ => .bad
end
end Mi

set_option Elab.async false
set_option linter.all false
set_option maxRecDepth 100000
set_option maxHeartbeats 4000000
namespace So
open PySem PySem.Spec PyProof.Rows L2
open Mi (D Cl FV SC Me Xc Res PV Ky Ev Tv Av Lv Iv Ov Sv Bd Out Tx RG Cal Tb)
/-! ### exceptions of the program's own classes, raised -/
section
variable {X : Cx} {ct : String → Option Addr} {a b e : Expr} {pos p : Pos} {es : List Expr} {x : Str}
/-- what the top tells of an exception class without an __init__ of its own -/
structure Xp0 (K : PySem.W.Frag) (mg : Str → Option Value) (ct : String → Option Addr) (c : String) (C : Addr) : Prop where
  t : ct c = some C
  g : mg (nm c) = some (.ref C)
  x : PySem.W.excIn K C [.type "ValueError", .type "Exception", .type "BaseException", .type "object"] "ValueError.__new__" = true
  k : PySem.W.keepIn K (.ref C) = true
  s : PySem.W.subIn K (.ref C) (.type "BaseException") = some true
  ty : PySem.W.typeIn K (.ref C) = some (.type "type")
theorem ds_raise0 (c : String) {C : Addr} (hc : X.calm = true) (T : Xp0 X.K X.mg ct c C) {m : Str} {j : Nat} {p2 : Pos} (hx : nm c = x := by rfl) (hg : Gl X x := by rfl) (hdb : (x == ("__debug__" : Str)) = false := by decide) :
    DS X ct (.Raise (some (.Call (.Name x p) [.Constant (.str m) j p2] [] pos)) none pos') (Mi.sRaise0 c) := by
  subst hx
  refine ⟨fun W tk => PS.imp (ps_raise hc tk (pmk_own PySem.F.excBase_ValueError T.x T.g T.k (raises_own T.s T.ty) hg hdb)) fun D σ H ⟨w, m, S, h⟩ => ?_⟩
  exact h w H σ (.ref C) none S (Ext.refl ..) ⟨C, T.t, rfl, fun _ => rfl, fun z => absurd rfl z⟩
/-- what the top tells of an exception class whose __init__ takes one field -/
structure Xp1 (K : PySem.W.Frag) (mg : Str → Option Value) (ct : String → Option Addr) (c f : String) (C : Addr) : Prop where
  t : ct c = some C
  g : mg (nm c) = some (.ref C)
  o : OexC K C
  xf : XfC K C
  nf : PySem.W.findIn K (.ref C) (nm f) = some none
/-- its __init__ keeps this -/
def spX1 (K : PySem.W.Frag) (C : Addr) (f : Str) : Sp := fun vs H Q _ => ∃ (a : Addr) (v : V), vs = [.ref a, v] ∧ OexC K C ∧ PySem.W.findIn K (.ref C) f = some none ∧ H a = some (exo a C none) ∧
  ∀ d, H d = none → d ≠ a → Q .non (upd (upd H d (exd d [(f, v)])) a (exo a C (some d)))
/-- what the top tells of a class whose __init__ is ValueError's -/
structure Xpi (K : PySem.W.Frag) (B : Addr) : Prop where
  r : PySem.W.readsIn K B (.type "type") = true
  ga : PySem.W.specialIn K (.ref B) "__getattribute__" = some (some (.builtin "type.__getattribute__"))
  at_ : PySem.W.findCls K (.ref B) (.type "type") "__init__" = some (.val (.builtin "ValueError.__init__"))
theorem pe_minit {B : Addr} {p1 p2 : Pos} {ta : TA} {pl : Sem Bool} (T : Xpi X.K B) (hg : Gl X x) (hm : X.mg x = some (.ref B)) (ha : PA X (e :: es) ta) (hdb : (x == ("__debug__" : Str)) = false := by decide)
    (hc : eval (.Call (.Attribute (.Name x p1) "__init__" p2) (e :: es) [] pos) X.env = (do
      let ov ← eval (.Name x p1) X.env
      standAt p2.atName
      let (f, first) ← holding [ov] (getMethod ov "__init__" pl)
      callWith pos f first (backTo pos (starEach (e :: es) X.env)) (backToKw pos (keywordEach [] X.env))) := by rfl)
    (he : starEach (e :: es) X.env = (false, eval e X.env) :: starEach es X.env := by rfl) (hpl : (backTo pos (starEach es X.env)).any (·.1) = false := by rfl) :
    PE X (.Call (.Attribute (.Name x p1) "__init__" p2) (e :: es) [] pos) (tVeI X.K ta) := by
  refine ⟨fun pins s σ H Q I h => PySem.W.methodCall_KW (ld_glob I hg hm ?_ hdb) hc⟩
  refine PySem.W.method_cls I.kIn T.ga (PySem.W.cls_value I.kIn T.r T.at_ (by decide +kernel) ?_)
  refine PyProof.Rows.callWith_method1 (thn (ha.run pos pins _ σ H _ (I.tok _) h) fun us s1 ⟨vs, H1, I1, r1, a, C, ws, ev, hl, T, ea, q⟩ => ?_) he hpl
  subst ev
  obtain _ | ⟨ra, rw'⟩ := r1
  have ra : _ = Value.ref a := ra
  subst ra
  exact oinit_ok T I1 ea (by rw [← Paired.length rw', sizeLine_eq]; omega) fun s' J => ⟨.non, H1, J, rfl, q⟩
end
end So

set_option Elab.async false
set_option linter.all false
set_option maxRecDepth 100000
set_option maxHeartbeats 4000000
namespace So
open PySem PySem.Spec PyProof.Rows L2
open Mi (D Cl FV SC Me Xc Res PV Ky Ev Tv Av Lv Iv Ov Sv Bd Out Tx RG Cal Tb)
section
variable {X : Cx} {ct : String → Option Addr} {a b e : Expr} {pos p : Pos} {es : List Expr} {x : Str}
theorem passX {CX : CXT} {P : Program} {w : World} {E : XK} (h : CX = L2.CX P w) (hE : E = fun _ _ _ => False) : Passes CX X E := fun _ _ _ _ _ _ _ q => by
  subst h hE
  obtain ⟨_, _, _, _, _, _, _, _, _, _, _, _, z⟩ := q
  exact z.elim
theorem del_upd {H : Hp} {a d : Addr} {u o1 o2 : HO} (hd : d ≠ a) (ha : H a = none) : upd (L2.del (upd (upd (upd H a o1) d u) a o2) a) d o1 = upd H d o1 := by
  funext b
  by_cases h : b = d
  · subst h; rw [upd_same, upd_same]
  · rw [upd_ne h, upd_ne h]
    by_cases h2 : b = a
    · subst h2; rw [L2.del_same, ha]
    · rw [L2.del_ne h2, upd_ne h2, upd_ne h, upd_ne h2]
theorem del_updX {H : Hp} {a d : Addr} {u o1 o2 o3 : HO} (hd : d ≠ a) (ha : H a = none) : upd (L2.del (upd (upd (upd H a o1) d u) a o2) a) d o3 = upd H d o3 := by
  funext b
  by_cases h : b = d
  · subst h; rw [upd_same, upd_same]
  · rw [upd_ne h, upd_ne h]
    by_cases h2 : b = a
    · subst h2; rw [L2.del_same, ha]
    · rw [L2.del_ne h2, upd_ne h2, upd_ne h, upd_ne h2]
theorem ds_raiseF (c f : String) {C fI : Addr} {fd : FuncData} {ps : List Str} {k : Nat} (hc : X.calm = true) (T : Xp1 X.K X.mg ct c f C) (iC : PySem.W.findIn X.K (.ref C) "__init__" = some (some (.ref fI))) (tI : PySem.W.typeIn X.K (.ref fI) = some (.type "function"))
    (F1 : FnOk X.prog X.w X.K X.mg X.base (L2.CX X.prog X.w) k fI fd ps (spX1 X.K C (nm f))) (hr : Room (k + 1) X.A) (hb : L2.Binds X.K fd ps []) {fe : Ev} (he : DE X ct e fe) (hx : nm c = x := by rfl) (hg : Gl X x := by rfl) (hdb : (x == ("__debug__" : Str)) = false := by decide)
    (hst : starEach [e] X.env = (false, eval e X.env) :: starEach [] X.env := by rfl) (hpl : (backTo pos (starEach [] X.env)).any (·.1) = false := by rfl) :
    DS X ct (.Raise (some (.Call (.Name x p) [e] [] pos)) none pos') (Mi.sRaiseF c f fe) := by
  subst hx
  refine ⟨fun W tk => PS.imp (ps_raise hc tk (pmk_oex T.o iC tI F1 hr hb .nil (passX rfl rfl) hg T.g ((da_cons he da_nil hst).run W tk) hdb hst hpl)) fun D σ H ⟨w, m, S, h⟩ => ?_⟩
  have h : RO X.K ct W w m H ((fe m).so fun x m1 => match x with | .v d => .ex ⟨c, [(f, d)]⟩ m1 | _ => .bad) D := h
  refine ⟨w, m, S, ?_⟩
  show RE X.K ct σ w m H ((fe m).bind fun y m2 => Res.ok [y] m2) _ _
  cases q : fe m with
  | bad => rw [q] at h; exact h.elim
  | ex xc m1 => rw [q] at h; exact fun w1 H1 S1 e1 cls dx hx => h w1 H1 σ cls dx S1 e1 hx
  | ok y m1 =>
    rw [q] at h
    intro w1 H1 S1 e1 vs pvs
    have h := RO.ext e1 h
    rw [Mi.Res.so_ok] at h
    cases pvs with
    | @cons _ v _ _ pv t =>
      cases t
      split at h
      · rename_i d
        refine ⟨by simp, fun a ha => ⟨a, v, rfl, T.o, T.nf, upd_same, fun dd hd hda => ⟨rfl, dd, [(nm f, v)], upd_same, by rw [upd_ne hda, upd_same], ?_, ?_⟩⟩⟩
        · rw [upd_ne hda] at hd; exact hd
        · have hd' : H1 dd = none := by rw [upd_ne hda] at hd; exact hd
          rw [del_updX hda ha]
          refine h w1 _ σ (.ref C) (some dd) (S1.fresh hd') (Ext.fresh hd') ⟨C, T.t, rfl, nofun, fun _ => ⟨dd, _, rfl, S1.M.notBad hd', nd_same rfl, .cons (RepD.ext (Ext.fresh hd') pv) .nil⟩⟩
      · exact h.elim
/-- a slot is emptied -/
theorem SR.setN {K : PySem.W.Frag} {w : Wd} {σm : Mi.Env} {S : List SC} {H : Hp} {σ : L2.St} (R : SR K ct w ⟨σm, S⟩ H σ) (i : Nat) (v : Option V) : SR K ct w ⟨σm.set i none, S⟩ H (σ.set i v) ∧ Ext w ⟨σm, S⟩ H w ⟨σm.set i none, S⟩ H := by
  have hc : ∀ p c, cellAt ⟨σm.set i none, S⟩ p = some c → cellAt ⟨σm, S⟩ p = some c := fun p c h => by
    rcases cell_set h with ⟨_, h⟩ | ⟨_, z, h, _⟩
    · exact h
    · cases h
  have e : Ext w ⟨σm, S⟩ H w ⟨σm.set i none, S⟩ H := Ext.sub rfl hc
  exact ⟨⟨R.M.sub rfl hc, R.E.set (S' := S) e rfl (fun _ _ => rfl) trivial⟩, e⟩
/-- an except suite: slot i holds the exception -/
structure DXs (X : Cx) (ct : String → Option Addr) (i : Nat) (st : List Stmt) (f : Xc → Sv) : Prop where
  run : ∀ (a : Addr) (oe : Obj) (cls : Value) (d : Option Addr) (pn : List (Addr × Obj)), Zc cls d oe → (∃ vs, oe.data = .fields vs) →
    PSs (X.suite a ((a, oe) :: pn)) st (fun D σ H => ∃ w m x, SR X.K ct w m H σ ∧ ExR X.K ct w m H x cls d ∧ σ[i]? = some (some (.ref a)) ∧ RO X.K ct (fun _ _ _ _ => False) w m H (f x m) D)
theorem RO.aft {K : PySem.W.Frag} {W : WX} {w : Wd} {m : Me} {H : Hp} {i : Nat} {r : Out} {D : Ends} (h : RO K ct W w m H (Mi.aft i r) D) :
    RO K ct (fun _ _ _ _ => False) w m H r { nx := fun σ' H' => D.nx (σ'.set i none) H', rt := D.rt, bk := fun σ' H' => D.bk (σ'.set i none) H', ct := fun σ' H' => D.ct (σ'.set i none) H' } := by
  cases r with
  | nx m1 => exact fun w' H' σ' S' e' => h w' H' _ (SR.setN (σm := m1.σ) (S := m1.S) S' i none).1 (e'.trans (SR.setN (σm := m1.σ) (S := m1.S) S' i none).2)
  | bk m1 => exact fun w' H' σ' S' e' => h w' H' _ (SR.setN (σm := m1.σ) (S := m1.S) S' i none).1 (e'.trans (SR.setN (σm := m1.σ) (S := m1.S) S' i none).2)
  | ct m1 => exact fun w' H' σ' S' e' => h w' H' _ (SR.setN (σm := m1.σ) (S := m1.S) S' i none).1 (e'.trans (SR.setN (σm := m1.σ) (S := m1.S) S' i none).2)
  | rt d m1 => exact fun w' H' σ' v S' e' r => h w' H' _ v (SR.setN (σm := m1.σ) (S := m1.S) S' i none).1 (e'.trans (SR.setN (σm := m1.σ) (S := m1.S) S' i none).2) (RepD.ext (SR.setN (σm := m1.σ) (S := m1.S) S' i none).2 r)
  | ex xc m1 => exact h.elim
  | bad => exact h.elim
theorem ds_tryAs {n : Str} {i : Nat} {sub : String → String → Option Bool} {body suite : List Stmt} {b₀ : Stmt} {np pos' : Pos} (c : String) {C : Addr} {fb : Sv} {fs : Xc → Sv} (hs : X.stack = X.env :: X.outer) (hf : X.env.frame = some X.env.locals) (hN : X.N.Nodup) (hi : X.N[i]? = some n) (hln : X.env.kindOf n = some .local)
    (hg : Gl X x) (hm : X.mg x = some (.ref C)) (hsub : ∀ c' b, sub c' c = some b → ∃ C', ct c' = some C' ∧ PySem.W.exmOne X.K (.ref C') (.ref C) = some b)
    (hb : ∀ pn xe, DSs (X.tr pn xe) ct body fb) (hsu : DXs X ct i (b₀ :: suite) fs) (hdb : (x == ("__debug__" : Str)) = false := by decide) :
    DS X ct (.Try body [.ExceptHandler (some (.Name x np)) (some n) (b₀ :: suite) pos'] [] [] pos) (Mi.sTryAs sub fb i c fs) := by
  refine ⟨fun W tk => PS.imp (ps_try_as (tb := fun W' => tS X.K ct W' fb) hs hf hN hi hln ⟨hg, hdb, .inl hm⟩ tk (fun W' pn xe tk' _ => (hb pn xe).run W' tk') hsu.run) fun D σ H ⟨w, m, S, h⟩ => ?_⟩
  refine ⟨w, m, S, ?_⟩
  unfold Mi.sTryAs at h
  cases q : fb m with
  | nx m1 => rw [q] at h; exact h
  | rt d m1 => rw [q] at h; exact h
  | bk m1 => rw [q] at h; exact h
  | ct m1 => rw [q] at h; exact h
  | bad => rw [q] at h; exact h
  | ex xc m1 =>
    rw [q] at h
    intro w1 H1 σ1 cls dx S1 e1 hx
    obtain ⟨C', t1, t2, _, t3⟩ := id hx
    have h : RO X.K ct W w m H (match sub xc.c c with
      | some true => if (m1.slot i).isNone = true ∧ i < m1.σ.length then Mi.aft i (fs xc ⟨m1.σ.set i none, m1.S⟩) else .bad
      | some false => .ex xc m1
      | none => .bad) D := h
    split at h
    · rename_i hq
      obtain ⟨C2, g1, g2⟩ := hsub _ _ hq
      rw [t1] at g1; cases g1
      subst t2
      refine ⟨true, g2, fun _ a ha => ?_, fun z => nomatch z⟩
      split at h
      · rename_i hil
        obtain ⟨S2, e2⟩ := SR.setN (σm := m1.σ) (S := m1.S) S1 i (some (.ref a))
        refine ⟨w1, _, xc, S2, hx.ext e2, ?_, (RO.ext (e1.trans e2) h).aft⟩
        rw [List.getElem?_set_self (by rw [← S1.E.len]; exact hil.2)]
      · exact h.elim
    · rename_i hq
      obtain ⟨C2, g1, g2⟩ := hsub _ _ hq
      rw [t1] at g1; cases g1
      subst t2
      exact ⟨false, g2, (fun z => nomatch z), fun _ => h w1 H1 σ1 _ dx S1 e1 hx⟩
    · exact h.elim
/-- y = e.f in an except suite -/
theorem dx_setFld {i j : Nat} {n y fS : Str} {p1 p2 p3 : Pos} (c f : String) {C : Addr} (T : Xp1 X.K X.mg ct c f C) (hN : X.N.Nodup) (hi : ∀ a pn, PE (X.suite a pn) (.Name n p3) (tVar i)) (hj : X.N[j]? = some y) (hy : Loc X.env.scope y) (hx : nm f = fS := by rfl)
    (hb : attributeBase (.Name n p3) fS X.env (eval (.Name n p3) X.env) = eval (.Name n p3) X.env := by rfl) (hs : swapsWith (.Attribute (.Name n p3) fS p2) (some (.Name y p1)) pos.line X.env = pure false := by rfl)
    (hf : X.fn y = true ∨ X.env.scope.names.lookup y = some .local := by first | exact .inl rfl | exact .inr rfl) :
    DXs X ct i [.Assign [.Name y p1] (.Attribute (.Name n p3) fS p2) pos] (Mi.xSet j (fun x m => if x.c = c then Mi.xFld f x m else none)) := by
  subst hx
  refine ⟨fun a oe cls d pn hz hv => PSs.imp (pss_one (ps_set (X := X.suite a ((a, oe) :: pn)) hN hj hy (pe_xf T.xf T.nf hz hv (hi a _) hb) hs hf)) fun D σ H ⟨w, m, x, S, hx, ha, h⟩ => ?_⟩
  refine ⟨.ref a, ha, rfl, ?_⟩
  unfold Mi.xSet at h
  split at h
  · rename_i d' hd'
    split at h
    · rename_i hj2
      replace hd' : (if x.c = c then Mi.xFld f x m else none) = some d' := hd'
      split at hd'
      · rename_i hcc
        obtain ⟨C', t1, t2, _, t3⟩ := hx
        rw [hcc, T.t] at t1; cases t1
        have hne : x.fs ≠ [] := fun z => by unfold Mi.xFld at hd'; rw [z] at hd'; cases hd'
        obtain ⟨dd, vs, g1, g2, g3, g4⟩ := t3 hne
        obtain ⟨o, k1, k2⟩ := g3
        have k3 : o = .xd vs := by
          unfold norm at k2
          split at k2 <;> first | exact k2 | cases k2
        subst k3
        rcases g4.look f with ⟨_, z⟩ | ⟨d2, v, z1, z2, z3⟩
        · exfalso
          unfold Mi.xFld at hd'
          have : (x.fs.map fun p => (p.1, FV.v p.2)).lookup f = (x.fs.lookup f).map FV.v := by
            induction x.fs with
            | nil => rfl
            | cons p r ih => obtain ⟨k, u⟩ := p; rw [List.map_cons, lookup_s, lookup_s, ih]; split <;> rfl
          rw [this, hd'] at z; cases z
        · have : d2 = d' := by
            unfold Mi.xFld at hd'
            have : (x.fs.map fun p => (p.1, FV.v p.2)).lookup f = (x.fs.lookup f).map FV.v := by
              induction x.fs with
              | nil => rfl
              | cons p r ih => obtain ⟨k, u⟩ := p; rw [List.map_cons, lookup_s, lookup_s, ih]; split <;> rfl
            rw [this, hd'] at z2; cases z2; rfl
          subst this
          refine ⟨t2, dd, vs, v, g1, k1, z1, ?_⟩
          obtain ⟨S2, e2⟩ := SR.setV (σm := m.σ) (S := m.S) S (i := j) z3
          exact h _ _ _ S2 e2
      · cases hd'
    · exact h.elim
  · exact h.elim
end
end So

set_option Elab.async false
set_option linter.all false
set_option maxRecDepth 100000
set_option maxHeartbeats 4000000
namespace So
open PySem PySem.Spec PyProof.Rows L2 PySem.NumText
open Mi (D Cl FV SC Me Xc Res PV Ky Ev Tv Av Lv Iv Ov Sv Bd Out Tx RG Cal Tb)
section
variable {X : Cx} {ct : String → Option Addr} {a b e : Expr} {pos p : Pos} {es : List Expr} {x : Str}
theorem decT_tx (i : Int) : tx (Mi.decT i) = (toString i : Str) := by
  show tx _ = Str.ofString (toString i)
  rw [Str.ofString_eq_toList]
  rfl
theorem ok_str : CallOk X ct Mi.aStr (fun xs H Q => ∃ i, xs = [.int i] ∧ i.natAbs.log2 < 1920 ∧ Q (.str (toString i)) H) := by
  intro w m H σ xs vs d Q S r hg k
  unfold Mi.aStr at hg
  split at hg
  · rename_i i
    split at hg
    · rename_i hs
      cases hg
      cases r with
      | cons r t =>
        cases t
        cases r
        refine ⟨i, rfl, ?_, ?_⟩
        · have h64 : i.natAbs < 2 ^ 64 := by
            have := of_decide_eq_true (show decide (-Mi.lim64 < i ∧ i < Mi.lim64) = true from hs)
            rw [Mi.lim64_is] at this
            omega
          by_cases h0 : i.natAbs = 0
          · rw [h0]; decide
          · exact (Nat.log2_lt h0).mpr (Nat.lt_of_lt_of_le h64 (Nat.pow_le_pow_right (by decide) (by decide)))
        · rw [← decT_tx]
          exact k _ H S (Ext.refl ..) (.str _)
    · cases hg
  · cases hg
theorem digs_all {z : Tx} (h : Mi.digs z = true) : AllDigits z := fun c hc => by
  have := List.all_eq_true.mp h c hc
  exact of_decide_eq_true this
theorem ok_cint2 : CallOk X ct Mi.aInt2 (fun xs H Q => ((∃ i, xs = [.int i] ∧ Q (.int i) H) ∨ ∃ k, xs = [.bl k] ∧ Q (.int (if k then 1 else 0)) H) ∨ ∃ a n, xs = [.str a] ∧ PySem.intText? a = some n ∧ a.length ≤ 640 ∧ Q (.int n) H) := by
  intro w m H σ xs vs d Q S r hg k
  unfold Mi.aInt2 at hg
  split at hg
  · rename_i z
    split at hg
    · rename_i hs
      cases hg
      cases r with
      | cons r t =>
        cases t
        cases r
        obtain ⟨h1, h2, h3⟩ := hs
        rw [Mi.lim600_is] at h3
        have hl : (tx z).length = z.length := by simp [tx, Str.length]
        refine .inr ⟨tx z, (Mi.digV z : Nat), rfl, ?_, by rw [hl]; omega, k _ H S (Ext.refl ..) (.int _)⟩
        have e1 : (tx z).cps.toList = z := by simp [tx]
        have := intText_digits (x := tx z) (by rw [e1]; exact digs_all h1) (by rw [e1]; exact h2) (by rw [hl]; omega)
        rw [e1] at this
        exact this
    · cases hg
  · exact .inl (ok_cint w m H σ xs vs d Q S r hg k)
theorem inT_iff (x z : Tx) : (!(Builtin.Str.occurrences (tx z) (tx x) 0 (tx z).length 1).isEmpty) = Mi.inT x z := by
  rw [Bool.eq_iff_iff, StrLaws.found_iff]
  have e1 : (tx z).cps.toList = z := by simp [tx]
  have e2 : (tx x).cps.toList = x := by simp [tx]
  have l1 : (tx z).length = z.length := by simp [tx, Str.length]
  have l2 : (tx x).length = x.length := by simp [tx, Str.length]
  unfold Mi.inT
  rw [List.any_eq_true]
  constructor
  · rintro ⟨i, h1, h2⟩
    rw [l1, l2] at h1
    rw [StrLaws.subAt_eq, e1, e2, l2, beq_iff_eq] at h2
    exact ⟨i, List.mem_range.mpr (by omega), decide_eq_true ⟨h1, h2⟩⟩
  · rintro ⟨i, _, h⟩
    obtain ⟨h1, h2⟩ := of_decide_eq_true h
    refine ⟨i, by rw [l1, l2]; exact h1, ?_⟩
    rw [StrLaws.subAt_eq, e1, e2, l2, beq_iff_eq]
    exact h2
theorem ok_inS : OpOk X ct Mi.gInS (fun x y H Q => ∃ i j, x = .str i ∧ y = .str j ∧ Q (.bl (!(Builtin.Str.occurrences j i 0 j.length 1).isEmpty)) H) := by
  intro w m H σ x y v u d Q S r1 r2 hg k
  unfold Mi.gInS at hg
  split at hg
  · cases hg
    cases r1; cases r2
    refine ⟨_, _, rfl, rfl, ?_⟩
    rw [inT_iff]
    exact k _ H S (Ext.refl ..) (.bl _)
  · cases hg
theorem ok_notInS : OpOk X ct Mi.gNotInS (fun x y H Q => ∃ i j, x = .str i ∧ y = .str j ∧ Q (.bl (!(!(Builtin.Str.occurrences j i 0 j.length 1).isEmpty))) H) := by
  intro w m H σ x y v u d Q S r1 r2 hg k
  unfold Mi.gNotInS at hg
  split at hg
  · cases hg
    cases r1; cases r2
    refine ⟨_, _, rfl, rfl, ?_⟩
    rw [inT_iff]
    exact k _ H S (Ext.refl ..) (.bl _)
  · cases hg
theorem de_inV (hu : X.A.units + 1 < cLine) {fa fb : Ev} (ha : DE X ct a fa) (hb : DE X ct b fb) (hm : behindInMarks .In b = false := by rfl) : DE X ct (.Compare a [.In] [b] pos) (Mi.e2 Mi.gInV fa fb) :=
  de_orG (de_inU hu ha hb hm) (de_cmp op_in_str ok_inS ha hb hm)
theorem de_notInV (hu : X.A.units + 1 < cLine) {fa fb : Ev} (ha : DE X ct a fa) (hb : DE X ct b fb) (hm : behindInMarks .NotIn b = false := by rfl) : DE X ct (.Compare a [.NotIn] [b] pos) (Mi.e2 Mi.gNotInV fa fb) :=
  de_orG (de_notInU hu ha hb hm) (de_cmp op_notin_str ok_notInS ha hb hm)
theorem dt_inV (hu : X.A.units + 1 < cLine) {fa fb : Ev} (ha : DE X ct a fa) (hb : DE X ct b fb) (hm : behindInMarks .In b = false := by rfl) : DT X ct (.Compare a [.In] [b] pos) (Mi.tV (Mi.e2 Mi.gInV fa fb)) :=
  dt_orG (dt_inU hu ha hb hm) (dt_cmp op_in_str ok_inS ha hb hm)
theorem dt_notInV (hu : X.A.units + 1 < cLine) {fa fb : Ev} (ha : DE X ct a fa) (hb : DE X ct b fb) (hm : behindInMarks .NotIn b = false := by rfl) : DT X ct (.Compare a [.NotIn] [b] pos) (Mi.tV (Mi.e2 Mi.gNotInV fa fb)) :=
  dt_orG (dt_notInU hu ha hb hm) (dt_cmp op_notin_str ok_notInS ha hb hm)
end
end So

set_option Elab.async false
set_option linter.all false
set_option maxRecDepth 100000
set_option maxHeartbeats 4000000
namespace So
open PySem PySem.Spec PyProof.Rows L2
open Mi (D Cl FV SC Me Xc Res PV Ky Ev Tv Av Lv Iv Ov Sv Bd Out Tx RG Cal Tb)
section
variable {X : Cx} {ct : String → Option Addr} {a b e : Expr} {pos p : Pos} {es : List Expr} {x : Str}
/-! ### isinstance with own classes -/
/-- what the top tells of a class's instances -/
structure CWho (K : PySem.W.Frag) (C : Addr) : Prop where
  cl : Cls K C
  ha : PySem.W.findIn K (.ref C) "__class__" = some (some (.builtin "object.__class__"))
  hn : PySem.W.specialIn K (.builtin "object.__class__") "__get__" = some (some (.builtin "getset_descriptor.__get__"))
  hk : PySem.W.takesIn K (.builtin "object.__class__") = some true
  hm : PySem.W.mroIn K C (.type "object") = some true
/-- isinstance(_, T) -/
structure CIs (K : PySem.W.Frag) (mg : Str → Option Value) (ct : String → Option Addr) (sub : String → String → Option Bool) (TY : List String) (T : String) : Prop where
  ex : ∃ CT, mg (nm T) = some (.ref CT) ∧ (∀ c b, sub c T = some b → ∃ C, ct c = some C ∧ CWho K C ∧ PySem.W.kitOne K (.ref C) (.ref CT) = some b) ∧ ∀ t ∈ TY, PySem.W.kitOne K (.type t) (.ref CT) = some false
theorem de_isC {sub : String → String → Option Bool} {TY : List String} (T : String) (G : CIs X.K X.mg ct sub TY T) (hg : Gl X "isinstance") (hm : X.mg "isinstance" = none) {tn : Str} (hg2 : Gl X tn) {fa : Ev} {p2 : Pos} (ha : DE X ct e fa) (hx : nm T = tn := by rfl)
    (hd : (tn == ("__debug__" : Str)) = false := by decide)
    (he : starEach [e, .Name tn p2] X.env = (false, eval e X.env) :: starEach [.Name tn p2] X.env := by rfl) (he2 : starEach [.Name tn p2] X.env = (false, eval (.Name tn p2) X.env) :: starEach [] X.env := by rfl)
    (hpl : (backTo pos (starEach [.Name tn p2] X.env)).any (·.1) = false := by rfl) : DE X ct (.Call (.Name "isinstance" p) [e, .Name tn p2] [] pos) (Mi.e1 (Mi.gIsC sub TY T) fa) := by
  subst hx
  obtain ⟨CT, g, own, ty⟩ := G.ex
  refine ⟨fun W tk => PE.imp (pe_callB call_isi hg hm (by rfl) (pa_cons (ha.run W tk) (pa_cons (pe_glob (v := .ref CT) (u := .ref CT) hg2 g rfl hd) pa_nil (by exact he2)) (by exact he)) (by decide) (by decide) he hpl) fun σ H Q ⟨w, m, S, h⟩ => ?_⟩
  refine tE.part S h fun y w1 m1 H1 v S1 e1 pv h1 => ?_
  obtain ⟨d, hd, h3⟩ := h1.opt
  have fin : ∀ (t : Value) (bb : Bool), TyX X.K H1 v t → PySem.W.kitOne X.K t (.ref CT) = some bb → d = .bl bb → rIsi X.K [v, .ref CT] H1 Q := fun t bb ty hk hb => by
    subst hb
    exact ⟨v, .ref CT, t, .ref CT, bb, rfl, .own _, ty, hk, RE.ok h3 S1 (Ext.refl ..) _ (.bl _)⟩
  unfold Mi.gIsC at hd
  split at hd
  · rename_i c fs q
    obtain ⟨bb, q2, rfl⟩ := opt_map hd
    obtain ⟨a, Ca, dx, vs, rfl, g1, g2, _⟩ := S1.obj pv q
    obtain ⟨C, t1, t2, t3⟩ := own c bb q2
    rw [g1] at t1; cases t1
    exact fin (.ref Ca) bb (.base (.ins g2 t2.cl t2.ha t2.hn t2.hk t2.hm)) t3 rfl
  · split at hd
    · obtain ⟨t, q, q2⟩ := opt_bind hd
      split at q2
      · rename_i ht
        cases q2
        obtain ⟨ty', _⟩ := ty_of pv q
        exact fin _ false ty' (ty t ht) rfl
      · cases q2
    · cases hd
/-! ### zip of two lists -/
theorem zipD_get {xs ys : List D} {i : Nat} {d : D} (h : (Mi.zipD xs ys)[i]? = some d) : ∃ x y, xs[i]? = some x ∧ ys[i]? = some y ∧ d = .tup [x, y] := by
  unfold Mi.zipD at h
  rw [List.getElem?_map] at h
  obtain ⟨⟨x, y⟩, h1, rfl⟩ := opt_map h
  rw [List.getElem?_zip_eq_some] at h1
  exact ⟨x, y, h1.1, h1.2, rfl⟩
theorem di_zip {p tpos : Pos} {elts : List Expr} {kk : Nat} {f g : Ev} (hg : Gl X "zip") (hm : X.mg "zip" = none) (ha : DA X ct [a, b] (Mi.aCons f (Mi.aCons g Mi.aNil)))
    (hs : starEach [a, b] X.env = (false, eval a X.env) :: starEach [b] X.env := by rfl) (hpl : (backTo pos (starEach [b] X.env)).any (·.1) = false := by rfl) :
    DI X ct (.Tuple elts kk tpos) (.Call (.Name "zip" p) [a, b] [] pos) (Mi.iZip f g) :=
  ⟨fun W tk => PI.imp (pi_zip hg hm (ha.run W tk) hs hpl) fun σ H R ⟨w, m, S, h⟩ => by
    replace h : RE X.K ct σ w m H ((f m).bind fun x m1 => (g m1).bind fun y m2 => match x, y with
      | .v (.lst xs), .v (.lst ys) => Res.ok (Mi.zipD xs ys) m2
      | _, _ => .bad) _ _ := h
    refine ⟨w, m, S, ?_⟩
    show RE X.K ct σ w m H ((f m).bind fun x m1 => ((g m1).bind fun y m2 => Res.ok [y] m2).bind fun xs m2 => .ok (x :: xs) m2) _ _
    cases q : f m with
    | ok x m1 =>
      rw [q] at h
      show RE X.K ct σ w m H (((g m1).bind fun y m2 => Res.ok [y] m2).bind fun xs m2 => .ok (x :: xs) m2) _ _
      replace h : RE X.K ct σ w m H ((g m1).bind fun y m2 => match x, y with
        | .v (.lst xs), .v (.lst ys) => Res.ok (Mi.zipD xs ys) m2
        | _, _ => .bad) _ _ := h
      cases q2 : g m1 with
      | ok y m2 =>
        rw [q2] at h
        intro w1 H1 S1 e1 vs pv
        cases pv with
        | cons pv t =>
          cases t with
          | cons pu t =>
            cases t
            replace h : RE X.K ct σ w m H (match x, y with
              | .v (.lst xs), .v (.lst ys) => Res.ok (Mi.zipD xs ys) m2
              | _, _ => .bad) _ _ := h
            split at h
            · rename_i xs ys
              have pv' : RepD X.K ct w1 m2 H1 (.lst xs) _ := pv
              have pu' : RepD X.K ct w1 m2 H1 (.lst ys) _ := pu
              cases pv' with
              | @lst p1 _ us n1 g1 r1 =>
                cases pu' with
                | @lst p2 _ ws n2 g2 r2 =>
                  refine ⟨p1, p2, us, ws, rfl, SqL.of g1.lst, SqL.of g2.lst, RE.ok h S1 e1 _ ?_⟩
                  intro i w3 m3 H3 M3 e3
                  obtain ⟨us', k1, k2⟩ := list_at (.inl (.lst n1 g1 r1)) e3
                  obtain ⟨ws', k3, k4⟩ := list_at (.inl (.lst n2 g2 r2)) e3
                  refine ⟨fun d hd => ?_, fun hl => ⟨us', ws', k1, k3, ?_⟩⟩
                  · obtain ⟨x, y, z1, z2, rfl⟩ := zipD_get hd
                    obtain ⟨u, z3, z4⟩ := k2.get z1
                    obtain ⟨v, z5, z6⟩ := k4.get z2
                    refine ⟨⟨us', ws', u, v, k1, k3, z3, z5⟩, fun v' H' ⟨T, x', y', ev, hT, hH, hx, hy⟩ => ?_⟩
                    subst ev hH
                    have := hx us' k1; rw [z3] at this; cases this
                    have := hy ws' k3; rw [z5] at this; cases this
                    have ef := Ext.fresh (w := w3) (m := m3) (o := .tup [u, v]) hT
                    refine ⟨.tup (M3.notBad hT) (nd_same rfl) (.cons (RepD.ext ef z4) (.cons (RepD.ext ef z6) .nil)), .inr ⟨T, _, hT, rfl⟩⟩
                  · unfold Mi.zipD at hl
                    rw [List.length_map, List.length_zip] at hl
                    rw [← k2.length, ← k4.length]
                    omega
            · exact h.elim
      | ex x m1 => rw [q2] at h; exact h
      | bad => rw [q2] at h; exact h
    | ex x m1 => rw [q] at h; exact h
    | bad => rw [q] at h; exact h⟩
end
end So

set_option Elab.async false
set_option linter.all false
set_option maxRecDepth 100000
set_option maxHeartbeats 4000000
namespace So
open PySem PySem.Spec PyProof.Rows L2
open Mi (D Cl FV SC Me Xc Res PV Ky Ev Tv Av Lv Iv Ov Sv Bd Out Tx RG Cal Tb)
/-! ### enumerate of a text -/
/-- the signs of a text with their places, each pair a new tuple -/
def JtE (z : Str) : It :=
  ⟨fun i _ => i < z.cps.size, fun i H v H' => ∃ T c, v = .ref T ∧ H T = none ∧ z.cps[i]? = some c ∧ H' = upd H T (.tup [.int (i : Nat), .str ⟨#[c]⟩]), fun i _ => z.cps.size ≤ i⟩
section
variable {P : Program} {w : World} {K : PySem.W.Frag} {elts : List Expr} {kk : Nat} {tpos : Pos}
theorem turn_enumT (e it : Addr) (z : Str) (t : Tok) (hne : e ≠ it) :
    Turn P w K (.Tuple elts kk tpos) (JtE z) [e, it] e (fun i h => ((∃ old, IsEnum h e it ((i : Nat) : Int) old) ∧ h.IsStrIter it (strIterType z) z t i) ∧ i ≤ z.cps.size) := by
  have two : ∀ {b : Addr}, b ∈ [e, it] ↔ b = e ∨ b = it := fun {b} => by simp
  refine ⟨two.mpr (.inl rfl), fun i h st b hb => ?_, fun i h h' st k => ?_, ?_, ?_, fun A i s Q E st h => ?_⟩
  · obtain ⟨⟨⟨old, he⟩, hit⟩, _⟩ := st
    rcases two.mp hb with rfl | rfl
    · exact ⟨_, he, nofun⟩
    · obtain ⟨o, ho, hc, hd⟩ := hit
      exact ⟨o, ho, fun v q => by rw [hd] at q; cases q⟩
  · obtain ⟨⟨⟨old, he⟩, hit⟩, hl⟩ := st
    obtain ⟨o, ho, r⟩ := hit
    exact ⟨⟨⟨old, k e (two.mpr (.inl rfl)) _ he⟩, ⟨o, k it (two.mpr (.inr rfl)) o ho, r⟩⟩, hl⟩
  · rintro X rfl rfl rfl hc i pins s σ H E I hf ⟨⟨⟨old, he⟩, hit⟩, hl⟩ hg
    have hg : i < z.cps.size := hg
    have D := Draws.text (prog := X.prog) (w := X.w) (A := X.A.in1) (show X.A.in1.handled = none from I.ok.hd hc) it z t
    have hel : e < s.heap.objs.size := Heap.lt_size he
    have hil : it < s.heap.objs.size := by obtain ⟨_, q, _⟩ := hit; exact Heap.lt_size q
    refine wpAny_pyNext_enum_itemC D he hit hg hne (by simpa using hne) fun y h' tk hy ho hit' hT hsz hk => ?_
    obtain ⟨c, u, hcx, rfl⟩ := hy
    refine ⟨_, rfl, wpAny_letOwnedTupleGo_enum (s := ⟨h', s.gens, s.drawn, tk + 1, s.os⟩) ho fun h2 he2 sb => ?_⟩
    have hT2 : h2.get? s.heap.objs.size = some { cls := .type "tuple", data := .seq #[.int ((i : Nat) : Int) tk, .str ⟨#[c]⟩ u] } := (sb.2 _ (Nat.ne_of_gt hel)).trans hT
    have I1 : Inv X pins σ (upd H s.heap.objs.size (.tup [.int (i : Nat), .str ⟨#[c]⟩])) { s with heap := h2, toks := tk + 1 } := by
      refine I.turnedNew (ch := [e, it]) (fun b o hb q => ?_) hf (Nat.le_refl _) ⟨by show 2 ≤ sizeLine; decide, [.int ((i : Nat) : Int) tk, .str ⟨#[c]⟩ u], .cons ⟨_, rfl⟩ (.cons ⟨_, rfl⟩ .nil), ⟨_, hT2, rfl, _, rfl⟩⟩
      have n1 : b ≠ e := fun z => hb (two.mpr (.inl z))
      have n2 : b ≠ it := fun z => hb (two.mpr (.inr z))
      exact (sb.2 b n1).trans (hk b o n1 n2 q)
    have hit2 : h2.IsStrIter it (strIterType z) z t (i + 1) := by
      obtain ⟨o, ho', r⟩ := hit'
      exact ⟨o, (sb.2 it (Ne.symm hne)).trans ho', r⟩
    refine ⟨.ref s.heap.objs.size, _, I1, rfl, ⟨_, c, rfl, I.hok.fresh (Nat.le_refl _), hcx, rfl⟩, ⟨⟨⟨Value.str ⟨#[c]⟩ u, ?_⟩, hit2⟩, by omega⟩, fun b hb => ?_⟩
    · have e1 : ((i + 1 : Nat) : Int) = ((i : Nat) : Int) + 1 := by omega
      rw [e1]; exact he2
    · have hlt : b < s.heap.objs.size := by rcases two.mp hb with rfl | rfl <;> assumption
      rw [upd_ne (Nat.ne_of_lt hlt)]
      exact (hf b hb).1
  · rintro X rfl rfl rfl hc i pins s σ H E I hf ⟨⟨⟨old, he⟩, hit⟩, hl⟩ hg
    have hg : z.cps.size ≤ i := hg
    obtain rfl : i = z.cps.size := by omega
    have D := Draws.text (prog := X.prog) (w := X.w) (A := X.A.in1) (show X.A.in1.handled = none from I.ok.hd hc) it z t
    obtain ⟨f0, f1, f2, f3, f4, f5⟩ := hf it (two.mpr (.inr rfl))
    exact wpAny_pyNext_enum_endD D he hit fun h' eb => ⟨rfl, I.turned (t' := s.toks) (fun b o hb q => eb b o hb q) f0 f1 f3 f4 f5⟩
  · obtain ⟨⟨⟨_, he⟩, _⟩, _⟩ := st
    exact wpAny_pyIter_enum he h
end
section
variable {X : Cx} {ct : String → Option Addr} {a b e : Expr} {pos p : Pos} {es : List Expr} {x : Str}
def iEnT (ta : TA) : TI := fun σ H R => ta σ H fun vs H1 => ∃ z, vs = [.str z] ∧ R (JtE z) H1
theorem pi_enumT {ta : TA} {tpos : Pos} {elts : List Expr} {kk : Nat} (hg : Gl X "enumerate") (hm : X.mg "enumerate" = none) (ha : PA X [e] ta) (hs : starEach [e] X.env = [(false, eval e X.env)] := by rfl) :
    PI X (.Tuple elts kk tpos) (.Call (.Name "enumerate" p) [e] [] pos) (iEnT ta) := by
  refine ⟨fun pins s σ H R I h => ?_⟩
  refine Call_ (ld_blt I hg hm boot_enumerate (PyProof.Rows.callWith_type1 (thn (ha.run pos pins s σ H _ I h) fun us s1 hh => ?_) hs rfl))
  obtain ⟨vs, H1, I1, r1, z, ex, q⟩ := hh
  subst ex
  obtain ⟨u, rfl, r⟩ := vals1 r1
  obtain ⟨t, rfl⟩ := r
  refine call_enumerate_str fun h' he hit hsz hk => wpAny_pyIter_enum he ?_
  have I2 : Inv X pins σ H1 { s1 with heap := h' } := I1.kept (t' := s1.toks) hk
  refine ⟨s1.heap.objs.size + 1, [s1.heap.objs.size + 1, s1.heap.objs.size], _, _, H1, rfl, I2, turn_enumT (s1.heap.objs.size + 1) s1.heap.objs.size z t (Nat.succ_ne_self _), ⟨⟨⟨.none, he⟩, hit⟩, Nat.zero_le _⟩, fun b hb => ?_, q⟩
  have hle : s1.heap.objs.size ≤ b := by
    simp only [List.mem_cons, List.not_mem_nil, or_false] at hb
    rcases hb with rfl | rfl <;> omega
  exact I1.fpOk hle (I1.hok.fresh hle)
theorem di_enumT {tpos : Pos} {elts : List Expr} {kk : Nat} {f : Ev} (hg : Gl X "enumerate") (hm : X.mg "enumerate" = none) (ha : DA X ct [e] (Mi.aCons f Mi.aNil)) (hs : starEach [e] X.env = [(false, eval e X.env)] := by rfl) :
    DI X ct (.Tuple elts kk tpos) (.Call (.Name "enumerate" p) [e] [] pos) (Mi.iEnumT f) :=
  ⟨fun W tk => PI.imp (pi_enumT hg hm (ha.run W tk) hs) fun σ H R ⟨w, m, S, h⟩ => by
    refine ⟨w, m, S, ?_⟩
    have h2 := h.bind
    show RE X.K ct σ w m H ((f m).bind fun x m1 => Res.ok [x] m1) _ _
    cases q : f m with
    | ex x m1 => rw [q] at h2; exact h2
    | bad => rw [q] at h2; exact h2
    | ok x m1 =>
      rw [q] at h2
      intro w1 H1 S1 e1 vs pv
      have h3 := h2 w1 H1 S1 e1
      dsimp only at h3
      obtain _ | ⟨pv, t⟩ := pv
      obtain _ | _ := t
      split at h3
      case h_2 => exact h3.elim
      rename_i z
      obtain _ := pv
      rename_i pv
      cases pv
      refine ⟨tx z, rfl, RE.ok h3 S1 (Ext.refl ..) _ ?_⟩
      intro i w2 m2 H2 M2 e2
      have hz : (tx z).cps.size = z.length := by simp [tx]
      refine ⟨fun d hd => ?_, fun hl => ?_⟩
      · rw [enum_get, List.getElem?_map] at hd
        obtain ⟨y, hy, rfl⟩ := opt_map hd
        obtain ⟨c, hc, rfl⟩ := opt_map hy
        refine ⟨?_, ?_⟩
        · show i < (tx z).cps.size
          rw [hz]; exact (List.getElem?_eq_some_iff.mp hc).1
        · rintro u H3 ⟨T, c', rfl, hT, hc', rfl⟩
          have : (tx z).cps[i]? = some c := by simp only [tx, List.getElem?_toArray]; exact hc
          rw [this] at hc'; cases hc'
          exact ⟨.tup (M2.notBad hT) (nd_same rfl) (.cons (.int _) (.cons (.str [c]) .nil)), .inr ⟨T, _, hT, rfl⟩⟩
      · show (tx z).cps.size ≤ i
        rw [hz]
        unfold Mi.enum at hl
        simpa using hl⟩
theorem di_enumU {tpos : Pos} {elts : List Expr} {kk : Nat} {f : Ev} (hg : Gl X "enumerate") (hm : X.mg "enumerate" = none) (ha : DA X ct [e] (Mi.aCons f Mi.aNil)) (hs : starEach [e] X.env = [(false, eval e X.env)] := by rfl) :
    DI X ct (.Tuple elts kk tpos) (.Call (.Name "enumerate" p) [e] [] pos) (Mi.iEnumU f) := by
  refine di_or2 (di_enum hg hm ha hs) (di_enumT hg hm ha hs) fun m => ?_
  unfold Mi.iEnumU Mi.iEnum Mi.iEnumT
  cases f m with
  | ok x m1 =>
    cases x with
    | sl i => exact .inr (.inr rfl)
    | v d => cases d <;> first | exact .inl rfl | exact .inr (.inl rfl) | exact .inr (.inr rfl)
  | ex x m1 => exact .inl rfl
  | bad => exact .inl rfl
end
end So

set_option Elab.async false
set_option linter.all false
set_option maxRecDepth 100000
set_option maxHeartbeats 4000000
namespace So
open PySem PySem.Spec PyProof.Rows L2
open Mi (D Cl FV SC Me Xc Res PV Ky Ev Tv Av Lv Iv Ov Sv Bd Out Tx RG Cal Tb)
theorem sub_all {L : List (String × String × Bool)} {T : String} {Q : String → Bool → Prop} (h : ∀ p ∈ L, p.2.1 = T → Q p.1 p.2.2) : ∀ c b, Mi.subOf L c T = some b → Q c b := fun c b e => by
  obtain ⟨p, q, e2⟩ := opt_map (show (L.find? fun p => p.1 == c && p.2.1 == T).map (·.2.2) = some b from e)
  have h1 := List.find?_some q
  rw [Bool.and_eq_true, beq_iff_eq, beq_iff_eq] at h1
  have h2 := h p (List.mem_of_find?_eq_some q) h1.2
  rw [h1.1] at h2
  rw [e2]
  exact h2
section
variable {K : PySem.W.Frag} {C : Addr} {f : Str} {vs : List V} {H : Hp} {Q : VK} {E : XK}
theorem spX1_len (h : spX1 K C f vs H Q E) : vs.length = 2 := by obtain ⟨a, v, rfl, _⟩ := h; rfl
end
end So

set_option Elab.async false
set_option linter.all false
set_option maxRecDepth 100000
set_option maxHeartbeats 4000000
namespace So
open PySem PySem.Spec PyProof.Rows L2
open Mi (D Cl FV SC Me Xc Res PV Ky Ev Tv Av Lv Iv Ov Sv Bd Out Tx RG Cal Tb)
/-! ### try with any clauses and an else -/
/-- the ends of a clause with a name (at slot i), or without one -/
def offs : Option Nat → Ends → Ends
  | none, D => D
  | some i, D => ⟨fun σ H => D.nx (σ.set i none) H, D.rt, fun σ H => D.bk (σ.set i none) H, fun σ H => D.ct (σ.set i none) H⟩
def ons : Option Nat → Addr → L2.St → L2.St
  | none, _, σ => σ
  | some i, a, σ => σ.set i (some (.ref a))
abbrev HT := Option Nat × Value × (Addr → Value → Option Addr → TS)
def wGo (K : PySem.W.Frag) (W : WX) (D : Ends) : List HT → WX
  | [] => W
  | t :: r => fun cls d σ H => ∃ b, PySem.W.exmOne K cls t.2.1 = some b ∧
      (b = true → ∀ a, H a = none → t.2.2 a cls d (offs t.1 D) (ons t.1 a σ) H) ∧ (b = false → wGo K W D r cls d σ H)
/-- a suite in its place -/
def InSuite (X : Cx) (st : List Stmt) (ts : Addr → Value → Option Addr → TS) : Prop :=
  ∀ a oe cls d pn, Zc cls d oe → (∃ vs, oe.data = .fields vs) → PSs (X.suite a ((a, oe) :: pn)) st (ts a cls d)
inductive Hdl (X : Cx) : List ExceptHandler → List HT → Prop
  | nil : Hdl X [] []
  | bare {x : Str} {c : Value} {ts : Addr → Value → Option Addr → TS} {b : Stmt} {bs : List Stmt} {p q : Pos} {hs : List ExceptHandler} {l : List HT} :
      Names X x c → InSuite X (b :: bs) ts → Hdl X hs l → Hdl X (.ExceptHandler (some (.Name x p)) none (b :: bs) q :: hs) ((none, c, ts) :: l)
  | named {x n : Str} {i : Nat} {c : Value} {ts : Addr → Value → Option Addr → TS} {b : Stmt} {bs : List Stmt} {p q : Pos} {hs : List ExceptHandler} {l : List HT} :
      Names X x c → InSuite X (b :: bs) ts → X.N[i]? = some n → X.env.kindOf n = some .local → Hdl X hs l →
        Hdl X (.ExceptHandler (some (.Name x p)) (some n) (b :: bs) q :: hs) ((some i, c, ts) :: l)
section
variable {X : Cx} {pins : List (Addr × Obj)} {W : WX} {D : Ends} {B : Heap} {sI s₀ : Shared} {a : Addr} {σ : L2.St} {H : Hp} {cls : Value} {d : Option Addr}
/-- the exception has come to this frame, and flies -/
structure Here (X : Cx) (pins : List (Addr × Obj)) (B : Heap) (sI : Shared) (a : Addr) (σ : L2.St) (H : Hp) (cls : Value) (d : Option Addr) (s : Shared) : Prop where
  ok : X.Ok
  fr : X.A.frames = some (X.env :: X.outer)
  stk : X.stack = X.env :: X.outer
  loc : X.env.frame = some X.env.locals
  inv : Inv X pins σ H sI
  nb : ∀ b o, sI.heap.get? b = some o → b ∉ frs X.stack → B.get? b = some o
  up : sI.heap.UpToSlots s.heap
  fl : HandSPX.FlyingZ B (X.env :: X.outer) a (Zc cls d) s.heap
  na : H a = none
  os : s.os = sI.os
  ag : AllBare s.gens
theorem Here.now {s : Shared} (h : Here X pins B sI a σ H cls d s) : Inv X pins σ H s := h.inv.landed h.nb h.fl.1 h.up h.os h.ag
/-- as the suite's start sees it -/
theorem Here.inn {s : Shared} (h : Here X pins B sI a σ H cls d s) : ∃ oe, s.heap.get? a = some oe ∧ Zc cls d oe ∧ (∃ vs, oe.data = .fields vs) ∧ Inv (X.suite a ((a, oe) :: (X.pn ++ pins))) [] σ H s := by
  obtain ⟨oe, vs, g1, g2, g3⟩ := h.fl.there
  have out : a ∉ frs (X.env :: X.outer) := by
    intro z
    obtain ⟨_, o, e, no⟩ := h.fl.2.2.1.mem z
    rw [g1] at e
    cases e
    exact no _ g3
  refine ⟨oe, g1, g2, ⟨vs, g3⟩, h.now.suite g1 g3 h.na (fun z => ?_) fun z => ?_⟩
  · subst z
    exact out (List.mem_filterMap.mpr ⟨X.env, .head _, h.loc⟩)
  · obtain ⟨e, he, q⟩ := List.mem_filterMap.mp z
    exact out (List.mem_filterMap.mpr ⟨e, .tail _ he, q⟩)
theorem Here.moved {s : Shared} {hp : Heap} (h : Here X pins B sI a σ H cls d s) (f : HandSPX.FlyingZ B (X.env :: X.outer) a (Zc cls d) hp) (u : s.heap.UpToSlots hp) : Here X pins B sI a σ H cls d { s with heap := hp } :=
  { h with up := h.up.trans u, fl := f }
/-- a suite's end -/
theorem suite_end {o : Option Nat} {n : Option Str} {q : Pos} {f : Flow} {q' : Addr × Obj} {s : Shared} (ok : X.Ok) (hN : X.N.Nodup)
    (hn : match o, n with | none, none => True | some i, some n => X.N[i]? = some n ∧ X.env.kindOf n = some .local | _, _ => False)
    (h : SP (X.suite a (q' :: (X.pn ++ pins))) [] (offs o D) f s) :
    match n with
    | none => SP X pins D f s
    | some n => wpAny (model X.prog X.w) X.A (do bindName X.env n .none; unbindBehindTheSuite X.env n q) (fun _ s' => SP X pins D f s') X.xe s := by
  cases o with
  | none =>
    cases n with
    | none =>
      cases f with
      | ret u => obtain ⟨v, σ', H', J, r, t⟩ := h; exact ⟨v, σ', H', J.unsuite ok, r, t⟩
      | next => obtain ⟨σ', H', J, t⟩ := h; exact ⟨σ', H', J.unsuite ok, t⟩
      | brk => obtain ⟨σ', H', J, t⟩ := h; exact ⟨σ', H', J.unsuite ok, t⟩
      | cont => obtain ⟨σ', H', J, t⟩ := h; exact ⟨σ', H', J.unsuite ok, t⟩
    | some n => exact hn.elim
  | some i =>
    cases n with
    | none => exact hn.elim
    | some n =>
      obtain ⟨hi, hl⟩ := hn
      cases f with
      | ret u => obtain ⟨v, σ', H', J, r, t⟩ := h; exact gone_ok (J.unsuite ok) hN hi hl fun _ J' => ⟨v, _, H', J', r, t⟩
      | next => obtain ⟨σ', H', J, t⟩ := h; exact gone_ok (J.unsuite ok) hN hi hl fun _ J' => ⟨_, H', J', t⟩
      | brk => obtain ⟨σ', H', J, t⟩ := h; exact gone_ok (J.unsuite ok) hN hi hl fun _ J' => ⟨_, H', J', t⟩
      | cont => obtain ⟨σ', H', J, t⟩ := h; exact gone_ok (J.unsuite ok) hN hi hl fun _ J' => ⟨_, H', J', t⟩
/-- the class that a clause names is read -/
theorem Here.names {s : Shared} {x : Str} {p : Pos} {c : Value} {Q : Value → Shared → Prop} {E : Value → Shared → Prop} (h : Here X pins B sI a σ H cls d s) (hc : Names X x c) (q : Q c s) :
    wpAny (model X.prog X.w) (X.A.mark (some (.ref a))) (eval (.Name x p) X.env) Q E s := by
  obtain ⟨oe, _, _, _, J⟩ := h.inn
  rcases hc with ⟨g1, g2, g3 | ⟨g3, g4, g5⟩⟩
  · exact ld_glob (X := X.suite a ((a, oe) :: (X.pn ++ pins))) J g1 g3 q g2
  · exact ld_blt (X := X.suite a ((a, oe) :: (X.pn ++ pins))) J g1 g3 g4 q g5 g2
theorem Here.go (hN : X.N.Nodup) (tk : Takes X W) {hs : List ExceptHandler} {l : List HT} (hk : Hdl X hs l) : ∀ {s : Shared}, Here X pins B sI a σ H cls d s → wGo X.K W D l cls d σ H →
    wpAny (model X.prog X.w) X.A (handleBy (.ref a) X.env hs) (SP X pins D) X.xe s := by
  have yes : ∀ {s : Shared} {oi : Option Nat} {st : List Stmt} {ts : Addr → Value → Option Addr → TS}, Here X pins B sI a σ H cls d s → InSuite X st ts → ts a cls d (offs oi D) (ons oi a σ) H →
      ∀ {s' : Shared} {oe : Obj}, Zc cls d oe → (∃ vs, oe.data = .fields vs) → Inv (X.suite a ((a, oe) :: (X.pn ++ pins))) [] (ons oi a σ) H s' → ∀ {R : Flow → Shared → Prop} {E : Value → Shared → Prop},
      (∀ f t, SP (X.suite a ((a, oe) :: (X.pn ++ pins))) [] (offs oi D) f t → R f t) → wpAny (model X.prog X.w) (X.A.mark (some (.ref a))) (execs st X.env) R E s' :=
    fun hh su hts _ oe z1 z2 J _ _ k => wpAny_mono ((su a oe cls d (X.pn ++ pins) z1 z2).run [] _ _ H _ J hts) k fun _ _ no => no.elim
  induction hk with
  | nil =>
    intro s h w
    refine wpAny_handleBy_nil ?_
    obtain ⟨_, _, _, oe, vs, T, _, _, g1, g2, g3, g4, _⟩ := id h.fl
    unfold PySem.passOn
    refine wpAny_bind (wpAny_field g1 g3 g4 ?_)
    rw [if_neg (by simp)]
    have last : wpAny (model X.prog X.w) X.A (setFlight (.ref a) X.env.frame) (fun _ t => wpAny (model X.prog X.w) X.A (throw (.ref a) : Sem Flow) (SP X pins D) X.xe t) X.xe s := by
      rw [h.loc]
      exact HandSPX.setFlight_upZ h.fl fun hp k1 k2 => wpAny_throw (tk _ _ ⟨a, B, sI, pins, σ, H, cls, d, rfl, h.inv, h.nb, h.up.trans k2, .inr (.inr (by rw [h.stk]; exact k1)), h.na, h.os, h.ag, w⟩)
    first
      | exact wpAny_bind last
      | exact wpAny_bind (wpAny_pure (wpAny_bind last))
  | bare hc su _ ih =>
    intro s h ⟨b, e, k1, k2⟩
    have L : PySem.W.Looks (model X.prog X.w) s.heap (typeOf (.ref a)) cls := by
      obtain ⟨oe, g1, g2, _⟩ := h.inn
      exact fun _ _ _ _ k q => wpAny_typeOf_ref (k _ _ g1) (by rw [g2.1]; exact q)
    refine wpAny_handleBy_cons (codeAny_handlers_test (h.names hc ((PySem.W.exm_one h.now.kIn L e).here ?_))) nofun
    cases b with
    | false => exact ih h (k2 rfl)
    | true =>
      refine codeAny_handlers_suite (HandSPX.lands_againZ h.fl fun hp f u => ?_)
      obtain ⟨oe, _, z1, z2, J⟩ := (h.moved f u).inn
      exact yes (oi := none) h su (k1 rfl a h.na) z1 z2 J fun f t q => suite_end (o := none) (n := none) (q := default) h.ok hN trivial q
  | @named x n i c ts b bs p q hs' l' hc su hi hl _ ih =>
    intro s h ⟨b, e, k1, k2⟩
    have L : PySem.W.Looks (model X.prog X.w) s.heap (typeOf (.ref a)) cls := by
      obtain ⟨oe, g1, g2, _⟩ := h.inn
      exact fun _ _ _ _ k q => wpAny_typeOf_ref (k _ _ g1) (by rw [g2.1]; exact q)
    refine wpAny_handleBy_cons (codeAny_handlers_test (h.names hc ((PySem.W.exm_one h.now.kIn L e).here ?_))) nofun
    cases b with
    | false => exact ih h (k2 rfl)
    | true =>
      refine codeAny_handlers_suite_as (HandSPX.lands_againZ h.fl fun hp f u => ?_)
      obtain ⟨oe, _, z1, z2, J⟩ := (h.moved f u).inn
      refine store_ok (X := X.suite a ((a, oe) :: (X.pn ++ pins))) (v := .ref a) J hN hi (.inl hl) rfl (fun t J2 => ?_) (.inr hl)
      exact yes (oi := some i) h su (k1 rfl a h.na) z1 z2 J2 fun f t q => suite_end (o := some i) (n := some n) h.ok hN ⟨hi, hl⟩ q
end
section
variable {X : Cx} {body orelse : List Stmt} {h₀ : ExceptHandler} {hs : List ExceptHandler} {l : List HT} {pos : Pos} {tb : WX → TS} {W : WX} {u : TS}
theorem ps_tryG (ho : PSs X orelse u) (hst : X.stack = X.env :: X.outer) (hf : X.env.frame = some X.env.locals) (hN : X.N.Nodup) (tk : Takes X W) (hh : Hdl X (h₀ :: hs) l)
    (hb : ∀ (V : WX) (pn : List (Addr × Obj)) (xe : Value → Shared → Prop), Takes (X.tr pn xe) V → PassesOwn (model X.prog X.w) X.A X.env xe → PSs (X.tr pn xe) body (tb V)) :
    PS X (.Try body (h₀ :: hs) orelse [] pos) fun D σ H => tb (wGo X.K W D l) { D with nx := u D } σ H := by
  refine ⟨fun pins s σ H D I h => wpAny_Try_except ?_⟩
  have ok := I.ok
  have b := (hb (wGo X.K W D l) (X.pn ++ pins) (fun e t => wpAny (model X.prog X.w) X.A (noteFrame e X.env)
    (fun _ t => wpAny (model X.prog X.w) X.A (setFlight e none) (fun _ t => wpAny (model X.prog X.w) X.A (handleBy e X.env (h₀ :: hs)) (SP X pins D) X.xe t) X.xe t) X.xe t) (fun v t xx => ?_) PassesOwn.looking).run [] s σ H { D with nx := u D } (I.toTry _) h
  · refine wpAny_mono b (fun f t q => ?_) fun _ _ z => z
    cases f with
    | ret y => obtain ⟨v, σ', H', J, r, z⟩ := q; exact ⟨v, σ', H', J.ofTry ok, r, z⟩
    | brk => obtain ⟨σ', H', J, z⟩ := q; exact ⟨σ', H', J.ofTry ok, z⟩
    | cont => obtain ⟨σ', H', J, z⟩ := q; exact ⟨σ', H', J.ofTry ok, z⟩
    | next => obtain ⟨σ', H', J, z⟩ := q; exact ho.run pins t σ' H' D (J.ofTry ok) z
  · obtain ⟨a, B, sI, pins', σ', H', cls, d, rfl, J, nb, up, sky, na, os, ag, w⟩ := xx
    have sky : Sky B (X.env :: X.outer) a (Zc cls d) X.env.locals t.heap := by rw [← hst]; exact sky
    have hfr : X.A.frames = some (X.env :: X.outer) := by rw [ok.frames, hst]
    exact Sky.land (hZ := Zc.steady) hfr hf sky fun hp f k => Here.go hN tk hh ⟨ok, hfr, hst, hf, J.ofTry ok, nb, up.trans k, f, na, os, ag⟩ w
end
end So

set_option linter.all false
/-! # Mk: more of the small world: try with many clauses -/
namespace Mi
noncomputable section
/-- an except suite raises nothing -/
def aft0 (r : Out) : Out := match r with
  | .ex _ _ => .bad
  | o => o
abbrev Hcl := Option Nat × String × (Xc → Sv)
def hand (sub : String → String → Option Bool) : List Hcl → Xc → Sv
  | [], x => fun m => .ex x m
  | (oi, c, s) :: r, x => fun m => match sub x.c c with
    | some true => (match oi with
      | none => aft0 (s x m)
      | some i => if (m.slot i).isNone = true ∧ i < m.σ.length then aft i (s x ⟨m.σ.set i none, m.S⟩) else .bad)
    | some false => hand sub r x m
    | none => .bad
def sTryG (sub : String → String → Option Bool) (body : Sv) (cs : List Hcl) (els : Sv) : Sv := fun m => match body m with
  | .ex x m1 => hand sub cs x m1
  | .nx m1 => els m1
  | o => o
/-! expressions over the exception -/
def xIs (sub : String → String → Option Bool) (T : String) : Xc → Ev := fun x m => match sub x.c T with
  | some b => .ok (.v (.bl b)) m
  | none => .bad
def xF (c f : String) : Xc → Ev := fun x m => if x.c = c then (match x.fs.lookup f with | some d => .ok (.v d) m | none => .bad) else .bad
def xAnd (a b : Xc → Ev) : Xc → Ev := fun x => eAnd (a x) (b x)
def xNot (a : Xc → Ev) : Xc → Ev := fun x => e1 gNot (a x)
def xOf (a : Ev) : Xc → Ev := fun _ => a
def xTup (l : List (Xc → Ev)) : Xc → Ev := fun x => eTup (l.foldr (fun a r => aCons (a x) r) aNil)
def xEq (a b : Xc → Ev) : Xc → Ev := fun x m => (a x m).bind fun u m1 => (b x m1).bind fun v m2 => match u, v with
  | .v (.int i), .v (.int j) => .ok (.v (.bl (decide (i = j)))) m2
  | _, _ => .bad
def xPut (j : Nat) (f : Xc → Ev) : Xc → Sv := fun x => sSet j (f x)
end
end Mi

set_option Elab.async false
set_option linter.all false
set_option maxRecDepth 100000
set_option maxHeartbeats 4000000
namespace PySem.W
open PySem PySem.Spec PySem.Calls PyProof.Rows
section
variable {prog : Program} {w : World} {A : Around} {E : Value → Shared → Prop} {s : Shared} {K : Frag} {x C : Addr} {ox : Obj} {od : Option Obj}
/-- `__class__` of an exception of an own class, whatever its fields -/
theorem soClassOf {Q : Option Value → Shared → Prop} (G : L2.ExcC K C) (X : K.In s.heap) (I : InstAt s.heap x ox C od) (h : Q (some (.ref C)) { s with toks := s.toks + 1 }) :
    wpAny (model prog w) A (getAttr? (.ref x) "__class__") Q E s := by
  have found : findObj K C od "__class__" = some (.bind (.builtin "getset_descriptor.__get__") (.builtin "object.__class__")) := by
    obtain ⟨cd, e, _⟩ := any_some G.hd
    unfold findObj
    rw [show clsIn K C = some cd from e, Option.bind_some, G.ha, Option.bind_some]
    simp [G.hn, G.ht]
  obtain ⟨hp, g, dr, n, os⟩ := s
  have T0 := I.type (M := model prog w)
  have T3 := looks_find (M := model prog w) X I found
  have base : Looks (model prog w) hp (isInstance (.ref x) (.type "BaseException")) true := T0.andThen (looks_subIn X G.hs)
  have c1 : (Value.builtin "BaseException.__getattribute__" == .builtin "object.__getattribute__") = false := by decide +kernel
  have c2 : (onTheHeap (Value.ref C) && Value.builtin "BaseException.__getattribute__" == Value.builtin "object.__getattribute__") = false :=
    (congrArg (onTheHeap (Value.ref C) && ·) c1).trans (Bool.and_false _)
  unfold getAttr? getAttrBy? getAttrBy
  refine wpAny_bind (wpAny_mkText (wpAny_bind (wpAny_attempt (wpAny_holding (wpAny_bind (T0.at (wpAny_bind ((looks_findIn X G.hg).at ?_))))))))
  refine (?_ : wpAny _ _ (if (onTheHeap (Value.ref C) && Value.builtin "BaseException.__getattribute__" == Value.builtin "object.__getattribute__") = true then _ else _) _ _ _)
  rw [c2, if_neg nofun]
  unfold getAttrByItsOwn hookBefore
  refine wpAny_bind ?_
  rw [if_pos (by rfl : onTheHeap (Value.ref C) = true)]
  refine (looks_findIn X G.hk).at (wpAny_bind (wpAny_attempt (wpAny_holding ?_)))
  unfold callGetattribute
  rw [show (false && onTheHeap (Value.builtin "BaseException.__getattribute__")) = false from rfl, if_neg nofun]
  unfold boundAndCalled
  rw [F.excAttr_ValueError.ga.bind (.ref x)]
  refine wpAny_bind (wpAny_pure ?_)
  refine (?_ : wpAny _ _ (call (.builtin "BaseException.__getattribute__") [.ref x, .str "__class__" n]) _ _ _)
  refine wpAny_call (codeAny_call_builtin F.excAttr_ValueError.ga.plain F.entry_bexc_ga ?_)
  refine check_slot (s := ⟨hp, g, dr, n + 1, os⟩) (i := "BaseException.__getattribute__") (owner := "BaseException") (n := "__getattribute__") (self := .ref x)
    (rest := [.str "__class__" n]) (kw := []) (by decide +kernel) (by decide +kernel) base (F.args_bexc_ga (.ref x) (.str "__class__" n)) ?_
  unfold Builtin.«object.__getattribute__»
  refine wpAny_bind (wpAny_of_eq (a := ((Value.ref x : Value), [Value.str "__class__" n])) (by first | rfl | (simp only [slotArgs]; rfl)) ?_)
  refine wpAny_bind (wpAny_pure (wpAny_bind (T0.at (wpAny_bind (T3.at ?_)))))
  refine (?_ : wpAny _ _ (holding [Value.builtin "object.__class__"] (call (.builtin "getset_descriptor.__get__") [.builtin "object.__class__", .ref x, .ref C]) >>= ret) _ _ _)
  refine wpAny_bind (wpAny_holding (wpAny_call (class_get (s := ⟨hp, g, dr, n + 1, os⟩) (ox := ox) (od := od) X I G.hm (wpAny_pure ?_))))
  refine (?_ : wpAny _ _ (handedOut (.ref C)) _ _ _)
  rw [handedOut_of (v := .ref C) rfl]
  first
    | exact wpAny_pure (wpAny_pure h)
    | exact wpAny_pure h
    | exact wpAny_pure (wpAny_bind (wpAny_pure (wpAny_pure h)))
theorem soKit (G : L2.ExcC K C) : KitX K (.ref x) (.ref C) fun h => InstAt h x ox C od := by
  obtain ⟨cd, hc, _⟩ := any_some G.hd
  unfold clsIn at hc
  split at hc
  · rename_i c' d' cd' sl' ho
    exact {
      ty := fun _ _ _ I => I.type
      it := fun _ _ X _ _ _ _ _ k q => by
        unfold isType loadHead
        exact wpAny_bind (wpAny_loadPart (k _ _ (X _ _ ho)) (wpAny_pure q))
      ne := fun h tp _ _ _ _ X e => by
        rw [Bool.eq_false_iff]
        intro q
        obtain rfl : C = tp := Value.ref.inj (beq_iff_eq.mp q)
        cases (X _ _ ho).symm.trans e
      ca := fun X I k => soClassOf G X I k }
  · cases hc
end
end PySem.W
namespace So
open PySem PySem.Spec PyProof.Rows L2
open Mi (D Cl FV SC Me Xc Res PV Ky Ev Tv Av Lv Iv Ov Sv Bd Out Tx RG Cal Tb Hcl)
section
variable {X : Cx} {ct : String → Option Addr} {a b e : Expr} {pos p : Pos} {es : List Expr} {x : Str} {i : Nat}
/-! ### expressions over the exception of a suite -/
def tX (K : PySem.W.Frag) (ct : String → Option Addr) (i : Nat) (f : Xc → Ev) (a : Addr) (cls : Value) (d : Option Addr) : TE := fun σ H Q => ∃ w m x, SR K ct w m H σ ∧ ExR K ct w m H x cls d ∧
  σ[i]? = some (some (.ref a)) ∧ RE K ct σ w m H (f x m) (fun y w' m' H' => ∀ v, PVR K ct w' m' H' σ y v → Q v H') (PxW K ct (fun _ _ _ _ => False) σ)
def DXe (X : Cx) (ct : String → Option Addr) (i : Nat) (e : Expr) (f : Xc → Ev) : Prop := ∀ (a : Addr) (oe : Obj) (cls : Value) (d : Option Addr) (pn : List (Addr × Obj)), Zc cls d oe → (∃ vs, oe.data = .fields vs) →
  PE (X.suite a ((a, oe) :: pn)) e (tX X.K ct i f a cls d)
theorem dxe_of {f : Ev} (h : ∀ a pn, DE (X.suite a pn) ct e f) : DXe X ct i e (Mi.xOf f) := fun a oe cls d pn _ _ =>
  PE.imp ((h a ((a, oe) :: pn)).run (fun _ _ _ _ => False) takes_none5) fun σ H Q ⟨w, m, x, S, _, _, r⟩ => ⟨w, m, S, r⟩
theorem RE.xpart {K : PySem.W.Frag} {β : Type} {f : Ev} {k : PV → Me → Res β} {P : β → Wd → Me → Hp → Prop} {w : Wd} {m : Me} {H : Hp} {σ : L2.St} {Q : VK} (h : RE K ct σ w m H ((f m).bind k) P (PxW K ct (fun _ _ _ _ => False) σ))
    (g : ∀ x w1 m1 H1 v, SR K ct w1 m1 H1 σ → Ext w m H w1 m1 H1 → PVR K ct w1 m1 H1 σ x v → RE K ct σ w1 m1 H1 (k x m1) P (PxW K ct (fun _ _ _ _ => False) σ) → Q v H1) :
    RE K ct σ w m H (f m) (fun y w' m' H' => ∀ v, PVR K ct w' m' H' σ y v → Q v H') (PxW K ct (fun _ _ _ _ => False) σ) :=
  h.bind.imp (fun x w1 m1 H1 S1 e1 h1 v pv => g x w1 m1 H1 v S1 e1 pv h1) fun _ _ _ _ _ _ z => z
theorem dxe_one {op : BoolOp} {f : Xc → Ev} (h : DXe X ct i a f) : DXe X ct i (.BoolOp op [a] pos) f := fun q oe cls d pn z1 z2 => pe_one (h q oe cls d pn z1 z2)
theorem dxe_and {rest : List Expr} {fa fb : Xc → Ev} (ha : DXe X ct i a fa) (hb : DXe X ct i (.BoolOp .And (b :: rest) pos) fb) : DXe X ct i (.BoolOp .And (a :: b :: rest) pos) (Mi.xAnd fa fb) := fun q oe cls d pn z1 z2 =>
  PE.imp (pe_and (ha q oe cls d pn z1 z2) (hb q oe cls d pn z1 z2)) fun σ H Q ⟨w, m, x, S, hx, hq, h⟩ => by
    refine ⟨w, m, x, S, hx, hq, RE.xpart h fun y w1 m1 H1 v S1 e1 pv h1 => ?_⟩
    split at h1
    · cases pv
      exact ⟨true, rfl, by rw [if_pos rfl]; exact ⟨w1, m1, x, S1, hx.ext e1, hq, h1⟩⟩
    · cases pv
      exact ⟨false, rfl, by rw [if_neg nofun]; exact RE.ok h1 S1 (Ext.refl ..) _ (.bl _)⟩
    · exact h1.elim
theorem dxe_not {fa : Xc → Ev} (ha : DXe X ct i a fa) : DXe X ct i (.UnaryOp .Not a pos) (Mi.xNot fa) := fun q oe cls d pn z1 z2 =>
  PE.imp (pe_not (ha q oe cls d pn z1 z2)) fun σ H Q ⟨w, m, x, S, hx, hq, h⟩ => by
    refine ⟨w, m, x, S, hx, hq, RE.xpart h fun y w1 m1 H1 v S1 e1 pv h1 => ?_⟩
    obtain ⟨dd, hd, h3⟩ := h1.opt
    unfold Mi.gNot at hd
    split at hd
    · cases pv
      cases hd
      exact ⟨_, rfl, RE.ok h3 S1 (Ext.refl ..) _ (.bl _)⟩
    · cases hd
/-- e.f -/
theorem dxe_fld {n fS : Str} {p2 p3 : Pos} (c f : String) {C : Addr} (T : Xp1 X.K X.mg ct c f C) (hi : ∀ a pn, PE (X.suite a pn) (.Name n p3) (tVar i)) (hx : nm f = fS := by rfl)
    (hb : attributeBase (.Name n p3) fS X.env (eval (.Name n p3) X.env) = eval (.Name n p3) X.env := by rfl) : DXe X ct i (.Attribute (.Name n p3) fS p2) (Mi.xF c f) := by
  subst hx
  intro a oe cls d pn hz hv
  refine PE.imp (pe_xf T.xf T.nf hz hv (hi a _) hb) fun σ H Q ⟨w, m, x, S, hx, ha, h⟩ => ⟨.ref a, ha, rfl, ?_⟩
  unfold Mi.xF at h
  split at h
  · rename_i hcc
    cases hl : x.fs.lookup f with
    | none => rw [hl] at h; exact h.elim
    | some dd =>
      rw [hl] at h
      obtain ⟨C', t1, t2, _, t3⟩ := hx
      rw [hcc, T.t] at t1
      cases t1
      have same : (x.fs.map fun p => (p.1, FV.v p.2)).lookup f = (x.fs.lookup f).map FV.v := by
        induction x.fs with
        | nil => rfl
        | cons p r ih => obtain ⟨k, u⟩ := p; rw [List.map_cons, lookup_s, lookup_s, ih]; split <;> rfl
      obtain ⟨da, vs, g1, g2, ⟨o, k1, k2⟩, g4⟩ := t3 (fun z => by rw [z] at hl; cases hl)
      have k3 : o = .xd vs := by
        unfold norm at k2
        split at k2 <;> first | exact k2 | cases k2
      subst k3
      rcases g4.look f with ⟨_, z⟩ | ⟨d2, v, y1, y2, y3⟩
      · rw [same, hl] at z; cases z
      · rw [same, hl] at y2
        cases y2
        exact ⟨t2, da, vs, v, g1, k1, y1, RE.ok h S (Ext.refl ..) _ y3⟩
  · exact h.elim
/-- what the top tells of isinstance(e, T) -/
structure EIs (K : PySem.W.Frag) (ct : String → Option Addr) (sub : String → String → Option Bool) (T : String) (cv : Value) : Prop where
  own : ∀ c b, sub c T = some b → ∃ C, ct c = some C ∧ ExcC K C ∧ PySem.W.kitOne K (.ref C) cv = some b
theorem call_isX {a D : Addr} {oe : Obj} {pn : List (Addr × Obj)} {d : Option Addr} {x : Xc} (C : ExcC X.K D) (hz : Zc (.ref D) d oe) (hf : ∃ vs, oe.data = .fields vs) :
    CallR (X.suite a ((a, oe) :: pn)) (.builtin "isinstance") fun xs H Q => (d = none ∨ ∃ dd vs, d = some dd ∧ H dd = some (.xd vs)) ∧ ∃ c cv b, xs = [.ref a, c] ∧ (∀ u, RelV c u → u = cv) ∧ PySem.W.kitOne X.K (.ref D) cv = some b ∧ Q (.bl b) H := by
  intro pins s σ H xs us Q I r ⟨hd, c, cv, b, ex, hcv, e, q⟩
  subst ex
  cases r with
  | cons rx rr =>
    cases rr with
    | cons rt rr =>
      cases rr
      cases rx
      obtain rfl := hcv _ rt
      obtain ⟨hget, _⟩ := I.pin (a, oe) (List.mem_append_left _ (.head _))
      have no : PySem.W.notCls oe = true := by
        obtain ⟨vs, hv⟩ := hf
        unfold PySem.W.notCls
        rw [hv] <;> rfl
      have at_ : ∃ od, PySem.W.InstAt s.heap a oe D od := by
        rcases hd with rfl | ⟨dd, vs, rfl, hh⟩
        · exact ⟨none, hget, hz.1, no, by rw [hz.2]; trivial⟩
        · have hx : ObjOk X.prog X.w H s.heap dd (.xd vs) := I.hok dd _ hh
          obtain ⟨mA, hns, hr⟩ := hx
          obtain ⟨od, ho, _⟩ := lookIn_ns hns
          exact ⟨some od, hget, hz.1, no, by rw [hz.2]; exact ho⟩
      obtain ⟨od, J⟩ := at_
      exact PySem.W.kia_one (PySem.W.soKit C) I.kIn J e nofun fun tk => ⟨.bl b, H, I.kept (t' := tk) (fun _ _ z => z), rfl, q⟩
theorem dxe_is {sub : String → String → Option Bool} {T : String} {cv : Value} {n tn : Str} {p2 p3 : Pos} {cV : V} (G : EIs X.K ct sub T cv) (hg : Gl X "isinstance") (hm : X.mg "isinstance" = none) (hcv : ∀ u, RelV cV u → u = cv)
    (hi : ∀ a pn, PE (X.suite a pn) (.Name n p3) (tVar i)) (ht : ∀ a pn, PE (X.suite a pn) (.Name tn p2) (tC cV))
    (he : starEach [.Name n p3, .Name tn p2] X.env = (false, eval (.Name n p3) X.env) :: starEach [.Name tn p2] X.env := by rfl) (he2 : starEach [.Name tn p2] X.env = (false, eval (.Name tn p2) X.env) :: starEach [] X.env := by rfl)
    (hpl : (backTo pos (starEach [.Name tn p2] X.env)).any (·.1) = false := by rfl) : DXe X ct i (.Call (.Name "isinstance" p) [.Name n p3, .Name tn p2] [] pos) (Mi.xIs sub T) := by
  intro a oe cls d pn hz hv
  refine ⟨fun pins s σ H Q I ⟨w, m, x, S, hx, ha, h⟩ => ?_⟩
  unfold Mi.xIs at h
  split at h
  · rename_i bb hb
    obtain ⟨C', t1, t2, t0, t3⟩ := hx
    obtain ⟨C, g1, g2, g3⟩ := G.own _ _ hb
    rw [t1] at g1
    cases g1
    subst t2
    have P := pe_callB (X := X.suite a ((a, oe) :: pn)) (call_isX (x := x) g2 hz hv) hg hm (by rfl) (pa_cons (hi a _) (pa_cons (ht a _) pa_nil (by exact he2)) (by exact he)) (by decide) (by decide) (by exact he) (by exact hpl) (p := p)
    refine P.run pins s σ H Q I ⟨.ref a, ha, ?_, _, cv, bb, rfl, hcv, g3, RE.ok h S (Ext.refl ..) _ (.bl _)⟩
    by_cases hn : x.fs = []
    · exact .inl (t0 hn)
    · obtain ⟨da, vs, k1, k2, ⟨o, k3, k4⟩, _⟩ := t3 hn
      have : o = .xd vs := by
        unfold norm at k4
        split at k4 <;> first | exact k4 | cases k4
      exact .inr ⟨da, vs, k1, by rw [k3, this]⟩
  · exact h.elim
/-- y = an expression over e -/
theorem dx_put {j : Nat} {y : Str} {p1 : Pos} {f : Xc → Ev} (hN : X.N.Nodup) (hj : X.N[j]? = some y) (hy : Loc X.env.scope y) (he : DXe X ct i e f) (hs : swapsWith e (some (.Name y p1)) pos.line X.env = pure false := by rfl)
    (hf : X.fn y = true ∨ X.env.scope.names.lookup y = some .local := by first | exact .inl rfl | exact .inr rfl) : DXs X ct i [.Assign [.Name y p1] e pos] (Mi.xPut j f) :=
  ⟨fun a oe cls d pn hz hv => PSs.imp (pss_one (ps_set (X := X.suite a ((a, oe) :: pn)) hN hj hy (he a oe cls d pn hz hv) hs hf)) fun D σ H ⟨w, m, x, S, hx, ha, h⟩ => by
    refine ⟨w, m, x, S, hx, ha, ?_⟩
    replace h : RO X.K ct (fun _ _ _ _ => False) w m H ((f x m).so fun y m1 => match y with
      | .v dd => if j < m1.σ.length then .nx ⟨m1.σ.set j (some (.v dd)), m1.S⟩ else .bad
      | _ => .bad) D := h
    cases q : f x m with
    | bad => rw [q] at h; exact h.elim
    | ex xc m1 => rw [q] at h; exact fun w1 H1 S1 e1 cls dx => h w1 H1 σ cls dx S1 e1
    | ok y m1 =>
      rw [q] at h
      intro w1 H1 S1 e1 v pv
      have h := RO.ext e1 h
      rw [Mi.Res.so_ok] at h
      split at h
      · split at h
        · obtain ⟨S2, e2⟩ := SR.setV (σm := m1.σ) (S := m1.S) S1 (i := j) pv
          exact h _ _ _ S2 e2
        · exact h.elim
      · exact h.elim⟩
/-! ### try -/
inductive DH (X : Cx) (ct : String → Option Addr) (sub : String → String → Option Bool) : List ExceptHandler → List Hcl → Prop
  | nil : DH X ct sub [] []
  | bare {x : Str} {b : Stmt} {bs : List Stmt} {np q : Pos} {hs : List ExceptHandler} {l : List Hcl} {f : Sv} (c : String) {C : Addr} (hg : Gl X x) (hm : X.mg x = some (.ref C))
      (hsub : ∀ c' r, sub c' c = some r → ∃ C', ct c' = some C' ∧ PySem.W.exmOne X.K (.ref C') (.ref C) = some r) (hsu : ∀ a pn, DSs (X.suite a pn) ct (b :: bs) f) (r : DH X ct sub hs l)
      (hdb : (x == ("__debug__" : Str)) = false := by decide) : DH X ct sub (.ExceptHandler (some (.Name x np)) none (b :: bs) q :: hs) ((none, c, fun _ => f) :: l)
  | named {x n : Str} {b : Stmt} {bs : List Stmt} {np q : Pos} {hs : List ExceptHandler} {l : List Hcl} {f : Xc → Sv} (i : Nat) (c : String) {C : Addr} (hg : Gl X x) (hm : X.mg x = some (.ref C))
      (hsub : ∀ c' r, sub c' c = some r → ∃ C', ct c' = some C' ∧ PySem.W.exmOne X.K (.ref C') (.ref C) = some r) (hi : X.N[i]? = some n) (hk : X.env.kindOf n = some .local)
      (hsu : DXs X ct i (b :: bs) f) (r : DH X ct sub hs l)
      (hdb : (x == ("__debug__" : Str)) = false := by decide) : DH X ct sub (.ExceptHandler (some (.Name x np)) (some n) (b :: bs) q :: hs) ((some i, c, f) :: l)
theorem RO.aft0 {K : PySem.W.Frag} {W V : WX} {w : Wd} {m : Me} {H : Hp} {r : Out} {D : Ends} (h : RO K ct W w m H (Mi.aft0 r) D) : RO K ct V w m H r D := by
  cases r with
  | ex xc m1 => exact h.elim
  | nx m1 => exact h
  | bk m1 => exact h
  | ct m1 => exact h
  | rt d m1 => exact h
  | bad => exact h
theorem DH.hdl {sub : String → String → Option Bool} {hs : List ExceptHandler} {l : List Hcl} (h : DH X ct sub hs l) : ∃ t, Hdl X hs t ∧ ∀ W D σ H w m x cls d, SR X.K ct w m H σ → ExR X.K ct w m H x cls d →
    RO X.K ct W w m H (Mi.hand sub l x m) D → wGo X.K W D t cls d σ H := by
  induction h with
  | nil => exact ⟨[], .nil, fun W D σ H w m x cls d S hx h => h w H σ cls d S (Ext.refl ..) hx⟩
  | @bare x b bs np q hs l f c C hg hm hsub su r hdb ih =>
    obtain ⟨t, h1, h2⟩ := ih
    refine ⟨_, .bare (ts := fun _ _ _ => tS X.K ct (fun _ _ _ _ => False) f) ⟨hg, hdb, .inl hm⟩ (fun a oe cls d pn _ _ => (su a _).run _ takes_none5) h1, fun W D σ H w m x cls d S hx h => ?_⟩
    obtain ⟨C', t1, t2, _⟩ := id hx
    unfold Mi.hand at h
    split at h
    · rename_i hq
      obtain ⟨C2, g1, g2⟩ := hsub _ _ hq
      rw [t1] at g1; cases g1
      subst t2
      exact ⟨true, g2, fun _ a _ => ⟨w, m, S, RO.aft0 h⟩, nofun⟩
    · rename_i hq
      obtain ⟨C2, g1, g2⟩ := hsub _ _ hq
      rw [t1] at g1; cases g1
      subst t2
      exact ⟨false, g2, nofun, fun _ => h2 _ _ _ _ _ _ _ _ _ S hx h⟩
    · exact h.elim
  | @named x n b bs np q hs l f i c C hg hm hsub hi hk su r hdb ih =>
    obtain ⟨t, h1, h2⟩ := ih
    refine ⟨_, .named ⟨hg, hdb, .inl hm⟩ (fun a oe cls d pn z1 z2 => su.run a oe cls d pn z1 z2) hi hk h1, fun W D σ H w m x cls d S hx h => ?_⟩
    obtain ⟨C', t1, t2, _⟩ := id hx
    unfold Mi.hand at h
    split at h
    · rename_i hq
      obtain ⟨C2, g1, g2⟩ := hsub _ _ hq
      rw [t1] at g1; cases g1
      subst t2
      refine ⟨true, g2, fun _ a ha => ?_, nofun⟩
      dsimp only at h
      split at h
      · rename_i hil
        obtain ⟨S2, e2⟩ := SR.setN (σm := m.σ) (S := m.S) S i (some (.ref a))
        refine ⟨w, _, x, S2, hx.ext e2, ?_, (RO.ext e2 h).aft⟩
        show (σ.set i _)[i]? = _
        rw [List.getElem?_set_self (by rw [← S.E.len]; exact hil.2)]
      · exact h.elim
    · rename_i hq
      obtain ⟨C2, g1, g2⟩ := hsub _ _ hq
      rw [t1] at g1; cases g1
      subst t2
      exact ⟨false, g2, nofun, fun _ => h2 _ _ _ _ _ _ _ _ _ S hx h⟩
    · exact h.elim
theorem ds_tryG {sub : String → String → Option Bool} {body orelse : List Stmt} {h₀ : ExceptHandler} {hs : List ExceptHandler} {l : List Hcl} {fb fe : Sv} (hst : X.stack = X.env :: X.outer) (hf : X.env.frame = some X.env.locals) (hN : X.N.Nodup)
    (hh : DH X ct sub (h₀ :: hs) l) (hb : ∀ pn xe, DSs (X.tr pn xe) ct body fb) (he : DSs X ct orelse fe) : DS X ct (.Try body (h₀ :: hs) orelse [] pos) (Mi.sTryG sub fb l fe) := by
  obtain ⟨t, h1, h2⟩ := hh.hdl
  refine ⟨fun W tk => PS.imp (ps_tryG (tb := fun V => tS X.K ct V fb) (he.run W tk) hst hf hN tk h1 fun V pn xe tk' _ => (hb pn xe).run V tk') fun D σ H ⟨w, m, S, h⟩ => ?_⟩
  refine ⟨w, m, S, ?_⟩
  unfold Mi.sTryG at h
  cases q : fb m with
  | nx m1 => rw [q] at h; exact fun w' H' σ' S' e' => ⟨w', m1, S', RO.ext e' h⟩
  | rt d m1 => rw [q] at h; exact h
  | bk m1 => rw [q] at h; exact h
  | ct m1 => rw [q] at h; exact h
  | bad => rw [q] at h; exact h
  | ex xc m1 =>
    rw [q] at h
    intro w1 H1 σ1 cls dx S1 e1 hx
    exact h2 W D σ1 H1 w1 m1 xc cls dx S1 hx (RO.ext e1 h)
end
end So

set_option linter.all false
set_option maxRecDepth 100000
namespace Pg
open Mi (D Cl FV SC Me Xc Res PV Ky Ev Tv Av Lv Iv Ov Sv Bd Out Tx RG Cal Tb)

def mtL : List (String × String × String) := [("Question", "holds", "Question.holds"), ("Every", "holds", "Every.holds"), ("Nobody", "holds", "Question.holds"), ("Within", "holds", "Within.holds"), ("Opposite", "holds", "Opposite.holds"), ("Chain", "holds", "Question.holds"), ("AllOf", "holds", "AllOf.holds"), ("OneOf", "holds", "OneOf.holds"), ("Reader", "word_here", "Reader.word_here"), ("Reader", "place_here", "Reader.place_here"), ("Reader", "past", "Reader.past"), ("Reader", "whole_number", "Reader.whole_number"), ("Reader", "question", "Reader.question"), ("Reader", "chain", "Reader.chain"), ("Reader", "piece", "Reader.piece"), ("Reader", "inner", "Reader.inner"), ("Reader", "range_of", "Reader.range_of")]
def inL : List (String × String) := [("Every", ""), ("Nobody", ""), ("Within", "Within.__init__"), ("Opposite", "Opposite.__init__"), ("AllOf", "Chain.__init__"), ("OneOf", "Chain.__init__"), ("Reader", "Reader.__init__")]
def flL : List (String × String) := [("Within", "name"), ("Within", "low"), ("Within", "high"), ("Opposite", "one"), ("Chain", "parts"), ("AllOf", "parts"), ("OneOf", "parts"), ("Reader", "words"), ("Reader", "finish"), ("Reader", "at")]
def T : Tb := Mi.tbOf mtL inL flL
def subL : List (String × String × Bool) := [("Every", "Question", true), ("Nobody", "Question", true), ("Within", "Question", true), ("Opposite", "Question", true), ("AllOf", "Question", true), ("OneOf", "Question", true), ("Reader", "Question", false)]
def subXL : List (String × String × Bool) := [("BadText", "MarksError", true), ("BadText", "BadText", true), ("BadText", "ValueError", true), ("BadText", "NoNumber", false)]
def sub := Mi.subOf subL
def subX := Mi.subOf subXL
def TY : List String := []
def fns : List String := ["is_name", "figures_of", "words_of", "read_question", "_law_cell_at", "_law_whole", "_law_mixed", "_law_name_of", "_law_names", "_law_value", "_law_leaf", "_law_built", "_law_wrapped", "_law_words", "_law_spaced", "_law_split", "_law_is_name", "_law_are_figures", "_law_begun", "_law_ended", "_law_next", "_law_fault", "_law_odd_word", "_law_spoilt", "_law_cut", "_law_refused", "law"]
noncomputable def b_Question_holds (C : Cal) : Sv :=
  (Mi.sRet (Mi.eC (.bl false)))
noncomputable def b_Every_holds (C : Cal) : Sv :=
  (Mi.sRet (Mi.eC (.bl true)))
noncomputable def b_Within___init__ (C : Cal) : Sv :=
  (Mi.sSeq (Mi.sFld T "name" (Mi.eVar 0) (Mi.eVar 1))
  (Mi.sSeq (Mi.sFld T "low" (Mi.eVar 0) (Mi.eVar 2))
  (Mi.sFld T "high" (Mi.eVar 0) (Mi.eVar 3))))
noncomputable def b_Within_holds (C : Cal) : Sv :=
  (Mi.sRet (Mi.eChain (fun i j => decide (i ≤ j)) (fun i j => decide (i ≤ j)) (Mi.eFld T "low" (Mi.eVar 0)) (Mi.e2 Mi.gIxU (Mi.eVar 1) (Mi.eFld T "name" (Mi.eVar 0))) (Mi.eFld T "high" (Mi.eVar 0))))
noncomputable def b_Opposite___init__ (C : Cal) : Sv :=
  (Mi.sFld T "one" (Mi.eVar 0) (Mi.eVar 1))
noncomputable def b_Opposite_holds (C : Cal) : Sv :=
  (Mi.sRet (Mi.e1 Mi.gNot (Mi.eMeth C T "holds" (Mi.eFld T "one" (Mi.eVar 0)) (Mi.aCons (Mi.eVar 1) Mi.aNil))))
noncomputable def b_Chain___init__ (C : Cal) : Sv :=
  (Mi.sFld T "parts" (Mi.eVar 0) (Mi.eL (Mi.lA Mi.aOf (Mi.aCons (Mi.eVar 1) Mi.aNil))))
noncomputable def b_AllOf_holds (C : Cal) : Sv :=
  (Mi.sRet (Mi.eA Mi.aAll (Mi.aCons (Mi.eL (Mi.lComp [2] (.n 2) (Mi.iAny (Mi.eFld T "parts" (Mi.eVar 0))) Mi.tYes (Mi.eMeth C T "holds" (Mi.eVar 2) (Mi.aCons (Mi.eVar 1) Mi.aNil)))) Mi.aNil)))
noncomputable def b_OneOf_holds (C : Cal) : Sv :=
  (Mi.sRet (Mi.eA Mi.aAny (Mi.aCons (Mi.eL (Mi.lComp [2] (.n 2) (Mi.iAny (Mi.eFld T "parts" (Mi.eVar 0))) Mi.tYes (Mi.eMeth C T "holds" (Mi.eVar 2) (Mi.aCons (Mi.eVar 1) Mi.aNil)))) Mi.aNil)))
noncomputable def lp_is_name_1 (C : Cal) : Sv :=
  (Mi.sIf (Mi.tV (Mi.e2 Mi.gNotInV (Mi.eVar 1) (Mi.eC (.str [97, 98, 99, 100, 101, 102, 103, 104, 105, 106, 107, 108, 109, 110, 111, 112, 113, 114, 115, 116, 117, 118, 119, 120, 121, 122]))))
    (Mi.sRet (Mi.eC (.bl false)))
    Mi.sNil)
noncomputable def b_is_name (C : Cal) : Sv :=
  (Mi.sSeq (Mi.sIf (Mi.tOr (Mi.tV (Mi.e2 Mi.gEqU (Mi.eVar 0) (Mi.eC (.str [])))) (Mi.tV (Mi.e2 (Mi.gCmp fun i j => decide (j < i)) (Mi.eA Mi.aLen (Mi.aCons (Mi.eVar 0) Mi.aNil)) (Mi.eC (.int 8)))))
    (Mi.sRet (Mi.eC (.bl false)))
    Mi.sNil)
  (Mi.sSeq (Mi.sFor (.n 1) (Mi.iAny (Mi.eVar 0)) (lp_is_name_1 C))
  (Mi.sRet (Mi.e2 Mi.gNotInV (Mi.eVar 0) (Mi.eL (Mi.lDisp (Mi.aCons (Mi.eC (.str [97, 110, 100])) (Mi.aCons (Mi.eC (.str [111, 114])) (Mi.aCons (Mi.eC (.str [110, 111, 116])) (Mi.aCons (Mi.eC (.str [97, 108, 108])) (Mi.aCons (Mi.eC (.str [110, 111, 110, 101])) (Mi.aCons (Mi.eC (.str [105, 115])) (Mi.aCons (Mi.eC (.str [102, 114, 111, 109])) (Mi.aCons (Mi.eC (.str [116, 111])) Mi.aNil))))))))))))))
noncomputable def lp_figures_of_1 (C : Cal) : Sv :=
  (Mi.sIf (Mi.tV (Mi.e2 Mi.gNotInV (Mi.eVar 1) (Mi.eC (.str [48, 49, 50, 51, 52, 53, 54, 55, 56, 57]))))
    (Mi.sRet (Mi.eC .non))
    Mi.sNil)
noncomputable def b_figures_of (C : Cal) : Sv :=
  (Mi.sSeq (Mi.sIf (Mi.tOr (Mi.tV (Mi.e2 Mi.gEqU (Mi.eVar 0) (Mi.eC (.str [])))) (Mi.tV (Mi.e2 (Mi.gCmp fun i j => decide (j < i)) (Mi.eA Mi.aLen (Mi.aCons (Mi.eVar 0) Mi.aNil)) (Mi.eC (.int 12)))))
    (Mi.sRet (Mi.eC .non))
    Mi.sNil)
  (Mi.sSeq (Mi.sFor (.n 1) (Mi.iAny (Mi.eVar 0)) (lp_figures_of_1 C))
  (Mi.sSeq (Mi.sIf (Mi.tAnd (Mi.tV (Mi.e2 Mi.gEqU (Mi.e2 Mi.gIxU (Mi.eVar 0) (Mi.eC (.int 0))) (Mi.eC (.str [48])))) (Mi.tV (Mi.e2 Mi.gNeU (Mi.eVar 0) (Mi.eC (.str [48])))))
    (Mi.sRet (Mi.eC .non))
    Mi.sNil)
  (Mi.sRet (Mi.eA Mi.aInt2 (Mi.aCons (Mi.eVar 0) Mi.aNil))))))
noncomputable def lp_words_of_1 (C : Cal) : Sv :=
  (Mi.sIf (Mi.tV (Mi.e2 Mi.gInV (Mi.eVar 4) (Mi.eC (.str [32, 40, 41]))))
    (Mi.sSeq (Mi.sIf (Mi.tV (Mi.e2 Mi.gNeU (Mi.eVar 2) (Mi.eC (.str []))))
    (Mi.sSeq (Mi.sEx (Mi.eMut Mi.mApp (Mi.eVar 1) (Mi.aCons (Mi.eTup (Mi.aCons (Mi.e2 Mi.gSub (Mi.eVar 3) (Mi.eA Mi.aLen (Mi.aCons (Mi.eVar 2) Mi.aNil))) (Mi.aCons (Mi.eVar 2) Mi.aNil))) Mi.aNil)))
  (Mi.sSet 2 (Mi.eC (.str []))))
    Mi.sNil)
  (Mi.sIf (Mi.tV (Mi.e2 Mi.gNeU (Mi.eVar 4) (Mi.eC (.str [32]))))
    (Mi.sEx (Mi.eMut Mi.mApp (Mi.eVar 1) (Mi.aCons (Mi.eTup (Mi.aCons (Mi.eVar 3) (Mi.aCons (Mi.eVar 4) Mi.aNil))) Mi.aNil)))
    Mi.sNil))
    (Mi.sSet 2 (Mi.e2 Mi.gAddU (Mi.eVar 2) (Mi.eVar 4))))
noncomputable def b_words_of (C : Cal) : Sv :=
  (Mi.sSeq (Mi.sOwn 1 (Mi.lDisp Mi.aNil))
  (Mi.sSeq (Mi.sSet 2 (Mi.eC (.str [])))
  (Mi.sSeq (Mi.sFor (.t [3, 4]) (Mi.iEnumU (Mi.e2 Mi.gAddU (Mi.eVar 0) (Mi.eC (.str [32])))) (lp_words_of_1 C))
  (Mi.sRet (Mi.eFrz 1)))))
noncomputable def b_Reader___init__ (C : Cal) : Sv :=
  (Mi.sSeq (Mi.sFld T "words" (Mi.eVar 0) (Mi.eCall C "words_of" (Mi.aCons (Mi.eVar 1) Mi.aNil)))
  (Mi.sSeq (Mi.sFld T "finish" (Mi.eVar 0) (Mi.eA Mi.aLen (Mi.aCons (Mi.eVar 1) Mi.aNil)))
  (Mi.sFld T "at" (Mi.eVar 0) (Mi.eC (.int 0)))))
noncomputable def b_Reader_word_here (C : Cal) : Sv :=
  (Mi.sSeq (Mi.sIf (Mi.tV (Mi.e2 (Mi.gCmp fun i j => decide (i < j)) (Mi.eFld T "at" (Mi.eVar 0)) (Mi.eA Mi.aLen (Mi.aCons (Mi.eFld T "words" (Mi.eVar 0)) Mi.aNil))))
    (Mi.sRet (Mi.e2 Mi.gIxU (Mi.e2 Mi.gIxU (Mi.eFld T "words" (Mi.eVar 0)) (Mi.eFld T "at" (Mi.eVar 0))) (Mi.eC (.int 1))))
    Mi.sNil)
  (Mi.sRet (Mi.eC (.str []))))
noncomputable def b_Reader_place_here (C : Cal) : Sv :=
  (Mi.sSeq (Mi.sIf (Mi.tV (Mi.e2 (Mi.gCmp fun i j => decide (i < j)) (Mi.eFld T "at" (Mi.eVar 0)) (Mi.eA Mi.aLen (Mi.aCons (Mi.eFld T "words" (Mi.eVar 0)) Mi.aNil))))
    (Mi.sRet (Mi.e2 Mi.gIxU (Mi.e2 Mi.gIxU (Mi.eFld T "words" (Mi.eVar 0)) (Mi.eFld T "at" (Mi.eVar 0))) (Mi.eC (.int 0))))
    Mi.sNil)
  (Mi.sRet (Mi.eFld T "finish" (Mi.eVar 0))))
noncomputable def b_Reader_past (C : Cal) : Sv :=
  (Mi.sSeq (Mi.sIf (Mi.tV (Mi.e2 Mi.gNeU (Mi.eMeth C T "word_here" (Mi.eVar 0) Mi.aNil) (Mi.eVar 1)))
    (Mi.sRaiseF "BadText" "place" (Mi.eMeth C T "place_here" (Mi.eVar 0) Mi.aNil))
    Mi.sNil)
  (Mi.sFld T "at" (Mi.eVar 0) (Mi.e2 Mi.gAddU (Mi.eFld T "at" (Mi.eVar 0)) (Mi.eC (.int 1)))))
noncomputable def b_Reader_whole_number (C : Cal) : Sv :=
  (Mi.sSeq (Mi.sSet 1 (Mi.eCall C "figures_of" (Mi.aCons (Mi.eMeth C T "word_here" (Mi.eVar 0) Mi.aNil) Mi.aNil)))
  (Mi.sSeq (Mi.sIf (Mi.tV (Mi.e2 Mi.gIsN (Mi.eVar 1) (Mi.eC .non)))
    (Mi.sRaiseF "BadText" "place" (Mi.eMeth C T "place_here" (Mi.eVar 0) Mi.aNil))
    Mi.sNil)
  (Mi.sSeq (Mi.sFld T "at" (Mi.eVar 0) (Mi.e2 Mi.gAddU (Mi.eFld T "at" (Mi.eVar 0)) (Mi.eC (.int 1))))
  (Mi.sRet (Mi.eVar 1)))))
noncomputable def lp_Reader_question_1 (C : Cal) : Sv :=
  (Mi.sSeq (Mi.sEx (Mi.eMeth C T "past" (Mi.eVar 0) (Mi.aCons (Mi.eC (.str [111, 114])) Mi.aNil)))
  (Mi.sEx (Mi.eMut Mi.mApp (Mi.eVar 2) (Mi.aCons (Mi.eMeth C T "chain" (Mi.eVar 0) (Mi.aCons (Mi.eVar 1) Mi.aNil)) Mi.aNil))))
noncomputable def b_Reader_question (C : Cal) : Sv :=
  (Mi.sSeq (Mi.sOwn 2 (Mi.lDisp (Mi.aCons (Mi.eMeth C T "chain" (Mi.eVar 0) (Mi.aCons (Mi.eVar 1) Mi.aNil)) Mi.aNil)))
  (Mi.sSeq (Mi.sWhile (Mi.tV (Mi.e2 Mi.gEqU (Mi.eMeth C T "word_here" (Mi.eVar 0) Mi.aNil) (Mi.eC (.str [111, 114])))) (lp_Reader_question_1 C))
  (Mi.sSeq (Mi.sIf (Mi.tV (Mi.e2 Mi.gEqU (Mi.eA Mi.aLen (Mi.aCons (Mi.eVar 2) Mi.aNil)) (Mi.eC (.int 1))))
    (Mi.sRet (Mi.e2 Mi.gIxU (Mi.eVar 2) (Mi.eC (.int 0))))
    Mi.sNil)
  (Mi.sRet (Mi.eMakeF C T "OneOf" (Mi.aCons (Mi.eFrz 2) Mi.aNil))))))
noncomputable def lp_Reader_chain_1 (C : Cal) : Sv :=
  (Mi.sSeq (Mi.sEx (Mi.eMeth C T "past" (Mi.eVar 0) (Mi.aCons (Mi.eC (.str [97, 110, 100])) Mi.aNil)))
  (Mi.sEx (Mi.eMut Mi.mApp (Mi.eVar 2) (Mi.aCons (Mi.eMeth C T "piece" (Mi.eVar 0) (Mi.aCons (Mi.eVar 1) Mi.aNil)) Mi.aNil))))
noncomputable def b_Reader_chain (C : Cal) : Sv :=
  (Mi.sSeq (Mi.sOwn 2 (Mi.lDisp (Mi.aCons (Mi.eMeth C T "piece" (Mi.eVar 0) (Mi.aCons (Mi.eVar 1) Mi.aNil)) Mi.aNil)))
  (Mi.sSeq (Mi.sWhile (Mi.tV (Mi.e2 Mi.gEqU (Mi.eMeth C T "word_here" (Mi.eVar 0) Mi.aNil) (Mi.eC (.str [97, 110, 100])))) (lp_Reader_chain_1 C))
  (Mi.sSeq (Mi.sIf (Mi.tV (Mi.e2 Mi.gEqU (Mi.eA Mi.aLen (Mi.aCons (Mi.eVar 2) Mi.aNil)) (Mi.eC (.int 1))))
    (Mi.sRet (Mi.e2 Mi.gIxU (Mi.eVar 2) (Mi.eC (.int 0))))
    Mi.sNil)
  (Mi.sRet (Mi.eMakeF C T "AllOf" (Mi.aCons (Mi.eFrz 2) Mi.aNil))))))
noncomputable def b_Reader_piece (C : Cal) : Sv :=
  (Mi.sSeq (Mi.sSet 2 (Mi.eMeth C T "word_here" (Mi.eVar 0) Mi.aNil))
  (Mi.sSeq (Mi.sIf (Mi.tOr (Mi.tV (Mi.e2 Mi.gEqU (Mi.eVar 2) (Mi.eC (.str [110, 111, 116])))) (Mi.tV (Mi.e2 Mi.gEqU (Mi.eVar 2) (Mi.eC (.str [40])))))
    (Mi.sRet (Mi.eMeth C T "inner" (Mi.eVar 0) (Mi.aCons (Mi.eVar 2) (Mi.aCons (Mi.eVar 1) Mi.aNil))))
    Mi.sNil)
  (Mi.sSeq (Mi.sIf (Mi.tV (Mi.e2 Mi.gEqU (Mi.eVar 2) (Mi.eC (.str [97, 108, 108]))))
    (Mi.sSeq (Mi.sEx (Mi.eMeth C T "past" (Mi.eVar 0) (Mi.aCons (Mi.eC (.str [97, 108, 108])) Mi.aNil)))
  (Mi.sRet (Mi.eMake0 T "Every")))
    Mi.sNil)
  (Mi.sSeq (Mi.sIf (Mi.tV (Mi.e2 Mi.gEqU (Mi.eVar 2) (Mi.eC (.str [110, 111, 110, 101]))))
    (Mi.sSeq (Mi.sEx (Mi.eMeth C T "past" (Mi.eVar 0) (Mi.aCons (Mi.eC (.str [110, 111, 110, 101])) Mi.aNil)))
  (Mi.sRet (Mi.eMake0 T "Nobody")))
    Mi.sNil)
  (Mi.sSeq (Mi.sIf (Mi.tNot (Mi.tTru (Mi.eCall C "is_name" (Mi.aCons (Mi.eVar 2) Mi.aNil))))
    (Mi.sRaiseF "BadText" "place" (Mi.eMeth C T "place_here" (Mi.eVar 0) Mi.aNil))
    Mi.sNil)
  (Mi.sSeq (Mi.sEx (Mi.eMeth C T "past" (Mi.eVar 0) (Mi.aCons (Mi.eVar 2) Mi.aNil)))
  (Mi.sRet (Mi.eMeth C T "range_of" (Mi.eVar 0) (Mi.aCons (Mi.eVar 2) Mi.aNil)))))))))
noncomputable def b_Reader_inner (C : Cal) : Sv :=
  (Mi.sSeq (Mi.sIf (Mi.tV (Mi.e2 Mi.gEqU (Mi.eVar 2) (Mi.eC (.int 20))))
    (Mi.sRaiseF "BadText" "place" (Mi.eMeth C T "place_here" (Mi.eVar 0) Mi.aNil))
    Mi.sNil)
  (Mi.sSeq (Mi.sEx (Mi.eMeth C T "past" (Mi.eVar 0) (Mi.aCons (Mi.eVar 1) Mi.aNil)))
  (Mi.sSeq (Mi.sIf (Mi.tV (Mi.e2 Mi.gEqU (Mi.eVar 1) (Mi.eC (.str [110, 111, 116]))))
    (Mi.sRet (Mi.eMakeF C T "Opposite" (Mi.aCons (Mi.eMeth C T "piece" (Mi.eVar 0) (Mi.aCons (Mi.e2 Mi.gAddU (Mi.eVar 2) (Mi.eC (.int 1))) Mi.aNil)) Mi.aNil)))
    Mi.sNil)
  (Mi.sSeq (Mi.sSet 3 (Mi.eMeth C T "question" (Mi.eVar 0) (Mi.aCons (Mi.e2 Mi.gAddU (Mi.eVar 2) (Mi.eC (.int 1))) Mi.aNil)))
  (Mi.sSeq (Mi.sEx (Mi.eMeth C T "past" (Mi.eVar 0) (Mi.aCons (Mi.eC (.str [41])) Mi.aNil)))
  (Mi.sRet (Mi.eVar 3)))))))
noncomputable def b_Reader_range_of (C : Cal) : Sv :=
  (Mi.sSeq (Mi.sIf (Mi.tV (Mi.e2 Mi.gEqU (Mi.eMeth C T "word_here" (Mi.eVar 0) Mi.aNil) (Mi.eC (.str [105, 115]))))
    (Mi.sSeq (Mi.sEx (Mi.eMeth C T "past" (Mi.eVar 0) (Mi.aCons (Mi.eC (.str [105, 115])) Mi.aNil)))
  (Mi.sSeq (Mi.sSet 2 (Mi.eMeth C T "whole_number" (Mi.eVar 0) Mi.aNil))
  (Mi.sRet (Mi.eMakeF C T "Within" (Mi.aCons (Mi.eVar 1) (Mi.aCons (Mi.eVar 2) (Mi.aCons (Mi.eVar 2) Mi.aNil)))))))
    Mi.sNil)
  (Mi.sSeq (Mi.sEx (Mi.eMeth C T "past" (Mi.eVar 0) (Mi.aCons (Mi.eC (.str [102, 114, 111, 109])) Mi.aNil)))
  (Mi.sSeq (Mi.sSet 2 (Mi.eMeth C T "whole_number" (Mi.eVar 0) Mi.aNil))
  (Mi.sSeq (Mi.sEx (Mi.eMeth C T "past" (Mi.eVar 0) (Mi.aCons (Mi.eC (.str [116, 111])) Mi.aNil)))
  (Mi.sRet (Mi.eMakeF C T "Within" (Mi.aCons (Mi.eVar 1) (Mi.aCons (Mi.eVar 2) (Mi.aCons (Mi.eMeth C T "whole_number" (Mi.eVar 0) Mi.aNil) Mi.aNil)))))))))
noncomputable def b_read_question (C : Cal) : Sv :=
  (Mi.sSeq (Mi.sSet 1 (Mi.eMake C T "Reader" (Mi.aCons (Mi.eVar 0) Mi.aNil)))
  (Mi.sSeq (Mi.sSet 2 (Mi.eMeth C T "question" (Mi.eVar 1) (Mi.aCons (Mi.eC (.int 0)) Mi.aNil)))
  (Mi.sSeq (Mi.sIf (Mi.tV (Mi.e2 (Mi.gCmp fun i j => decide (i < j)) (Mi.eFld T "at" (Mi.eVar 1)) (Mi.eA Mi.aLen (Mi.aCons (Mi.eFld T "words" (Mi.eVar 1)) Mi.aNil))))
    (Mi.sRaiseF "BadText" "place" (Mi.eMeth C T "place_here" (Mi.eVar 1) Mi.aNil))
    Mi.sNil)
  (Mi.sRet (Mi.eVar 2)))))
noncomputable def b__law_cell_at (C : Cal) : Sv :=
  (Mi.sSeq (Mi.sIf (Mi.tV (Mi.e2 (Mi.gCmp fun i j => decide (i < j)) (Mi.eVar 1) (Mi.eA Mi.aLen (Mi.aCons (Mi.eVar 0) Mi.aNil))))
    (Mi.sRet (Mi.e2 Mi.gIxU (Mi.eVar 0) (Mi.eVar 1)))
    Mi.sNil)
  (Mi.sRet (Mi.eC (.int 0))))
noncomputable def b__law_whole (C : Cal) : Sv :=
  (Mi.sRet (Mi.eAnd (Mi.e1 (Mi.gIsT "int") (Mi.eVar 0)) (Mi.e1 Mi.gNot (Mi.e1 Mi.gIsB (Mi.eVar 0)))))
noncomputable def b__law_mixed (C : Cal) : Sv :=
  (Mi.sSeq (Mi.sSet 2 (Mi.e2 Mi.gMod (Mi.e2 Mi.gAddU (Mi.e2 Mi.gAddU (Mi.e2 Mi.gMul (Mi.eVar 0) (Mi.eC (.int 48271))) (Mi.e2 Mi.gMul (Mi.eVar 1) (Mi.eC (.int 7919)))) (Mi.eC (.int 104729))) (Mi.eC (.int 2147483647))))
  (Mi.sRet (Mi.e2 Mi.gMod (Mi.e2 Mi.gMul (Mi.eVar 2) (Mi.eVar 2)) (Mi.eC (.int 2147483629)))))
noncomputable def b__law_name_of (C : Cal) : Sv :=
  (Mi.sSeq (Mi.sIf (Mi.tV (Mi.e2 Mi.gInV (Mi.eVar 0) (Mi.eL (Mi.lDisp (Mi.aCons (Mi.eC (.str [97, 110, 100])) (Mi.aCons (Mi.eC (.str [111, 114])) (Mi.aCons (Mi.eC (.str [110, 111, 116])) (Mi.aCons (Mi.eC (.str [97, 108, 108])) (Mi.aCons (Mi.eC (.str [110, 111, 110, 101])) (Mi.aCons (Mi.eC (.str [105, 115])) (Mi.aCons (Mi.eC (.str [102, 114, 111, 109])) (Mi.aCons (Mi.eC (.str [116, 111])) Mi.aNil))))))))))))
    (Mi.sRet (Mi.e2 Mi.gAddU (Mi.eVar 0) (Mi.eC (.str [120]))))
    Mi.sNil)
  (Mi.sRet (Mi.eVar 0)))
noncomputable def lp__law_names_1 (C : Cal) : Sv :=
  (Mi.sSeq (Mi.sSet 8 (Mi.e2 Mi.gAddU (Mi.e2 Mi.gAddU (Mi.e2 Mi.gDiv (Mi.eVar 2) (Mi.e2 Mi.gAddU (Mi.eVar 7) (Mi.eC (.int 2)))) (Mi.e2 Mi.gMul (Mi.eC (.int 5)) (Mi.eVar 7))) (Mi.e2 Mi.gMul (Mi.eVar 5) (Mi.eA Mi.aInt2 (Mi.aCons (Mi.e2 Mi.gEqU (Mi.eVar 7) (Mi.e2 Mi.gMod (Mi.e2 Mi.gDiv (Mi.eVar 2) (Mi.eC (.int 64))) (Mi.eVar 3))) Mi.aNil)))))
  (Mi.sSet 6 (Mi.e2 Mi.gAddU (Mi.eVar 6) (Mi.e2 Mi.gIxU (Mi.eC (.str [97, 98, 99, 100, 101, 102, 103, 104, 105, 106, 107, 108, 109, 110, 111, 112, 113, 114, 115, 116, 117, 118, 119, 120, 121, 122])) (Mi.e2 Mi.gMod (Mi.eVar 8) (Mi.eC (.int 26)))))))
noncomputable def lp__law_names_2 (C : Cal) : Sv :=
  (Mi.sSeq (Mi.sSet 6 (Mi.eC (.str [])))
  (Mi.sSeq (Mi.sFor (.n 7) (Mi.iRg1 (Mi.eVar 3)) (lp__law_names_1 C))
  (Mi.sEx (Mi.eMut Mi.mApp (Mi.eVar 4) (Mi.aCons (Mi.eCall C "_law_name_of" (Mi.aCons (Mi.eVar 6) Mi.aNil)) Mi.aNil)))))
noncomputable def b__law_names (C : Cal) : Sv :=
  (Mi.sSeq (Mi.sSet 2 (Mi.eCall C "_law_mixed" (Mi.aCons (Mi.eCall C "_law_cell_at" (Mi.aCons (Mi.eVar 0) (Mi.aCons (Mi.eC (.int 0)) Mi.aNil))) (Mi.aCons (Mi.eC (.int 0)) Mi.aNil))))
  (Mi.sSeq (Mi.sSet 3 (Mi.e2 Mi.gAddU (Mi.eC (.int 1)) (Mi.e2 Mi.gMod (Mi.eVar 2) (Mi.eVar 1))))
  (Mi.sSeq (Mi.sOwn 4 (Mi.lDisp Mi.aNil))
  (Mi.sSeq (Mi.sFor (.n 5) (Mi.iRg1 (Mi.eC (.int 3))) (lp__law_names_2 C))
  (Mi.sRet (Mi.eFrz 4))))))
noncomputable def b__law_value (C : Cal) : Sv :=
  (Mi.sSeq (Mi.sIf (Mi.tTru (Mi.eVar 1))
    (Mi.sRet (Mi.e2 Mi.gIxU (Mi.eL (Mi.lDisp (Mi.aCons (Mi.e2 Mi.gMod (Mi.eVar 0) (Mi.eC (.int 10))) (Mi.aCons (Mi.e2 Mi.gMod (Mi.eVar 0) (Mi.eC (.int 1000))) (Mi.aCons (Mi.e2 Mi.gMod (Mi.e2 Mi.gMul (Mi.eVar 0) (Mi.eC (.int 48271))) (Mi.e2 Mi.gPow (Mi.eC (.int 10)) (Mi.eC (.int 12)))) (Mi.aCons (Mi.e2 Mi.gSub (Mi.e2 Mi.gSub (Mi.e2 Mi.gPow (Mi.eC (.int 10)) (Mi.eC (.int 12))) (Mi.eC (.int 1))) (Mi.e2 Mi.gMod (Mi.eVar 0) (Mi.eC (.int 3)))) Mi.aNil)))))) (Mi.e2 Mi.gMod (Mi.e2 Mi.gDiv (Mi.eVar 0) (Mi.eC (.int 5))) (Mi.eC (.int 4)))))
    Mi.sNil)
  (Mi.sRet (Mi.e2 Mi.gIxU (Mi.eL (Mi.lDisp (Mi.aCons (Mi.e2 Mi.gMod (Mi.eVar 0) (Mi.eC (.int 10))) (Mi.aCons (Mi.e2 Mi.gMod (Mi.eVar 0) (Mi.eC (.int 1000))) Mi.aNil)))) (Mi.e2 Mi.gMod (Mi.e2 Mi.gDiv (Mi.eVar 0) (Mi.eC (.int 5))) (Mi.eC (.int 2))))))
noncomputable def b__law_leaf (C : Cal) : Sv :=
  (Mi.sSeq (Mi.sSet 3 (Mi.eCall C "_law_mixed" (Mi.aCons (Mi.eVar 0) (Mi.aCons (Mi.eC (.int 2)) Mi.aNil))))
  (Mi.sSeq (Mi.sIf (Mi.tV (Mi.e2 (Mi.gCmp fun i j => decide (i < j)) (Mi.e2 Mi.gMod (Mi.eVar 3) (Mi.eC (.int 9))) (Mi.eC (.int 2))))
    (Mi.sRet (Mi.eTup (Mi.aCons (Mi.e2 Mi.gIxU (Mi.eL (Mi.lDisp (Mi.aCons (Mi.eC (.str [97, 108, 108])) (Mi.aCons (Mi.eC (.str [110, 111, 110, 101])) Mi.aNil)))) (Mi.e2 Mi.gMod (Mi.eVar 3) (Mi.eC (.int 9)))) Mi.aNil)))
    Mi.sNil)
  (Mi.sSeq (Mi.sSet 4 (Mi.eCall C "_law_value" (Mi.aCons (Mi.e2 Mi.gDiv (Mi.eVar 3) (Mi.eC (.int 9))) (Mi.aCons (Mi.eVar 2) Mi.aNil))))
  (Mi.sSeq (Mi.sSet 5 (Mi.eCall C "_law_value" (Mi.aCons (Mi.eCall C "_law_mixed" (Mi.aCons (Mi.eVar 0) (Mi.aCons (Mi.eC (.int 3)) Mi.aNil))) (Mi.aCons (Mi.eVar 2) Mi.aNil))))
  (Mi.sSeq (Mi.sIf (Mi.tV (Mi.e2 Mi.gEqU (Mi.e2 Mi.gMod (Mi.e2 Mi.gDiv (Mi.eVar 3) (Mi.eC (.int 27))) (Mi.eC (.int 3))) (Mi.eC (.int 0))))
    (Mi.sSet 5 (Mi.eVar 4))
    Mi.sNil)
  (Mi.sRet (Mi.eTup (Mi.aCons (Mi.eC (.str [105, 110])) (Mi.aCons (Mi.e2 Mi.gIxU (Mi.eVar 1) (Mi.e2 Mi.gMod (Mi.e2 Mi.gDiv (Mi.eVar 3) (Mi.eC (.int 81))) (Mi.eC (.int 3)))) (Mi.aCons (Mi.eVar 4) (Mi.aCons (Mi.eVar 5) Mi.aNil)))))))))))
noncomputable def lp__law_built_1 (C : Cal) : Sv :=
  (Mi.sSeq (Mi.sSet 8 (Mi.eCall C "_law_mixed" (Mi.aCons (Mi.eVar 7) (Mi.aCons (Mi.eC (.int 1)) Mi.aNil))))
  (Mi.sSeq (Mi.sSet 9 (Mi.eA Mi.aMin (Mi.aCons (Mi.eA Mi.aLen (Mi.aCons (Mi.eVar 4) Mi.aNil)) (Mi.aCons (Mi.e2 Mi.gAddU (Mi.eC (.int 2)) (Mi.e2 Mi.gMod (Mi.e2 Mi.gDiv (Mi.eVar 8) (Mi.eC (.int 8))) (Mi.eC (.int 3)))) Mi.aNil))))
  (Mi.sSeq (Mi.sSet 10 (Mi.eAK Mi.aMaxD (Mi.aCons (Mi.eL (Mi.lComp [11] (.n 11) (Mi.iAny (Mi.eL (Mi.lCut (Mi.eVar 4) (Mi.oSome (Mi.e2 Mi.gSub (Mi.eA Mi.aLen (Mi.aCons (Mi.eVar 4) Mi.aNil)) (Mi.eVar 9))) Mi.oNone))) Mi.tYes (Mi.e2 Mi.gIxU (Mi.eVar 11) (Mi.eC (.int 1))))) Mi.aNil) (Mi.aCons (Mi.eC (.int 0)) Mi.aNil)))
  (Mi.sIf (Mi.tAnd (Mi.tV (Mi.e2 (Mi.gCmp fun i j => decide (j < i)) (Mi.e2 Mi.gMod (Mi.eVar 8) (Mi.eC (.int 8))) (Mi.eC (.int 5)))) (Mi.tAnd (Mi.tV (Mi.e2 (Mi.gCmp fun i j => decide (j < i)) (Mi.eVar 9) (Mi.eC (.int 1)))) (Mi.tV (Mi.e2 (Mi.gCmp fun i j => decide (i < j)) (Mi.eVar 10) (Mi.eC (.int 18))))))
    (Mi.sSeq (Mi.sSet 12 (Mi.eL (Mi.lComp [11] (.n 11) (Mi.iAny (Mi.eL (Mi.lCut (Mi.eVar 4) (Mi.oSome (Mi.e2 Mi.gSub (Mi.eA Mi.aLen (Mi.aCons (Mi.eVar 4) Mi.aNil)) (Mi.eVar 9))) Mi.oNone))) Mi.tYes (Mi.e2 Mi.gIxU (Mi.eVar 11) (Mi.eC (.int 0))))))
  (Mi.sOwn 4 (Mi.lCat (Mi.eL (Mi.lCut (Mi.eVar 4) Mi.oNone (Mi.oSome (Mi.e2 Mi.gSub (Mi.eA Mi.aLen (Mi.aCons (Mi.eVar 4) Mi.aNil)) (Mi.eVar 9))))) (Mi.eL (Mi.lDisp (Mi.aCons (Mi.eTup (Mi.aCons (Mi.eTup (Mi.aCons (Mi.e2 Mi.gIxU (Mi.eL (Mi.lDisp (Mi.aCons (Mi.eC (.str [97, 110, 100])) (Mi.aCons (Mi.eC (.str [111, 114])) Mi.aNil)))) (Mi.e2 Mi.gMod (Mi.e2 Mi.gDiv (Mi.eVar 8) (Mi.eC (.int 24))) (Mi.eC (.int 2)))) (Mi.aCons (Mi.eVar 12) Mi.aNil))) (Mi.aCons (Mi.e2 Mi.gAddU (Mi.eVar 10) (Mi.eC (.int 1))) Mi.aNil))) Mi.aNil))))))
    (Mi.sIf (Mi.tAnd (Mi.tV (Mi.e2 Mi.gEqU (Mi.e2 Mi.gMod (Mi.eVar 8) (Mi.eC (.int 8))) (Mi.eC (.int 5)))) (Mi.tAnd (Mi.tV (Mi.e2 (Mi.gCmp fun i j => decide (j < i)) (Mi.eVar 6) (Mi.eC (.int 0)))) (Mi.tAnd (Mi.tV (Mi.e2 (Mi.gCmp fun i j => decide (j < i)) (Mi.eVar 9) (Mi.eC (.int 0)))) (Mi.tV (Mi.e2 (Mi.gCmp fun i j => decide (i < j)) (Mi.eVar 10) (Mi.eC (.int 17)))))))
    (Mi.sSeq (Mi.sSet 6 (Mi.e2 Mi.gSub (Mi.eVar 6) (Mi.eC (.int 1))))
  (Mi.sOwn 4 (Mi.lCat (Mi.eL (Mi.lCut (Mi.eVar 4) Mi.oNone (Mi.oSome (Mi.e1 Mi.gNeg (Mi.eC (.int 1)))))) (Mi.eL (Mi.lDisp (Mi.aCons (Mi.eTup (Mi.aCons (Mi.eTup (Mi.aCons (Mi.eC (.str [110, 111, 116])) (Mi.aCons (Mi.e2 Mi.gIxU (Mi.e2 Mi.gIxU (Mi.eVar 4) (Mi.e1 Mi.gNeg (Mi.eC (.int 1)))) (Mi.eC (.int 0))) Mi.aNil))) (Mi.aCons (Mi.e2 Mi.gAddU (Mi.e2 Mi.gIxU (Mi.e2 Mi.gIxU (Mi.eVar 4) (Mi.e1 Mi.gNeg (Mi.eC (.int 1)))) (Mi.eC (.int 1))) (Mi.eC (.int 2))) Mi.aNil))) Mi.aNil))))))
    (Mi.sIf (Mi.tV (Mi.e2 (Mi.gCmp fun i j => decide (j < i)) (Mi.eVar 5) (Mi.eC (.int 0))))
    (Mi.sSeq (Mi.sSet 5 (Mi.e2 Mi.gSub (Mi.eVar 5) (Mi.eC (.int 1))))
  (Mi.sEx (Mi.eMut Mi.mApp (Mi.eVar 4) (Mi.aCons (Mi.eTup (Mi.aCons (Mi.eCall C "_law_leaf" (Mi.aCons (Mi.eVar 7) (Mi.aCons (Mi.eVar 3) (Mi.aCons (Mi.eVar 2) Mi.aNil)))) (Mi.aCons (Mi.eC (.int 1)) Mi.aNil))) Mi.aNil))))
    Mi.sNil))))))
noncomputable def b__law_built (C : Cal) : Sv :=
  (Mi.sSeq (Mi.sSet 2 (Mi.e2 Mi.gEqU (Mi.e2 Mi.gMod (Mi.eCall C "_law_cell_at" (Mi.aCons (Mi.eVar 0) (Mi.aCons (Mi.eC (.int 1)) Mi.aNil))) (Mi.eC (.int 3))) (Mi.eC (.int 0))))
  (Mi.sSeq (Mi.sSet 3 (Mi.eCall C "_law_names" (Mi.aCons (Mi.eVar 0) (Mi.aCons (Mi.e2 Mi.gIxU (Mi.eL (Mi.lDisp (Mi.aCons (Mi.eC (.int 3)) (Mi.aCons (Mi.eC (.int 8)) Mi.aNil)))) (Mi.eA Mi.aInt2 (Mi.aCons (Mi.eVar 2) Mi.aNil))) Mi.aNil))))
  (Mi.sSeq (Mi.sOwn 4 (Mi.lDisp Mi.aNil))
  (Mi.sSeq (Mi.sSet 5 (Mi.e2 Mi.gIxU (Mi.eL (Mi.lDisp (Mi.aCons (Mi.eVar 1) (Mi.aCons (Mi.eA Mi.aMin (Mi.aCons (Mi.eVar 1) (Mi.aCons (Mi.eC (.int 9)) Mi.aNil))) Mi.aNil)))) (Mi.eA Mi.aInt2 (Mi.aCons (Mi.eVar 2) Mi.aNil))))
  (Mi.sSeq (Mi.sSet 6 (Mi.eC (.int 6)))
  (Mi.sSeq (Mi.sFor (.n 7) (Mi.iAny (Mi.eL (Mi.lCut (Mi.eVar 0) (Mi.oSome (Mi.eC (.int 3))) (Mi.oSome (Mi.eC (.int 63)))))) (lp__law_built_1 C))
  (Mi.sSeq (Mi.sIf (Mi.tV (Mi.e2 Mi.gEqU (Mi.eA Mi.aLen (Mi.aCons (Mi.eVar 4) Mi.aNil)) (Mi.eC (.int 1))))
    (Mi.sRet (Mi.e2 Mi.gIxU (Mi.e2 Mi.gIxU (Mi.eVar 4) (Mi.eC (.int 0))) (Mi.eC (.int 0))))
    Mi.sNil)
  (Mi.sSeq (Mi.sIf (Mi.tV (Mi.e2 Mi.gEqU (Mi.eVar 4) (Mi.eL (Mi.lDisp Mi.aNil))))
    (Mi.sRet (Mi.eTup (Mi.aCons (Mi.eC (.str [97, 108, 108])) Mi.aNil)))
    Mi.sNil)
  (Mi.sRet (Mi.eTup (Mi.aCons (Mi.e2 Mi.gIxU (Mi.eL (Mi.lDisp (Mi.aCons (Mi.eC (.str [97, 110, 100])) (Mi.aCons (Mi.eC (.str [111, 114])) Mi.aNil)))) (Mi.e2 Mi.gMod (Mi.eCall C "_law_cell_at" (Mi.aCons (Mi.eVar 0) (Mi.aCons (Mi.eC (.int 2)) Mi.aNil))) (Mi.eC (.int 2)))) (Mi.aCons (Mi.eL (Mi.lComp [11] (.n 11) (Mi.iAny (Mi.eFrz 4)) Mi.tYes (Mi.e2 Mi.gIxU (Mi.eVar 11) (Mi.eC (.int 0))))) Mi.aNil))))))))))))
noncomputable def b__law_wrapped (C : Cal) : Sv :=
  (Mi.sSeq (Mi.sSet 3 (Mi.eCall C "_law_words" (Mi.aCons (Mi.eVar 0) (Mi.aCons (Mi.eVar 2) Mi.aNil))))
  (Mi.sSeq (Mi.sIf (Mi.tOr (Mi.tTru (Mi.eVar 1)) (Mi.tAnd (Mi.tV (Mi.e2 (Mi.gCmp fun i j => decide (j < i)) (Mi.eVar 2) (Mi.eC (.int 0)))) (Mi.tV (Mi.e2 Mi.gEqU (Mi.e2 Mi.gMod (Mi.eA Mi.aLen (Mi.aCons (Mi.eVar 3) Mi.aNil)) (Mi.eVar 2)) (Mi.eC (.int 0))))))
    (Mi.sRet (Mi.e2 Mi.gAddU (Mi.e2 Mi.gAddU (Mi.eL (Mi.lDisp (Mi.aCons (Mi.eC (.str [40])) Mi.aNil))) (Mi.eVar 3)) (Mi.eL (Mi.lDisp (Mi.aCons (Mi.eC (.str [41])) Mi.aNil)))))
    Mi.sNil)
  (Mi.sRet (Mi.eVar 3))))
noncomputable def lp__law_words_1 (C : Cal) : Sv :=
  (Mi.sSeq (Mi.sSet 4 (Mi.eOr (Mi.e2 Mi.gEqU (Mi.e2 Mi.gIxU (Mi.eVar 3) (Mi.eC (.int 0))) (Mi.eC (.str [111, 114]))) (Mi.eAnd (Mi.e2 Mi.gEqU (Mi.e2 Mi.gIxU (Mi.eVar 3) (Mi.eC (.int 0))) (Mi.eC (.str [97, 110, 100]))) (Mi.e2 Mi.gEqU (Mi.e2 Mi.gIxU (Mi.eVar 0) (Mi.eC (.int 0))) (Mi.eC (.str [97, 110, 100]))))))
  (Mi.sSet 2 (Mi.e2 Mi.gAddU (Mi.e2 Mi.gAddU (Mi.eVar 2) (Mi.eL (Mi.lDisp (Mi.aCons (Mi.e2 Mi.gIxU (Mi.eVar 0) (Mi.eC (.int 0))) Mi.aNil)))) (Mi.eCall C "_law_wrapped" (Mi.aCons (Mi.eVar 3) (Mi.aCons (Mi.eVar 4) (Mi.aCons (Mi.eVar 1) Mi.aNil)))))))
noncomputable def b__law_words (C : Cal) : Sv :=
  (Mi.sSeq (Mi.sIf (Mi.tOr (Mi.tV (Mi.e2 Mi.gEqU (Mi.e2 Mi.gIxU (Mi.eVar 0) (Mi.eC (.int 0))) (Mi.eC (.str [97, 108, 108])))) (Mi.tV (Mi.e2 Mi.gEqU (Mi.e2 Mi.gIxU (Mi.eVar 0) (Mi.eC (.int 0))) (Mi.eC (.str [110, 111, 110, 101])))))
    (Mi.sRet (Mi.eL (Mi.lDisp (Mi.aCons (Mi.e2 Mi.gIxU (Mi.eVar 0) (Mi.eC (.int 0))) Mi.aNil))))
    Mi.sNil)
  (Mi.sSeq (Mi.sIf (Mi.tAnd (Mi.tV (Mi.e2 Mi.gEqU (Mi.e2 Mi.gIxU (Mi.eVar 0) (Mi.eC (.int 0))) (Mi.eC (.str [105, 110])))) (Mi.tV (Mi.e2 Mi.gEqU (Mi.e2 Mi.gIxU (Mi.eVar 0) (Mi.eC (.int 2))) (Mi.e2 Mi.gIxU (Mi.eVar 0) (Mi.eC (.int 3))))))
    (Mi.sRet (Mi.eL (Mi.lDisp (Mi.aCons (Mi.e2 Mi.gIxU (Mi.eVar 0) (Mi.eC (.int 1))) (Mi.aCons (Mi.eC (.str [105, 115])) (Mi.aCons (Mi.eA Mi.aStr (Mi.aCons (Mi.e2 Mi.gIxU (Mi.eVar 0) (Mi.eC (.int 2))) Mi.aNil)) Mi.aNil))))))
    Mi.sNil)
  (Mi.sSeq (Mi.sIf (Mi.tV (Mi.e2 Mi.gEqU (Mi.e2 Mi.gIxU (Mi.eVar 0) (Mi.eC (.int 0))) (Mi.eC (.str [105, 110]))))
    (Mi.sRet (Mi.eL (Mi.lDisp (Mi.aCons (Mi.e2 Mi.gIxU (Mi.eVar 0) (Mi.eC (.int 1))) (Mi.aCons (Mi.eC (.str [102, 114, 111, 109])) (Mi.aCons (Mi.eA Mi.aStr (Mi.aCons (Mi.e2 Mi.gIxU (Mi.eVar 0) (Mi.eC (.int 2))) Mi.aNil)) (Mi.aCons (Mi.eC (.str [116, 111])) (Mi.aCons (Mi.eA Mi.aStr (Mi.aCons (Mi.e2 Mi.gIxU (Mi.eVar 0) (Mi.eC (.int 3))) Mi.aNil)) Mi.aNil))))))))
    Mi.sNil)
  (Mi.sSeq (Mi.sIf (Mi.tV (Mi.e2 Mi.gEqU (Mi.e2 Mi.gIxU (Mi.eVar 0) (Mi.eC (.int 0))) (Mi.eC (.str [110, 111, 116]))))
    (Mi.sRet (Mi.e2 Mi.gAddU (Mi.eL (Mi.lDisp (Mi.aCons (Mi.eC (.str [110, 111, 116])) Mi.aNil))) (Mi.eCall C "_law_wrapped" (Mi.aCons (Mi.e2 Mi.gIxU (Mi.eVar 0) (Mi.eC (.int 1))) (Mi.aCons (Mi.e2 Mi.gInV (Mi.e2 Mi.gIxU (Mi.e2 Mi.gIxU (Mi.eVar 0) (Mi.eC (.int 1))) (Mi.eC (.int 0))) (Mi.eL (Mi.lDisp (Mi.aCons (Mi.eC (.str [97, 110, 100])) (Mi.aCons (Mi.eC (.str [111, 114])) Mi.aNil))))) (Mi.aCons (Mi.eVar 1) Mi.aNil))))))
    Mi.sNil)
  (Mi.sSeq (Mi.sSet 2 (Mi.eL (Mi.lDisp Mi.aNil)))
  (Mi.sSeq (Mi.sFor (.n 3) (Mi.iAny (Mi.e2 Mi.gIxU (Mi.eVar 0) (Mi.eC (.int 1)))) (lp__law_words_1 C))
  (Mi.sRet (Mi.eL (Mi.lCut (Mi.eVar 2) (Mi.oSome (Mi.eC (.int 1))) Mi.oNone)))))))))
noncomputable def lp__law_spaced_1 (C : Cal) : Sv :=
  (Mi.sSeq (Mi.sSet 5 (Mi.eCall C "_law_mixed" (Mi.aCons (Mi.eVar 1) (Mi.aCons (Mi.e2 Mi.gAddU (Mi.eVar 4) (Mi.eC (.int 40))) Mi.aNil))))
  (Mi.sSeq (Mi.sSet 6 (Mi.eOr (Mi.e2 Mi.gInV (Mi.eVar 3) (Mi.eC (.str [40, 41]))) (Mi.e2 Mi.gInV (Mi.e2 Mi.gIxU (Mi.eVar 0) (Mi.eVar 4)) (Mi.eC (.str [40, 41])))))
  (Mi.sSeq (Mi.sIf (Mi.tAnd (Mi.tV (Mi.e2 (Mi.gCmp fun i j => decide (j < i)) (Mi.eVar 4) (Mi.eC (.int 0)))) (Mi.tOr (Mi.tNot (Mi.tTru (Mi.eVar 6))) (Mi.tV (Mi.e2 Mi.gEqU (Mi.e2 Mi.gMod (Mi.eVar 5) (Mi.eC (.int 2))) (Mi.eC (.int 1))))))
    (Mi.sSet 2 (Mi.e2 Mi.gAddU (Mi.eVar 2) (Mi.eC (.str [32]))))
    Mi.sNil)
  (Mi.sSeq (Mi.sIf (Mi.tAnd (Mi.tV (Mi.e2 Mi.gEqU (Mi.e2 Mi.gMod (Mi.eVar 4) (Mi.eC (.int 8))) (Mi.eC (.int 0)))) (Mi.tV (Mi.e2 Mi.gEqU (Mi.e2 Mi.gMod (Mi.eVar 5) (Mi.eC (.int 3))) (Mi.eC (.int 0)))))
    (Mi.sSet 2 (Mi.e2 Mi.gAddU (Mi.eVar 2) (Mi.eC (.str [32]))))
    Mi.sNil)
  (Mi.sSeq (Mi.sSet 2 (Mi.e2 Mi.gAddU (Mi.eVar 2) (Mi.e2 Mi.gIxU (Mi.eVar 0) (Mi.eVar 4))))
  (Mi.sSet 3 (Mi.e2 Mi.gIxU (Mi.eVar 0) (Mi.eVar 4))))))))
noncomputable def b__law_spaced (C : Cal) : Sv :=
  (Mi.sSeq (Mi.sSet 2 (Mi.eCutT (Mi.eC (.str [32, 32])) Mi.oNone (Mi.oSome (Mi.e2 Mi.gMod (Mi.eVar 1) (Mi.eC (.int 3))))))
  (Mi.sSeq (Mi.sSet 3 (Mi.eC (.str [40])))
  (Mi.sSeq (Mi.sFor (.n 4) (Mi.iRg1 (Mi.eA Mi.aLen (Mi.aCons (Mi.eVar 0) Mi.aNil))) (lp__law_spaced_1 C))
  (Mi.sRet (Mi.e2 Mi.gAddU (Mi.eVar 2) (Mi.eCutT (Mi.eC (.str [32, 32])) Mi.oNone (Mi.oSome (Mi.e2 Mi.gMod (Mi.e2 Mi.gDiv (Mi.eVar 1) (Mi.eC (.int 3))) (Mi.eC (.int 3))))))))))
noncomputable def lp__law_split_1 (C : Cal) : Sv :=
  (Mi.sIf (Mi.tOr (Mi.tV (Mi.e2 Mi.gEqU (Mi.eVar 3) (Mi.eA Mi.aLen (Mi.aCons (Mi.eVar 0) Mi.aNil)))) (Mi.tV (Mi.e2 Mi.gInV (Mi.e2 Mi.gIxU (Mi.eVar 0) (Mi.eVar 3)) (Mi.eC (.str [32, 40, 41])))))
    (Mi.sSeq (Mi.sIf (Mi.tV (Mi.e2 (Mi.gCmp fun i j => decide (i < j)) (Mi.eVar 2) (Mi.eVar 3)))
    (Mi.sEx (Mi.eMut Mi.mApp (Mi.eVar 1) (Mi.aCons (Mi.eTup (Mi.aCons (Mi.eVar 2) (Mi.aCons (Mi.eCutT (Mi.eVar 0) (Mi.oSome (Mi.eVar 2)) (Mi.oSome (Mi.eVar 3))) Mi.aNil))) Mi.aNil)))
    Mi.sNil)
  (Mi.sSeq (Mi.sIf (Mi.tAnd (Mi.tV (Mi.e2 (Mi.gCmp fun i j => decide (i < j)) (Mi.eVar 3) (Mi.eA Mi.aLen (Mi.aCons (Mi.eVar 0) Mi.aNil)))) (Mi.tV (Mi.e2 Mi.gNeU (Mi.e2 Mi.gIxU (Mi.eVar 0) (Mi.eVar 3)) (Mi.eC (.str [32])))))
    (Mi.sEx (Mi.eMut Mi.mApp (Mi.eVar 1) (Mi.aCons (Mi.eTup (Mi.aCons (Mi.eVar 3) (Mi.aCons (Mi.e2 Mi.gIxU (Mi.eVar 0) (Mi.eVar 3)) Mi.aNil))) Mi.aNil)))
    Mi.sNil)
  (Mi.sSet 2 (Mi.e2 Mi.gAddU (Mi.eVar 3) (Mi.eC (.int 1))))))
    Mi.sNil)
noncomputable def b__law_split (C : Cal) : Sv :=
  (Mi.sSeq (Mi.sOwn 1 (Mi.lDisp Mi.aNil))
  (Mi.sSeq (Mi.sSet 2 (Mi.eC (.int 0)))
  (Mi.sSeq (Mi.sFor (.n 3) (Mi.iRg1 (Mi.e2 Mi.gAddU (Mi.eA Mi.aLen (Mi.aCons (Mi.eVar 0) Mi.aNil)) (Mi.eC (.int 1)))) (lp__law_split_1 C))
  (Mi.sRet (Mi.eFrz 1)))))
noncomputable def b__law_is_name (C : Cal) : Sv :=
  (Mi.sSeq (Mi.sIf (Mi.tOr (Mi.tV (Mi.e2 (Mi.gCmp fun i j => decide (j < i)) (Mi.eA Mi.aLen (Mi.aCons (Mi.eVar 0) Mi.aNil)) (Mi.eC (.int 8)))) (Mi.tV (Mi.e2 Mi.gInV (Mi.eVar 0) (Mi.eL (Mi.lDisp (Mi.aCons (Mi.eC (.str [97, 110, 100])) (Mi.aCons (Mi.eC (.str [111, 114])) (Mi.aCons (Mi.eC (.str [110, 111, 116])) (Mi.aCons (Mi.eC (.str [97, 108, 108])) (Mi.aCons (Mi.eC (.str [110, 111, 110, 101])) (Mi.aCons (Mi.eC (.str [105, 115])) (Mi.aCons (Mi.eC (.str [102, 114, 111, 109])) (Mi.aCons (Mi.eC (.str [116, 111])) Mi.aNil)))))))))))))
    (Mi.sRet (Mi.eC (.bl false)))
    Mi.sNil)
  (Mi.sRet (Mi.e2 Mi.gEqU (Mi.eA Mi.aLen (Mi.aCons (Mi.eL (Mi.lComp [1] (.n 1) (Mi.iAny (Mi.eVar 0)) (Mi.tV (Mi.e2 Mi.gInV (Mi.eVar 1) (Mi.eC (.str [97, 98, 99, 100, 101, 102, 103, 104, 105, 106, 107, 108, 109, 110, 111, 112, 113, 114, 115, 116, 117, 118, 119, 120, 121, 122])))) (Mi.eVar 1))) Mi.aNil)) (Mi.eA Mi.aLen (Mi.aCons (Mi.eVar 0) Mi.aNil)))))
noncomputable def b__law_are_figures (C : Cal) : Sv :=
  (Mi.sSeq (Mi.sIf (Mi.tOr (Mi.tV (Mi.e2 (Mi.gCmp fun i j => decide (j < i)) (Mi.eA Mi.aLen (Mi.aCons (Mi.eVar 0) Mi.aNil)) (Mi.eC (.int 12)))) (Mi.tAnd (Mi.tV (Mi.e2 Mi.gEqU (Mi.e2 Mi.gIxU (Mi.eVar 0) (Mi.eC (.int 0))) (Mi.eC (.str [48])))) (Mi.tV (Mi.e2 (Mi.gCmp fun i j => decide (j < i)) (Mi.eA Mi.aLen (Mi.aCons (Mi.eVar 0) Mi.aNil)) (Mi.eC (.int 1))))))
    (Mi.sRet (Mi.eC (.bl false)))
    Mi.sNil)
  (Mi.sRet (Mi.e2 Mi.gEqU (Mi.eA Mi.aLen (Mi.aCons (Mi.eL (Mi.lComp [1] (.n 1) (Mi.iAny (Mi.eVar 0)) (Mi.tV (Mi.e2 Mi.gInV (Mi.eVar 1) (Mi.eC (.str [48, 49, 50, 51, 52, 53, 54, 55, 56, 57])))) (Mi.eVar 1))) Mi.aNil)) (Mi.eA Mi.aLen (Mi.aCons (Mi.eVar 0) Mi.aNil)))))
noncomputable def b__law_begun (C : Cal) : Sv :=
  (Mi.sSeq (Mi.sIf (Mi.tOr (Mi.tV (Mi.e2 Mi.gEqU (Mi.eVar 0) (Mi.eC (.str [110, 111, 116])))) (Mi.tV (Mi.e2 Mi.gEqU (Mi.eVar 0) (Mi.eC (.str [40])))))
    (Mi.sSeq (Mi.sIf (Mi.tV (Mi.e2 Mi.gEqU (Mi.eA Mi.aLen (Mi.aCons (Mi.eVar 1) Mi.aNil)) (Mi.eC (.int 20))))
    (Mi.sRet (Mi.eC .non))
    Mi.sNil)
  (Mi.sSeq (Mi.sEx (Mi.eMut Mi.mApp (Mi.eVar 1) (Mi.aCons (Mi.eVar 0) Mi.aNil)))
  (Mi.sRet (Mi.eC (.str [112, 105, 101, 99, 101])))))
    Mi.sNil)
  (Mi.sSeq (Mi.sIf (Mi.tOr (Mi.tV (Mi.e2 Mi.gEqU (Mi.eVar 0) (Mi.eC (.str [97, 108, 108])))) (Mi.tV (Mi.e2 Mi.gEqU (Mi.eVar 0) (Mi.eC (.str [110, 111, 110, 101])))))
    (Mi.sRet (Mi.eCall C "_law_ended" (Mi.aCons (Mi.eVar 1) Mi.aNil)))
    Mi.sNil)
  (Mi.sSeq (Mi.sIf (Mi.tTru (Mi.eCall C "_law_is_name" (Mi.aCons (Mi.eVar 0) Mi.aNil)))
    (Mi.sRet (Mi.eC (.str [110, 97, 109, 101])))
    Mi.sNil)
  (Mi.sRet (Mi.eC .non)))))
noncomputable def lp__law_ended_1 (C : Cal) : Sv :=
  (Mi.sEx (Mi.eMut Mi.mPop (Mi.eVar 0) Mi.aNil))
noncomputable def b__law_ended (C : Cal) : Sv :=
  (Mi.sSeq (Mi.sWhile (Mi.tAnd (Mi.tV (Mi.e2 Mi.gNeU (Mi.eVar 0) (Mi.eL (Mi.lDisp Mi.aNil)))) (Mi.tV (Mi.e2 Mi.gEqU (Mi.e2 Mi.gIxU (Mi.eVar 0) (Mi.e1 Mi.gNeg (Mi.eC (.int 1)))) (Mi.eC (.str [110, 111, 116]))))) (lp__law_ended_1 C))
  (Mi.sRet (Mi.eC (.str [98, 101, 104, 105, 110, 100]))))
noncomputable def b__law_next (C : Cal) : Sv :=
  (Mi.sSeq (Mi.sIf (Mi.tV (Mi.e2 Mi.gEqU (Mi.eVar 0) (Mi.eC (.str [112, 105, 101, 99, 101]))))
    (Mi.sRet (Mi.eCall C "_law_begun" (Mi.aCons (Mi.eVar 1) (Mi.aCons (Mi.eVar 2) Mi.aNil))))
    Mi.sNil)
  (Mi.sSeq (Mi.sIf (Mi.tAnd (Mi.tV (Mi.e2 Mi.gEqU (Mi.eVar 0) (Mi.eC (.str [98, 101, 104, 105, 110, 100])))) (Mi.tAnd (Mi.tV (Mi.e2 Mi.gEqU (Mi.eVar 1) (Mi.eC (.str [41])))) (Mi.tV (Mi.e2 Mi.gNeU (Mi.eVar 2) (Mi.eL (Mi.lDisp Mi.aNil))))))
    (Mi.sSeq (Mi.sEx (Mi.eMut Mi.mPop (Mi.eVar 2) Mi.aNil))
  (Mi.sRet (Mi.eCall C "_law_ended" (Mi.aCons (Mi.eVar 2) Mi.aNil))))
    Mi.sNil)
  (Mi.sSeq (Mi.sIf (Mi.tAnd (Mi.tV (Mi.e2 Mi.gEqU (Mi.eVar 0) (Mi.eC (.str [98, 101, 104, 105, 110, 100])))) (Mi.tOr (Mi.tV (Mi.e2 Mi.gEqU (Mi.eVar 1) (Mi.eC (.str [97, 110, 100])))) (Mi.tV (Mi.e2 Mi.gEqU (Mi.eVar 1) (Mi.eC (.str [111, 114]))))))
    (Mi.sRet (Mi.eC (.str [112, 105, 101, 99, 101])))
    Mi.sNil)
  (Mi.sSeq (Mi.sIf (Mi.tOr (Mi.tAnd (Mi.tV (Mi.e2 Mi.gEqU (Mi.eVar 0) (Mi.eC (.str [110, 97, 109, 101])))) (Mi.tV (Mi.e2 Mi.gEqU (Mi.eVar 1) (Mi.eC (.str [105, 115]))))) (Mi.tAnd (Mi.tV (Mi.e2 Mi.gEqU (Mi.eVar 0) (Mi.eC (.str [116, 111])))) (Mi.tV (Mi.e2 Mi.gEqU (Mi.eVar 1) (Mi.eC (.str [116, 111]))))))
    (Mi.sRet (Mi.eC (.str [108, 97, 115, 116])))
    Mi.sNil)
  (Mi.sSeq (Mi.sIf (Mi.tAnd (Mi.tV (Mi.e2 Mi.gEqU (Mi.eVar 0) (Mi.eC (.str [110, 97, 109, 101])))) (Mi.tV (Mi.e2 Mi.gEqU (Mi.eVar 1) (Mi.eC (.str [102, 114, 111, 109])))))
    (Mi.sRet (Mi.eC (.str [102, 105, 114, 115, 116])))
    Mi.sNil)
  (Mi.sSeq (Mi.sIf (Mi.tAnd (Mi.tV (Mi.e2 Mi.gEqU (Mi.eVar 0) (Mi.eC (.str [102, 105, 114, 115, 116])))) (Mi.tTru (Mi.eCall C "_law_are_figures" (Mi.aCons (Mi.eVar 1) Mi.aNil))))
    (Mi.sRet (Mi.eC (.str [116, 111])))
    Mi.sNil)
  (Mi.sSeq (Mi.sIf (Mi.tAnd (Mi.tV (Mi.e2 Mi.gEqU (Mi.eVar 0) (Mi.eC (.str [108, 97, 115, 116])))) (Mi.tTru (Mi.eCall C "_law_are_figures" (Mi.aCons (Mi.eVar 1) Mi.aNil))))
    (Mi.sRet (Mi.eCall C "_law_ended" (Mi.aCons (Mi.eVar 2) Mi.aNil)))
    Mi.sNil)
  (Mi.sRet (Mi.eC .non)))))))))
noncomputable def lp__law_fault_1 (C : Cal) : Sv :=
  (Mi.sSeq (Mi.sSet 1 (Mi.eCall C "_law_next" (Mi.aCons (Mi.eVar 1) (Mi.aCons (Mi.eVar 4) (Mi.aCons (Mi.eVar 2) Mi.aNil)))))
  (Mi.sIf (Mi.tV (Mi.e2 Mi.gIsN (Mi.eVar 1) (Mi.eC .non)))
    (Mi.sRet (Mi.eVar 3))
    Mi.sNil))
noncomputable def b__law_fault (C : Cal) : Sv :=
  (Mi.sSeq (Mi.sSet 1 (Mi.eC (.str [112, 105, 101, 99, 101])))
  (Mi.sSeq (Mi.sSet 2 (Mi.eNewL (Mi.lDisp Mi.aNil)))
  (Mi.sSeq (Mi.sFor (.t [3, 4]) (Mi.iAny (Mi.eCall C "_law_split" (Mi.aCons (Mi.eVar 0) Mi.aNil))) (lp__law_fault_1 C))
  (Mi.sSeq (Mi.sIf (Mi.tAnd (Mi.tV (Mi.e2 Mi.gEqU (Mi.eVar 1) (Mi.eC (.str [98, 101, 104, 105, 110, 100])))) (Mi.tV (Mi.e2 Mi.gEqU (Mi.eVar 2) (Mi.eL (Mi.lDisp Mi.aNil)))))
    (Mi.sRet (Mi.eC .non))
    Mi.sNil)
  (Mi.sRet (Mi.eA Mi.aLen (Mi.aCons (Mi.eVar 0) Mi.aNil)))))))
noncomputable def b__law_odd_word (C : Cal) : Sv :=
  (Mi.sSeq (Mi.sSet 1 (Mi.eL (Mi.lDisp (Mi.aCons (Mi.eC (.str [40])) (Mi.aCons (Mi.eC (.str [41])) (Mi.aCons (Mi.eC (.str [97, 110, 100])) (Mi.aCons (Mi.eC (.str [111, 114])) (Mi.aCons (Mi.eC (.str [110, 111, 116])) (Mi.aCons (Mi.eC (.str [97, 108, 108])) (Mi.aCons (Mi.eC (.str [110, 111, 110, 101])) (Mi.aCons (Mi.eC (.str [105, 115])) (Mi.aCons (Mi.eC (.str [102, 114, 111, 109])) (Mi.aCons (Mi.eC (.str [116, 111])) (Mi.aCons (Mi.eC (.str [55])) (Mi.aCons (Mi.eC (.str [48])) (Mi.aCons (Mi.eC (.str [48, 48, 55])) (Mi.aCons (Mi.eC (.str [49, 50, 51, 52, 53, 54, 55, 56, 57, 48, 49, 50, 51])) Mi.aNil)))))))))))))))))
  (Mi.sSeq (Mi.sSet 1 (Mi.e2 Mi.gAddU (Mi.eVar 1) (Mi.eL (Mi.lDisp (Mi.aCons (Mi.eC (.str [97])) (Mi.aCons (Mi.eC (.str [122, 122])) (Mi.aCons (Mi.eC (.str [97, 98, 99, 100, 101, 102, 103, 104, 105])) (Mi.aCons (Mi.eC (.str [97, 49])) (Mi.aCons (Mi.eC (.str [65, 110, 100])) (Mi.aCons (Mi.eC (.str [65, 76, 76])) (Mi.aCons (Mi.eC (.str [49, 97])) (Mi.aCons (Mi.eC (.str [45, 49])) (Mi.aCons (Mi.eC (.str [49, 46, 53])) (Mi.aCons (Mi.eC (.str [61])) (Mi.aCons (Mi.eC (.str [38])) (Mi.aCons (Mi.eC (.str [97, 95, 98])) (Mi.aCons (Mi.eC (.str [120, 44])) Mi.aNil)))))))))))))))))
  (Mi.sRet (Mi.e2 Mi.gIxU (Mi.e2 Mi.gAddU (Mi.eVar 1) (Mi.eL (Mi.lDisp (Mi.aCons (Mi.eC (.str [34])) (Mi.aCons (Mi.eC (.str [10])) (Mi.aCons (Mi.eC (.str [9])) Mi.aNil)))))) (Mi.e2 Mi.gMod (Mi.eVar 0) (Mi.eC (.int 30)))))))
noncomputable def b__law_spoilt (C : Cal) : Sv :=
  (Mi.sSeq (Mi.sSet 2 (Mi.eCall C "_law_mixed" (Mi.aCons (Mi.eCall C "_law_cell_at" (Mi.aCons (Mi.eVar 1) (Mi.aCons (Mi.eC (.int 2)) Mi.aNil))) (Mi.aCons (Mi.eC (.int 7)) Mi.aNil))))
  (Mi.sSeq (Mi.sSet 3 (Mi.e2 Mi.gMod (Mi.e2 Mi.gDiv (Mi.eVar 2) (Mi.eC (.int 8))) (Mi.eA Mi.aLen (Mi.aCons (Mi.eVar 0) Mi.aNil))))
  (Mi.sSeq (Mi.sSet 4 (Mi.eCall C "_law_odd_word" (Mi.aCons (Mi.eCall C "_law_mixed" (Mi.aCons (Mi.eCall C "_law_cell_at" (Mi.aCons (Mi.eVar 1) (Mi.aCons (Mi.eC (.int 0)) Mi.aNil))) (Mi.aCons (Mi.eC (.int 8)) Mi.aNil))) Mi.aNil)))
  (Mi.sSeq (Mi.sIf (Mi.tV (Mi.e2 Mi.gEqU (Mi.e2 Mi.gMod (Mi.eVar 2) (Mi.eC (.int 8))) (Mi.eC (.int 1))))
    (Mi.sRet (Mi.e2 Mi.gAddU (Mi.eL (Mi.lCut (Mi.eVar 0) Mi.oNone (Mi.oSome (Mi.eVar 3)))) (Mi.eL (Mi.lCut (Mi.eVar 0) (Mi.oSome (Mi.e2 Mi.gAddU (Mi.eVar 3) (Mi.eC (.int 1)))) Mi.oNone))))
    Mi.sNil)
  (Mi.sSeq (Mi.sIf (Mi.tOr (Mi.tV (Mi.e2 Mi.gEqU (Mi.e2 Mi.gMod (Mi.eVar 2) (Mi.eC (.int 8))) (Mi.eC (.int 2)))) (Mi.tV (Mi.e2 Mi.gEqU (Mi.e2 Mi.gMod (Mi.eVar 2) (Mi.eC (.int 8))) (Mi.eC (.int 3)))))
    (Mi.sRet (Mi.e2 Mi.gAddU (Mi.e2 Mi.gAddU (Mi.eL (Mi.lCut (Mi.eVar 0) Mi.oNone (Mi.oSome (Mi.eVar 3)))) (Mi.eL (Mi.lDisp (Mi.aCons (Mi.eVar 4) Mi.aNil)))) (Mi.eL (Mi.lCut (Mi.eVar 0) (Mi.oSome (Mi.eVar 3)) Mi.oNone))))
    Mi.sNil)
  (Mi.sSeq (Mi.sIf (Mi.tV (Mi.e2 Mi.gEqU (Mi.e2 Mi.gMod (Mi.eVar 2) (Mi.eC (.int 8))) (Mi.eC (.int 4))))
    (Mi.sRet (Mi.e2 Mi.gAddU (Mi.e2 Mi.gAddU (Mi.eL (Mi.lCut (Mi.eVar 0) Mi.oNone (Mi.oSome (Mi.eVar 3)))) (Mi.eL (Mi.lDisp (Mi.aCons (Mi.eVar 4) Mi.aNil)))) (Mi.eL (Mi.lCut (Mi.eVar 0) (Mi.oSome (Mi.e2 Mi.gAddU (Mi.eVar 3) (Mi.eC (.int 1)))) Mi.oNone))))
    Mi.sNil)
  (Mi.sRet (Mi.eVar 0))))))))
noncomputable def b__law_cut (C : Cal) : Sv :=
  (Mi.sSeq (Mi.sSet 2 (Mi.eCall C "_law_mixed" (Mi.aCons (Mi.eCall C "_law_cell_at" (Mi.aCons (Mi.eVar 1) (Mi.aCons (Mi.eC (.int 2)) Mi.aNil))) (Mi.aCons (Mi.eC (.int 7)) Mi.aNil))))
  (Mi.sSeq (Mi.sSet 3 (Mi.e2 Mi.gMod (Mi.e2 Mi.gDiv (Mi.eVar 2) (Mi.eC (.int 8))) (Mi.e2 Mi.gAddU (Mi.eA Mi.aLen (Mi.aCons (Mi.eVar 0) Mi.aNil)) (Mi.eC (.int 1)))))
  (Mi.sSeq (Mi.sIf (Mi.tV (Mi.e2 Mi.gEqU (Mi.e2 Mi.gMod (Mi.eVar 2) (Mi.eC (.int 8))) (Mi.eC (.int 5))))
    (Mi.sRet (Mi.eCutT (Mi.eVar 0) Mi.oNone (Mi.oSome (Mi.eVar 3))))
    Mi.sNil)
  (Mi.sSeq (Mi.sIf (Mi.tV (Mi.e2 Mi.gEqU (Mi.e2 Mi.gMod (Mi.eVar 2) (Mi.eC (.int 8))) (Mi.eC (.int 6))))
    (Mi.sRet (Mi.e2 Mi.gAddU (Mi.eCutT (Mi.eVar 0) Mi.oNone (Mi.oSome (Mi.eVar 3))) (Mi.eCutT (Mi.eVar 0) (Mi.oSome (Mi.e2 Mi.gAddU (Mi.eVar 3) (Mi.eC (.int 1)))) Mi.oNone)))
    Mi.sNil)
  (Mi.sSeq (Mi.sIf (Mi.tV (Mi.e2 Mi.gEqU (Mi.e2 Mi.gMod (Mi.eVar 2) (Mi.eC (.int 8))) (Mi.eC (.int 7))))
    (Mi.sRet (Mi.e2 Mi.gAddU (Mi.e2 Mi.gAddU (Mi.eCutT (Mi.eVar 0) Mi.oNone (Mi.oSome (Mi.eVar 3))) (Mi.e2 Mi.gIxU (Mi.eC (.str [32, 40, 41, 97, 48, 45])) (Mi.e2 Mi.gMod (Mi.e2 Mi.gDiv (Mi.eVar 2) (Mi.eC (.int 8192))) (Mi.eC (.int 6))))) (Mi.eCutT (Mi.eVar 0) (Mi.oSome (Mi.eVar 3)) Mi.oNone)))
    Mi.sNil)
  (Mi.sRet (Mi.eVar 0)))))))
noncomputable def b__law_refused (C : Cal) : Sv :=
  (Mi.sSeq (Mi.sSet 1 (Mi.eC (.bl false)))
  (Mi.sSeq (Mi.sTryG subX (Mi.sEx (Mi.eCall C "read_question" (Mi.aCons (Mi.eVar 0) Mi.aNil))) [(some 2, "MarksError", Mi.xPut 1 (Mi.xAnd (Mi.xIs subX "BadText") (Mi.xAnd (Mi.xIs subX "ValueError") (Mi.xNot (Mi.xIs subX "NoNumber")))))] Mi.sNil)
  (Mi.sRet (Mi.eVar 1))))
noncomputable def b_law (C : Cal) : Sv :=
  (Mi.sSeq (Mi.sSet 1 (Mi.eCall C "_law_words" (Mi.aCons (Mi.eCall C "_law_built" (Mi.aCons (Mi.eVar 0) (Mi.aCons (Mi.eC (.int 12)) Mi.aNil))) (Mi.aCons (Mi.e2 Mi.gMod (Mi.e2 Mi.gDiv (Mi.eCall C "_law_cell_at" (Mi.aCons (Mi.eVar 0) (Mi.aCons (Mi.eC (.int 1)) Mi.aNil))) (Mi.eC (.int 3))) (Mi.eC (.int 4))) Mi.aNil))))
  (Mi.sSeq (Mi.sSet 2 (Mi.eCall C "_law_cut" (Mi.aCons (Mi.eCall C "_law_spaced" (Mi.aCons (Mi.eCall C "_law_spoilt" (Mi.aCons (Mi.eVar 1) (Mi.aCons (Mi.eVar 0) Mi.aNil))) (Mi.aCons (Mi.eCall C "_law_cell_at" (Mi.aCons (Mi.eVar 0) (Mi.aCons (Mi.eC (.int 1)) Mi.aNil))) Mi.aNil))) (Mi.aCons (Mi.eVar 0) Mi.aNil))))
  (Mi.sSeq (Mi.sSet 3 (Mi.eCall C "_law_fault" (Mi.aCons (Mi.eVar 2) Mi.aNil)))
  (Mi.sSeq (Mi.sSet 4 (Mi.eC .non))
  (Mi.sSeq (Mi.sSet 5 (Mi.eC (.bl false)))
  (Mi.sSeq (Mi.sTryG subX (Mi.sSet 6 (Mi.eCall C "read_question" (Mi.aCons (Mi.eVar 2) Mi.aNil))) [(some 7, "BadText", Mi.xPut 4 (Mi.xF "BadText" "place"))] (Mi.sSet 5 (Mi.e1 (Mi.gIsC sub TY "Question") (Mi.eVar 6))))
  (Mi.sSeq (Mi.sIf (Mi.tNot (Mi.tTru (Mi.e1 (Mi.gIsC sub TY "Question") (Mi.eCall C "read_question" (Mi.aCons (Mi.eC (.str [110, 111, 116, 32, 40, 97, 32, 105, 115, 32, 49, 41])) Mi.aNil)))))
    (Mi.sRet (Mi.eC (.bl false)))
    Mi.sNil)
  (Mi.sSeq (Mi.sIf (Mi.tV (Mi.e2 Mi.gIsN (Mi.eVar 3) (Mi.eC .non)))
    (Mi.sRet (Mi.eAnd (Mi.e2 Mi.gIsN (Mi.eVar 4) (Mi.eC .non)) (Mi.eVar 5)))
    Mi.sNil)
  (Mi.sRet (Mi.eAnd (Mi.eCall C "_law_whole" (Mi.aCons (Mi.eVar 4) Mi.aNil)) (Mi.eAnd (Mi.e2 Mi.gEqU (Mi.eVar 4) (Mi.eVar 3)) (Mi.eCall C "_law_refused" (Mi.aCons (Mi.eVar 2) Mi.aNil)))))))))))))
noncomputable def step (C : Cal) : Cal := fun f => if f = "Question.holds" then Mi.runF 2 2 (b_Question_holds C) else if f = "Every.holds" then Mi.runF 2 2 (b_Every_holds C) else if f = "Within.__init__" then Mi.runF 4 4 (b_Within___init__ C) else if f = "Within.holds" then Mi.runF 2 2 (b_Within_holds C) else if f = "Opposite.__init__" then Mi.runF 2 2 (b_Opposite___init__ C) else if f = "Opposite.holds" then Mi.runF 2 2 (b_Opposite_holds C) else if f = "Chain.__init__" then Mi.runF 2 2 (b_Chain___init__ C) else if f = "AllOf.holds" then Mi.runF 2 3 (b_AllOf_holds C) else if f = "OneOf.holds" then Mi.runF 2 3 (b_OneOf_holds C) else if f = "is_name" then Mi.runF 1 2 (b_is_name C) else if f = "figures_of" then Mi.runF 1 2 (b_figures_of C) else if f = "words_of" then Mi.runF 1 5 (b_words_of C) else if f = "Reader.__init__" then Mi.runF 2 2 (b_Reader___init__ C) else if f = "Reader.word_here" then Mi.runF 1 1 (b_Reader_word_here C) else if f = "Reader.place_here" then Mi.runF 1 1 (b_Reader_place_here C) else if f = "Reader.past" then Mi.runF 2 2 (b_Reader_past C) else if f = "Reader.whole_number" then Mi.runF 1 2 (b_Reader_whole_number C) else if f = "Reader.question" then Mi.runF 2 3 (b_Reader_question C) else if f = "Reader.chain" then Mi.runF 2 3 (b_Reader_chain C) else if f = "Reader.piece" then Mi.runF 2 3 (b_Reader_piece C) else if f = "Reader.inner" then Mi.runF 3 4 (b_Reader_inner C) else if f = "Reader.range_of" then Mi.runF 2 3 (b_Reader_range_of C) else if f = "read_question" then Mi.runF 1 3 (b_read_question C) else if f = "_law_cell_at" then Mi.runF 2 2 (b__law_cell_at C) else if f = "_law_whole" then Mi.runF 1 1 (b__law_whole C) else if f = "_law_mixed" then Mi.runF 2 3 (b__law_mixed C) else if f = "_law_name_of" then Mi.runF 1 1 (b__law_name_of C) else if f = "_law_names" then Mi.runF 2 9 (b__law_names C) else if f = "_law_value" then Mi.runF 2 2 (b__law_value C) else if f = "_law_leaf" then Mi.runF 3 6 (b__law_leaf C) else if f = "_law_built" then Mi.runF 2 13 (b__law_built C) else if f = "_law_wrapped" then Mi.runF 3 4 (b__law_wrapped C) else if f = "_law_words" then Mi.runF 2 5 (b__law_words C) else if f = "_law_spaced" then Mi.runF 2 7 (b__law_spaced C) else if f = "_law_split" then Mi.runF 1 4 (b__law_split C) else if f = "_law_is_name" then Mi.runF 1 2 (b__law_is_name C) else if f = "_law_are_figures" then Mi.runF 1 2 (b__law_are_figures C) else if f = "_law_begun" then Mi.runF 2 2 (b__law_begun C) else if f = "_law_ended" then Mi.runF 1 1 (b__law_ended C) else if f = "_law_next" then Mi.runF 3 3 (b__law_next C) else if f = "_law_fault" then Mi.runF 1 5 (b__law_fault C) else if f = "_law_odd_word" then Mi.runF 1 2 (b__law_odd_word C) else if f = "_law_spoilt" then Mi.runF 2 5 (b__law_spoilt C) else if f = "_law_cut" then Mi.runF 2 4 (b__law_cut C) else if f = "_law_refused" then Mi.runF 1 3 (b__law_refused C) else if f = "law" then Mi.runF 1 8 (b_law C) else fun _ _ => .bad
noncomputable def call : Nat → Cal
  | 0 => fun _ _ _ => .bad
  | n + 1 => step (call n)
theorem c_Question_holds (n : Nat) : call (n + 1) "Question.holds" = Mi.runF 2 2 (b_Question_holds (call n)) := by simp [call, step]
theorem c_Every_holds (n : Nat) : call (n + 1) "Every.holds" = Mi.runF 2 2 (b_Every_holds (call n)) := by simp [call, step]
theorem c_Within___init__ (n : Nat) : call (n + 1) "Within.__init__" = Mi.runF 4 4 (b_Within___init__ (call n)) := by simp [call, step]
theorem c_Within_holds (n : Nat) : call (n + 1) "Within.holds" = Mi.runF 2 2 (b_Within_holds (call n)) := by simp [call, step]
theorem c_Opposite___init__ (n : Nat) : call (n + 1) "Opposite.__init__" = Mi.runF 2 2 (b_Opposite___init__ (call n)) := by simp [call, step]
theorem c_Opposite_holds (n : Nat) : call (n + 1) "Opposite.holds" = Mi.runF 2 2 (b_Opposite_holds (call n)) := by simp [call, step]
theorem c_Chain___init__ (n : Nat) : call (n + 1) "Chain.__init__" = Mi.runF 2 2 (b_Chain___init__ (call n)) := by simp [call, step]
theorem c_AllOf_holds (n : Nat) : call (n + 1) "AllOf.holds" = Mi.runF 2 3 (b_AllOf_holds (call n)) := by simp [call, step]
theorem c_OneOf_holds (n : Nat) : call (n + 1) "OneOf.holds" = Mi.runF 2 3 (b_OneOf_holds (call n)) := by simp [call, step]
theorem c_is_name (n : Nat) : call (n + 1) "is_name" = Mi.runF 1 2 (b_is_name (call n)) := by simp [call, step]
theorem c_figures_of (n : Nat) : call (n + 1) "figures_of" = Mi.runF 1 2 (b_figures_of (call n)) := by simp [call, step]
theorem c_words_of (n : Nat) : call (n + 1) "words_of" = Mi.runF 1 5 (b_words_of (call n)) := by simp [call, step]
theorem c_Reader___init__ (n : Nat) : call (n + 1) "Reader.__init__" = Mi.runF 2 2 (b_Reader___init__ (call n)) := by simp [call, step]
theorem c_Reader_word_here (n : Nat) : call (n + 1) "Reader.word_here" = Mi.runF 1 1 (b_Reader_word_here (call n)) := by simp [call, step]
theorem c_Reader_place_here (n : Nat) : call (n + 1) "Reader.place_here" = Mi.runF 1 1 (b_Reader_place_here (call n)) := by simp [call, step]
theorem c_Reader_past (n : Nat) : call (n + 1) "Reader.past" = Mi.runF 2 2 (b_Reader_past (call n)) := by simp [call, step]
theorem c_Reader_whole_number (n : Nat) : call (n + 1) "Reader.whole_number" = Mi.runF 1 2 (b_Reader_whole_number (call n)) := by simp [call, step]
theorem c_Reader_question (n : Nat) : call (n + 1) "Reader.question" = Mi.runF 2 3 (b_Reader_question (call n)) := by simp [call, step]
theorem c_Reader_chain (n : Nat) : call (n + 1) "Reader.chain" = Mi.runF 2 3 (b_Reader_chain (call n)) := by simp [call, step]
theorem c_Reader_piece (n : Nat) : call (n + 1) "Reader.piece" = Mi.runF 2 3 (b_Reader_piece (call n)) := by simp [call, step]
theorem c_Reader_inner (n : Nat) : call (n + 1) "Reader.inner" = Mi.runF 3 4 (b_Reader_inner (call n)) := by simp [call, step]
theorem c_Reader_range_of (n : Nat) : call (n + 1) "Reader.range_of" = Mi.runF 2 3 (b_Reader_range_of (call n)) := by simp [call, step]
theorem c_read_question (n : Nat) : call (n + 1) "read_question" = Mi.runF 1 3 (b_read_question (call n)) := by simp [call, step]
theorem c__law_cell_at (n : Nat) : call (n + 1) "_law_cell_at" = Mi.runF 2 2 (b__law_cell_at (call n)) := by simp [call, step]
theorem c__law_whole (n : Nat) : call (n + 1) "_law_whole" = Mi.runF 1 1 (b__law_whole (call n)) := by simp [call, step]
theorem c__law_mixed (n : Nat) : call (n + 1) "_law_mixed" = Mi.runF 2 3 (b__law_mixed (call n)) := by simp [call, step]
theorem c__law_name_of (n : Nat) : call (n + 1) "_law_name_of" = Mi.runF 1 1 (b__law_name_of (call n)) := by simp [call, step]
theorem c__law_names (n : Nat) : call (n + 1) "_law_names" = Mi.runF 2 9 (b__law_names (call n)) := by simp [call, step]
theorem c__law_value (n : Nat) : call (n + 1) "_law_value" = Mi.runF 2 2 (b__law_value (call n)) := by simp [call, step]
theorem c__law_leaf (n : Nat) : call (n + 1) "_law_leaf" = Mi.runF 3 6 (b__law_leaf (call n)) := by simp [call, step]
theorem c__law_built (n : Nat) : call (n + 1) "_law_built" = Mi.runF 2 13 (b__law_built (call n)) := by simp [call, step]
theorem c__law_wrapped (n : Nat) : call (n + 1) "_law_wrapped" = Mi.runF 3 4 (b__law_wrapped (call n)) := by simp [call, step]
theorem c__law_words (n : Nat) : call (n + 1) "_law_words" = Mi.runF 2 5 (b__law_words (call n)) := by simp [call, step]
theorem c__law_spaced (n : Nat) : call (n + 1) "_law_spaced" = Mi.runF 2 7 (b__law_spaced (call n)) := by simp [call, step]
theorem c__law_split (n : Nat) : call (n + 1) "_law_split" = Mi.runF 1 4 (b__law_split (call n)) := by simp [call, step]
theorem c__law_is_name (n : Nat) : call (n + 1) "_law_is_name" = Mi.runF 1 2 (b__law_is_name (call n)) := by simp [call, step]
theorem c__law_are_figures (n : Nat) : call (n + 1) "_law_are_figures" = Mi.runF 1 2 (b__law_are_figures (call n)) := by simp [call, step]
theorem c__law_begun (n : Nat) : call (n + 1) "_law_begun" = Mi.runF 2 2 (b__law_begun (call n)) := by simp [call, step]
theorem c__law_ended (n : Nat) : call (n + 1) "_law_ended" = Mi.runF 1 1 (b__law_ended (call n)) := by simp [call, step]
theorem c__law_next (n : Nat) : call (n + 1) "_law_next" = Mi.runF 3 3 (b__law_next (call n)) := by simp [call, step]
theorem c__law_fault (n : Nat) : call (n + 1) "_law_fault" = Mi.runF 1 5 (b__law_fault (call n)) := by simp [call, step]
theorem c__law_odd_word (n : Nat) : call (n + 1) "_law_odd_word" = Mi.runF 1 2 (b__law_odd_word (call n)) := by simp [call, step]
theorem c__law_spoilt (n : Nat) : call (n + 1) "_law_spoilt" = Mi.runF 2 5 (b__law_spoilt (call n)) := by simp [call, step]
theorem c__law_cut (n : Nat) : call (n + 1) "_law_cut" = Mi.runF 2 4 (b__law_cut (call n)) := by simp [call, step]
theorem c__law_refused (n : Nat) : call (n + 1) "_law_refused" = Mi.runF 1 3 (b__law_refused (call n)) := by simp [call, step]
theorem c_law (n : Nat) : call (n + 1) "law" = Mi.runF 1 8 (b_law (call n)) := by simp [call, step]
end Pg

set_option linter.all false
/-! # Ms: how the small world's words are read -/
namespace Mi
theorem le_big {n : Nat} (h : n ≤ 1000000) : n ≤ big := by rw [big_is]; omega
@[simp] theorem le_big_t {n : Nat} (h : n ≤ 1000000) : (n ≤ big) = True := eq_true (le_big h)
@[simp] theorem lim30_t {n : Nat} (h : n < 1073741824) : (n < lim30) = True := eq_true (by rw [lim30_is]; exact h)
@[simp] theorem lim64N_t {n : Nat} (h : n < 2 ^ 64) : (n < lim64N) = True := eq_true (by rw [lim64N_is]; exact h)
@[simp] theorem limE_t {n : Int} (h : n ≤ 1000000) : (n ≤ limE) = True := eq_true (by rw [limE_is]; exact h)
theorem small_of {i : Int} (h : -(2 ^ 64) < i) (h2 : i < 2 ^ 64) : small64 i = true := by unfold small64; rw [lim64_is]; exact decide_eq_true ⟨h, h2⟩
theorem small_nn {i : Int} (h : 0 ≤ i) (h2 : i < 18446744073709551616) : small64 i = true := small_of (by omega) (by omega)
theorem in62_of {i : Int} (h : 0 ≤ i) (h2 : i < 4611686018427387904) : in62 i = true := by unfold in62; rw [lim62_is]; exact decide_eq_true ⟨by omega, by omega⟩
@[simp] theorem lt_big_t {n : Nat} (h : n ≤ 1000000) : (n < big) = True := eq_true (by rw [big_is]; omega)
@[simp] theorem sSeq_ap (s t : Sv) (m : Me) : sSeq s t m = (s m).seq t := rfl
@[simp] theorem sNil_ap (m : Me) : sNil m = .nx m := rfl
@[simp] theorem sSet_ap (i : Nat) (e : Ev) (m : Me) : sSet i e m = (e m).so fun x m1 => match x with | .v d => if i < m1.σ.length then .nx ⟨m1.σ.set i (some (.v d)), m1.S⟩ else .bad | _ => .bad := rfl
@[simp] theorem sOwn_ap (i : Nat) (l : Lv) (m : Me) : sOwn i l m = (l m).so fun xs m1 => if i < m1.σ.length then .nx ⟨m1.σ.set i (some (.o (.lst xs))), m1.S⟩ else .bad := rfl
@[simp] theorem sOwnD_ap (i : Nat) (m : Me) : sOwnD i m = if i < m.σ.length then .nx ⟨m.σ.set i (some (.o (.dct []))), m.S⟩ else .bad := rfl
@[simp] theorem sBd_ap (b : Bd) (e : Ev) (m : Me) : sBd b e m = (e m).so fun x m1 => match x with | .v d => (match b.set d m1.σ with | some σ => .nx ⟨σ, m1.S⟩ | none => .bad) | _ => .bad := rfl
@[simp] theorem sEx_ap (e : Ev) (m : Me) : sEx e m = (e m).so fun _ m1 => .nx m1 := rfl
@[simp] theorem sRet_ap (e : Ev) (m : Me) : sRet e m = (e m).so fun x m1 => match x with | .v d => .rt d m1 | _ => .bad := rfl
@[simp] theorem sRetN_ap (m : Me) : sRetN m = .rt .non m := rfl
@[simp] theorem sIf_ap (t : Tv) (a b : Sv) (m : Me) : sIf t a b m = (t m).so fun x m1 => if x then a m1 else b m1 := rfl
@[simp] theorem sBk_ap (m : Me) : sBk m = .bk m := rfl
@[simp] theorem sCt_ap (m : Me) : sCt m = .ct m := rfl
@[simp] theorem sFor_ap (b : Bd) (it : Iv) (body : Sv) (m : Me) : sFor b it body m = (it m).so fun xs m1 => forL b body xs m1 := rfl
@[simp] theorem eC_ap (d : D) (m : Me) : eC d m = .ok (.v d) m := rfl
@[simp] theorem eVar_ap (i : Nat) (σ : Env) (S : List SC) : eVar i ⟨σ, S⟩ = match σ[i]? with | some (some (.v d)) => .ok (.v d) ⟨σ, S⟩ | some (some (.o _)) => .ok (.sl i) ⟨σ, S⟩ | _ => .bad := rfl
@[simp] theorem eFrz_ap (i : Nat) (σ : Env) (S : List SC) : eFrz i ⟨σ, S⟩ = match σ[i]? with | some (some (.o (.lst xs))) => .ok (.v (.lst xs)) ⟨σ.set i (some (.v (.lst xs))), S⟩ | some (some (.o (.dct kvs))) => .ok (.v (.dct kvs)) ⟨σ.set i (some (.v (.dct kvs))), S⟩ | _ => .bad := rfl
@[simp] theorem e2_ap (g) (a b : Ev) (m : Me) : e2 g a b m = (a m).bind fun x m1 => (b m1).bind fun y m2 => (Res.opt (g x y m2) m2).bind fun d m3 => .ok (.v d) m3 := rfl
@[simp] theorem e1_ap (g) (a : Ev) (m : Me) : e1 g a m = (a m).bind fun x m1 => (Res.opt (g x m1) m1).bind fun d m3 => .ok (.v d) m3 := rfl
@[simp] theorem eA_ap (g) (a : Av) (m : Me) : eA g a m = (a m).bind fun ps m1 => (Res.opt (g ps m1) m1).bind fun d m2 => .ok (.v d) m2 := rfl
@[simp] theorem lA_ap (g) (a : Av) (m : Me) : lA g a m = (a m).bind fun ps m1 => Res.opt (g ps m1) m1 := rfl
@[simp] theorem eAK_ap (g) (a k : Av) (m : Me) : eAK g a k m = (a m).bind fun ps m1 => (k m1).bind fun zs m2 => (Res.opt (g ps zs m2) m2).bind fun d m3 => .ok (.v d) m3 := rfl
@[simp] theorem aNil_ap (m : Me) : aNil m = .ok [] m := rfl
@[simp] theorem aCons_ap (a : Ev) (r : Av) (m : Me) : aCons a r m = (a m).bind fun x m1 => (r m1).bind fun xs m2 => .ok (x :: xs) m2 := rfl
@[simp] theorem eTup_ap (a : Av) (m : Me) : eTup a m = (a m).bind fun ps m1 => match PV.ds ps with | some xs => if xs.length ≤ big then .ok (.v (.tup xs)) m1 else .bad | none => .bad := rfl
@[simp] theorem lDisp_ap (a : Av) (m : Me) : lDisp a m = (a m).bind fun ps m1 => match PV.ds ps with | some xs => if xs.length ≤ big then .ok xs m1 else .bad | none => .bad := rfl
@[simp] theorem eL_ap (l : Lv) (m : Me) : eL l m = (l m).bind fun xs m1 => .ok (.v (.lst xs)) m1 := rfl
@[simp] theorem lCat_ap (a b : Ev) (m : Me) : lCat a b m = (a m).bind fun x m1 => (b m1).bind fun y m2 => match m2.cl x, m2.cl y with
  | some (.lst xs), some (.lst ys) => if xs.length + ys.length ≤ big then .ok (xs ++ ys) m2 else .bad
  | _, _ => .bad := rfl
@[simp] theorem oNone_ap (m : Me) : oNone m = .ok none m := rfl
@[simp] theorem oSome_ap (e : Ev) (m : Me) : oSome e m = (e m).bind fun x m1 => match x with | .v (.int i) => .ok (some i) m1 | _ => .bad := rfl
@[simp] theorem lCut_ap (a : Ev) (lo hi : Ov) (m : Me) : lCut a lo hi m = (a m).bind fun x m1 => (lo m1).bind fun l m2 => (hi m2).bind fun h m3 => match x, m3.cl x with
  | .v (.scr xs), _ => .ok (cut xs l h) m3
  | _, some (.lst xs) => .ok (cut xs l h) m3
  | _, _ => .bad := rfl
@[simp] theorem eCutT_ap (a : Ev) (lo hi : Ov) (m : Me) : eCutT a lo hi m = (a m).bind fun x m1 => (lo m1).bind fun l m2 => (hi m2).bind fun h m3 => match x with
  | .v (.str z) => if z.length ≤ big then .ok (.v (.str (cut z l h))) m3 else .bad
  | _ => .bad := rfl
@[simp] theorem tV_ap (e : Ev) (m : Me) : tV e m = (e m).bind fun x m1 => match x with | .v (.bl b) => .ok b m1 | _ => .bad := rfl
@[simp] theorem tAnd_ap (a b : Tv) (m : Me) : tAnd a b m = (a m).bind fun x m1 => if x then b m1 else .ok false m1 := rfl
@[simp] theorem tOr_ap (a b : Tv) (m : Me) : tOr a b m = (a m).bind fun x m1 => if x then .ok true m1 else b m1 := rfl
@[simp] theorem tNot_ap (a : Tv) (m : Me) : tNot a m = (a m).bind fun x m1 => .ok (!x) m1 := rfl
@[simp] theorem tTru_ap (e : Ev) (m : Me) : tTru e m = (e m).bind fun x m1 => match x with
  | .v (.bl b) => .ok b m1
  | .v (.int i) => .ok (i != 0) m1
  | .v .non => .ok false m1
  | _ => match m1.items x with | some xs => .ok (!xs.isEmpty) m1 | none => .bad := rfl
@[simp] theorem tYes_ap (m : Me) : tYes m = .ok true m := rfl
@[simp] theorem eIf_ap (t : Tv) (a b : Ev) (m : Me) : eIf t a b m = (t m).bind fun x m1 => if x then a m1 else b m1 := rfl
@[simp] theorem eAnd_ap (a b : Ev) (m : Me) : eAnd a b m = (a m).bind fun x m1 => match x with | .v (.bl true) => b m1 | .v (.bl false) => .ok (.v (.bl false)) m1 | _ => .bad := rfl
@[simp] theorem eOr_ap (a b : Ev) (m : Me) : eOr a b m = (a m).bind fun x m1 => match x with | .v (.bl true) => .ok (.v (.bl true)) m1 | .v (.bl false) => b m1 | _ => .bad := rfl
@[simp] theorem eChain_ap (p q : Int → Int → Bool) (a b c : Ev) (m : Me) : eChain p q a b c m = (a m).bind fun x m1 => (b m1).bind fun y m2 => match x, y with
  | .v (.int i), .v (.int j) => if p i j then (c m2).bind fun z m3 => (match z with
      | .v (.int k) => .ok (.v (.bl (q j k))) m3
      | _ => .bad) else .ok (.v (.bl false)) m2
  | _, _ => .bad := rfl
@[simp] theorem iRg1_ap (a : Ev) (m : Me) : iRg1 a m = (a m).bind fun x m1 => match x with | .v (.int j) => if in62 j then .ok (intsL 0 j.toNat) m1 else .bad | _ => .bad := rfl
@[simp] theorem iRg2_ap (a b : Ev) (m : Me) : iRg2 a b m = (a m).bind fun x m1 => (b m1).bind fun y m2 => match x, y with
  | .v (.int i), .v (.int j) => if in62 i && in62 j then .ok (intsL i (j - i).toNat) m2 else .bad
  | _, _ => .bad := rfl
@[simp] theorem iAny_ap (e : Ev) (m : Me) : iAny e m = (e m).bind fun x m1 => match x with
  | .v (.lst xs) => .ok xs m1
  | .v (.scr xs) => .ok xs m1
  | .v (.tup xs) => .ok xs m1
  | .v (.str z) => .ok (z.map fun c => .str [c]) m1
  | _ => .bad := rfl
@[simp] theorem iEnum_ap (e : Ev) (m : Me) : iEnum e m = (e m).bind fun x m1 => match x with | .v (.lst xs) => .ok (enum xs) m1 | _ => .bad := rfl
@[simp] theorem eCall_ap (C : Cal) (f : String) (a : Av) (m : Me) : eCall C f a m = (a m).bind fun ps m1 => match PV.ds ps with | some ds => (C f ds m1.S).res m1.σ | none => .bad := rfl
@[simp] theorem eMeth_ap (C : Cal) (T : Tb) (f : String) (o : Ev) (a : Av) (m : Me) : eMeth C T f o a m = match o m with
  | .ok x m1 => (match m1.obj x, x.d with
    | some (c, fs), some d => (match T.mt c f, fs.lookup f with
      | some key, none => (a m1).bind fun ps m2 => (match PV.ds ps with
        | some ds => (C key (d :: ds) m2.S).res m2.σ
        | none => .bad)
      | _, _ => .bad)
    | _, _ => .bad)
  | _ => .bad := rfl
@[simp] theorem eFld_ap (T : Tb) (f : String) (o : Ev) (m : Me) : eFld T f o m = (o m).bind fun x m1 => match m1.obj x with
  | some (c, fs) => if T.fl c f then (match fs.lookup f with | some (.v d) => .ok (.v d) m1 | _ => .bad) else .bad
  | none => .bad := rfl
@[simp] theorem eMake0_ap (T : Tb) (c : String) (m : Me) : eMake0 T c m = if T.ini c = some "" then .ok (.v (.obj c [])) m else .bad := rfl
@[simp] theorem eMut_ap (g) (a : Ev) (as : Av) (m : Me) : eMut g a as m = (a m).bind fun x m1 => if isL (m1.own x) then (as m1).bind fun ps m2 => (match m2.own x, PV.ds ps with
  | some (.lst xs), some ds => (match g xs ds with | some (d, ys) => .ok (.v d) (m2.put x (.lst ys)) | none => .bad)
  | _, _ => .bad) else .bad := rfl
@[simp] theorem sPutK_ap (a i e : Ev) (m : Me) : sPutK a i e m = (e m).so fun v m1 => (a m1).so fun x m2 => (i m2).so fun y m3 => match m3.own x, ky y, v with
  | some (.dct kvs), some k, .v d => if kvs.length < big then .nx (m3.put x (.dct (putKv kvs k d))) else .bad
  | _, _, _ => .bad := rfl
@[simp] theorem sSetIx_ap (a i e : Ev) (m : Me) : sSetIx a i e m = (e m).so fun v m1 => (a m1).so fun x m2 => (i m2).so fun y m3 => match m3.own x, y, v with
  | some (.lst xs), .v (.int k), .v d => (match ixN xs.length k with | some j => .nx (m3.put x (.lst (xs.set j d))) | none => .bad)
  | _, _, _ => .bad := rfl
@[simp] theorem sFld_ap (T : Tb) (f : String) (o e : Ev) (m : Me) : sFld T f o e m = (e m).so fun y m1 => (o m1).so fun x m2 => match x, y with
  | .v (.ref n), .v d => (match m2.S[n]? with
    | some (.ins c fs) => if T.fl c f ∧ fs.length < 1000 ∧ (fs.all fun p => match p.2 with | .v _ => true | _ => false) then .nx ⟨m2.σ, m2.S.set n (.ins c (putF fs f (.v d)))⟩ else .bad
    | _ => .bad)
  | _, _ => .bad := rfl
/-! ### operators -/
@[simp] theorem gAddU_int (i j : Int) (m : Me) : gAddU (.v (.int i)) (.v (.int j)) m = some (.int (i + j)) := rfl
theorem gAddU_str (a b : Tx) (m : Me) (h : a.length + b.length ≤ big) : gAddU (.v (.str a)) (.v (.str b)) m = some (.str (a ++ b)) := by simp [gAddU, orG, gAdd, h]
theorem gAddU_lst (a b : List D) (m : Me) (h : a.length + b.length ≤ big) : gAddU (.v (.lst a)) (.v (.lst b)) m = some (.lst (a ++ b)) := by simp [gAddU, orG, gAdd, gCat, Me.cl, h]
@[simp] theorem gSub_int (i j : Int) (m : Me) : gSub (.v (.int i)) (.v (.int j)) m = some (.int (i - j)) := rfl
theorem gMul_int (i j : Int) (m : Me) (h : (small64 i || small64 j) = true) : gMul (.v (.int i)) (.v (.int j)) m = some (.int (i * j)) := by simp [gMul, gI, h]
theorem gMod_int (i j : Int) (m : Me) (h : j ≠ 0) : gMod (.v (.int i)) (.v (.int j)) m = some (.int (i.fmod j)) := by simp [gMod, gI, h]
theorem gDiv_int (i j : Int) (m : Me) (h : j ≠ 0) (h2 : j.natAbs < lim30) : gDiv (.v (.int i)) (.v (.int j)) m = some (.int (i.fdiv j)) := by simp [gDiv, gI, h, h2]
theorem gPow_int (i j : Int) (m : Me) (h : 0 ≤ j) (h1 : j ≤ limE) (h2 : i.natAbs < lim64N) : gPow (.v (.int i)) (.v (.int j)) m = some (.int (i ^ j.toNat)) := by simp [gPow, gI, h, h1, h2]
@[simp] theorem gNeg_int (i : Int) (m : Me) : gNeg (.v (.int i)) m = some (.int (-i)) := rfl
@[simp] theorem gCmp_int (p) (i j : Int) (m : Me) : gCmp p (.v (.int i)) (.v (.int j)) m = some (.bl (p i j)) := rfl
@[simp] theorem gNot_bl (b : Bool) (m : Me) : gNot (.v (.bl b)) m = some (.bl (!b)) := rfl
@[simp] theorem gEqU_int (i j : Int) (m : Me) : gEqU (.v (.int i)) (.v (.int j)) m = some (.bl (i == j)) := rfl
@[simp] theorem gNeU_int (i j : Int) (m : Me) : gNeU (.v (.int i)) (.v (.int j)) m = some (.bl (!(i == j))) := rfl
@[simp] theorem gEqU_bl (i j : Bool) (m : Me) : gEqU (.v (.bl i)) (.v (.bl j)) m = some (.bl (i == j)) := rfl
@[simp] theorem gNeU_bl (i j : Bool) (m : Me) : gNeU (.v (.bl i)) (.v (.bl j)) m = some (.bl (!(i == j))) := rfl
@[simp] theorem gEqU_str (i j : Tx) (m : Me) : gEqU (.v (.str i)) (.v (.str j)) m = some (.bl (i == j)) := rfl
@[simp] theorem gNeU_str (i j : Tx) (m : Me) : gNeU (.v (.str i)) (.v (.str j)) m = some (.bl (!(i == j))) := rfl
@[simp] theorem gIxU_lst (xs : List D) (i : Int) (m : Me) : gIxU (.v (.lst xs)) (.v (.int i)) m = atI xs i := by
  show (match atI xs i with | some d => some d | none => none) = _
  cases atI xs i <;> rfl
@[simp] theorem gIxU_tup (xs : List D) (i : Int) (m : Me) : gIxU (.v (.tup xs)) (.v (.int i)) m = atI xs i := by
  show (match atI xs i with | some d => some d | none => none) = _
  cases atI xs i <;> rfl
@[simp] theorem gIxU_scr (xs : List D) (i : Int) (m : Me) : gIxU (.v (.scr xs)) (.v (.int i)) m = atI xs i := by
  show (match atI xs i with | some d => some d | none => none) = _
  cases atI xs i <;> rfl
theorem gIxU_str (z : Tx) (i : Int) (m : Me) (h : z.length ≤ big) : gIxU (.v (.str z)) (.v (.int i)) m = (atI z i).map fun c => .str [c] := by
  unfold gIxU orG gIxT
  show (match (if z.length ≤ big then (atI z i).map fun c => D.str [c] else none) with | some d => some d | none => none) = _
  rw [if_pos h]
  cases (atI z i).map fun c => D.str [c] <;> rfl
theorem gIxU_dct (kvs : List (Ky × D)) (k : D) (m : Me) {q : Ky} (hk : kyOf k = some q) : gIxU (.v (.dct kvs)) (.v k) m = look kvs q := by
  unfold gIxU orG
  have h1 : gIx (.v (.dct kvs)) (.v k) m = none := by unfold gIx; rfl
  have h2 : gIxT (.v (.dct kvs)) (.v k) m = none := by cases k <;> rfl
  rw [h1, h2]
  show (match m.kvs (.v (.dct kvs)), ky (.v k) with | some kvs, some k => look kvs k | _, _ => none) = _
  rw [show ky (.v k) = some q from hk]
  rfl
theorem gIxU_sl (i : Nat) (j : Int) (m : Me) {xs : List D} (h : m.slot i = some (.lst xs)) : gIxU (.sl i) (.v (.int j)) m = atI xs j := by
  unfold gIxU orG gIx
  have h0 : m.items (.sl i) = some xs := by unfold Me.items Me.cl; simp only [h]
  rw [h0]
  show (match atI xs j with | some d => some d | none => orG gIxT gKey (.sl i) (.v (.int j)) m) = _
  cases q : atI xs j with
  | some d => rfl
  | none =>
    unfold orG gIxT gKey Me.kvs Me.cl
    simp only [h]
end Mi
namespace Mi
/-! ### loops -/
/-- the body comes to its end, and there P holds -/
def Out.go (o : Out) (P : Me → Prop) : Prop := match o with | .nx m => P m | .ct m => P m | _ => False
@[simp] theorem Out.go_nx (m : Me) (P : Me → Prop) : (Out.nx m).go P = P m := rfl
@[simp] theorem Out.go_ct (m : Me) (P : Me → Prop) : (Out.ct m).go P = P m := rfl
def Bd.go (b : Bd) (x : D) (body : Sv) (m : Me) (P : Me → Prop) : Prop := match b.set x m.σ with | some σ1 => (body ⟨σ1, m.S⟩).go P | none => False
@[simp] theorem Bd.go_n (i : Nat) (x : D) (body : Sv) (σ : Env) (S : List SC) (P : Me → Prop) : (Bd.n i).go x body ⟨σ, S⟩ P = if i < σ.length then (body ⟨σ.set i (some (.v x)), S⟩).go P else False := by
  unfold Bd.go Bd.set
  by_cases h : i < σ.length <;> simp [h]
theorem forL_inv {b : Bd} {body : Sv} (I : Nat → Me → Prop) : ∀ (xs : List D) (m : Me) (k : Nat), I k m →
    (∀ i x m, xs[i]? = some x → I (k + i) m → b.go x body m (I (k + i + 1))) → ∃ m', forL b body xs m = .nx m' ∧ I (k + xs.length) m'
  | [], m, k, h0, _ => ⟨m, rfl, h0⟩
  | x :: xs, m, k, h0, hs => by
    have h1 := hs 0 x m rfl h0
    unfold Bd.go at h1
    cases q : b.set x m.σ with
    | none => rw [q] at h1; exact h1.elim
    | some σ1 =>
      rw [q] at h1
      dsimp only at h1
      have fin : ∀ m2, I (k + 0 + 1) m2 → (body ⟨σ1, m.S⟩ = .nx m2 ∨ body ⟨σ1, m.S⟩ = .ct m2) → ∃ m', forL b body (x :: xs) m = .nx m' ∧ I (k + (x :: xs).length) m' := fun m2 h2 e2 => by
        obtain ⟨m', e3, h3⟩ := forL_inv I xs m2 (k + 1) h2 fun i y m hy hi => by
          have q : k + 1 + i = k + (i + 1) := by omega
          rw [q] at hi ⊢
          exact hs (i + 1) y m (by simpa using hy) hi
        refine ⟨m', ?_, by rw [show k + (x :: xs).length = k + 1 + xs.length by simp; omega]; exact h3⟩
        unfold forL
        rw [q]
        rcases e2 with e2 | e2 <;> simp only [e2, e3]
      cases q2 : body ⟨σ1, m.S⟩ with
      | nx m2 => rw [q2] at h1; exact fin m2 h1 (.inl q2)
      | ct m2 => rw [q2] at h1; exact fin m2 h1 (.inr q2)
      | rt d m2 => rw [q2] at h1; exact h1.elim
      | bk m2 => rw [q2] at h1; exact h1.elim
      | ex x m2 => rw [q2] at h1; exact h1.elim
      | bad => rw [q2] at h1; exact h1.elim
/-- a loop over 0 .. n-1 -/
theorem for_range {b : Bd} {body : Sv} (I : Nat → Me → Prop) (n : Nat) (m : Me) (h0 : I 0 m)
    (hs : ∀ (i : Nat) m, i < n → I i m → b.go (.int i) body m (I (i + 1))) : ∃ m', forL b body (intsL 0 n) m = .nx m' ∧ I n m' := by
  have := forL_inv (b := b) (body := body) I (intsL 0 n) m 0 h0 fun i x m hx hi => by
    unfold intsL at hx
    rw [List.getElem?_map] at hx
    obtain ⟨j, hj, rfl⟩ := Option.map_eq_some_iff.mp hx
    obtain ⟨hl, rfl⟩ := List.getElem?_eq_some_iff.mp hj
    simp only [List.getElem_range, Int.zero_add, Nat.zero_add, List.length_range] at hi hl ⊢
    exact hs i m hl hi
  simpa [intsL] using this
theorem comp_map {b : Bd} {e : Ev} {σ : Env} {S : List SC} (f : D → D) : ∀ (xs acc : List D), (∀ x ∈ xs, ∃ σ1, b.set x σ = some σ1 ∧ e ⟨σ1, S⟩ = .ok (.v (f x)) ⟨σ1, S⟩) → acc.length + xs.length ≤ big → comp b tYes e σ xs S acc = .ok (acc ++ xs.map f) ⟨σ, S⟩
  | [], acc, _, _ => by simp [comp]
  | x :: xs, acc, h, hl => by
    obtain ⟨σ1, e1, e2⟩ := h x List.mem_cons_self
    rw [List.length_cons] at hl
    have := comp_map f xs (acc ++ [f x]) (fun y hy => h y (List.mem_cons_of_mem _ hy)) (by rw [List.length_append, List.length_singleton]; omega)
    unfold comp
    rw [e1]
    simp only [tYes_ap]
    rw [if_pos trivial, e2]
    dsimp only
    rw [if_pos ⟨rfl, by omega⟩, this]
    simp
theorem comp_filter {b : Bd} {t : Tv} {e : Ev} {σ : Env} {S : List SC} (p : D → Bool) (f : D → D) : ∀ (xs acc : List D), (∀ x ∈ xs, ∃ σ1, b.set x σ = some σ1 ∧ t ⟨σ1, S⟩ = .ok (p x) ⟨σ1, S⟩ ∧ (p x = true → e ⟨σ1, S⟩ = .ok (.v (f x)) ⟨σ1, S⟩)) → acc.length + xs.length ≤ big → comp b t e σ xs S acc = .ok (acc ++ (xs.filter p).map f) ⟨σ, S⟩
  | [], acc, _, _ => by simp [comp]
  | x :: xs, acc, h, hl => by
    obtain ⟨σ1, e1, e2, e3⟩ := h x List.mem_cons_self
    rw [List.length_cons] at hl
    unfold comp
    rw [e1]
    dsimp only
    rw [e2]
    cases q : p x with
    | true =>
      have := comp_filter p f xs (acc ++ [f x]) (fun y hy => h y (List.mem_cons_of_mem _ hy)) (by rw [List.length_append, List.length_singleton]; omega)
      dsimp only
      rw [if_pos rfl, e3 q]
      dsimp only
      rw [if_pos ⟨rfl, by omega⟩, this]
      simp [q]
    | false =>
      have := comp_filter p f xs acc (fun y hy => h y (List.mem_cons_of_mem _ hy)) (by omega)
      dsimp only
      rw [if_pos rfl, this]
      simp [q]
end Mi
namespace Mi
/-! ### lists that are made item by item -/
inductive Two {α β : Type} (P : α → β → Prop) : List α → List β → Prop
  | nil : Two P [] []
  | cons {a b as bs} : P a b → Two P as bs → Two P (a :: as) (b :: bs)
theorem Two.length {α β : Type} {P : α → β → Prop} {xs : List α} {ys : List β} (h : Two P xs ys) : xs.length = ys.length := by
  induction h with
  | nil => rfl
  | cons _ _ ih => simp [ih]
theorem comp_two {b : Bd} {e : Ev} {σ : Env} {S : List SC} : ∀ {xs ys : List D} (acc : List D), Two (fun x y => ∃ σ1, b.set x σ = some σ1 ∧ e ⟨σ1, S⟩ = .ok (.v y) ⟨σ1, S⟩) xs ys → acc.length + xs.length ≤ big → comp b tYes e σ xs S acc = .ok (acc ++ ys) ⟨σ, S⟩
  | _, _, acc, .nil, _ => by simp [comp]
  | _, _, acc, .cons (a := x) (b := y) (as := xs) (bs := ys) ⟨σ1, e1, e2⟩ t, hl => by
    rw [List.length_cons] at hl
    have := comp_two (acc ++ [y]) t (by rw [List.length_append, List.length_singleton]; omega)
    unfold comp
    rw [e1]
    simp only [tYes_ap]
    rw [if_pos trivial, e2]
    dsimp only
    rw [if_pos ⟨rfl, by omega⟩, this]
    simp
theorem two_imp {α β : Type} {P R : α → β → Prop} (h : ∀ a b, P a b → R a b) : ∀ {xs : List α} {ys : List β}, Two P xs ys → Two R xs ys
  | _, _, .nil => .nil
  | _, _, .cons p t => .cons (h _ _ p) (two_imp h t)
/-- the items whose mark is true -/
def sel {α : Type} : List α → List Bool → List α
  | x :: xs, true :: bs => x :: sel xs bs
  | _ :: xs, false :: bs => sel xs bs
  | _, _ => []
theorem comp_sel {b : Bd} {t : Tv} {e : Ev} {σ : Env} {S : List SC} : ∀ {xs : List D} {bs : List Bool} (acc : List D), Two (fun x c => ∃ σ1, b.set x σ = some σ1 ∧ t ⟨σ1, S⟩ = .ok c ⟨σ1, S⟩ ∧ e ⟨σ1, S⟩ = .ok (.v x) ⟨σ1, S⟩) xs bs → acc.length + xs.length ≤ big → comp b t e σ xs S acc = .ok (acc ++ sel xs bs) ⟨σ, S⟩
  | _, _, acc, .nil, _ => by simp [comp, sel]
  | _, _, acc, .cons (a := x) (b := c) (as := xs) (bs := bs) ⟨σ1, e1, e2, e3⟩ t, hl => by
    rw [List.length_cons] at hl
    unfold comp
    rw [e1]
    dsimp only
    rw [e2]
    cases c with
    | true =>
      have := comp_sel (acc ++ [x]) t (by rw [List.length_append, List.length_singleton]; omega)
      dsimp only
      rw [if_pos rfl, e3]
      dsimp only
      rw [if_pos ⟨rfl, by omega⟩, this]
      simp [sel]
    | false =>
      have := comp_sel acc t (by omega)
      dsimp only
      rw [if_pos rfl, this]
      rfl
theorem sel_le {α : Type} : ∀ (xs : List α) (bs : List Bool), (sel xs bs).length ≤ xs.length
  | [], [] => Nat.le_refl _
  | [], _ :: _ => Nat.le_refl _
  | _ :: _, [] => Nat.zero_le _
  | _ :: xs, true :: bs => by simp [sel]; exact sel_le xs bs
  | _ :: xs, false :: bs => by simp [sel]; exact Nat.le_succ_of_le (sel_le xs bs)
theorem sel_all {α : Type} : ∀ {xs : List α} {bs : List Bool}, xs.length = bs.length → ((sel xs bs).length = xs.length ↔ bs.all id = true)
  | [], [], _ => by simp [sel]
  | _ :: xs, true :: bs, h => by simpa [sel] using sel_all (xs := xs) (bs := bs) (by simpa using h)
  | _ :: xs, false :: bs, h => by
    have := sel_le xs bs
    simp [sel]; omega
theorem sel_nil {α : Type} : ∀ {xs : List α} {bs : List Bool}, xs.length = bs.length → (sel xs bs = [] ↔ bs.any id = false)
  | [], [], _ => by simp [sel]
  | _ :: xs, true :: bs, h => by simp [sel]
  | _ :: xs, false :: bs, h => by simpa [sel] using sel_nil (xs := xs) (bs := bs) (by simpa using h)
theorem lComp_ok {own : List Nat} {b : Bd} {it : Iv} {t : Tv} {e : Ev} {m m1 : Me} {xs ys : List D} {S2 : List SC} (h1 : it m = .ok xs m1) (h2 : own.all (fun j => (m1.slot j).isNone) = true) (h3 : comp b t e (wipe m1.σ own) xs m1.S [] = .ok ys ⟨wipe m1.σ own, S2⟩) : lComp own b it t e m = .ok ys ⟨m1.σ, S2⟩ := by
  unfold lComp
  rw [h1]
  simp only [Res.bind_ok]
  rw [if_pos h2, h3]
@[simp] theorem set_last {α : Type} (S : List α) (x y : α) : (S ++ [x]).set S.length y = S ++ [y] := by
  rw [List.set_append_right _ _ (Nat.le_refl _)]; simp
@[simp] theorem get_last {α : Type} (S : List α) (x : α) : (S ++ [x])[S.length]? = some x := by simp
theorem eMakeF_ok {C : Cal} {T : Tb} {c key : String} {a : Av} {m m1 : Me} {ps : List PV} {ds : List D} {fs : List (String × FV)} {l : List (String × D)} (ha : a m = .ok ps m1) (hd : PV.ds ps = some ds) (hk : T.ini c = some key)
    (hc : C key (.ref m1.S.length :: ds) (m1.S ++ [.ins c []]) = .ok .non (m1.S ++ [.ins c fs])) (hp : plainF fs = some l) (hb : D.blwf m1.S.length l = true) : eMakeF C T c a m = .ok (.v (.obj c l)) m1 := by
  unfold eMakeF
  rw [ha]
  simp only [Res.bind_ok, hd, hk, hc]
  simp [hp, hb]
theorem eLend_ok {i : Nat} {e : Ev} {m : Me} {c c' : Cl} {d : D} (hs : m.slot i = some c) (he : e ⟨m.σ.set i (some (.v (.ref m.S.length))), m.S ++ [.c c]⟩ = .ok (.v d) ⟨m.σ.set i (some (.v (.ref m.S.length))), m.S ++ [.c c']⟩)
    (hd : d.blw m.S.length = true) (hc : c'.blw m.S.length = true) : eLend i e m = .ok (.v d) ⟨m.σ.set i (some (.o c')), m.S⟩ := by
  unfold eLend
  rw [hs]
  simp only [he]
  simp [hd, hc]
end Mi
namespace Mi
theorem forL_cons {b : Bd} {body : Sv} {x : D} {xs : List D} {m m2 : Me} {σ1 : Env} (h1 : b.set x m.σ = some σ1) (h2 : body ⟨σ1, m.S⟩ = .nx m2) : forL b body (x :: xs) m = forL b body xs m2 := by
  rw [forL, h1]; simp only [h2]
end Mi

set_option linter.all false
/-! # Mt: how the further words are read -/
namespace Mi
@[simp] theorem sRaise0_ap (c : String) (m : Me) : sRaise0 c m = .ex ⟨c, []⟩ m := rfl
@[simp] theorem sRaiseF_ap (c f : String) (e : Ev) (m : Me) : sRaiseF c f e m = (e m).so fun x m1 => match x with | .v d => .ex ⟨c, [(f, d)]⟩ m1 | _ => .bad := rfl
@[simp] theorem iEnumU_ap (e : Ev) (m : Me) : iEnumU e m = (e m).bind fun x m1 => match x with
  | .v (.lst xs) => .ok (enum xs) m1
  | .v (.str z) => .ok (enum (z.map fun c => .str [c])) m1
  | _ => .bad := rfl
@[simp] theorem iZip_ap (a b : Ev) (m : Me) : iZip a b m = (a m).bind fun x m1 => (b m1).bind fun y m2 => match x, y with
  | .v (.lst xs), .v (.lst ys) => .ok (zipD xs ys) m2
  | _, _ => .bad := rfl
@[simp] theorem lRep_ap (a b : Ev) (m : Me) : lRep a b m = (a m).bind fun x m1 => (b m1).bind fun y m2 => match m2.cl x, y with
  | some (.lst xs), .v (.int k) => if -lim63 ≤ k ∧ k < lim63 ∧ xs.length * k.toNat ≤ big then .ok ((List.replicate k.toNat xs).flatten) m2 else .bad
  | _, _ => .bad := rfl
@[simp] theorem eMake_ap (C : Cal) (T : Tb) (c : String) (a : Av) (m : Me) : eMake C T c a m = (a m).bind fun ps m1 => match PV.ds ps, T.ini c with
  | some ds, some key => (match C key (.ref m1.S.length :: ds) (m1.S ++ [.ins c []]) with
    | .ok .non S' => .ok (.v (.ref m1.S.length)) ⟨m1.σ, S'⟩
    | .ex x S' => .ex x ⟨m1.σ, S'⟩
    | _ => .bad)
  | _, _ => .bad := rfl
@[simp] theorem sWhile_ap (t : Tv) (body : Sv) (m : Me) : sWhile t body m = whileN t body wlim m := rfl
theorem sTryAs_nx {sub} {body : Sv} {i : Nat} {c : String} {su : Xc → Sv} {m m1 : Me} (h : body m = .nx m1) : sTryAs sub body i c su m = .nx m1 := by unfold sTryAs; rw [h]
theorem sTryAs_ex {sub} {body : Sv} {i : Nat} {c : String} {su : Xc → Sv} {m m1 : Me} {x : Xc} (h : body m = .ex x m1) (hs : sub x.c c = some true) (h1 : (m1.slot i).isNone = true ∧ i < m1.σ.length) : sTryAs sub body i c su m = aft i (su x ⟨m1.σ.set i none, m1.S⟩) := by
  unfold sTryAs; rw [h]; simp only [hs]; rw [if_pos h1]
/-! ### operators -/
theorem inT_one (c : Nat) (z : Tx) : inT [c] z = decide (c ∈ z) := by
  unfold inT
  rw [Bool.eq_iff_iff, List.any_eq_true, decide_eq_true_iff]
  constructor
  · rintro ⟨i, _, h⟩
    obtain ⟨h1, h2⟩ := of_decide_eq_true h
    have : c ∈ (z.drop i).take 1 := by
      have h2 : List.take 1 (List.drop i z) = [c] := h2
      rw [h2]; exact List.mem_singleton.mpr rfl
    exact List.mem_of_mem_drop (List.mem_of_mem_take this)
  · intro h
    obtain ⟨i, hi, e⟩ := List.getElem_of_mem h
    refine ⟨i, List.mem_range.mpr (by omega), decide_eq_true ⟨by simp; omega, ?_⟩⟩
    show List.take 1 (List.drop i z) = [c]
    rw [List.drop_eq_getElem_cons hi, e]; rfl
theorem inT_long {x z : Tx} (h : z.length < x.length) : inT x z = false := by
  unfold inT
  rw [List.any_eq_false]
  intro i _ h2
  have := (of_decide_eq_true h2).1
  omega
theorem gInV_str (x z : Tx) (m : Me) : gInV (.v (.str x)) (.v (.str z)) m = some (.bl (inT x z)) := by
  unfold gInV orG
  cases q : gInU (.v (.str x)) (.v (.str z)) m with
  | none => rfl
  | some d =>
    unfold gInU orG gIn at q
    simp only [Me.items, Me.cl] at q
    unfold gInT at q
    cases x with
    | nil => simp [gInK, Me.kvs, Me.cl] at q
    | cons c r =>
      cases r with
      | nil => simp at q; subst q; rw [inT_one]
      | cons c2 r => simp [gInK, Me.kvs, Me.cl] at q
theorem gNotInV_str (x z : Tx) (m : Me) : gNotInV (.v (.str x)) (.v (.str z)) m = some (.bl (!inT x z)) := by
  unfold gNotInV orG
  cases q : gNotInU (.v (.str x)) (.v (.str z)) m with
  | none => rfl
  | some d =>
    unfold gNotInU orG gNotIn at q
    simp only [Me.items, Me.cl] at q
    unfold gNotInT at q
    cases x with
    | nil => simp [gNotInK, Me.kvs, Me.cl] at q
    | cons c r =>
      cases r with
      | nil => simp at q; subst q; rw [inT_one]
      | cons c2 r => simp [gNotInK, Me.kvs, Me.cl] at q
theorem gInV_lst {a : D} {xs : List D} {m : Me} (h1 : flat a = true) (h2 : xs.all flat = true) : gInV (.v a) (.v (.lst xs)) m = some (.bl (xs.any fun y => eqv y a)) := by
  have : gInU (.v a) (.v (.lst xs)) m = some (.bl (xs.any fun y => eqv y a)) := by
    unfold gInU orG gIn
    simp [Me.items, Me.cl, h1, h2]
  unfold gInV orG
  rw [this]
theorem gNotInV_lst {a : D} {xs : List D} {m : Me} (h1 : flat a = true) (h2 : xs.all flat = true) : gNotInV (.v a) (.v (.lst xs)) m = some (.bl (!xs.any fun y => eqv y a)) := by
  have : gNotInU (.v a) (.v (.lst xs)) m = some (.bl (!xs.any fun y => eqv y a)) := by
    unfold gNotInU orG gNotIn
    simp [Me.items, Me.cl, h1, h2]
  unfold gNotInV orG
  rw [this]
theorem any_str (xs : List Tx) (z : Tx) : ((xs.map D.str).any fun y => eqv y (.str z)) = decide (z ∈ xs) := by
  induction xs with
  | nil => rfl
  | cons x r ih =>
    rw [List.map_cons, List.any_cons, ih]
    show (x == z || decide (z ∈ r)) = _
    by_cases h : z = x
    · subst h; simp
    · have : (x == z) = false := by simpa using fun q => h q.symm
      rw [this]; simp [h]
theorem flat_strs (xs : List Tx) : (xs.map D.str).all flat = true := by
  rw [List.all_eq_true]
  intro d hd
  obtain ⟨x, _, rfl⟩ := List.mem_map.mp hd
  rfl
theorem gInV_strs (z : Tx) (xs : List Tx) (m : Me) : gInV (.v (.str z)) (.v (.lst (xs.map D.str))) m = some (.bl (decide (z ∈ xs))) := by
  rw [gInV_lst rfl (flat_strs xs), any_str]
theorem gNotInV_strs (z : Tx) (xs : List Tx) (m : Me) : gNotInV (.v (.str z)) (.v (.lst (xs.map D.str))) m = some (.bl (!decide (z ∈ xs))) := by
  rw [gNotInV_lst rfl (flat_strs xs), any_str]
/-! ### objects of the store -/
@[simp] theorem look_nil {α : Type} (f : String) : List.lookup f ([] : List (String × α)) = none := rfl
@[simp] theorem look_cons {α : Type} (f k : String) (a : α) (r : List (String × α)) : List.lookup f ((k, a) :: r) = if f = k then some a else List.lookup f r := by
  rw [List.lookup_cons]
  by_cases h : f = k
  · subst h; simp
  · have : (f == k) = false := by simpa using h
    rw [this, if_neg h]
theorem obj_ref {σ : Env} {S : List SC} {n : Nat} {c : String} {fs : List (String × FV)} (h : S[n]? = some (.ins c fs)) : (Me.mk σ S).obj (.v (.ref n)) = some (c, fs) := by
  unfold Me.obj; simp only [h]
end Mi

set_option linter.all false
set_option maxRecDepth 100000
namespace Lw
open Mi
/-! # words, names, figures -/
def isNmF (w : Tx) : Bool := !w.isEmpty && decide (w.length ≤ 8) && w.all (fun c => decide (97 ≤ c ∧ c ≤ 122)) && !decide (w ∈ ([[97, 110, 100], [111, 114], [110, 111, 116], [97, 108, 108], [110, 111, 110, 101], [105, 115], [102, 114, 111, 109], [116, 111]] : List Tx))
def abc : Tx := [97, 98, 99, 100, 101, 102, 103, 104, 105, 106, 107, 108, 109, 110, 111, 112, 113, 114, 115, 116, 117, 118, 119, 120, 121, 122]
theorem abc_mem (c : Nat) : c ∈ abc ↔ 97 ≤ c ∧ c ≤ 122 := by
  simp only [abc, List.mem_cons, List.not_mem_nil, or_false]; omega
theorem d10_mem (c : Nat) : c ∈ ([48, 49, 50, 51, 52, 53, 54, 55, 56, 57] : Tx) ↔ 48 ≤ c ∧ c ≤ 57 := by
  simp only [List.mem_cons, List.not_mem_nil, or_false]; omega
/-- a loop that leaves at the first sign that is not in a text -/
theorem signs_loop {w : Tx} {body : Sv} (A : Option FV → Me) (i : Nat) (z : Tx) (out : D)
    (hb : ∀ c s0 σ1, (Bd.n i).set (.str [c]) (A s0).σ = some σ1 → body ⟨σ1, (A s0).S⟩ = if c ∈ z then .nx (A (some (.v (.str [c])))) else .rt out (A (some (.v (.str [c])))))
    (hs : ∀ s0, i < (A s0).σ.length) : ∀ (w : Tx) s0, (w.all (fun c => decide (c ∈ z)) = true ∧ ∃ s1, forL (.n i) body (w.map fun c => .str [c]) (A s0) = .nx (A s1)) ∨ (w.all (fun c => decide (c ∈ z)) = false ∧ ∃ s1, forL (.n i) body (w.map fun c => .str [c]) (A s0) = .rt out (A s1))
  | [], s0 => .inl ⟨rfl, s0, rfl⟩
  | c :: w, s0 => by
    have e1 : (Bd.n i).set (.str [c]) (A s0).σ = some ((A s0).σ.set i (some (.v (.str [c])))) := by simp [Bd.set, hs s0]
    have e2 := hb c s0 _ e1
    rw [List.map_cons, List.all_cons]
    by_cases h : c ∈ z
    · rw [if_pos h] at e2
      rcases signs_loop (w := w) A i z out hb hs w (some (.v (.str [c]))) with ⟨h1, s1, h2⟩ | ⟨h1, s1, h2⟩
      · exact .inl ⟨by simp [h, h1], s1, by rw [forL, e1]; simp only [e2]; exact h2⟩
      · exact .inr ⟨by simp [h1], s1, by rw [forL, e1]; simp only [e2]; exact h2⟩
    · rw [if_neg h] at e2
      exact .inr ⟨by simp [h], _, by rw [forL, e1]; simp only [e2]; rfl⟩
theorem is_name (w : Tx) (hw : w.length ≤ 1000000) (n : Nat) (S : List SC) : Pg.call (n + 1) "is_name" [.str w] S = .ok (.bl (isNmF w)) S := by
  rw [Pg.c_is_name]
  have hb : w.length ≤ big := le_big hw
  by_cases h0 : w = []
  · subst h0; simp [runF, Pg.b_is_name, isNmF]
  have hne : (w == []) = false := by simpa using h0
  by_cases h8 : 8 < w.length
  · have : ¬ w.length ≤ 8 := by omega
    have h8i : (8 : Int) < (w.length : Int) := by omega
    simp [runF, Pg.b_is_name, isNmF, hne, aLen, gLen, hb, h8i, this]
  have h8' : w.length ≤ 8 := by omega
  have lp := signs_loop (w := w) (body := Pg.lp_is_name_1 (Pg.call n)) (fun s => ⟨[some (.v (.str w)), s], S⟩) 1 abc (.bl false) (fun c s0 σ1 e => by
      simp [Bd.set] at e; subst e
      have q : gNotInV (.v (.str [c])) (.v (.str [97, 98, 99, 100, 101, 102, 103, 104, 105, 106, 107, 108, 109, 110, 111, 112, 113, 114, 115, 116, 117, 118, 119, 120, 121, 122])) = fun _ => some (.bl (!decide (c ∈ abc))) := by
        funext m; rw [gNotInV_str, inT_one]; rfl
      by_cases hc : c ∈ abc
      · simp [Pg.lp_is_name_1, q, hc]
      · simp [Pg.lp_is_name_1, q, hc]) (fun s0 => by simp) w none
  have ea : w.all (fun c => decide (c ∈ abc)) = w.all (fun c => decide (97 ≤ c ∧ c ≤ 122)) := by
    congr 1; funext c; rw [decide_eq_decide]; exact abc_mem c
  rw [ea] at lp
  have q2 : ∀ m, gNotInV (.v (.str w)) (.v (.lst [.str [97, 110, 100], .str [111, 114], .str [110, 111, 116], .str [97, 108, 108], .str [110, 111, 110, 101], .str [105, 115], .str [102, 114, 111, 109], .str [116, 111]])) m = some (.bl (!decide (w ∈ ([[97, 110, 100], [111, 114], [110, 111, 116], [97, 108, 108], [110, 111, 110, 101], [105, 115], [102, 114, 111, 109], [116, 111]] : List Tx)))) := fun m => gNotInV_strs w [[97, 110, 100], [111, 114], [110, 111, 116], [97, 108, 108], [110, 111, 110, 101], [105, 115], [102, 114, 111, 109], [116, 111]] m
  have h8i : ¬ (8 : Int) < (w.length : Int) := by omega
  rcases lp with ⟨h1, s1, h2⟩ | ⟨h1, s1, h2⟩
  · simp only [runF, Pg.b_is_name, isNmF]
    have hal := List.all_eq_true.mp h1
    simp [hne, aLen, gLen, hb, h8i, h2, q2, h8', h0]
    intros
    exact of_decide_eq_true (hal _ ‹_›)
  · simp only [runF, Pg.b_is_name, isNmF]
    simp [hne, aLen, gLen, hb, h8i, h2, h8', h0]
    intro hall
    exact absurd (List.all_eq_true.mpr fun x hx => decide_eq_true (hall x hx)) (by rw [h1]; decide)
def figF (w : Tx) : Option Nat := if w = [] ∨ 12 < w.length then none else if digs w = true then (if w.head? = some 48 ∧ w ≠ [48] then none else some (digV w)) else none
def optI : Option Nat → D | some n => .int n | none => .non
theorem figures_of (w : Tx) (hw : w.length ≤ 1000000) (n : Nat) (S : List SC) : Pg.call (n + 1) "figures_of" [.str w] S = .ok (optI (figF w)) S := by
  rw [Pg.c_figures_of]
  have hb : w.length ≤ big := le_big hw
  by_cases h0 : w = []
  · subst h0; simp [runF, Pg.b_figures_of, figF, optI]
  have hne : (w == []) = false := by simpa using h0
  by_cases h8 : 12 < w.length
  · have : (12 : Int) < (w.length : Int) := by omega
    simp [runF, Pg.b_figures_of, figF, hne, aLen, gLen, hb, h8, this, optI]
  have h8i : ¬ (12 : Int) < (w.length : Int) := by omega
  have lp := signs_loop (w := w) (body := Pg.lp_figures_of_1 (Pg.call n)) (fun s => ⟨[some (.v (.str w)), s], S⟩) 1 [48, 49, 50, 51, 52, 53, 54, 55, 56, 57] .non (fun c s0 σ1 e => by
      simp [Bd.set] at e; subst e
      have q : gNotInV (.v (.str [c])) (.v (.str [48, 49, 50, 51, 52, 53, 54, 55, 56, 57])) = fun _ => some (.bl (!decide (c ∈ ([48, 49, 50, 51, 52, 53, 54, 55, 56, 57] : Tx)))) := by
        funext m; rw [gNotInV_str, inT_one]
      have q' : ∀ m, gNotInV (.v (.str [c])) (.v (.str [48, 49, 50, 51, 52, 53, 54, 55, 56, 57])) m = some (.bl (!decide (c ∈ ([48, 49, 50, 51, 52, 53, 54, 55, 56, 57] : Tx)))) := fun m => by rw [q]
      by_cases hc : c ∈ ([48, 49, 50, 51, 52, 53, 54, 55, 56, 57] : Tx)
      · rw [if_pos hc]; simp only [Pg.lp_figures_of_1]; simp [q', hc]
      · rw [if_neg hc]; simp only [Pg.lp_figures_of_1]; simp [q', hc]) (fun s0 => by simp) w none
  have ea : w.all (fun c => decide (c ∈ ([48, 49, 50, 51, 52, 53, 54, 55, 56, 57] : Tx))) = digs w := by
    unfold digs; congr 1; funext c; rw [decide_eq_decide]; exact d10_mem c
  rw [ea] at lp
  rcases lp with ⟨h1, s1, h2⟩ | ⟨h1, s1, h2⟩
  · obtain ⟨c, r, hcr⟩ := List.exists_cons_of_ne_nil h0
    have ix : ∀ m, gIxU (.v (.str w)) (.v (.int 0)) m = some (.str [c]) := fun m => by rw [gIxU_str _ _ _ hb, hcr]; simp [atI, ixN]
    have l6 : w.length ≤ lim600 := by rw [lim600_is]; omega
    have hdi : ∀ m, aInt2 [.v (.str w)] m = some (.int (digV w : Nat)) := fun m => by unfold aInt2; simp only []; rw [if_pos ⟨h1, h0, l6⟩]
    have hh : w.head? = some c := by rw [hcr]; rfl
    simp only [runF, Pg.b_figures_of, figF]
    by_cases hc : c = 48
    · by_cases hr : w = [48]
      · have e1 : (w == [48]) = true := by simpa using hr
        have hr' : (w = [48]) = True := eq_true hr
        simp [hne, aLen, gLen, hb, h8i, h2, ix, e1, h0, h8, h1, hc, optI, hr', hdi]
      · have e1 : (w == [48]) = false := by simpa using hr
        simp [hne, aLen, gLen, hb, h8i, h2, ix, e1, h0, h8, h1, hc, optI, hr, hh]
    · simp [hne, aLen, gLen, hb, h8i, h2, ix, h0, h8, h1, hc, optI, hh, hdi]
  · have h8n : ¬ 12 < w.length := h8
    simp only [runF, Pg.b_figures_of, figF]
    simp [hne, aLen, gLen, hb, h8i, h2, h0, h8n, h1, optI]
end Lw

set_option linter.all false
set_option maxRecDepth 100000
namespace Lw
open Mi
/-! # the words of a text -/
abbrev W := Nat × Tx
def wD (w : W) : D := .tup [.int w.1, .str w.2]
def enumI (i : Nat) (xs : List D) : List D := (xs.zipIdx i).map fun p => .tup [.int (p.2 : Nat), p.1]
theorem enum_I (xs : List D) : enum xs = enumI 0 xs := rfl
theorem enumI_cons (i : Nat) (x : D) (xs : List D) : enumI i (x :: xs) = .tup [.int (i : Nat), x] :: enumI (i + 1) xs := by simp [enumI, List.zipIdx_cons]
def brk (c : Nat) : Bool := decide (c ∈ ([32, 40, 41] : Tx))
def wstep (i c : Nat) (fs : List W) (wd : Tx) : List W × Tx :=
  if brk c then ((if wd = [] then fs else fs ++ [(i - wd.length, wd)]) ++ (if c = 32 then [] else [(i, [c])]), []) else (fs, wd ++ [c])
def wfold : List Nat → Nat → List W → Tx → List W × Tx
  | [], _, fs, wd => (fs, wd)
  | c :: cs, i, fs, wd => wfold cs (i + 1) (wstep i c fs wd).1 (wstep i c fs wd).2
def wordsF (z : Tx) : List W := (wfold (z ++ [32]) 0 [] []).1
theorem words_loop (z : Tx) (S : List SC) (n : Nat) : ∀ (cs : List Nat) (i : Nat) (fs : List W) (wd : Tx) (j3 j4 : Option FV), wd.length ≤ i → i + cs.length ≤ 100000 → fs.length + 2 * cs.length ≤ 100000 →
    ∃ k3 k4, forL (.t [3, 4]) (Pg.lp_words_of_1 (Pg.call n)) (enumI i (cs.map fun c => .str [c])) ⟨[some (.v (.str z)), some (.o (.lst (fs.map wD))), some (.v (.str wd)), j3, j4], S⟩ =
      .nx ⟨[some (.v (.str z)), some (.o (.lst ((wfold cs i fs wd).1.map wD))), some (.v (.str (wfold cs i fs wd).2)), k3, k4], S⟩
  | [], i, fs, wd, j3, j4, _, _, _ => ⟨j3, j4, rfl⟩
  | c :: cs, i, fs, wd, j3, j4, hi, hl, hf => by
    rw [List.length_cons] at hl hf
    have hw : wd.length ≤ 1000000 := by omega
    have hfl : fs.length ≤ 1000000 := by omega
    have hfl2 : fs.length + 1 ≤ 1000000 := by omega
    have hwb : wd.length ≤ big := le_big hw
    have q : ∀ m, gInV (.v (.str [c])) (.v (.str [32, 40, 41])) m = some (.bl (brk c)) := fun m => by rw [gInV_str, inT_one]; rfl
    have ga : ∀ m, gAddU (.v (.str wd)) (.v (.str [c])) m = some (.str (wd ++ [c])) := fun m => gAddU_str wd [c] m (le_big (by simp; omega))
    have step : ∃ l3 l4, (Bd.t [3, 4]).set (.tup [.int (i : Nat), .str [c]]) [some (.v (.str z)), some (.o (.lst (fs.map wD))), some (.v (.str wd)), j3, j4] = some [some (.v (.str z)), some (.o (.lst (fs.map wD))), some (.v (.str wd)), some (.v (.int i)), some (.v (.str [c]))] ∧
        Pg.lp_words_of_1 (Pg.call n) ⟨[some (.v (.str z)), some (.o (.lst (fs.map wD))), some (.v (.str wd)), some (.v (.int i)), some (.v (.str [c]))], S⟩ = .nx ⟨[some (.v (.str z)), some (.o (.lst ((wstep i c fs wd).1.map wD))), some (.v (.str (wstep i c fs wd).2)), l3, l4], S⟩ := by
      refine ⟨some (.v (.int i)), some (.v (.str [c])), by simp [Bd.set, bTs], ?_⟩
      simp only [Pg.lp_words_of_1]
      unfold wstep
      by_cases hb : brk c = true
      · rw [if_pos hb]
        have hsub : (i : Int) - (wd.length : Int) = ((i - wd.length : Nat) : Int) := by omega
        by_cases hwd : wd = []
        · subst hwd
          by_cases h32 : c = 32
          · subst h32
            simp [q, hb, Me.own, Me.slot, Me.put]
          · simp [q, hb, h32, Me.own, Me.slot, Me.put, isL, mApp, hfl, wD]
        · have hne : (wd == []) = false := by simpa using hwd
          by_cases h32 : c = 32
          · subst h32
            simp [q, hb, hne, hwd, Me.own, Me.slot, Me.put, isL, mApp, hfl, wD, aLen, gLen, hwb, hsub]
          · simp [q, hb, h32, hne, hwd, Me.own, Me.slot, Me.put, isL, mApp, hfl, hfl2, wD, aLen, gLen, hwb, hsub]
      · have hb' : brk c = false := by simpa using hb
        rw [if_neg hb]
        simp [q, hb', ga]
    obtain ⟨l3, l4, e1, e2⟩ := step
    have h1 : (wstep i c fs wd).2.length ≤ i + 1 := by unfold wstep; split <;> simp; omega
    have h2 : (wstep i c fs wd).1.length ≤ fs.length + 2 := by
      unfold wstep
      split
      · split <;> split <;> simp
      · simp
    obtain ⟨k3, k4, e3⟩ := words_loop z S n cs (i + 1) (wstep i c fs wd).1 (wstep i c fs wd).2 l3 l4 h1 (by omega) (by omega)
    refine ⟨k3, k4, ?_⟩
    rw [List.map_cons, enumI_cons, forL_cons e1 e2, e3]
    rfl
theorem wfold_blank : ∀ (cs : List Nat) (i : Nat) (fs : List W) (wd : Tx), (wfold (cs ++ [32]) i fs wd).2 = []
  | [], i, fs, wd => by simp [wfold, wstep, brk]
  | c :: cs, i, fs, wd => by rw [List.cons_append, wfold]; exact wfold_blank cs _ _ _
theorem words_of (z : Tx) (hz : z.length ≤ 40000) (n : Nat) (S : List SC) : Pg.call (n + 1) "words_of" [.str z] S = .ok (.lst ((wordsF z).map wD)) S := by
  rw [Pg.c_words_of]
  obtain ⟨k3, k4, e⟩ := words_loop z S n (z ++ [32]) 0 [] [] none none (by simp) (by simp; omega) (by simp; omega)
  have ga : ∀ m, gAddU (.v (.str z)) (.v (.str [32])) m = some (.str (z ++ [32])) := fun m => gAddU_str z [32] m (le_big (by simp; omega))
  rw [← enum_I] at e
  simp only [List.map_nil] at e
  simp only [runF, Pg.b_words_of]
  simp [ga, -List.map_append, e, wordsF]
end Lw

set_option linter.all false
set_option maxRecDepth 100000
namespace Lw
open Mi
/-! # questions as trees, read -/
inductive Q where
  | all | none | leaf (x : Tx) (lo hi : Int) | not (q : Q) | bin (an : Bool) (qs : List Q)
def cBin (an : Bool) : String := if an then "AllOf" else "OneOf"
mutual
def oD : Q → D
  | .all => .obj "Every" [] | .none => .obj "Nobody" []
  | .leaf x lo hi => .obj "Within" [("name", .str x), ("low", .int lo), ("high", .int hi)]
  | .not q => .obj "Opposite" [("one", oD q)]
  | .bin an qs => .obj (cBin an) [("parts", .lst (oDs qs))]
def oDs : List Q → List D
  | [] => [] | q :: r => oD q :: oDs r
end
theorem oDs_map : ∀ qs, oDs qs = qs.map oD
  | [] => rfl
  | q :: r => by rw [oDs, oDs_map r]; rfl
mutual
theorem oD_blw (n : Nat) : ∀ q, (oD q).blw n = true
  | .all => rfl | .none => rfl | .leaf _ _ _ => rfl
  | .not q => by simp [oD, D.blw, D.blwf, oD_blw n q]
  | .bin an qs => by simp [oD, D.blw, D.blwf, oDs_blw n qs]
theorem oDs_blw (n : Nat) : ∀ qs, D.blws n (oDs qs) = true
  | [] => rfl
  | q :: r => by simp [oDs, D.blws, oD_blw n q, oDs_blw n r]
end
/-! ### objects that stay -/
theorem mk_every (n : Nat) (m : Me) : eMake0 Pg.T "Every" m = .ok (.v (oD .all)) m := by simp [Pg.T, tbOf, Pg.inL, oD]
theorem mk_nobody (n : Nat) (m : Me) : eMake0 Pg.T "Nobody" m = .ok (.v (oD .none)) m := by simp [Pg.T, tbOf, Pg.inL, oD]
theorem ini_within (x lo hi : D) (n : Nat) (S : List SC) : Pg.call (n + 1) "Within.__init__" [.ref S.length, x, lo, hi] (S ++ [.ins "Within" []]) = .ok .non (S ++ [.ins "Within" [("name", .v x), ("low", .v lo), ("high", .v hi)]]) := by
  rw [Pg.c_Within___init__]
  simp [runF, Pg.b_Within___init__, Pg.T, tbOf, Pg.flL, putF]
theorem ini_opp (x : D) (n : Nat) (S : List SC) : Pg.call (n + 1) "Opposite.__init__" [.ref S.length, x] (S ++ [.ins "Opposite" []]) = .ok .non (S ++ [.ins "Opposite" [("one", .v x)]]) := by
  rw [Pg.c_Opposite___init__]
  simp [runF, Pg.b_Opposite___init__, Pg.T, tbOf, Pg.flL, putF]
theorem ini_chainV (an : Bool) (xs : List D) (n : Nat) (S : List SC) : Pg.call (n + 1) "Chain.__init__" [.ref S.length, .lst xs] (S ++ [.ins (cBin an) []]) = .ok .non (S ++ [.ins (cBin an) [("parts", .v (.lst xs))]]) := by
  rw [Pg.c_Chain___init__]
  have e4 : Pg.T.fl (cBin an) "parts" = true := by cases an <;> simp [Pg.T, tbOf, Pg.flL, cBin]
  simp [runF, Pg.b_Chain___init__, putF, aOf, Me.items, Me.cl, e4]
theorem mk_within {a : Av} {m m1 : Me} {n : Nat} {x : Tx} {lo hi : Int} (h : a m = .ok [.v (.str x), .v (.int lo), .v (.int hi)] m1) : eMakeF (Pg.call (n + 1)) Pg.T "Within" a m = .ok (.v (oD (.leaf x lo hi))) m1 :=
  eMakeF_ok (key := "Within.__init__") (l := [("name", .str x), ("low", .int lo), ("high", .int hi)]) h rfl (by simp [Pg.T, tbOf, Pg.inL]) (ini_within _ _ _ n m1.S) rfl rfl
theorem mk_opp {a : Av} {m m1 : Me} {n : Nat} {q : Q} (h : a m = .ok [.v (oD q)] m1) : eMakeF (Pg.call (n + 1)) Pg.T "Opposite" a m = .ok (.v (oD (.not q))) m1 :=
  eMakeF_ok (key := "Opposite.__init__") (l := [("one", oD q)]) h rfl (by simp [Pg.T, tbOf, Pg.inL]) (ini_opp _ n m1.S) rfl (by simp [D.blwf, oD_blw])
theorem mk_chain {a : Av} {m m1 : Me} {n : Nat} {an : Bool} {qs : List Q} (h : a m = .ok [.v (.lst (oDs qs))] m1) : eMakeF (Pg.call (n + 1)) Pg.T (cBin an) a m = .ok (.v (oD (.bin an qs))) m1 :=
  eMakeF_ok (key := "Chain.__init__") (l := [("parts", .lst (oDs qs))]) h rfl (by cases an <;> simp [Pg.T, tbOf, Pg.inL, cBin]) (ini_chainV an _ n m1.S) rfl (by simp [D.blwf, D.blw, oDs_blw])

/-! ### the reader -/
/-- it stands ahead of rest -/
def RD (ws : List W) (fin : Nat) (rest : List W) : SC := .ins "Reader" [("words", .v (.lst (ws.map wD))), ("finish", .v (.int fin)), ("at", .v (.int ((ws.length - rest.length : Nat) : Int)))]
def wd (rest : List W) : Tx := match rest with | [] => [] | w :: _ => w.2
def plc (fin : Nat) (rest : List W) : Nat := match rest with | [] => fin | w :: _ => w.1
theorem suf_at {ws : List W} {w : W} {r : List W} (h : (w :: r) <:+ ws) : atI (ws.map wD) ((ws.length - (w :: r).length : Nat) : Int) = some (wD w) ∧ ws.length - (w :: r).length < ws.length := by
  obtain ⟨t, rfl⟩ := h
  have : (t ++ w :: r).length - (w :: r).length = t.length := by simp
  rw [this]
  refine ⟨?_, by simp⟩
  unfold atI ixN
  have h1 : (t.length : Int) < ((t.length : Int) + ((r.length : Int) + 1)) := by omega
  simp [h1]
theorem suf_le {ws r : List W} (h : r <:+ ws) : r.length ≤ ws.length := h.length_le
section
variable {ws : List W} {fin : Nat} {S : List SC} {r : Nat}
theorem mt_reader {f : String} : ∀ m, Pg.T.mt "Reader" f = m ↔ (Pg.mtL.find? fun p => p.1 == "Reader" && p.2.1 == f).map (·.2.2) = m := fun _ => Iff.rfl
theorem word_here {rest : List W} (hS : S[r]? = some (RD ws fin rest)) (hs : rest <:+ ws) (n : Nat) : Pg.call (n + 1) "Reader.word_here" [.ref r] S = .ok (.str (wd rest)) S := by
  rw [Pg.c_Reader_word_here]
  have ho := fun σ => obj_ref (σ := σ) hS
  have f1 : Pg.T.fl "Reader" "at" = true := by simp [Pg.T, tbOf, Pg.flL]
  have f2 : Pg.T.fl "Reader" "words" = true := by simp [Pg.T, tbOf, Pg.flL]
  simp only [runF, Pg.b_Reader_word_here]
  cases rest with
  | nil =>
    simp [ho, f1, f2, aLen, gLen, Me.items, Me.cl, wd]
  | cons w rr =>
    obtain ⟨h1, h2⟩ := suf_at hs
    rw [List.length_cons] at h1 h2
    have h2' : (((ws.length - (rr.length + 1) : Nat)) : Int) < (ws.length : Int) := by omega
    simp [ho, f1, f2, aLen, gLen, Me.items, Me.cl, wd, h1, h2']
    simp [wD, atI, ixN]
theorem place_here {rest : List W} (hS : S[r]? = some (RD ws fin rest)) (hs : rest <:+ ws) (n : Nat) : Pg.call (n + 1) "Reader.place_here" [.ref r] S = .ok (.int (plc fin rest)) S := by
  rw [Pg.c_Reader_place_here]
  have ho := fun σ => obj_ref (σ := σ) hS
  have f1 : Pg.T.fl "Reader" "at" = true := by simp [Pg.T, tbOf, Pg.flL]
  have f2 : Pg.T.fl "Reader" "words" = true := by simp [Pg.T, tbOf, Pg.flL]
  have f3 : Pg.T.fl "Reader" "finish" = true := by simp [Pg.T, tbOf, Pg.flL]
  simp only [runF, Pg.b_Reader_place_here]
  cases rest with
  | nil =>
    simp [ho, f1, f2, f3, aLen, gLen, Me.items, Me.cl, plc]
  | cons w rr =>
    obtain ⟨h1, h2⟩ := suf_at hs
    rw [List.length_cons] at h1 h2
    have h2' : (((ws.length - (rr.length + 1) : Nat)) : Int) < (ws.length : Int) := by omega
    simp [ho, f1, f2, f3, aLen, gLen, Me.items, Me.cl, plc, h1, h2']
    simp [wD, atI, ixN]
end
end Lw

set_option linter.all false
set_option maxRecDepth 100000
namespace Lw
open Mi
/-! # the reader, gone along -/
inductive PR (α : Type) where
  | ok (a : α) (rest : List W) | bad (p : Nat) | out
def sNot : Tx := [110, 111, 116]
def sOpen : Tx := [40]
def sClose : Tx := [41]
def sAll : Tx := [97, 108, 108]
def sNone : Tx := [110, 111, 110, 101]
def sIs : Tx := [105, 115]
def sFrom : Tx := [102, 114, 111, 109]
def sTo : Tx := [116, 111]
def sAnd : Tx := [97, 110, 100]
def sOr : Tx := [111, 114]
/-- past a word -/
def pst (fin : Nat) (kw : Tx) (r : List W) : PR Unit := if wd r = kw then .ok () r.tail else .bad (plc fin r)
/-- past figures -/
def num (fin : Nat) (r : List W) : PR Nat := match figF (wd r) with | none => .bad (plc fin r) | some v => .ok v r.tail
/-- what follows a name -/
def rng (fin : Nat) (x : Tx) (r : List W) : PR Q :=
  if wd r = sIs then (match num fin r.tail with | .ok v r2 => .ok (.leaf x v v) r2 | .bad p => .bad p | .out => .out) else
  match pst fin sFrom r with
  | .ok _ r1 => (match num fin r1 with
    | .ok lo r2 => (match pst fin sTo r2 with
      | .ok _ r3 => (match num fin r3 with | .ok hi r4 => .ok (.leaf x lo hi) r4 | .bad p => .bad p | .out => .out)
      | .bad p => .bad p | .out => .out)
    | .bad p => .bad p | .out => .out)
  | .bad p => .bad p | .out => .out
/-- further parts behind a word -/
def lpP (kw : Tx) (p : List W → PR Q) : Nat → List Q → List W → PR (List Q)
  | 0, _, _ => .out
  | k + 1, acc, r => if wd r = kw then (match p r.tail with | .ok q r2 => lpP kw p k (acc ++ [q]) r2 | .bad pl => .bad pl | .out => .out) else .ok acc r
def mkQ (an : Bool) : List Q → Q | [q] => q | qs => .bin an qs
inductive Kd where | question | chain | piece | inner
def one (kw : Tx) (an : Bool) (wl : Nat) (p : List W → PR Q) (r : List W) : PR Q := match p r with
  | .ok q r1 => (match lpP kw p wl [q] r1 with | .ok qs r2 => .ok (mkQ an qs) r2 | .bad pl => .bad pl | .out => .out)
  | .bad pl => .bad pl | .out => .out
def P (fin wl : Nat) : Nat → Kd → Nat → List W → PR Q
  | 0, _, _, _ => .out
  | n + 1, .question, d, r => one sOr false wl (P fin wl n .chain d) r
  | n + 1, .chain, d, r => one sAnd true wl (P fin wl n .piece d) r
  | n + 1, .piece, d, r =>
    if wd r = sNot ∨ wd r = sOpen then P fin wl n .inner d r
    else if wd r = sAll then .ok .all r.tail
    else if wd r = sNone then .ok .none r.tail
    else if isNmF (wd r) then rng fin (wd r) r.tail
    else .bad (plc fin r)
  | n + 1, .inner, d, r =>
    if d = 20 then .bad (plc fin r)
    else if wd r = sNot then (match P fin wl n .piece (d + 1) r.tail with | .ok q r2 => .ok (.not q) r2 | .bad pl => .bad pl | .out => .out)
    else (match P fin wl n .question (d + 1) r.tail with
      | .ok q r2 => (match pst fin sClose r2 with | .ok _ r3 => .ok q r3 | .bad pl => .bad pl | .out => .out)
      | .bad pl => .bad pl | .out => .out)
def Kd.nm : Kd → String | .question => "Reader.question" | .chain => "Reader.chain" | .piece => "Reader.piece" | .inner => "Reader.inner"
def badX (p : Nat) : Xc := ⟨"BadText", [("place", .int p)]⟩
/-- a call's answer by what is read -/
def Ans (ws : List W) (fin : Nat) (S : List SC) (r : Nat) (f : α → D) (g : RG) : PR α → Prop
  | .ok a rest => rest <:+ ws ∧ g = .ok (f a) (S.set r (RD ws fin rest))
  | .bad p => ∃ rest, rest <:+ ws ∧ g = .ex (badX p) (S.set r (RD ws fin rest))
  | .out => True
theorem wd_tail {ws r : List W} (h : r <:+ ws) : r.tail <:+ ws := (List.tail_suffix r).trans h
section
variable {ws : List W} {fin : Nat} {S : List SC} {r : Nat}
theorem rd_fl : Pg.T.fl "Reader" "at" = true := by simp [Pg.T, tbOf, Pg.flL]
theorem rd_step {w : W} {rr : List W} (h : (w :: rr) <:+ ws) : ((ws.length - (w :: rr).length : Nat) : Int) + 1 = ((ws.length - rr.length : Nat) : Int) := by
  have := h.length_le
  rw [List.length_cons] at this ⊢
  omega
theorem m_word : Pg.T.mt "Reader" "word_here" = some "Reader.word_here" := by simp [Pg.T, tbOf, Pg.mtL]
theorem m_place : Pg.T.mt "Reader" "place_here" = some "Reader.place_here" := by simp [Pg.T, tbOf, Pg.mtL]
theorem past {rest : List W} (hS : S[r]? = some (RD ws fin rest)) (hs : rest <:+ ws) (kw : Tx) (hk : kw ≠ []) (n : Nat) :
    Ans ws fin S r (fun _ => .non) (Pg.call (n + 2) "Reader.past" [.ref r, .str kw] S) (pst fin kw rest) := by
  rw [Pg.c_Reader_past]
  have ho := fun σ => obj_ref (σ := σ) hS
  have e1 := word_here hS hs n
  have e2 := place_here hS hs n
  have hlt : r < S.length := (List.getElem?_eq_some_iff.mp hS).1
  unfold pst
  by_cases h : wd rest = kw
  · rw [if_pos h]
    cases rest with
    | nil => exact absurd h.symm hk
    | cons w rr =>
      refine ⟨wd_tail hs, ?_⟩
      have e3 := rd_step hs
      rw [h] at e1
      simp only [runF, Pg.b_Reader_past]
      simp [ho, m_word, e1, rd_fl, hS]
      simp [RD, rd_fl, putF]
      rw [List.length_cons] at e3
      rw [e3]
  · rw [if_neg h]
    refine ⟨rest, hs, ?_⟩
    have h' : (wd rest == kw) = false := by simpa using h
    have eS : S.set r (RD ws fin rest) = S := by
      obtain ⟨h1, h2⟩ := List.getElem?_eq_some_iff.mp hS
      rw [← h2, List.set_getElem_self]
    rw [eS]
    simp only [runF, Pg.b_Reader_past]
    simp [ho, m_word, m_place, e1, e2, h', badX]
theorem set_self (hS : S[r]? = some (RD ws fin rest)) : S.set r (RD ws fin rest) = S := by
  obtain ⟨h1, h2⟩ := List.getElem?_eq_some_iff.mp hS
  rw [← h2, List.set_getElem_self]
theorem whole_number {rest : List W} (hS : S[r]? = some (RD ws fin rest)) (hs : rest <:+ ws) (hw : (wd rest).length ≤ 1000000) (n : Nat) :
    Ans ws fin S r (fun v : Nat => .int v) (Pg.call (n + 2) "Reader.whole_number" [.ref r] S) (num fin rest) := by
  rw [Pg.c_Reader_whole_number]
  have ho := fun σ => obj_ref (σ := σ) hS
  have e1 := word_here hS hs n
  have e2 := place_here hS hs n
  have e3 := figures_of (wd rest) hw n S
  unfold num
  cases hf : figF (wd rest) with
  | none =>
    refine ⟨rest, hs, ?_⟩
    rw [hf] at e3
    rw [set_self hS]
    simp only [runF, Pg.b_Reader_whole_number]
    simp [ho, m_word, m_place, e1, e2, e3, optI, badX, gIsN, isN]
  | some v =>
    cases rest with
    | nil => simp [wd, figF] at hf
    | cons w rr =>
      refine ⟨wd_tail hs, ?_⟩
      have e4 := rd_step hs
      rw [hf] at e3
      simp only [runF, Pg.b_Reader_whole_number]
      simp [ho, m_word, e1, e3, optI, rd_fl, hS, gIsN, isN]
      simp [RD, rd_fl, putF]
      rw [List.length_cons] at e4
      rw [e4]
end
end Lw

set_option linter.all false
set_option maxRecDepth 100000
namespace Lw
open Mi
section
variable {ws : List W} {fin : Nat} {S : List SC} {r : Nat}
theorem set_at {x y : SC} (h : S[r]? = some y) : (S.set r x)[r]? = some x := by
  rw [List.getElem?_set_self (List.getElem?_eq_some_iff.mp h).1]
theorem wd_len {rest : List W} (hl : ∀ w ∈ ws, w.2.length ≤ 1000000) (h : rest <:+ ws) : (wd rest).length ≤ 1000000 := by
  cases rest with
  | nil => simp [wd]
  | cons w rr => exact hl w (h.subset List.mem_cons_self)
theorem m_past : Pg.T.mt "Reader" "past" = some "Reader.past" := by simp [Pg.T, tbOf, Pg.mtL]
theorem m_num : Pg.T.mt "Reader" "whole_number" = some "Reader.whole_number" := by simp [Pg.T, tbOf, Pg.mtL]
theorem m_rng : Pg.T.mt "Reader" "range_of" = some "Reader.range_of" := by simp [Pg.T, tbOf, Pg.mtL]
theorem rd_obj {σ : Env} {T : List SC} {rest : List W} (h : T[r]? = some (RD ws fin rest)) : (Me.mk σ T).obj (.v (.ref r)) = some ("Reader", [("words", .v (.lst (ws.map wD))), ("finish", .v (.int fin)), ("at", .v (.int ((ws.length - rest.length : Nat) : Int)))]) := obj_ref h
/-- o.f(..) of the reader -/
theorem rd_meth {C : Cal} {f key : String} {a : Av} {σ : Env} {T : List SC} {rest : List W} {o : Ev} (hT : T[r]? = some (RD ws fin rest)) (hm : Pg.T.mt "Reader" f = some key) (ho : o ⟨σ, T⟩ = .ok (.v (.ref r)) ⟨σ, T⟩)
    (hf : f ≠ "words" ∧ f ≠ "finish" ∧ f ≠ "at") : eMeth C Pg.T f o a ⟨σ, T⟩ = (a ⟨σ, T⟩).bind fun ps m2 => (match PV.ds ps with | some ds => (C key (.ref r :: ds) m2.S).res m2.σ | none => .bad) := by
  rw [eMeth_ap, ho]
  have h1 := rd_obj (σ := σ) hT
  simp only [h1, PV.d_v, hm]
  simp [hf.1, hf.2.1, hf.2.2]
  try rfl
theorem range_of {rest : List W} (hS : S[r]? = some (RD ws fin rest)) (hs : rest <:+ ws) (hl : ∀ w ∈ ws, w.2.length ≤ 1000000) (x : Tx) (n : Nat) :
    Ans ws fin S r oD (Pg.call (n + 3) "Reader.range_of" [.ref r, .str x] S) (rng fin x rest) := by
  rw [Pg.c_Reader_range_of]
  have e0 := word_here hS hs (n + 1)
  unfold rng
  have f1 : ("word_here" : String) ≠ "words" ∧ ("word_here" : String) ≠ "finish" ∧ ("word_here" : String) ≠ "at" := by decide
  have f2 : ("past" : String) ≠ "words" ∧ ("past" : String) ≠ "finish" ∧ ("past" : String) ≠ "at" := by decide
  have f3 : ("whole_number" : String) ≠ "words" ∧ ("whole_number" : String) ≠ "finish" ∧ ("whole_number" : String) ≠ "at" := by decide
  have w0 : ∀ {σ : Env} {i : Nat}, σ[i]? = some (some (.v (.ref r))) → ∀ T, eVar i ⟨σ, T⟩ = .ok (.v (.ref r)) ⟨σ, T⟩ := fun {σ i} h T => by rw [eVar_ap, h]
  have v0 : ∀ T, eVar 0 ⟨[some (.v (.ref r)), some (.v (.str x)), none], T⟩ = .ok (.v (.ref r)) ⟨[some (.v (.ref r)), some (.v (.str x)), none], T⟩ := fun T => rfl
  have v1 : ∀ T z, eVar 0 ⟨[some (.v (.ref r)), some (.v (.str x)), some (.v (.int z))], T⟩ = .ok (.v (.ref r)) ⟨[some (.v (.ref r)), some (.v (.str x)), some (.v (.int z))], T⟩ := fun T z => rfl
  have hwh : eMeth (Pg.call (n + 2)) Pg.T "word_here" (eVar 0) aNil ⟨[some (.v (.ref r)), some (.v (.str x)), none], S⟩ = .ok (.v (.str (wd rest))) ⟨[some (.v (.ref r)), some (.v (.str x)), none], S⟩ := by
    rw [rd_meth hS m_word (v0 S) f1]; simp [e0]
  simp only [runF, Pg.b_Reader_range_of]
  by_cases h : wd rest = sIs
  · rw [if_pos h]
    have hq : (wd rest == ([105, 115] : Tx)) = true := by simpa [sIs] using h
    have p1 := past hS hs sIs (by decide) n
    have h0 : pst fin sIs rest = .ok () rest.tail := by unfold pst; rw [if_pos h]
    rw [h0] at p1
    obtain ⟨s1, p1⟩ := p1
    have S1 := set_at (x := RD ws fin rest.tail) hS
    have hp : eMeth (Pg.call (n + 2)) Pg.T "past" (eVar 0) (aCons (eC (.str [105, 115])) aNil) ⟨[some (.v (.ref r)), some (.v (.str x)), none], S⟩ = .ok (.v .non) ⟨[some (.v (.ref r)), some (.v (.str x)), none], S.set r (RD ws fin rest.tail)⟩ := by
      rw [rd_meth hS m_past (v0 S) f2]; simp; rw [show ([105, 115] : Tx) = sIs from rfl, p1]; rfl
    have p2 := whole_number S1 s1 (wd_len hl s1) n
    cases hn : num fin rest.tail with
    | out => trivial
    | bad p =>
      rw [hn] at p2
      obtain ⟨r2, s2, p2⟩ := p2
      refine ⟨r2, s2, ?_⟩
      have hnm : eMeth (Pg.call (n + 2)) Pg.T "whole_number" (eVar 0) aNil ⟨[some (.v (.ref r)), some (.v (.str x)), none], S.set r (RD ws fin rest.tail)⟩ = .ex (badX p) ⟨[some (.v (.ref r)), some (.v (.str x)), none], S.set r (RD ws fin r2)⟩ := by
        rw [rd_meth S1 m_num (v0 _) f3]; simp [p2]
      simp [hwh, hq, hp, hnm, -eMeth_ap]
    | ok v r2 =>
      rw [hn] at p2
      obtain ⟨s2, p2⟩ := p2
      refine ⟨s2, ?_⟩
      have hnm : eMeth (Pg.call (n + 2)) Pg.T "whole_number" (eVar 0) aNil ⟨[some (.v (.ref r)), some (.v (.str x)), none], S.set r (RD ws fin rest.tail)⟩ = .ok (.v (.int v)) ⟨[some (.v (.ref r)), some (.v (.str x)), none], S.set r (RD ws fin r2)⟩ := by
        rw [rd_meth S1 m_num (v0 _) f3]; simp [p2]
      have hm : eMakeF (Pg.call (n + 2)) Pg.T "Within" (aCons (eVar 1) (aCons (eVar 2) (aCons (eVar 2) aNil))) ⟨[some (.v (.ref r)), some (.v (.str x)), some (.v (.int v))], S.set r (RD ws fin r2)⟩ = .ok (.v (oD (.leaf x v v))) ⟨[some (.v (.ref r)), some (.v (.str x)), some (.v (.int v))], S.set r (RD ws fin r2)⟩ := mk_within (by simp)
      simp [hwh, hq, hp, hnm, hm, -eMeth_ap]
  · rw [if_neg h]
    have hq : (wd rest == ([105, 115] : Tx)) = false := by simpa [sIs] using h
    have p1 := past hS hs sFrom (by decide) n
    cases h1 : pst fin sFrom rest with
    | out => trivial
    | bad p =>
      rw [h1] at p1
      obtain ⟨r2, s2, p1⟩ := p1
      refine ⟨r2, s2, ?_⟩
      have hp : eMeth (Pg.call (n + 2)) Pg.T "past" (eVar 0) (aCons (eC (.str [102, 114, 111, 109])) aNil) ⟨[some (.v (.ref r)), some (.v (.str x)), none], S⟩ = .ex (badX p) ⟨[some (.v (.ref r)), some (.v (.str x)), none], S.set r (RD ws fin r2)⟩ := by
        rw [rd_meth hS m_past (v0 S) f2]; simp; rw [show ([102, 114, 111, 109] : Tx) = sFrom from rfl, p1]; rfl
      simp [hwh, hq, hp, -eMeth_ap]
    | ok u r1 =>
      rw [h1] at p1
      obtain ⟨s1, p1⟩ := p1
      have S1 := set_at (x := RD ws fin r1) hS
      have hp : eMeth (Pg.call (n + 2)) Pg.T "past" (eVar 0) (aCons (eC (.str [102, 114, 111, 109])) aNil) ⟨[some (.v (.ref r)), some (.v (.str x)), none], S⟩ = .ok (.v .non) ⟨[some (.v (.ref r)), some (.v (.str x)), none], S.set r (RD ws fin r1)⟩ := by
        rw [rd_meth hS m_past (v0 S) f2]; simp; rw [show ([102, 114, 111, 109] : Tx) = sFrom from rfl, p1]; rfl
      have p2 := whole_number S1 s1 (wd_len hl s1) n
      dsimp only
      cases h2 : num fin r1 with
      | out => trivial
      | bad p =>
        rw [h2] at p2
        obtain ⟨r2, s2, p2⟩ := p2
        refine ⟨r2, s2, ?_⟩
        have hnm : eMeth (Pg.call (n + 2)) Pg.T "whole_number" (eVar 0) aNil ⟨[some (.v (.ref r)), some (.v (.str x)), none], S.set r (RD ws fin r1)⟩ = .ex (badX p) ⟨[some (.v (.ref r)), some (.v (.str x)), none], S.set r (RD ws fin r2)⟩ := by
          rw [rd_meth S1 m_num (v0 _) f3]; simp [p2]
        simp [hwh, hq, hp, hnm, -eMeth_ap]
      | ok lo r2 =>
        rw [h2] at p2
        obtain ⟨s2, p2⟩ := p2
        have S2 := set_at (x := RD ws fin r2) hS
        have hnm : eMeth (Pg.call (n + 2)) Pg.T "whole_number" (eVar 0) aNil ⟨[some (.v (.ref r)), some (.v (.str x)), none], S.set r (RD ws fin r1)⟩ = .ok (.v (.int lo)) ⟨[some (.v (.ref r)), some (.v (.str x)), none], S.set r (RD ws fin r2)⟩ := by
          rw [rd_meth S1 m_num (v0 _) f3]; simp [p2]
        have p3 := past S2 s2 sTo (by decide) n
        dsimp only
        cases h3 : pst fin sTo r2 with
        | out => trivial
        | bad p =>
          rw [h3] at p3
          obtain ⟨r3, s3, p3⟩ := p3
          refine ⟨r3, s3, ?_⟩
          have hp3 : eMeth (Pg.call (n + 2)) Pg.T "past" (eVar 0) (aCons (eC (.str [116, 111])) aNil) ⟨[some (.v (.ref r)), some (.v (.str x)), some (.v (.int lo))], S.set r (RD ws fin r2)⟩ = .ex (badX p) ⟨[some (.v (.ref r)), some (.v (.str x)), some (.v (.int lo))], S.set r (RD ws fin r3)⟩ := by
            rw [rd_meth S2 m_past (v1 _ _) f2]; simp; rw [show ([116, 111] : Tx) = sTo from rfl, p3]; simp
          simp [hwh, hq, hp, hnm, hp3, -eMeth_ap]
        | ok u3 r3 =>
          rw [h3] at p3
          obtain ⟨s3, p3⟩ := p3
          have S3 := set_at (x := RD ws fin r3) hS
          have hp3 : eMeth (Pg.call (n + 2)) Pg.T "past" (eVar 0) (aCons (eC (.str [116, 111])) aNil) ⟨[some (.v (.ref r)), some (.v (.str x)), some (.v (.int lo))], S.set r (RD ws fin r2)⟩ = .ok (.v .non) ⟨[some (.v (.ref r)), some (.v (.str x)), some (.v (.int lo))], S.set r (RD ws fin r3)⟩ := by
            rw [rd_meth S2 m_past (v1 _ _) f2]; simp; rw [show ([116, 111] : Tx) = sTo from rfl, p3]; simp
          have p4 := whole_number S3 s3 (wd_len hl s3) n
          dsimp only
          cases h4 : num fin r3 with
          | out => trivial
          | bad p =>
            rw [h4] at p4
            obtain ⟨r4, s4, p4⟩ := p4
            refine ⟨r4, s4, ?_⟩
            have hn4 : eMeth (Pg.call (n + 2)) Pg.T "whole_number" (eVar 0) aNil ⟨[some (.v (.ref r)), some (.v (.str x)), some (.v (.int lo))], S.set r (RD ws fin r3)⟩ = .ex (badX p) ⟨[some (.v (.ref r)), some (.v (.str x)), some (.v (.int lo))], S.set r (RD ws fin r4)⟩ := by
              rw [rd_meth S3 m_num (v1 _ _) f3]; simp [p4]
            simp [hwh, hq, hp, hnm, hp3, eMakeF, hn4, -eMeth_ap]
          | ok hi r4 =>
            rw [h4] at p4
            obtain ⟨s4, p4⟩ := p4
            refine ⟨s4, ?_⟩
            have hn4 : eMeth (Pg.call (n + 2)) Pg.T "whole_number" (eVar 0) aNil ⟨[some (.v (.ref r)), some (.v (.str x)), some (.v (.int lo))], S.set r (RD ws fin r3)⟩ = .ok (.v (.int hi)) ⟨[some (.v (.ref r)), some (.v (.str x)), some (.v (.int lo))], S.set r (RD ws fin r4)⟩ := by
              rw [rd_meth S3 m_num (v1 _ _) f3]; simp [p4]
            have hm : eMakeF (Pg.call (n + 2)) Pg.T "Within" (aCons (eVar 1) (aCons (eVar 2) (aCons (eMeth (Pg.call (n + 2)) Pg.T "whole_number" (eVar 0) aNil) aNil))) ⟨[some (.v (.ref r)), some (.v (.str x)), some (.v (.int lo))], S.set r (RD ws fin r3)⟩ = .ok (.v (oD (.leaf x lo hi))) ⟨[some (.v (.ref r)), some (.v (.str x)), some (.v (.int lo))], S.set r (RD ws fin r4)⟩ := mk_within (by simp [hn4, -eMeth_ap])
            simp [hwh, hq, hp, hnm, hp3, hm, -eMeth_ap]
end
end Lw

set_option linter.all false
set_option maxRecDepth 100000
namespace Lw
open Mi
theorem lt_big {n : Nat} (h : n ≤ 3000000) : n < big := by rw [big_is]; omega
section
variable {ws : List W} {fin : Nat} {S : List SC} {r : Nat}
/-- the loop over further parts -/
theorem lp_run {kw : Tx} {p : List W → PR Q} {t : Tv} {body : Sv} {envA : List Q → Env}
    (ht : ∀ acc rest, rest <:+ ws → t ⟨envA acc, S.set r (RD ws fin rest)⟩ = .ok (wd rest == kw) ⟨envA acc, S.set r (RD ws fin rest)⟩)
    (hb : ∀ acc rest, rest <:+ ws → wd rest = kw → acc.length ≤ 2000000 → match p rest.tail with
      | .ok q r2 => r2 <:+ ws ∧ body ⟨envA acc, S.set r (RD ws fin rest)⟩ = .nx ⟨envA (acc ++ [q]), S.set r (RD ws fin r2)⟩
      | .bad pl => ∃ r2 σ', r2 <:+ ws ∧ body ⟨envA acc, S.set r (RD ws fin rest)⟩ = .ex (badX pl) ⟨σ', S.set r (RD ws fin r2)⟩
      | .out => True) :
    ∀ (k : Nat) (acc : List Q) (rest : List W), rest <:+ ws → acc.length + k ≤ 2000000 → match lpP kw p k acc rest with
      | .ok qs r2 => r2 <:+ ws ∧ qs.length ≤ 2000000 ∧ whileN t body k ⟨envA acc, S.set r (RD ws fin rest)⟩ = .nx ⟨envA qs, S.set r (RD ws fin r2)⟩
      | .bad pl => ∃ r2 σ', r2 <:+ ws ∧ whileN t body k ⟨envA acc, S.set r (RD ws fin rest)⟩ = .ex (badX pl) ⟨σ', S.set r (RD ws fin r2)⟩
      | .out => True
  | 0, _, _, _, _ => trivial
  | k + 1, acc, rest, hs, hl => by
    unfold lpP
    by_cases h : wd rest = kw
    · rw [if_pos h]
      have hq : (wd rest == kw) = true := by simpa using h
      have h1 := hb acc rest hs h (by omega)
      have h0 := ht acc rest hs
      rw [hq] at h0
      cases e : p rest.tail with
      | out => trivial
      | bad pl =>
        rw [e] at h1
        obtain ⟨r2, σ', s2, h2⟩ := h1
        refine ⟨r2, σ', s2, ?_⟩
        unfold whileN
        rw [h0]; dsimp only; rw [h2]
      | ok q r2 =>
        rw [e] at h1
        obtain ⟨s2, h2⟩ := h1
        have ih := lp_run ht hb k (acc ++ [q]) r2 s2 (by simp; omega)
        have ew : whileN t body (k + 1) ⟨envA acc, S.set r (RD ws fin rest)⟩ = whileN t body k ⟨envA (acc ++ [q]), S.set r (RD ws fin r2)⟩ := by
          rw [whileN, h0]; dsimp only; rw [h2]
        rw [ew]
        exact ih
    · rw [if_neg h]
      have hq : (wd rest == kw) = false := by simpa using h
      have h0 := ht acc rest hs
      rw [hq] at h0
      refine ⟨hs, by omega, ?_⟩
      rw [whileN, h0]
def argsOf (r : Nat) (rest : List W) (d : Nat) : Kd → List D
  | .inner => [.ref r, .str (wd rest), .int d]
  | _ => [.ref r, .int d]
theorem m_question : Pg.T.mt "Reader" "question" = some "Reader.question" := by simp [Pg.T, tbOf, Pg.mtL]
theorem m_chain : Pg.T.mt "Reader" "chain" = some "Reader.chain" := by simp [Pg.T, tbOf, Pg.mtL]
theorem m_piece : Pg.T.mt "Reader" "piece" = some "Reader.piece" := by simp [Pg.T, tbOf, Pg.mtL]
theorem m_inner : Pg.T.mt "Reader" "inner" = some "Reader.inner" := by simp [Pg.T, tbOf, Pg.mtL]
/-- .. read in an environment -/
def AnsM {α : Type} (ws : List W) (fin : Nat) (T : List SC) (r : Nat) (σ : Env) (g : α → D) (x : Res PV) : PR α → Prop
  | .ok a r2 => r2 <:+ ws ∧ x = .ok (.v (g a)) ⟨σ, T.set r (RD ws fin r2)⟩
  | .bad pl => ∃ r2, r2 <:+ ws ∧ x = .ex (badX pl) ⟨σ, T.set r (RD ws fin r2)⟩
  | .out => True
theorem ans_meth {f key : String} {a : Av} {σ : Env} {T : List SC} {rest : List W} {o : Ev} {ds : List D} {α : Type} {g : α → D} {pr : PR α} {N : Nat} {ps : List PV} (hT : T[r]? = some (RD ws fin rest)) (hm : Pg.T.mt "Reader" f = some key) (ho : o ⟨σ, T⟩ = .ok (.v (.ref r)) ⟨σ, T⟩)
    (hf : f ≠ "words" ∧ f ≠ "finish" ∧ f ≠ "at") (ha : a ⟨σ, T⟩ = .ok ps ⟨σ, T⟩) (hp : PV.ds ps = some ds) (h : Ans ws fin T r g (Pg.call N key (.ref r :: ds) T) pr) :
    AnsM ws fin T r σ g (eMeth (Pg.call N) Pg.T f o a ⟨σ, T⟩) pr := by
  have e := rd_meth (C := Pg.call N) (a := a) hT hm ho hf
  rw [ha] at e
  simp only [Res.bind_ok, hp] at e
  cases pr with
  | out => trivial
  | bad pl => obtain ⟨r2, s2, h⟩ := h; refine ⟨r2, s2, ?_⟩; rw [e, h]; rfl
  | ok x r2 => obtain ⟨s2, h⟩ := h; refine ⟨s2, ?_⟩; rw [e, h]; rfl
theorem setset (x y : SC) : (S.set r x).set r y = S.set r y := List.set_set ..
end
end Lw

set_option linter.all false
set_option maxRecDepth 100000
namespace Lw
open Mi
theorem wlim_le : wlim + 1 ≤ 2000000 := by rw [wlim_is]; decide
section
variable {ws : List W} {fin : Nat}
/-- question, chain: one part and further ones -/
theorem one_run {n : Nat} {kw : Tx} {an : Bool} {d r : Nat} {S : List SC} {rest : List W} {p : List W → PR Q} {sub key : String} {t : Tv} {body : Sv} (hS : S[r]? = some (RD ws fin rest)) (hs : rest <:+ ws)
    (hk : kw ≠ []) (hm : Pg.T.mt "Reader" sub = some key) (hsub : sub ≠ "words" ∧ sub ≠ "finish" ∧ sub ≠ "at")
    (hp : ∀ rest', rest' <:+ ws → Ans ws fin (S.set r (RD ws fin rest')) r oD (Pg.call (n + 4) key [.ref r, .int d] (S.set r (RD ws fin rest'))) (p rest'))
    (ht : t = tV (e2 gEqU (eMeth (Pg.call (n + 4)) Pg.T "word_here" (eVar 0) aNil) (eC (.str kw))))
    (hb : body = sSeq (sEx (eMeth (Pg.call (n + 4)) Pg.T "past" (eVar 0) (aCons (eC (.str kw)) aNil))) (sEx (eMut mApp (eVar 2) (aCons (eMeth (Pg.call (n + 4)) Pg.T sub (eVar 0) (aCons (eVar 1) aNil)) aNil)))) :
    Ans ws fin S r oD (runF 2 3 (sSeq (sOwn 2 (lDisp (aCons (eMeth (Pg.call (n + 4)) Pg.T sub (eVar 0) (aCons (eVar 1) aNil)) aNil)))
      (sSeq (sWhile t body)
      (sSeq (sIf (tV (e2 gEqU (eA aLen (aCons (eVar 2) aNil)) (eC (.int 1)))) (sRet (e2 gIxU (eVar 2) (eC (.int 0)))) sNil)
      (sRet (eMakeF (Pg.call (n + 4)) Pg.T (cBin an) (aCons (eFrz 2) aNil)))))) [.ref r, .int d] S) (one kw an wlim p rest) := by
  have v0 : ∀ T x, eVar 0 ⟨[some (.v (.ref r)), some (.v (.int d)), x], T⟩ = .ok (.v (.ref r)) ⟨[some (.v (.ref r)), some (.v (.int d)), x], T⟩ := fun T x => rfl
  have f1 : ("word_here" : String) ≠ "words" ∧ ("word_here" : String) ≠ "finish" ∧ ("word_here" : String) ≠ "at" := by decide
  have f2 : ("past" : String) ≠ "words" ∧ ("past" : String) ≠ "finish" ∧ ("past" : String) ≠ "at" := by decide
  have h0 := hp rest hs
  rw [set_self hS] at h0
  have a0 := ans_meth (σ := [some (.v (.ref r)), some (.v (.int d)), none]) (a := aCons (eVar 1) aNil) (o := eVar 0) (N := n + 4) hS hm (v0 S _) hsub (by simp; rfl) rfl h0
  unfold one
  cases e0 : p rest with
  | out => trivial
  | bad pl =>
    rw [e0] at a0
    obtain ⟨r2, s2, a0⟩ := a0
    refine ⟨r2, s2, ?_⟩
    simp only [runF]
    simp [a0, -eMeth_ap]
  | ok q r1 =>
    rw [e0] at a0
    obtain ⟨s1, a0⟩ := a0
    dsimp only
    have lp := lp_run (ws := ws) (fin := fin) (S := S) (r := r) (kw := kw) (p := p) (t := t) (body := body) (envA := fun acc => [some (.v (.ref r)), some (.v (.int d)), some (.o (.lst (oDs acc)))])
      (fun acc rest' hs' => by
        have hS' := set_at (x := RD ws fin rest') hS
        have e1 := word_here hS' hs' (n + 3)
        subst ht
        simp only [tV_ap, e2_ap]
        rw [rd_meth hS' m_word (v0 _ _) f1]
        simp [e1])
      (fun acc rest' hs' hw hl => by
        have hS' := set_at (x := RD ws fin rest') hS
        have p1 := past hS' hs' kw hk (n + 2)
        have h1 : pst fin kw rest' = .ok () rest'.tail := by unfold pst; rw [if_pos hw]
        rw [h1] at p1
        obtain ⟨s2, p1⟩ := p1
        rw [setset] at p1
        have hp1 : eMeth (Pg.call (n + 4)) Pg.T "past" (eVar 0) (aCons (eC (.str kw)) aNil) ⟨[some (.v (.ref r)), some (.v (.int d)), some (.o (.lst (oDs acc)))], S.set r (RD ws fin rest')⟩ = .ok (.v .non) ⟨[some (.v (.ref r)), some (.v (.int d)), some (.o (.lst (oDs acc)))], S.set r (RD ws fin rest'.tail)⟩ := by
          rw [rd_meth hS' m_past (v0 _ _) f2]; simp [p1]
        have hS2 := set_at (x := RD ws fin rest'.tail) hS
        have a2 := ans_meth (σ := [some (.v (.ref r)), some (.v (.int d)), some (.o (.lst (oDs acc)))]) (a := aCons (eVar 1) aNil) (o := eVar 0) (N := n + 4) hS2 hm (v0 _ _) hsub (by simp; rfl) rfl (hp rest'.tail s2)
        have hlen : (oDs acc).length < big := by rw [oDs_map, List.length_map]; exact lt_big (by omega)
        subst hb
        cases e2 : p rest'.tail with
        | out => trivial
        | bad pl =>
          rw [e2] at a2
          obtain ⟨r3, s3, a2⟩ := a2
          rw [setset] at a2
          refine ⟨r3, [some (.v (.ref r)), some (.v (.int d)), some (.o (.lst (oDs acc)))], s3, ?_⟩
          simp [hp1, a2, isL, Me.own, Me.slot, -eMeth_ap]
        | ok q2 r3 =>
          rw [e2] at a2
          obtain ⟨s3, a2⟩ := a2
          rw [setset] at a2
          refine ⟨s3, ?_⟩
          simp [hp1, a2, isL, Me.own, Me.slot, mApp, hlen, Me.put, -eMeth_ap]
          simp [oDs_map])
      wlim [q] r1 s1 (by have := wlim_le; simp; omega)
    cases e1 : lpP kw p wlim [q] r1 with
    | out => trivial
    | bad pl =>
      rw [e1] at lp
      obtain ⟨r2, σ', s2, lp⟩ := lp
      refine ⟨r2, s2, ?_⟩
      simp only [runF]
      simp [a0, -eMeth_ap]
      rw [show [oD q] = oDs [q] from rfl, lp]
      rfl
    | ok qs r2 =>
      rw [e1] at lp
      obtain ⟨s2, hlen, lp⟩ := lp
      refine ⟨s2, ?_⟩
      simp only [runF]
      simp [a0, -eMeth_ap]
      rw [show [oD q] = oDs [q] from rfl, lp]
      have hl2 : (oDs qs).length = qs.length := by rw [oDs_map, List.length_map]
      have mk := mk_chain (n := n + 3) (an := an) (qs := qs) (a := aCons (eFrz 2) aNil) (m := ⟨[some (.v (.ref r)), some (.v (.int d)), some (.o (.lst (oDs qs)))], S.set r (RD ws fin r2)⟩) (m1 := ⟨[some (.v (.ref r)), some (.v (.int d)), some (.v (.lst (oDs qs)))], S.set r (RD ws fin r2)⟩) (by simp)
      by_cases h1 : qs.length = 1
      · match qs, h1 with
        | [q1], _ => simp [aLen, gLen, Me.items, Me.cl, Me.slot, oDs, mkQ, gIxU_sl (xs := [oD q1]), atI, ixN]
      · have h1' : ((qs.length : Int) == 1) = false := by simp; omega
        have hmk : mkQ an qs = .bin an qs := by
          unfold mkQ
          split
          · exact absurd rfl h1
          · rfl
        rw [hmk]
        simp [aLen, gLen, Me.items, Me.cl, Me.slot, hl2, h1', mk]
theorem P_run (hl : ∀ w ∈ ws, w.2.length ≤ 1000000) : ∀ (n : Nat) (kd : Kd) (d r : Nat) (S : List SC) (rest : List W), S[r]? = some (RD ws fin rest) → rest <:+ ws → (kd = .inner → wd rest = sNot ∨ wd rest = sOpen) →
    Ans ws fin S r oD (Pg.call (n + 4) kd.nm (argsOf r rest d kd) S) (P fin wlim n kd d rest)
  | 0, _, _, _, _, _, _, _, _ => trivial
  | n + 1, .question, d, r, S, rest, hS, hs, _ => by
    show Ans ws fin S r oD (Pg.call (n + 4 + 1) "Reader.question" [.ref r, .int d] S) _
    rw [Pg.c_Reader_question]
    exact one_run (an := false) (p := P fin wlim n .chain d) hS hs (by decide) m_chain (by decide) (fun rest' hs' => P_run hl n .chain d r _ rest' (set_at hS) hs' (fun z => by cases z)) rfl rfl
  | n + 1, .chain, d, r, S, rest, hS, hs, _ => by
    show Ans ws fin S r oD (Pg.call (n + 4 + 1) "Reader.chain" [.ref r, .int d] S) _
    rw [Pg.c_Reader_chain]
    exact one_run (an := true) (p := P fin wlim n .piece d) hS hs (by decide) m_piece (by decide) (fun rest' hs' => P_run hl n .piece d r _ rest' (set_at hS) hs' (fun z => by cases z)) rfl rfl
  | n + 1, .piece, d, r, S, rest, hS, hs, _ => by
    show Ans ws fin S r oD (Pg.call (n + 4 + 1) "Reader.piece" [.ref r, .int d] S) _
    rw [Pg.c_Reader_piece]
    have f1 : ("word_here" : String) ≠ "words" ∧ ("word_here" : String) ≠ "finish" ∧ ("word_here" : String) ≠ "at" := by decide
    have f2 : ("past" : String) ≠ "words" ∧ ("past" : String) ≠ "finish" ∧ ("past" : String) ≠ "at" := by decide
    have f3 : ("inner" : String) ≠ "words" ∧ ("inner" : String) ≠ "finish" ∧ ("inner" : String) ≠ "at" := by decide
    have f4 : ("range_of" : String) ≠ "words" ∧ ("range_of" : String) ≠ "finish" ∧ ("range_of" : String) ≠ "at" := by decide
    have f5 : ("place_here" : String) ≠ "words" ∧ ("place_here" : String) ≠ "finish" ∧ ("place_here" : String) ≠ "at" := by decide
    have v0 : ∀ T x, eVar 0 ⟨[some (.v (.ref r)), some (.v (.int d)), x], T⟩ = .ok (.v (.ref r)) ⟨[some (.v (.ref r)), some (.v (.int d)), x], T⟩ := fun T x => rfl
    have e1 := word_here hS hs (n + 3)
    have hwh : eMeth (Pg.call (n + 4)) Pg.T "word_here" (eVar 0) aNil ⟨[some (.v (.ref r)), some (.v (.int d)), none], S⟩ = .ok (.v (.str (wd rest))) ⟨[some (.v (.ref r)), some (.v (.int d)), none], S⟩ := by
      rw [rd_meth hS m_word (v0 _ _) f1]; simp [e1]
    have hpl : eMeth (Pg.call (n + 4)) Pg.T "place_here" (eVar 0) aNil ⟨[some (.v (.ref r)), some (.v (.int d)), some (.v (.str (wd rest)))], S⟩ = .ok (.v (.int (plc fin rest))) ⟨[some (.v (.ref r)), some (.v (.int d)), some (.v (.str (wd rest)))], S⟩ := by
      rw [rd_meth hS m_place (v0 _ _) f5]; simp [place_here hS hs (n + 3)]
    have hpast : ∀ kw : Tx, kw ≠ [] → wd rest = kw → eMeth (Pg.call (n + 4)) Pg.T "past" (eVar 0) (aCons (eC (.str kw)) aNil) ⟨[some (.v (.ref r)), some (.v (.int d)), some (.v (.str (wd rest)))], S⟩ = .ok (.v .non) ⟨[some (.v (.ref r)), some (.v (.int d)), some (.v (.str (wd rest)))], S.set r (RD ws fin rest.tail)⟩ ∧ rest.tail <:+ ws := fun kw hk hw => by
      have p1 := past hS hs kw hk (n + 2)
      have h1 : pst fin kw rest = .ok () rest.tail := by unfold pst; rw [if_pos hw]
      rw [h1] at p1
      obtain ⟨s2, p1⟩ := p1
      refine ⟨?_, s2⟩
      rw [rd_meth hS m_past (v0 _ _) f2]; simp [p1]
    unfold P
    by_cases h1 : wd rest = sNot ∨ wd rest = sOpen
    · rw [if_pos h1]
      have a := ans_meth (σ := [some (.v (.ref r)), some (.v (.int d)), some (.v (.str (wd rest)))]) (a := aCons (eVar 2) (aCons (eVar 1) aNil)) (o := eVar 0) (N := n + 4) hS m_inner (v0 _ _) f3 (by simp; rfl) rfl (P_run hl n .inner d r S rest hS hs (fun _ => h1))
      have hc : (wd rest == ([110, 111, 116] : Tx)) = true ∨ (wd rest == ([110, 111, 116] : Tx)) = false ∧ (wd rest == ([40] : Tx)) = true := by
        rcases h1 with h | h
        · left; rw [h]; rfl
        · right; rw [h]; exact ⟨rfl, rfl⟩
      cases e : P fin wlim n .inner d rest with
      | out => trivial
      | bad pl =>
        rw [e] at a
        obtain ⟨r2, s2, a⟩ := a
        refine ⟨r2, s2, ?_⟩
        simp only [runF, Pg.b_Reader_piece]
        rcases hc with hc | ⟨hc, hc2⟩ <;> simp [hwh, *, -eMeth_ap]
      | ok q r2 =>
        rw [e] at a
        obtain ⟨s2, a⟩ := a
        refine ⟨s2, ?_⟩
        simp only [runF, Pg.b_Reader_piece]
        rcases hc with hc | ⟨hc, hc2⟩ <;> simp [hwh, *, -eMeth_ap]
    rw [if_neg h1]
    have n1 : (wd rest == ([110, 111, 116] : Tx)) = false := by simpa [sNot] using fun h => h1 (.inl h)
    have n2 : (wd rest == ([40] : Tx)) = false := by simpa [sOpen] using fun h => h1 (.inr h)
    by_cases h2 : wd rest = sAll
    · rw [if_pos h2]
      have n3 : (wd rest == ([97, 108, 108] : Tx)) = true := by rw [h2]; rfl
      obtain ⟨hp, s2⟩ := hpast sAll (by decide) h2
      rw [show sAll = ([97, 108, 108] : Tx) from rfl] at hp
      refine ⟨s2, ?_⟩
      simp only [runF, Pg.b_Reader_piece]
      simp [hwh, n1, n2, n3, hp, mk_every 0, -eMeth_ap, -eMake0_ap]
    rw [if_neg h2]
    have n3 : (wd rest == ([97, 108, 108] : Tx)) = false := by simpa [sAll] using h2
    by_cases h3 : wd rest = sNone
    · rw [if_pos h3]
      have n4 : (wd rest == ([110, 111, 110, 101] : Tx)) = true := by rw [h3]; rfl
      obtain ⟨hp, s2⟩ := hpast sNone (by decide) h3
      rw [show sNone = ([110, 111, 110, 101] : Tx) from rfl] at hp
      refine ⟨s2, ?_⟩
      simp only [runF, Pg.b_Reader_piece]
      simp [hwh, n1, n2, n3, n4, hp, mk_nobody 0, -eMeth_ap, -eMake0_ap]
    rw [if_neg h3]
    have n4 : (wd rest == ([110, 111, 110, 101] : Tx)) = false := by simpa [sNone] using h3
    have hnm := is_name (wd rest) (wd_len hl hs) (n + 3) S
    by_cases h4 : isNmF (wd rest) = true
    · rw [if_pos h4]
      rw [h4] at hnm
      have hne : wd rest ≠ [] := fun z => by rw [z] at h4; exact absurd h4 (by decide)
      obtain ⟨hp, s2⟩ := hpast (wd rest) hne rfl
      have hp' : eMeth (Pg.call (n + 4)) Pg.T "past" (eVar 0) (aCons (eVar 2) aNil) ⟨[some (.v (.ref r)), some (.v (.int d)), some (.v (.str (wd rest)))], S⟩ = .ok (.v .non) ⟨[some (.v (.ref r)), some (.v (.int d)), some (.v (.str (wd rest)))], S.set r (RD ws fin rest.tail)⟩ := hp
      have a := ans_meth (σ := [some (.v (.ref r)), some (.v (.int d)), some (.v (.str (wd rest)))]) (a := aCons (eVar 2) aNil) (o := eVar 0) (N := n + 4) (set_at (x := RD ws fin rest.tail) hS) m_rng (v0 _ _) f4 (by simp; rfl) rfl (range_of (set_at (x := RD ws fin rest.tail) hS) s2 hl (wd rest) (n + 1))
      cases e : rng fin (wd rest) rest.tail with
      | out => trivial
      | bad pl =>
        rw [e] at a
        obtain ⟨r2, s3, a⟩ := a
        rw [setset] at a
        refine ⟨r2, s3, ?_⟩
        simp only [runF, Pg.b_Reader_piece]
        simp [hwh, n1, n2, n3, n4, hnm, hp', a, -eMeth_ap]
      | ok q r2 =>
        rw [e] at a
        obtain ⟨s3, a⟩ := a
        rw [setset] at a
        refine ⟨s3, ?_⟩
        simp only [runF, Pg.b_Reader_piece]
        simp [hwh, n1, n2, n3, n4, hnm, hp', a, -eMeth_ap]
    · have h4' : isNmF (wd rest) = false := by simpa using h4
      rw [if_neg h4]
      rw [h4'] at hnm
      refine ⟨rest, hs, ?_⟩
      rw [set_self hS]
      simp only [runF, Pg.b_Reader_piece]
      simp [hwh, n1, n2, n3, n4, hnm, hpl, badX, -eMeth_ap]
  | n + 1, .inner, d, r, S, rest, hS, hs, hi => by
    show Ans ws fin S r oD (Pg.call (n + 4 + 1) "Reader.inner" [.ref r, .str (wd rest), .int d] S) _
    rw [Pg.c_Reader_inner]
    have f2 : ("past" : String) ≠ "words" ∧ ("past" : String) ≠ "finish" ∧ ("past" : String) ≠ "at" := by decide
    have f3 : ("piece" : String) ≠ "words" ∧ ("piece" : String) ≠ "finish" ∧ ("piece" : String) ≠ "at" := by decide
    have f4 : ("question" : String) ≠ "words" ∧ ("question" : String) ≠ "finish" ∧ ("question" : String) ≠ "at" := by decide
    have f5 : ("place_here" : String) ≠ "words" ∧ ("place_here" : String) ≠ "finish" ∧ ("place_here" : String) ≠ "at" := by decide
    have v0 : ∀ T x, eVar 0 ⟨[some (.v (.ref r)), some (.v (.str (wd rest))), some (.v (.int d)), x], T⟩ = .ok (.v (.ref r)) ⟨[some (.v (.ref r)), some (.v (.str (wd rest))), some (.v (.int d)), x], T⟩ := fun T x => rfl
    have hpl : eMeth (Pg.call (n + 4)) Pg.T "place_here" (eVar 0) aNil ⟨[some (.v (.ref r)), some (.v (.str (wd rest))), some (.v (.int d)), none], S⟩ = .ok (.v (.int (plc fin rest))) ⟨[some (.v (.ref r)), some (.v (.str (wd rest))), some (.v (.int d)), none], S⟩ := by
      rw [rd_meth hS m_place (v0 _ _) f5]; simp [place_here hS hs (n + 3)]
    unfold P
    by_cases h1 : d = 20
    · rw [if_pos h1]
      refine ⟨rest, hs, ?_⟩
      rw [set_self hS]
      subst h1
      simp only [runF, Pg.b_Reader_inner]
      have hpl' : eMeth (Pg.call (n + 4)) Pg.T "place_here" (eVar 0) aNil ⟨[some (.v (.ref r)), some (.v (.str (wd rest))), some (.v (.int 20)), none], S⟩ = .ok (.v (.int (plc fin rest))) ⟨[some (.v (.ref r)), some (.v (.str (wd rest))), some (.v (.int 20)), none], S⟩ := hpl
      simp [hpl', badX, -eMeth_ap]
    rw [if_neg h1]
    have n0 : ((d : Int) == 20) = false := by simp; omega
    have hne : wd rest ≠ [] := fun z => by rcases hi rfl with h | h <;> rw [h] at z <;> cases z
    have p1 := past hS hs (wd rest) hne (n + 2)
    have h2 : pst fin (wd rest) rest = .ok () rest.tail := by unfold pst; rw [if_pos rfl]
    rw [h2] at p1
    obtain ⟨s2, p1⟩ := p1
    have hS2 := set_at (x := RD ws fin rest.tail) hS
    have hp1 : eMeth (Pg.call (n + 4)) Pg.T "past" (eVar 0) (aCons (eVar 1) aNil) ⟨[some (.v (.ref r)), some (.v (.str (wd rest))), some (.v (.int d)), none], S⟩ = .ok (.v .non) ⟨[some (.v (.ref r)), some (.v (.str (wd rest))), some (.v (.int d)), none], S.set r (RD ws fin rest.tail)⟩ := by
      rw [rd_meth hS m_past (v0 _ _) f2]; simp [p1]
    have hd : ((d : Int) + 1) = ((d + 1 : Nat) : Int) := by omega
    by_cases h3 : wd rest = sNot
    · rw [if_pos h3]
      have n1 : (wd rest == ([110, 111, 116] : Tx)) = true := by rw [h3]; rfl
      have a := ans_meth (σ := [some (.v (.ref r)), some (.v (.str (wd rest))), some (.v (.int d)), none]) (a := aCons (e2 gAddU (eVar 2) (eC (.int 1))) aNil) (o := eVar 0) (N := n + 4) hS2 m_piece (v0 _ _) f3 (by simp; rfl) rfl (by rw [hd]; exact P_run hl n .piece (d + 1) r _ rest.tail hS2 s2 (fun z => by cases z))
      cases e : P fin wlim n .piece (d + 1) rest.tail with
      | out => trivial
      | bad pl =>
        rw [e] at a
        obtain ⟨r2, s3, a⟩ := a
        rw [setset] at a
        refine ⟨r2, s3, ?_⟩
        simp only [runF, Pg.b_Reader_inner]
        simp [n0, n1, hp1, eMakeF, a, -eMeth_ap]
      | ok q r2 =>
        rw [e] at a
        obtain ⟨s3, a⟩ := a
        rw [setset] at a
        refine ⟨s3, ?_⟩
        have mk := mk_opp (n := n + 3) (q := q) (a := aCons (eMeth (Pg.call (n + 4)) Pg.T "piece" (eVar 0) (aCons (e2 gAddU (eVar 2) (eC (.int 1))) aNil)) aNil) (m := ⟨[some (.v (.ref r)), some (.v (.str (wd rest))), some (.v (.int d)), none], S.set r (RD ws fin rest.tail)⟩) (m1 := ⟨[some (.v (.ref r)), some (.v (.str (wd rest))), some (.v (.int d)), none], S.set r (RD ws fin r2)⟩) (by rw [aCons_ap, a]; rfl)
        simp only [runF, Pg.b_Reader_inner]
        simp [n0, n1, hp1, mk, -eMeth_ap]
    · rw [if_neg h3]
      have n1 : (wd rest == ([110, 111, 116] : Tx)) = false := by simpa [sNot] using h3
      have a := ans_meth (σ := [some (.v (.ref r)), some (.v (.str (wd rest))), some (.v (.int d)), none]) (a := aCons (e2 gAddU (eVar 2) (eC (.int 1))) aNil) (o := eVar 0) (N := n + 4) hS2 m_question (v0 _ _) f4 (by simp; rfl) rfl (by rw [hd]; exact P_run hl n .question (d + 1) r _ rest.tail hS2 s2 (fun z => by cases z))
      cases e : P fin wlim n .question (d + 1) rest.tail with
      | out => trivial
      | bad pl =>
        rw [e] at a
        obtain ⟨r2, s3, a⟩ := a
        rw [setset] at a
        refine ⟨r2, s3, ?_⟩
        simp only [runF, Pg.b_Reader_inner]
        simp [n0, n1, hp1, a, -eMeth_ap]
      | ok q r2 =>
        rw [e] at a
        obtain ⟨s3, a⟩ := a
        rw [setset] at a
        have hS3 := set_at (x := RD ws fin r2) hS
        have p3 := past hS3 s3 sClose (by decide) (n + 2)
        have a3 := ans_meth (σ := [some (.v (.ref r)), some (.v (.str (wd rest))), some (.v (.int d)), some (.v (oD q))]) (a := aCons (eC (.str [41])) aNil) (o := eVar 0) (N := n + 4) hS3 m_past (v0 _ _) f2 (by simp; rfl) rfl p3
        dsimp only
        cases e3 : pst fin sClose r2 with
        | out => trivial
        | bad pl =>
          rw [e3] at a3
          obtain ⟨r3, s4, a3⟩ := a3
          rw [setset] at a3
          refine ⟨r3, s4, ?_⟩
          simp only [runF, Pg.b_Reader_inner]
          simp [n0, n1, hp1, a, a3, -eMeth_ap]
        | ok u r3 =>
          rw [e3] at a3
          obtain ⟨s4, a3⟩ := a3
          rw [setset] at a3
          refine ⟨s4, ?_⟩
          simp only [runF, Pg.b_Reader_inner]
          simp [n0, n1, hp1, a, a3, -eMeth_ap]
end
end Lw

set_option linter.all false
set_option maxRecDepth 100000
namespace Lw
open Mi
theorem wfold_len : ∀ (cs : List Nat) (i : Nat) (fs : List W) (wd : Tx) (N : Nat), wd.length ≤ i → i + cs.length ≤ N → 1 ≤ N → (∀ w ∈ fs, w.2.length ≤ N) → ∀ w ∈ (wfold cs i fs wd).1, w.2.length ≤ N
  | [], i, fs, wd, N, _, _, _, h => h
  | c :: cs, i, fs, wd, N, hi, hl, h1, h => by
    rw [List.length_cons] at hl
    rw [wfold]
    refine wfold_len cs (i + 1) _ _ N ?_ (by omega) h1 ?_
    · unfold wstep; split <;> simp; omega
    · unfold wstep
      intro w hw
      split at hw
      · rcases List.mem_append.mp hw with hw | hw
        · split at hw
          · exact h w hw
          · rcases List.mem_append.mp hw with hw | hw
            · exact h w hw
            · rw [List.mem_singleton.mp hw]; simp; omega
        · split at hw
          · cases hw
          · rw [List.mem_singleton.mp hw]; simpa using h1
      · exact h w hw
theorem wordsF_len (z : Tx) : ∀ w ∈ wordsF z, w.2.length ≤ z.length + 1 := wfold_len (z ++ [32]) 0 [] [] (z.length + 1) (by simp) (by simp) (by omega) (fun _ h => absurd h List.not_mem_nil)
/-- what is read of a text -/
inductive RR where
  | ok (q : Q) | bad (p : Nat) | out
noncomputable def readF (n : Nat) (z : Tx) : RR := match P z.length wlim n .question 0 (wordsF z) with
  | .ok q r => if r = [] then .ok q else .bad (plc z.length r)
  | .bad p => .bad p
  | .out => .out
def AnsR (S : List SC) (g : RG) : RR → Prop
  | .ok q => ∃ x, g = .ok (oD q) (S ++ [x])
  | .bad p => ∃ x, g = .ex (badX p) (S ++ [x])
  | .out => True
theorem rd_ini (z : Tx) (hz : z.length ≤ 40000) (n : Nat) (S : List SC) : Pg.call (n + 2) "Reader.__init__" [.ref S.length, .str z] (S ++ [.ins "Reader" []]) = .ok .non (S ++ [RD (wordsF z) z.length (wordsF z)]) := by
  rw [Pg.c_Reader___init__]
  have f1 : Pg.T.fl "Reader" "at" = true := by simp [Pg.T, tbOf, Pg.flL]
  have f2 : Pg.T.fl "Reader" "words" = true := by simp [Pg.T, tbOf, Pg.flL]
  have f3 : Pg.T.fl "Reader" "finish" = true := by simp [Pg.T, tbOf, Pg.flL]
  have e := words_of z hz n (S ++ [.ins "Reader" []])
  have hb : z.length ≤ big := le_big (by omega)
  simp only [runF, Pg.b_Reader___init__]
  simp [e, f1, f2, f3, putF, aLen, gLen, hb, RD]
theorem read_question (z : Tx) (hz : z.length ≤ 40000) (n : Nat) (S : List SC) : AnsR S (Pg.call (n + 5) "read_question" [.str z] S) (readF n z) := by
  rw [Pg.c_read_question]
  have e0 := rd_ini z hz (n + 2) S
  have hin : Pg.T.ini "Reader" = some "Reader.__init__" := by simp [Pg.T, tbOf, Pg.inL]
  have hS : (S ++ [RD (wordsF z) z.length (wordsF z)])[S.length]? = some (RD (wordsF z) z.length (wordsF z)) := by simp
  have hl : ∀ w ∈ wordsF z, w.2.length ≤ 1000000 := fun w h => Nat.le_trans (wordsF_len z w h) (by omega)
  have e1 := P_run (fin := z.length) hl n .question 0 S.length _ (wordsF z) hS (List.suffix_refl _) (fun z => by cases z)
  have f4 : ("question" : String) ≠ "words" ∧ ("question" : String) ≠ "finish" ∧ ("question" : String) ≠ "at" := by decide
  have f5 : ("place_here" : String) ≠ "words" ∧ ("place_here" : String) ≠ "finish" ∧ ("place_here" : String) ≠ "at" := by decide
  have a := ans_meth (σ := [some (.v (.str z)), some (.v (.ref S.length)), none]) (a := aCons (eC (.int 0)) aNil) (o := eVar 1) (N := n + 4) hS m_question rfl f4 (by simp; rfl) rfl e1
  have hset : ∀ x : SC, (S ++ [RD (wordsF z) z.length (wordsF z)]).set S.length x = S ++ [x] := fun x => set_last S _ x
  have f1 : Pg.T.fl "Reader" "at" = true := by simp [Pg.T, tbOf, Pg.flL]
  have f2 : Pg.T.fl "Reader" "words" = true := by simp [Pg.T, tbOf, Pg.flL]
  unfold readF
  cases e : P z.length wlim n .question 0 (wordsF z) with
  | out => trivial
  | bad pl =>
    rw [e] at a
    obtain ⟨r2, s2, a⟩ := a
    rw [hset] at a
    refine ⟨RD (wordsF z) z.length r2, ?_⟩
    simp only [runF, Pg.b_read_question]
    simp [hin, e0, a, -eMeth_ap]
  | ok q r2 =>
    rw [e] at a
    obtain ⟨s2, a⟩ := a
    rw [hset] at a
    have hS2 : (S ++ [RD (wordsF z) z.length r2])[S.length]? = some (RD (wordsF z) z.length r2) := by simp
    have ho := fun σ => rd_obj (σ := σ) hS2
    dsimp only
    cases r2 with
    | nil =>
      refine ⟨RD (wordsF z) z.length [], ?_⟩
      have ho' := ho [some (.v (.str z)), some (.v (.ref S.length)), some (.v (oD q))]
      simp only [runF, Pg.b_read_question]
      simp [hin, e0, a, ho', f1, f2, aLen, gLen, Me.items, Me.cl, -eMeth_ap]
    | cons w r =>
      refine ⟨RD (wordsF z) z.length (w :: r), ?_⟩
      have ho' := ho [some (.v (.str z)), some (.v (.ref S.length)), some (.v (oD q))]
      have hp := place_here hS2 s2 (n + 3)
      have hm := rd_meth (C := Pg.call (n + 4)) (a := aNil) (o := eVar 1) (σ := [some (.v (.str z)), some (.v (.ref S.length)), some (.v (oD q))]) hS2 m_place rfl f5
      have hlt := suf_at s2
      have hlt2 : (((wordsF z).length - (r.length + 1) : Nat) : Int) < ((wordsF z).length : Int) := by have := hlt.2; rw [List.length_cons] at this; omega
      simp only [runF, Pg.b_read_question]
      simp [hin, e0, a, ho', f1, f2, aLen, gLen, Me.items, Me.cl, hlt2, hm, hp, badX, -eMeth_ap]
end Lw

set_option linter.all false
set_option maxRecDepth 100000
namespace Lw
open Mi
/-! # the law's own helpers: cells, numbers mixed, texts split -/
def cellF (ns : List Int) (k : Nat) : Int := ns.getD k 0
theorem cell_at (ns : List Int) (k n : Nat) (S : List SC) : Pg.call (n + 1) "_law_cell_at" [.scr (ns.map D.int), .int k] S = .ok (.int (cellF ns k)) S := by
  rw [Pg.c__law_cell_at]
  by_cases h : k < ns.length
  · simp [runF, Pg.b__law_cell_at, Me.items, aLen, gLen, h, atI, ixN, cellF]
  · simp [runF, Pg.b__law_cell_at, Me.items, aLen, gLen, h, cellF]
def mixF (c k : Int) : Int := (((c * 48271 + k * 7919 + 104729).fmod 2147483647) * ((c * 48271 + k * 7919 + 104729).fmod 2147483647)).fmod 2147483629
theorem mixed (c k : Int) (n : Nat) (S : List SC) : Pg.call (n + 1) "_law_mixed" [.int c, .int k] S = .ok (.int (mixF c k)) S := by
  rw [Pg.c__law_mixed]
  have h1 : ∀ i : Int, (small64 i || small64 48271) = true := fun i => by simp [small_of]
  have h2 : ∀ i : Int, (small64 i || small64 7919) = true := fun i => by simp [small_of]
  have h3 : small64 ((c * 48271 + k * 7919 + 104729).fmod 2147483647) = true := by
    have a := Int.fmod_nonneg_of_pos (c * 48271 + k * 7919 + 104729) (b := 2147483647) (by decide)
    have b := Int.fmod_lt_of_pos (c * 48271 + k * 7919 + 104729) (b := 2147483647) (by decide)
    exact small_nn a (by omega)
  simp [runF, Pg.b__law_mixed, gMul_int, gMod_int, h1, h2, h3, mixF]
theorem fm_nn (a : Int) {b : Int} (h : 0 < b) : 0 ≤ a.fmod b := Int.fmod_nonneg_of_pos a h
theorem fm_lt (a : Int) {b : Int} (h : 0 < b) : a.fmod b < b := Int.fmod_lt_of_pos a h
theorem mix_nn (c k : Int) : 0 ≤ mixF c k := fm_nn _ (by decide)
theorem mix_lt (c k : Int) : mixF c k < 2147483629 := fm_lt _ (by decide)
/-! ### split -/
theorem wfold_app : ∀ (a b : List Nat) (i : Nat) (fs : List W) (wd : Tx), wfold (a ++ b) i fs wd = wfold b (i + a.length) (wfold a i fs wd).1 (wfold a i fs wd).2
  | [], b, i, fs, wd => rfl
  | c :: a, b, i, fs, wd => by
    rw [List.cons_append, wfold, wfold_app a b]
    rw [List.length_cons, show i + 1 + a.length = i + (a.length + 1) by omega]
    rfl
theorem ix_str (z : Tx) (k : Nat) (hz : z.length ≤ big) (m : Me) : gIxU (.v (.str z)) (.v (.int k)) m = (z[k]?).map fun c => .str [c] := by
  rw [gIxU_str _ _ _ hz]
  congr 1
  unfold atI ixN
  by_cases h : k < z.length
  · simp [h]
  · simp [h]
theorem cut_str (z : Tx) (a b : Nat) (hb : b ≤ z.length) : cut z (some (a : Int)) (some (b : Int)) = (z.drop a).take (b - a) := by
  unfold cut sIx
  have h1 : ¬ (a : Int) < 0 := by omega
  have h2 : ¬ (b : Int) < 0 := by omega
  simp only [h1, h2, if_false, Int.toNat_natCast]
  by_cases h : a ≤ z.length
  · rw [Nat.min_eq_left h, Nat.min_eq_left hb]
  · rw [Nat.min_eq_left hb]
    rw [List.drop_eq_nil_of_le (by omega), List.drop_eq_nil_of_le (by omega)]; simp
/-- what stands behind k signs -/
def spSt (z : Tx) (k : Nat) : List W × Tx := wfold (z.take k) 0 [] []
theorem spSt_succ (z : Tx) (k : Nat) (c : Nat) (h : z[k]? = some c) : spSt z (k + 1) = wstep k c (spSt z k).1 (spSt z k).2 := by
  unfold spSt
  have hk : k < z.length := (List.getElem?_eq_some_iff.mp h).1
  rw [List.take_succ, h, Option.toList_some, wfold_app]
  simp only [List.length_take, Nat.zero_add, Nat.min_eq_left (Nat.le_of_lt hk)]
  rfl
theorem spSt_wd (z : Tx) : ∀ k, k ≤ z.length → (spSt z k).2.length ≤ k ∧ (z.drop (k - (spSt z k).2.length)).take (spSt z k).2.length = (spSt z k).2
  | 0, _ => by simp [spSt, wfold]
  | k + 1, h => by
    obtain ⟨h1, h2⟩ := spSt_wd z k (by omega)
    have hc : z[k]? = some z[k] := List.getElem?_eq_getElem (by omega)
    rw [spSt_succ z k _ hc]
    unfold wstep
    split
    · simp
    · refine ⟨by simp; omega, ?_⟩
      simp only [List.length_append, List.length_singleton]
      rw [show k + 1 - ((spSt z k).2.length + 1) = k - (spSt z k).2.length by omega]
      rw [List.take_succ, h2, List.getElem?_drop, show k - (spSt z k).2.length + (spSt z k).2.length = k by omega, hc]
      rfl
theorem split_loop (z : Tx) (hz : z.length ≤ 40000) (n : Nat) (S : List SC) : ∃ s1 k1, forL (.n 3) (Pg.lp__law_split_1 (Pg.call n)) (intsL 0 (z.length + 1)) ⟨[some (.v (.str z)), some (.o (.lst [])), some (.v (.int 0)), none], S⟩ =
    .nx ⟨[some (.v (.str z)), some (.o (.lst ((wordsF z).map wD))), s1, k1], S⟩ := by
  have hzb : z.length ≤ big := le_big (by omega)
  obtain ⟨m', e, h⟩ := for_range (b := .n 3) (body := Pg.lp__law_split_1 (Pg.call n))
    (fun k m => (k ≤ z.length → ∃ k1, m = ⟨[some (.v (.str z)), some (.o (.lst ((spSt z k).1.map wD))), some (.v (.int ((k - (spSt z k).2.length : Nat) : Int))), k1], S⟩ ∧ (spSt z k).1.length ≤ 2 * k) ∧
      (k = z.length + 1 → ∃ s1 k1, m = ⟨[some (.v (.str z)), some (.o (.lst ((wordsF z).map wD))), s1, k1], S⟩)) (z.length + 1) ⟨[some (.v (.str z)), some (.o (.lst [])), some (.v (.int 0)), none], S⟩
    ⟨fun _ => ⟨none, by simp [spSt, wfold], by simp [spSt, wfold]⟩, fun h => by omega⟩ (fun k m hk ⟨hm, _⟩ => by
      obtain ⟨k1, rfl, hl⟩ := hm (by omega)
      obtain ⟨h1, h2⟩ := spSt_wd z k (by omega)
      have hlb : (spSt z k).1.length ≤ 1000000 := by omega
      have hlb2 : (spSt z k).1.length + 1 ≤ 1000000 := by omega
      have hcut : cut z (some (((k - (spSt z k).2.length : Nat) : Int))) (some (k : Int)) = (spSt z k).2 := by
        rw [cut_str z _ _ (by omega), show k - (k - (spSt z k).2.length) = (spSt z k).2.length by omega, h2]
      have hlt : ¬ (spSt z k).2 = [] → (k - (spSt z k).2.length < k) = True := fun he => eq_true (by
        cases q : (spSt z k).2 with
        | nil => exact absurd q he
        | cons c r => rw [q] at h1; simp at h1 ⊢; omega)
      have hsub : ((k - (spSt z k).2.length : Nat) : Int) = (k : Int) - ((spSt z k).2.length : Int) := by omega
      by_cases hend : k = z.length
      · -- the end
        have hq : ((k : Int) == (z.length : Int)) = true := by simp [hend]
        have hn : ¬ (k : Int) < (z.length : Int) := by omega
        have hw : wordsF z = (if (spSt z k).2 = [] then (spSt z k).1 else (spSt z k).1 ++ [(k - (spSt z k).2.length, (spSt z k).2)]) := by
          unfold wordsF
          rw [wfold_app]
          have : wfold z 0 [] [] = spSt z k := by unfold spSt; rw [hend, List.take_length]
          rw [this, Nat.zero_add, ← hend]
          simp [wfold, wstep, brk]
        have goal : ∃ s1 k1, (Pg.lp__law_split_1 (Pg.call n) ⟨[some (.v (.str z)), some (.o (.lst ((spSt z k).1.map wD))), some (.v (.int ((k - (spSt z k).2.length : Nat) : Int))), some (.v (.int (k : Int)))], S⟩) = .nx ⟨[some (.v (.str z)), some (.o (.lst ((wordsF z).map wD))), s1, k1], S⟩ := by
          rw [hw]
          refine ⟨some (.v (.int (k + 1))), some (.v (.int k)), ?_⟩
          simp only [Pg.lp__law_split_1]
          by_cases he : (spSt z k).2 = []
          · rw [if_pos he]
            simp [aLen, gLen, hzb, hq, hlt, he, hn]
          · rw [if_neg he]
            simp [aLen, gLen, hzb, hq, hlt, he, hn, hcut, isL, Me.own, Me.slot, mApp, hlb, Me.put, wD]
        obtain ⟨s1, k2, goal⟩ := goal
        simp [goal]
        exact fun h => by omega
      · have hk2 : k < z.length := by omega
        have hc : z[k]? = some z[k] := List.getElem?_eq_getElem hk2
        have hq : ((k : Int) == (z.length : Int)) = false := by simp; omega
        have hn : (k : Int) < (z.length : Int) := by omega
        have hix : ∀ m, gIxU (.v (.str z)) (.v (.int (k : Int))) m = some (.str [z[k]]) := fun m => by rw [ix_str z k hzb, hc]; rfl
        have q : ∀ m, gInV (.v (.str [z[k]])) (.v (.str [32, 40, 41])) m = some (.bl (brk z[k])) := fun m => by rw [gInV_str, inT_one]; rfl
        have hs := spSt_succ z k _ hc
        generalize z[k] = c at hc hix q hs
        have goal : ∃ k1, (Pg.lp__law_split_1 (Pg.call n) ⟨[some (.v (.str z)), some (.o (.lst ((spSt z k).1.map wD))), some (.v (.int ((k - (spSt z k).2.length : Nat) : Int))), some (.v (.int (k : Int)))], S⟩) = .nx ⟨[some (.v (.str z)), some (.o (.lst ((spSt z (k + 1)).1.map wD))), some (.v (.int ((k + 1 - (spSt z (k + 1)).2.length : Nat) : Int))), k1], S⟩ := by
          rw [hs]
          refine ⟨some (.v (.int k)), ?_⟩
          simp only [Pg.lp__law_split_1]
          unfold wstep
          by_cases hb : brk c = true
          · rw [if_pos hb]
            by_cases he : (spSt z k).2 = []
            · by_cases h32 : c = 32
              · subst h32; simp [aLen, gLen, hzb, hq, hlt, he, hn, hix, q, hb]
              · simp [aLen, gLen, hzb, hq, hlt, he, hn, hix, q, hb, h32, isL, Me.own, Me.slot, mApp, hlb, Me.put, wD]
            · by_cases h32 : c = 32
              · subst h32; simp [aLen, gLen, hzb, hq, hlt, he, hn, hix, q, hb, hcut, isL, Me.own, Me.slot, mApp, hlb, Me.put, wD]
              · simp [aLen, gLen, hzb, hq, hlt, he, hn, hix, q, hb, h32, hcut, isL, Me.own, Me.slot, mApp, hlb, hlb2, Me.put, wD]
          · have hb' : brk c = false := by simpa using hb
            rw [if_neg hb]
            simp [aLen, gLen, hzb, hq, hix, q, hb']
        obtain ⟨k2, goal⟩ := goal
        simp [goal]
        refine ⟨fun _ => ?_, fun h => by omega⟩
        rw [hs]
        unfold wstep
        split
        · split <;> split <;> simp <;> omega
        · simp; omega)
  obtain ⟨s1, k1, rfl⟩ := h.2 rfl
  exact ⟨s1, k1, e⟩
theorem split (z : Tx) (hz : z.length ≤ 40000) (n : Nat) (S : List SC) : Pg.call (n + 1) "_law_split" [.str z] S = .ok (.lst ((wordsF z).map wD)) S := by
  rw [Pg.c__law_split]
  obtain ⟨s1, k1, e⟩ := split_loop z hz n S
  have hzb : z.length ≤ big := le_big (by omega)
  have h62 : in62 ((z.length : Int) + 1) = true := in62_of (by omega) (by omega)
  have ht : ((z.length : Int) + 1).toNat = z.length + 1 := by omega
  simp only [runF, Pg.b__law_split]
  simp [aLen, gLen, hzb, h62, ht, e]
end Lw

set_option linter.all false
set_option maxRecDepth 100000
namespace Lw
open Mi
/-! # words put into a text -/
def blk (i : Int) : Tx := ([32, 32] : Tx).take i.toNat
def spStep (cell : Int) (k : Nat) (b w : Tx) : Tx :=
  (if (0 : Int) < (k : Int) ∧ ((inT b [40, 41] || inT w [40, 41]) = false ∨ (mixF cell (k + 40)).fmod 2 = 1) then [32] else []) ++ ((if (k : Int).fmod 8 = 0 ∧ (mixF cell (k + 40)).fmod 3 = 0 then [32] else []) ++ w)
def spG (cell : Int) : List Tx → Nat → Tx → Tx
  | [], _, _ => []
  | w :: r, k, b => spStep cell k b w ++ spG cell r (k + 1) w
def spF (ws : List Tx) (cell : Int) : Tx := blk (cell.fmod 3) ++ spG cell ws 0 [40] ++ blk ((cell.fdiv 3).fmod 3)
def lastW (b : Tx) (a : List Tx) : Tx := a.getLast?.getD b
theorem mem_le_sum {x : Nat} : ∀ {l : List Nat}, x ∈ l → x ≤ l.sum
  | y :: l, h => by
    rw [List.sum_cons]
    rcases List.mem_cons.mp h with rfl | h
    · omega
    · have := mem_le_sum h; omega
theorem spG_snoc (cell : Int) : ∀ (a : List Tx) (k : Nat) (b w : Tx), spG cell (a ++ [w]) k b = spG cell a k b ++ spStep cell (k + a.length) (lastW b a) w
  | [], k, b, w => by simp [spG, lastW]
  | v :: a, k, b, w => by
    rw [List.cons_append, spG, spG_snoc cell a (k + 1) v w, spG, List.append_assoc, List.length_cons, show k + 1 + a.length = k + (a.length + 1) by omega]
    congr 3
    unfold lastW
    cases a with
    | nil => rfl
    | cons c r =>
      have : ∀ y : Tx, (c :: r).getLast?.getD y = (c :: r).getLast (List.cons_ne_nil _ _) := fun y => by rw [List.getLast?_eq_some_getLast (List.cons_ne_nil _ _)]; rfl
      rw [List.getLast?_cons_cons, this, this]
def wlen (ws : List Tx) : Nat := (ws.map fun w => w.length + 2).sum
theorem spStep_len (cell : Int) (k : Nat) (b w : Tx) : (spStep cell k b w).length ≤ w.length + 2 := by
  unfold spStep
  split <;> split <;> simp <;> omega
theorem spG_len (cell : Int) : ∀ (ws : List Tx) (k : Nat) (b : Tx), (spG cell ws k b).length ≤ wlen ws
  | [], _, _ => Nat.zero_le _
  | w :: r, k, b => by
    have h1 := spG_len cell r (k + 1) w
    have h2 := spStep_len cell k b w
    simp only [spG, wlen, List.length_append, List.map_cons, List.sum_cons] at *
    omega
theorem blk_len (i : Int) : (blk i).length ≤ 2 := by unfold blk; rw [List.length_take]; exact Nat.min_le_right ..
theorem spF_len (ws : List Tx) (cell : Int) : (spF ws cell).length ≤ wlen ws + 4 := by
  unfold spF
  have h1 := spG_len cell ws 0 [40]
  have h2 := blk_len (cell.fmod 3)
  have h3 := blk_len ((cell.fdiv 3).fmod 3)
  simp only [List.length_append]
  omega
theorem wlen_take (ws : List Tx) (k : Nat) : wlen (ws.take k) ≤ wlen ws := by
  have : wlen ws = wlen (ws.take k) + wlen (ws.drop k) := by
    unfold wlen
    rw [← List.sum_append, ← List.map_append, List.take_append_drop]
  omega
theorem cut_blk (i : Int) (h0 : 0 ≤ i) (h1 : i < 3) : cut ([32, 32] : Tx) none (some i) = blk i := by
  obtain ⟨k, rfl⟩ := Int.eq_ofNat_of_zero_le h0
  have : k = 0 ∨ k = 1 ∨ k = 2 := by omega
  rcases this with rfl | rfl | rfl <;> rfl
theorem spaced (ws : List Tx) (cell : Int) (hw : wlen ws ≤ 30000) (hn : ws.length ≤ 20000) (n : Nat) (S : List SC) : Pg.call (n + 2) "_law_spaced" [.lst (ws.map D.str), .int cell] S = .ok (.str (spF ws cell)) S := by
  rw [Pg.c__law_spaced]
  have loop : ∃ b1 k1 x1 t1, forL (.n 4) (Pg.lp__law_spaced_1 (Pg.call (n + 1))) (intsL 0 ws.length) ⟨[some (.v (.lst (ws.map D.str))), some (.v (.int cell)), some (.v (.str (blk (cell.fmod 3)))), some (.v (.str [40])), none, none, none], S⟩ =
      .nx ⟨[some (.v (.lst (ws.map D.str))), some (.v (.int cell)), some (.v (.str (blk (cell.fmod 3) ++ spG cell ws 0 [40]))), b1, k1, x1, t1], S⟩ := by
    obtain ⟨m', e, k1, x1, t1, rfl⟩ := for_range (b := .n 4) (body := Pg.lp__law_spaced_1 (Pg.call (n + 1)))
      (fun k m => ∃ k1 x1 t1, m = ⟨[some (.v (.lst (ws.map D.str))), some (.v (.int cell)), some (.v (.str (blk (cell.fmod 3) ++ spG cell (ws.take k) 0 [40]))), some (.v (.str (lastW [40] (ws.take k)))), k1, x1, t1], S⟩) ws.length
      ⟨[some (.v (.lst (ws.map D.str))), some (.v (.int cell)), some (.v (.str (blk (cell.fmod 3)))), some (.v (.str [40])), none, none, none], S⟩
      ⟨none, none, none, by simp [spG, lastW]⟩ (by
        rintro k m hk ⟨k1, x1, t1, rfl⟩
        have hwk : ws[k]? = some ws[k] := List.getElem?_eq_getElem hk
        have htk : ws.take (k + 1) = ws.take k ++ [ws[k]] := by rw [List.take_succ, hwk]; rfl
        have hlen : (blk (cell.fmod 3) ++ spG cell (ws.take k) 0 [40]).length ≤ 40000 := by
          have h1 := spG_len cell (ws.take k) 0 [40]
          have h2 := blk_len (cell.fmod 3)
          have h3 := wlen_take ws k
          rw [List.length_append]; omega
        have hwl : ws[k].length ≤ 30000 := by
          have : ws[k].length + 2 ≤ wlen ws := by
            unfold wlen
            exact mem_le_sum (List.mem_map.mpr ⟨ws[k], List.getElem_mem _, rfl⟩)
          omega
        have hix : ∀ m, gIxU (.v (.lst (ws.map D.str))) (.v (.int (k : Int))) m = some (.str ws[k]) := fun m => by
          rw [gIxU_lst]
          unfold atI ixN
          simp [hk]
        have hk0 : spG cell (ws.take (k + 1)) 0 [40] = spG cell (ws.take k) 0 [40] ++ spStep cell k (lastW [40] (ws.take k)) ws[k] := by
          rw [htk, spG_snoc, List.length_take, Nat.min_eq_left (Nat.le_of_lt hk), Nat.zero_add]
        have hlast : lastW [40] (ws.take (k + 1)) = ws[k] := by rw [htk]; unfold lastW; rw [List.getLast?_append]; rfl
        rw [hk0, hlast]
        generalize hb : lastW [40] (ws.take k) = b
        generalize ht : blk (cell.fmod 3) ++ spG cell (ws.take k) 0 [40] = t at hlen
        rw [← List.append_assoc, ht]
        generalize ws[k] = w at hwl hix
        have hm := mixed cell ((k : Int) + 40) n S
        have hx0 := mix_nn cell ((k : Int) + 40)
        have q1 : ∀ m, gInV (.v (.str b)) (.v (.str [40, 41])) m = some (.bl (inT b [40, 41])) := fun m => gInV_str _ _ m
        have q2 : ∀ m, gInV (.v (.str w)) (.v (.str [40, 41])) m = some (.bl (inT w [40, 41])) := fun m => gInV_str _ _ m
        have g1 : ∀ m, gAddU (.v (.str t)) (.v (.str [32])) m = some (.str (t ++ [32])) := fun m => gAddU_str _ _ m (le_big (by simp; omega))
        have g2 : ∀ m, gAddU (.v (.str (t ++ [32]))) (.v (.str [32])) m = some (.str (t ++ [32] ++ [32])) := fun m => gAddU_str _ _ m (le_big (by simp; omega))
        have g3 : ∀ m, gAddU (.v (.str t)) (.v (.str w)) m = some (.str (t ++ w)) := fun m => gAddU_str _ _ m (le_big (by omega))
        have g4 : ∀ m, gAddU (.v (.str (t ++ [32]))) (.v (.str w)) m = some (.str (t ++ [32] ++ w)) := fun m => gAddU_str _ _ m (le_big (by simp; omega))
        have g5 : ∀ m, gAddU (.v (.str (t ++ [32] ++ [32]))) (.v (.str w)) m = some (.str (t ++ [32] ++ [32] ++ w)) := fun m => gAddU_str _ _ m (le_big (by simp; omega))
        simp only [List.append_assoc, List.cons_append, List.nil_append] at g2 g4 g5
        generalize hmx : mixF cell ((k : Int) + 40) = x at hm hx0
        have goal : ∀ x1 t1, Pg.lp__law_spaced_1 (Pg.call (n + 1)) ⟨[some (.v (.lst (ws.map D.str))), some (.v (.int cell)), some (.v (.str t)), some (.v (.str b)), some (.v (.int k)), x1, t1], S⟩ =
            .nx ⟨[some (.v (.lst (ws.map D.str))), some (.v (.int cell)), some (.v (.str (t ++ spStep cell k b w))), some (.v (.str w)), some (.v (.int k)), some (.v (.int x)), some (.v (.bl (inT b [40, 41] || inT w [40, 41])))], S⟩ := by
          intro x1 t1
          unfold spStep
          rw [hmx]
          clear hmx hk0 htk hwk hlast ht hk
          generalize (k : Int) = kI at hm hix ⊢
          simp only [Pg.lp__law_spaced_1]
          cases hi1 : inT b [40, 41] <;> cases hi2 : inT w [40, 41] <;>
          by_cases c1 : 0 < kI <;> by_cases c2 : x.fmod 2 = 1 <;> by_cases c3 : kI.fmod 8 = 0 <;> by_cases c4 : x.fmod 3 = 0 <;>
            simp [hm, q1, q2, hi1, hi2, hix, c1, c2, c3, c4, gMod_int, g1, g2, g3, g4, g5]
        simp [goal])
    rw [List.take_length] at e
    exact ⟨_, k1, x1, t1, e⟩
  obtain ⟨b1, k1, x1, t1, e⟩ := loop
  have h62 : in62 (ws.length : Int) = true := in62_of (by omega) (by omega)
  have hc0 := fm_nn cell (b := 3) (by decide)
  have hc1 := fm_lt cell (b := 3) (by decide)
  have hd0 := fm_nn (cell.fdiv 3) (b := 3) (by decide)
  have hd1 := fm_lt (cell.fdiv 3) (b := 3) (by decide)
  have hl : (blk (cell.fmod 3) ++ spG cell ws 0 [40]).length + (blk ((cell.fdiv 3).fmod 3)).length ≤ big := by
    have h1 := spF_len ws cell
    unfold spF at h1
    rw [List.length_append] at h1
    exact le_big (by omega)
  have hga := fun m => gAddU_str (blk (cell.fmod 3) ++ spG cell ws 0 [40]) (blk ((cell.fdiv 3).fmod 3)) m hl
  have hb2 : ([32, 32] : Tx).length ≤ big := le_big (by decide)
  have k3 : gMod (.v (.int cell)) (.v (.int 3)) = fun _ => some (.int (cell.fmod 3)) := by funext m; exact gMod_int _ _ m (by decide)
  have k4 : gDiv (.v (.int cell)) (.v (.int 3)) = fun _ => some (.int (cell.fdiv 3)) := by funext m; exact gDiv_int _ _ m (by decide) (by rw [lim30_is]; decide)
  have k5 : gMod (.v (.int (cell.fdiv 3))) (.v (.int 3)) = fun _ => some (.int ((cell.fdiv 3).fmod 3)) := by funext m; exact gMod_int _ _ m (by decide)
  have e1 := cut_blk (cell.fmod 3) hc0 hc1
  have e2' := cut_blk ((cell.fdiv 3).fmod 3) hd0 hd1
  have hb2' : (2 : Nat) ≤ big := hb2
  simp only [runF, Pg.b__law_spaced]
  simp [k3, k4, k5, e1, e2', hb2', aLen, gLen, Me.items, Me.cl, h62, e, hga, spF]
end Lw

set_option linter.all false
set_option maxRecDepth 100000
namespace Lw
open Mi
/-! # the text's words are the words -/
def flat1 (w : Tx) : Prop := w ≠ [] ∧ ∀ c ∈ w, brk c = false
def proper (w : Tx) : Prop := w = [40] ∨ w = [41] ∨ flat1 w
/-- the words so far, the one at work too -/
def toks (fs : List W) (wd : Tx) : List Tx := fs.map (·.2) ++ (if wd = [] then [] else [wd])
theorem wf_blank (i : Nat) (fs : List W) (wd : Tx) : (wfold [32] i fs wd).2 = [] ∧ toks (wfold [32] i fs wd).1 (wfold [32] i fs wd).2 = toks fs wd := by
  have : brk 32 = true := by decide
  simp only [wfold, wstep, this, if_true]
  refine ⟨trivial, ?_⟩
  unfold toks
  by_cases h : wd = [] <;> simp [h]
theorem wf_brk (c : Nat) (hc : c = 40 ∨ c = 41) (i : Nat) (fs : List W) (wd : Tx) : (wfold [c] i fs wd).2 = [] ∧ toks (wfold [c] i fs wd).1 (wfold [c] i fs wd).2 = toks fs wd ++ [[c]] := by
  have h1 : brk c = true := by rcases hc with rfl | rfl <;> decide
  have h2 : c ≠ 32 := by omega
  simp only [wfold, wstep, h1, if_true, h2, if_false]
  refine ⟨trivial, ?_⟩
  unfold toks
  by_cases h : wd = [] <;> simp [h]
theorem wf_flat : ∀ (w : Tx) (i : Nat) (fs : List W) (wd : Tx), (∀ c ∈ w, brk c = false) → wfold w i fs wd = (fs, wd ++ w)
  | [], i, fs, wd, _ => by simp [wfold]
  | c :: w, i, fs, wd, h => by
    have hc := h c List.mem_cons_self
    rw [wfold]
    simp only [wstep, hc, Bool.false_eq_true, if_false]
    rw [wf_flat w _ _ _ (fun d hd => h d (List.mem_cons_of_mem _ hd)), List.append_assoc]; rfl
/-- blanks change no word -/
theorem wf_blks : ∀ (a : Tx) (i : Nat) (fs : List W) (wd : Tx), (∀ c ∈ a, c = 32) → toks (wfold a i fs wd).1 (wfold a i fs wd).2 = toks fs wd ∧ (a ≠ [] ∨ wd = [] → (wfold a i fs wd).2 = [])
  | [], i, fs, wd, _ => ⟨rfl, fun h => h.elim (fun z => absurd rfl z) id⟩
  | c :: a, i, fs, wd, h => by
    obtain rfl := h c List.mem_cons_self
    have h1 := wf_blank i fs wd
    simp only [wfold] at h1
    have h2 := wf_blks a (i + 1) (wstep i 32 fs wd).1 (wstep i 32 fs wd).2 (fun d hd => h d (List.mem_cons_of_mem _ hd))
    rw [wfold]
    exact ⟨h2.1.trans h1.2, fun _ => h2.2 (.inr h1.1)⟩
theorem inT_open (w : Tx) (hw : proper w) : inT w [40, 41] = true ↔ (w = [40] ∨ w = [41]) := by
  rcases hw with rfl | rfl | ⟨h1, h2⟩
  · exact ⟨fun _ => .inl rfl, fun _ => by decide⟩
  · exact ⟨fun _ => .inr rfl, fun _ => by decide⟩
  · constructor
    · intro h
      exfalso
      unfold inT at h
      rw [List.any_eq_true] at h
      obtain ⟨i, _, h⟩ := h
      obtain ⟨_, h4⟩ := of_decide_eq_true h
      obtain ⟨c, r, rfl⟩ := List.exists_cons_of_ne_nil h1
      have h5 : c ∈ List.take (c :: r).length (List.drop i [40, 41]) := by rw [h4]; exact List.mem_cons_self
      have h6 := List.mem_of_mem_drop (List.mem_of_mem_take h5)
      have h7 := h2 c List.mem_cons_self
      simp only [List.mem_cons, List.not_mem_nil, or_false] at h6
      rcases h6 with rfl | rfl <;> exact absurd h7 (by decide)
    · rintro (rfl | rfl)
      · exact absurd (h2 40 List.mem_cons_self) (by decide)
      · exact absurd (h2 41 List.mem_cons_self) (by decide)
/-- what is at work -/
def pend (k : Nat) (b wd : Tx) : Prop := wd = [] ∨ (flat1 b ∧ wd = b ∧ 0 < k)
theorem no_in {w : Tx} (h : flat1 w) : inT w [40, 41] = false := by
  cases q : inT w [40, 41] with
  | false => rfl
  | true =>
    rcases (inT_open w (.inr (.inr h))).mp q with rfl | rfl
    · exact absurd (h.2 40 List.mem_cons_self) (by decide)
    · exact absurd (h.2 41 List.mem_cons_self) (by decide)
theorem ifb {p : Prop} [Decidable p] {c : Nat} (h : c ∈ (if p then ([32] : Tx) else [])) : c = 32 := by
  split at h
  · exact List.mem_singleton.mp h
  · cases h
theorem spG_toks (cell : Int) : ∀ (ws : List Tx) (k : Nat) (b : Tx) (i : Nat) (fs : List W) (wd : Tx), (∀ w ∈ ws, proper w) → pend k b wd →
    toks (wfold (spG cell ws k b) i fs wd).1 (wfold (spG cell ws k b) i fs wd).2 = toks fs wd ++ ws
  | [], k, b, i, fs, wd, _, _ => by simp [spG, wfold]
  | w :: r, k, b, i, fs, wd, hp, hb => by
    have hw := hp w List.mem_cons_self
    rw [spG, wfold_app]
    generalize hB : (if (0 : Int) < (k : Int) ∧ ((inT b [40, 41] || inT w [40, 41]) = false ∨ (mixF cell (k + 40)).fmod 2 = 1) then ([32] : Tx) else []) = B1
    generalize hB2 : (if (k : Int).fmod 8 = 0 ∧ (mixF cell (k + 40)).fmod 3 = 0 then ([32] : Tx) else []) = B2
    have e0 : spStep cell k b w = (B1 ++ B2) ++ w := by unfold spStep; rw [hB, hB2, List.append_assoc]
    have hbl : ∀ c ∈ B1 ++ B2, c = 32 := by
      intro c hc
      rcases List.mem_append.mp hc with h | h
      · rw [← hB] at h; exact ifb h
      · rw [← hB2] at h; exact ifb h
    obtain ⟨t1, t2⟩ := wf_blks (B1 ++ B2) i fs wd hbl
    have hne : flat1 w → (wfold (B1 ++ B2) i fs wd).2 = [] := fun hf => by
      apply t2
      rcases hb with h | ⟨h1, h2, h3⟩
      · exact .inr h
      · have : B1 = [32] := by rw [← hB, if_pos ⟨by omega, .inl (by rw [no_in h1, no_in hf]; rfl)⟩]
        rw [this]; exact .inl (by simp)
    rw [e0, wfold_app]
    generalize wfold (B1 ++ B2) i fs wd = st at t1 hne
    obtain ⟨f1, w1⟩ := st
    dsimp only at t1 hne ⊢
    generalize i + (B1 ++ B2).length = i1
    have key : toks (wfold w i1 f1 w1).1 (wfold w i1 f1 w1).2 = toks fs wd ++ [w] ∧ pend (k + 1) w (wfold w i1 f1 w1).2 := by
      rcases hw with rfl | rfl | hf
      · obtain ⟨a1, a2⟩ := wf_brk 40 (.inl rfl) i1 f1 w1
        exact ⟨by rw [a2, t1], .inl a1⟩
      · obtain ⟨a1, a2⟩ := wf_brk 41 (.inr rfl) i1 f1 w1
        exact ⟨by rw [a2, t1], .inl a1⟩
      · have h0 := hne hf
        subst h0
        rw [wf_flat w _ _ _ hf.2, List.nil_append]
        refine ⟨?_, .inr ⟨hf, rfl, by omega⟩⟩
        rw [← t1]
        unfold toks
        rw [if_neg hf.1, if_pos rfl, List.append_nil]
    obtain ⟨k1, k2⟩ := key
    have ih := spG_toks cell r (k + 1) w (i + (B1 ++ B2 ++ w).length) (wfold w i1 f1 w1).1 (wfold w i1 f1 w1).2 (fun v hv => hp v (List.mem_cons_of_mem _ hv)) k2
    rw [ih, k1, List.append_assoc]; rfl
theorem blk_mem {i : Int} {c : Nat} (h : c ∈ blk i) : c = 32 := by
  have := List.mem_of_mem_take h
  simpa using this
theorem words_spaced (ws : List Tx) (cell : Int) (h : ∀ w ∈ ws, proper w) : (wordsF (spF ws cell)).map (·.2) = ws := by
  unfold wordsF spF
  have hb := wfold_blank (blk (cell.fmod 3) ++ spG cell ws 0 [40] ++ blk ((cell.fdiv 3).fmod 3)) 0 [] []
  have e : toks (wfold (blk (cell.fmod 3) ++ spG cell ws 0 [40] ++ blk ((cell.fdiv 3).fmod 3) ++ [32]) 0 [] []).1 (wfold (blk (cell.fmod 3) ++ spG cell ws 0 [40] ++ blk ((cell.fdiv 3).fmod 3) ++ [32]) 0 [] []).2 = ws := by
    rw [wfold_app, (wf_blank _ _ _).2, wfold_app, (wf_blks _ _ _ _ fun c hc => blk_mem hc).1, wfold_app]
    obtain ⟨b1, b2⟩ := wf_blks (blk (cell.fmod 3)) 0 [] [] fun c hc => blk_mem hc
    rw [spG_toks cell ws 0 [40] _ _ _ h (.inl (b2 (.inr rfl))), b1]
    rfl
  rw [hb] at e
  unfold toks at e
  simpa using e
end Lw

set_option linter.all false
set_option maxRecDepth 100000
namespace Lw
open Mi
/-! # the words gone along, and the reader: alike -/
inductive St where
  | piece | behind | name | first | to | last
/-- the nots on top go -/
def pops : List Tx → List Tx
  | [] => []
  | a :: r => if a = sNot then pops r else a :: r
def nxt : St → Tx → List Tx → Option (St × List Tx)
  | .piece, w, k => if w = sNot ∨ w = sOpen then (if k.length = 20 then none else some (.piece, w :: k)) else if w = sAll ∨ w = sNone then some (.behind, pops k)
    else if isNmF w then some (.name, k) else none
  | .behind, w, k => if w = sClose ∧ k ≠ [] then some (.behind, pops k.tail) else if w = sAnd ∨ w = sOr then some (.piece, k) else none
  | .name, w, k => if w = sIs then some (.last, k) else if w = sFrom then some (.first, k) else none
  | .first, w, k => if (figF w).isSome then some (.to, k) else none
  | .to, w, k => if w = sTo then some (.last, k) else none
  | .last, w, k => if (figF w).isSome then some (.behind, pops k) else none
/-- the place of the first word that cannot stand, or the end; none: it is a question -/
def aut (fin : Nat) : St → List Tx → List W → Option Nat
  | st, k, [] => (match st, k with | .behind, [] => none | _, _ => some fin)
  | st, k, (p, w) :: r => (match nxt st w k with | none => some p | some (st', k') => aut fin st' k' r)
theorem aut_end (fin : Nat) (st : St) (k : List Tx) (h : ¬ (st = .behind ∧ k = [])) : aut fin st k [] = some fin := by
  unfold aut
  split
  · exact absurd ⟨rfl, rfl⟩ h
  · rfl
theorem aut_some {fin : Nat} {st st' : St} {k k' : List Tx} {r : List W} (hr : r ≠ []) (h : nxt st (wd r) k = some (st', k')) : aut fin st k r = aut fin st' k' r.tail := by
  cases r with
  | nil => exact absurd rfl hr
  | cons w r => obtain ⟨p, w⟩ := w; rw [aut]; rw [show nxt st w k = some (st', k') from h]; rfl
theorem aut_none {fin : Nat} {st : St} {k : List Tx} {r : List W} (h : nxt st (wd r) k = none) (he : r = [] → ¬ (st = .behind ∧ k = [])) : aut fin st k r = some (plc fin r) := by
  cases r with
  | nil => exact aut_end fin st k (he rfl)
  | cons w r => obtain ⟨p, w⟩ := w; rw [aut]; rw [show nxt st w k = none from h]; rfl
theorem ne_of_wd {r : List W} {kw : Tx} (h : wd r = kw) (hk : kw ≠ []) : r ≠ [] := fun z => hk (by rw [← h, z]; rfl)
theorem tail_lt {r : List W} (h : r ≠ []) : r.tail.length < r.length := by
  cases r with
  | nil => exact absurd rfl h
  | cons w r => simp
/-- what a part of the reader tells -/
def Good (fin : Nat) (r : List W) (A : Option Nat) (k : List Tx) (post : List W → Prop) {α : Type} : PR α → Prop
  | .ok _ r2 => r2.length ≤ r.length ∧ A = aut fin .behind k r2 ∧ post r2
  | .bad p => A = some p
  | .out => False
section
variable {fin wl : Nat}
theorem lp_good {kw : Tx} {k : List Tx} {p : List W → PR Q} {post : List W → Prop} (hkw : kw = sAnd ∨ kw = sOr) (hp : ∀ r, r.length < wl → Good fin r (aut fin .piece k r) k post (p r)) : ∀ (f : Nat) (acc : List Q) (r : List W), r.length < f → r.length < wl → post r →
    Good fin r (aut fin .behind k r) k (fun r2 => post r2 ∧ wd r2 ≠ kw) (lpP kw p f acc r)
  | 0, acc, r, h, _, _ => absurd h (Nat.not_lt_zero _)
  | f + 1, acc, r, h, hw, po => by
    unfold lpP
    by_cases e : wd r = kw
    · rw [if_pos e]
      have hr : r ≠ [] := ne_of_wd e (by rcases hkw with rfl | rfl <;> decide)
      have hn : nxt .behind (wd r) k = some (.piece, k) := by
        rw [e]; dsimp only [nxt]
        rw [if_neg (by rintro ⟨z, _⟩; rcases hkw with rfl | rfl <;> cases z), if_pos hkw]
      have t := tail_lt hr
      have g := hp r.tail (by omega)
      rw [aut_some hr hn]
      cases q : p r.tail with
      | ok a r2 =>
        rw [q] at g
        obtain ⟨g1, g2, g3⟩ := g
        rw [g2]
        have ih := lp_good hkw hp f (acc ++ [a]) r2 (by omega) (by omega) g3
        dsimp only
        revert ih
        cases lpP kw p f (acc ++ [a]) r2 with
        | ok qs r3 => exact fun ⟨h1, h2, h3⟩ => ⟨by omega, h2, h3⟩
        | bad pl => exact fun h => h
        | out => exact fun h => h
      | bad pl => rw [q] at g; exact g
      | out => rw [q] at g; exact g.elim
    · rw [if_neg e]
      exact ⟨Nat.le_refl _, rfl, po, e⟩
theorem one_good {kw : Tx} {an : Bool} {k : List Tx} {p : List W → PR Q} {post : List W → Prop} (hkw : kw = sAnd ∨ kw = sOr) (hp : ∀ r, r.length < wl → Good fin r (aut fin .piece k r) k post (p r)) (r : List W) (h : r.length < wl) :
    Good fin r (aut fin .piece k r) k (fun r2 => post r2 ∧ wd r2 ≠ kw) (one kw an wl p r) := by
  have g := hp r h
  unfold one
  cases q : p r with
  | ok a r1 =>
    rw [q] at g
    obtain ⟨g1, g2, g3⟩ := g
    have l := lp_good (wl := wl) hkw hp wl [a] r1 (by omega) (by omega) g3
    rw [g2]
    dsimp only
    revert l
    cases lpP kw p wl [a] r1 with
    | ok qs r3 => exact fun ⟨h1, h2, h3⟩ => ⟨by omega, h2, h3⟩
    | bad pl => exact fun h => h
    | out => exact fun h => h
  | bad pl => rw [q] at g; exact g
  | out => rw [q] at g; exact g.elim
theorem fig_ne {r : List W} (h : (figF (wd r)).isSome = true) : r ≠ [] := fun z => by rw [z] at h; simp [wd, figF] at h
/-- figures, in a state that wants them -/
theorem num_at {st st' : St} {k k' : List Tx} {r : List W} (hst : ∀ w, nxt st w k = if (figF w).isSome then some (st', k') else none) (hb : st ≠ .behind) :
    (∃ v, num fin r = .ok v r.tail ∧ r ≠ [] ∧ aut fin st k r = aut fin st' k' r.tail) ∨ (num fin r = .bad (plc fin r) ∧ aut fin st k r = some (plc fin r)) := by
  unfold num
  cases q : figF (wd r) with
  | none => exact .inr ⟨rfl, aut_none (by rw [hst, q]; rfl) fun _ z => hb z.1⟩
  | some v =>
    have hr : r ≠ [] := fig_ne (by rw [q]; rfl)
    exact .inl ⟨v, rfl, hr, aut_some hr (by rw [hst, q]; rfl)⟩
theorem pst_at {kw : Tx} {st st' : St} {k k' : List Tx} {r : List W} (hkw : kw ≠ []) (h1 : nxt st kw k = some (st', k')) (h2 : wd r ≠ kw → nxt st (wd r) k = none) (hb : st ≠ .behind ∨ k ≠ []) :
    (pst fin kw r = .ok () r.tail ∧ r ≠ [] ∧ aut fin st k r = aut fin st' k' r.tail) ∨ (pst fin kw r = .bad (plc fin r) ∧ aut fin st k r = some (plc fin r)) := by
  unfold pst
  by_cases e : wd r = kw
  · rw [if_pos e]
    exact .inl ⟨rfl, ne_of_wd e hkw, aut_some (ne_of_wd e hkw) (by rw [e]; exact h1)⟩
  · rw [if_neg e]
    exact .inr ⟨rfl, aut_none (h2 e) fun _ z => hb.elim (fun q => q z.1) fun q => q z.2⟩
theorem rng_good {x : Tx} {k : List Tx} (r : List W) : Good fin r (aut fin .name k r) (pops k) (fun _ => True) (rng fin x r) := by
  have nL : ∀ w, nxt .last w k = if (figF w).isSome then some (.behind, pops k) else none := fun _ => rfl
  have nF : ∀ w, nxt .first w k = if (figF w).isSome then some (.to, k) else none := fun _ => rfl
  unfold rng
  by_cases e : wd r = sIs
  · have hr : r ≠ [] := ne_of_wd e (by decide)
    have t := tail_lt hr
    rw [if_pos e, aut_some hr (st' := .last) (k' := k) (by rw [e]; rfl)]
    rcases num_at (fin := fin) (r := r.tail) nL (by simp) with ⟨v, h1, h2, h3⟩ | ⟨h1, h3⟩
    · have t2 := tail_lt h2
      rw [h1, h3]
      exact ⟨by omega, rfl, trivial⟩
    · rw [h1]; exact h3
  · rw [if_neg e]
    rcases pst_at (fin := fin) (kw := sFrom) (st := .name) (st' := .first) (k := k) (k' := k) (r := r) (by decide) (by dsimp only [nxt]; rw [if_neg (by decide), if_pos rfl]) (fun z => by dsimp only [nxt]; rw [if_neg e, if_neg z]) (.inl (by simp)) with ⟨h1, h2, h3⟩ | ⟨h1, h3⟩
    · have t1 := tail_lt h2
      rw [h1, h3]
      dsimp only
      rcases num_at (fin := fin) (r := r.tail) nF (by simp) with ⟨v, a1, a2, a3⟩ | ⟨a1, a3⟩
      · have t2 := tail_lt a2
        rw [a1, a3]
        dsimp only
        rcases pst_at (fin := fin) (kw := sTo) (st := .to) (st' := .last) (k := k) (k' := k) (r := r.tail.tail) (by decide) (by dsimp only [nxt]; rw [if_pos rfl]) (fun z => by dsimp only [nxt]; rw [if_neg z]) (.inl (by simp)) with ⟨b1, b2, b3⟩ | ⟨b1, b3⟩
        · have t3 := tail_lt b2
          rw [b1, b3]
          dsimp only
          rcases num_at (fin := fin) (r := r.tail.tail.tail) nL (by simp) with ⟨u, c1, c2, c3⟩ | ⟨c1, c3⟩
          · have t4 := tail_lt c2
            rw [c1, c3]
            exact ⟨by omega, rfl, trivial⟩
          · rw [c1]; exact c3
        · rw [b1]; exact b3
      · rw [a1]; exact a3
    · rw [h1]; exact h3
def need : Kd → Nat → Nat
  | .question, d => 4 * (20 - d) + 4
  | .chain, d => 4 * (20 - d) + 3
  | .piece, d => 4 * (20 - d) + 2
  | .inner, d => 4 * (20 - d) + 1
def postK : Kd → List W → Prop
  | .question, r => (True ∧ wd r ≠ sAnd) ∧ wd r ≠ sOr
  | .chain, r => True ∧ wd r ≠ sAnd
  | _, _ => True
theorem sim : ∀ (n : Nat) (kd : Kd) (k : List Tx) (r : List W), k.length ≤ 20 → need kd k.length ≤ n → r.length < wl → ((kd.nm = Kd.question.nm ∨ kd.nm = Kd.chain.nm) → pops k = k) → (kd.nm = Kd.inner.nm → wd r = sNot ∨ wd r = sOpen) →
    Good fin r (aut fin .piece k r) (pops k) (postK kd) (P fin wl n kd k.length r)
  | 0, kd, k, r, hk, hn, _, _, _ => by cases kd <;> simp [need] at hn
  | n + 1, .question, k, r, hk, hn, hr, hq, _ => by
    have e := hq (.inl rfl)
    have hp : ∀ r, r.length < wl → Good fin r (aut fin .piece k r) k (postK .chain) (P fin wl n .chain k.length r) := fun r hr => by
      have := sim n .chain k r hk (by simp [need] at hn ⊢; omega) hr (fun _ => e) (by simp [Kd.nm])
      rwa [e] at this
    rw [e]
    exact one_good (.inr rfl) hp r hr
  | n + 1, .chain, k, r, hk, hn, hr, hq, _ => by
    have e := hq (.inr rfl)
    have hp : ∀ r, r.length < wl → Good fin r (aut fin .piece k r) k (postK .piece) (P fin wl n .piece k.length r) := fun r hr => by
      have := sim n .piece k r hk (by simp [need] at hn ⊢; omega) hr (by simp [Kd.nm]) (by simp [Kd.nm])
      rwa [e] at this
    rw [e]
    exact one_good (.inl rfl) hp r hr
  | n + 1, .piece, k, r, hk, hn, hr, _, _ => by
    unfold P
    by_cases c1 : wd r = sNot ∨ wd r = sOpen
    · rw [if_pos c1]
      exact sim n .inner k r hk (by simp [need] at hn ⊢; omega) hr (by simp [Kd.nm]) fun _ => c1
    · rw [if_neg c1]
      by_cases c2 : wd r = sAll
      · have hne := ne_of_wd c2 (by decide)
        have t := tail_lt hne
        rw [if_pos c2, aut_some hne (st' := .behind) (k' := pops k) (by dsimp only [nxt]; rw [if_neg c1, if_pos (.inl c2)])]
        exact ⟨by omega, rfl, trivial⟩
      · rw [if_neg c2]
        by_cases c3 : wd r = sNone
        · have hne := ne_of_wd c3 (by decide)
          have t := tail_lt hne
          rw [if_pos c3, aut_some hne (st' := .behind) (k' := pops k) (by dsimp only [nxt]; rw [if_neg c1, if_pos (.inr c3)])]
          exact ⟨by omega, rfl, trivial⟩
        · rw [if_neg c3]
          have c23 : ¬ (wd r = sAll ∨ wd r = sNone) := fun z => z.elim c2 c3
          by_cases c4 : isNmF (wd r) = true
          · have hne : r ≠ [] := fun z => by rw [z] at c4; simp [wd, isNmF] at c4
            have t := tail_lt hne
            rw [if_pos c4, aut_some hne (st' := .name) (k' := k) (by dsimp only [nxt]; rw [if_neg c1, if_neg c23, if_pos c4])]
            have g := rng_good (fin := fin) (x := wd r) (k := k) r.tail
            revert g
            cases rng fin (wd r) r.tail with
            | ok q r2 => exact fun ⟨h1, h2, h3⟩ => ⟨by omega, h2, h3⟩
            | bad pl => exact fun h => h
            | out => exact fun h => h
          · rw [if_neg c4]
            exact aut_none (by dsimp only [nxt]; rw [if_neg c1, if_neg c23, if_neg c4]) fun _ z => by cases z.1
  | n + 1, .inner, k, r, hk, hn, hr, _, hi => by
    have c1 := hi rfl
    have hne : r ≠ [] := c1.elim (fun h => ne_of_wd h (by decide)) fun h => ne_of_wd h (by decide)
    have t := tail_lt hne
    unfold P
    by_cases d : k.length = 20
    · rw [if_pos d]
      exact aut_none (by dsimp only [nxt]; rw [if_pos c1, if_pos d]) fun z => absurd z hne
    · rw [if_neg d, aut_some hne (st' := .piece) (k' := wd r :: k) (by dsimp only [nxt]; rw [if_pos c1, if_neg d])]
      by_cases c2 : wd r = sNot
      · rw [if_pos c2, c2]
        have g := sim n .piece (sNot :: k) r.tail (by simp; omega) (by simp [need] at hn ⊢; omega) (by omega) (by simp [Kd.nm]) (by simp [Kd.nm])
        rw [show pops (sNot :: k) = pops k from by rw [pops, if_pos rfl], List.length_cons] at g
        revert g
        cases P fin wl n .piece (k.length + 1) r.tail with
        | ok q r2 => exact fun ⟨h1, h2, h3⟩ => ⟨by omega, h2, h3⟩
        | bad pl => exact fun h => h
        | out => exact fun h => h
      · have c3 : wd r = sOpen := c1.resolve_left c2
        rw [if_neg c2, c3]
        have hp : pops (sOpen :: k) = sOpen :: k := by rw [pops, if_neg (by decide)]
        have g := sim n .question (sOpen :: k) r.tail (by simp; omega) (by simp [need] at hn ⊢; omega) (by omega) (fun _ => hp) (by simp [Kd.nm])
        rw [hp, List.length_cons] at g
        revert g
        cases P fin wl n .question (k.length + 1) r.tail with
        | ok q r2 =>
          rintro ⟨h1, h2, ⟨_, h3⟩, h4⟩
          rw [h2]
          dsimp only
          rcases pst_at (fin := fin) (kw := sClose) (st := .behind) (st' := .behind) (k := sOpen :: k) (k' := pops k) (r := r2) (by decide) (by dsimp only [nxt]; rw [if_pos ⟨rfl, by simp⟩]; rfl)
            (fun z => by dsimp only [nxt]; rw [if_neg fun y => z y.1, if_neg fun y => y.elim h3 h4]) (.inr (by simp)) with ⟨a1, a2, a3⟩ | ⟨a1, a3⟩
          · have t3 := tail_lt a2
            rw [a1, a3]
            exact ⟨by omega, rfl, trivial⟩
          · rw [a1]; exact a3
        | bad pl => exact fun h => h
        | out => exact fun h => h
theorem wfold_cnt : ∀ (cs : List Nat) (i : Nat) (fs : List W) (w : Tx), (wfold cs i fs w).1.length ≤ fs.length + 2 * cs.length
  | [], _, fs, _ => by simp [wfold]
  | c :: cs, i, fs, w => by
    rw [wfold]
    have := wfold_cnt cs (i + 1) (wstep i c fs w).1 (wstep i c fs w).2
    have h : (wstep i c fs w).1.length ≤ fs.length + 2 := by
      unfold wstep
      split
      · split <;> split <;> simp
      · simp
    rw [List.length_cons]
    omega
theorem wordsF_cnt (z : Tx) : (wordsF z).length ≤ 2 * (z.length + 1) := by
  have := wfold_cnt (z ++ [32]) 0 [] []
  simpa [wordsF] using this
/-- what is read, by the words gone along -/
theorem readF_aut (n : Nat) (z : Tx) (hz : z.length ≤ 40000) (hn : 84 ≤ n) : match aut z.length .piece [] (wordsF z) with
    | none => ∃ q, readF n z = .ok q
    | some p => readF n z = .bad p := by
  have hl : (wordsF z).length < wlim := by have := wordsF_cnt z; rw [wlim_is]; omega
  have g := sim (fin := z.length) (wl := wlim) n .question [] (wordsF z) (by simp) (by simpa [need] using hn) hl (fun _ => rfl) (by simp [Kd.nm])
  unfold readF
  revert g
  rw [show ([] : List Tx).length = 0 from rfl]
  cases P z.length wlim n .question 0 (wordsF z) with
  | ok q r2 =>
    rintro ⟨h1, h2, ⟨_, h3⟩, h4⟩
    rw [h2, show pops [] = [] from rfl]
    cases r2 with
    | nil => exact ⟨q, rfl⟩
    | cons w r =>
      rw [aut_none (by dsimp only [nxt]; rw [if_neg (by simp), if_neg fun y => y.elim h3 h4]) (by simp)]
      dsimp only
      rw [if_neg (by simp)]
  | bad p => intro h; have h : aut z.length .piece [] (wordsF z) = some p := h; rw [h]
  | out => exact fun h => h.elim
end
end Lw

set_option linter.all false
set_option maxRecDepth 100000
namespace Lw
open Mi
/-! # the law's own words gone along -/
theorem sel_signs (w z : Tx) (hw : w.length ≤ 1000000) (S : List SC) (hz : ∀ c m, gInV (.v (.str [c])) (.v (.str z)) m = some (.bl (decide (c ∈ z)))) :
    lComp [1] (.n 1) (iAny (eVar 0)) (tV (e2 gInV (eVar 1) (eC (.str z)))) (eVar 1) ⟨[some (.v (.str w)), none], S⟩ = .ok ((w.filter fun c => decide (c ∈ z)).map fun c => .str [c]) ⟨[some (.v (.str w)), none], S⟩ := by
  refine lComp_ok (m1 := ⟨[some (.v (.str w)), none], S⟩) (xs := w.map fun c => .str [c]) (by simp) (by simp [Me.slot]) ?_
  have h := comp_filter (b := .n 1) (t := tV (e2 gInV (eVar 1) (eC (.str z)))) (e := eVar 1) (σ := [some (.v (.str w)), none]) (S := S) (fun d => match d with | .str [c] => decide (c ∈ z) | _ => false) id (w.map fun c => .str [c]) [] (fun x hx => by
    obtain ⟨c, hc, rfl⟩ := List.mem_map.mp hx
    refine ⟨[some (.v (.str w)), some (.v (.str [c]))], by simp [Bd.set], by simp [hz], fun _ => by simp⟩) (le_big (by simp; exact hw))
  simp only [wipe, List.foldl]
  have e : List.set [some (FV.v (.str w)), none] 1 none = [some (FV.v (.str w)), none] := rfl
  simp only [e]
  rw [h]
  simp only [List.nil_append, List.map_id, List.filter_map]
  rfl
theorem filter_all (w : Tx) (p : Nat → Bool) : (((w.filter p).length : Int) == (w.length : Int)) = w.all p := by
  rw [Bool.eq_iff_iff, beq_iff_eq, List.all_eq_true]
  rw [← List.length_filter_eq_length_iff]
  omega
theorem law_is_name (w : Tx) (h0 : w ≠ []) (hw : w.length ≤ 1000000) (n : Nat) (S : List SC) : Pg.call (n + 1) "_law_is_name" [.str w] S = .ok (.bl (isNmF w)) S := by
  rw [Pg.c__law_is_name]
  have hb : w.length ≤ big := le_big hw
  have hne : w.isEmpty = false := by simpa using h0
  have q2 : ∀ m, gInV (.v (.str w)) (.v (.lst [.str [97, 110, 100], .str [111, 114], .str [110, 111, 116], .str [97, 108, 108], .str [110, 111, 110, 101], .str [105, 115], .str [102, 114, 111, 109], .str [116, 111]])) m = some (.bl (decide (w ∈ ([[97, 110, 100], [111, 114], [110, 111, 116], [97, 108, 108], [110, 111, 110, 101], [105, 115], [102, 114, 111, 109], [116, 111]] : List Tx)))) := fun m => gInV_strs w [[97, 110, 100], [111, 114], [110, 111, 116], [97, 108, 108], [110, 111, 110, 101], [105, 115], [102, 114, 111, 109], [116, 111]] m
  have e := sel_signs w abc hw S (fun c m => by rw [gInV_str, inT_one])
  have ea : w.all (fun c => decide (c ∈ abc)) = w.all (fun c => decide (97 ≤ c ∧ c ≤ 122)) := by
    congr 1; funext c; rw [decide_eq_decide]; exact abc_mem c
  have hf := filter_all w fun c => decide (c ∈ abc)
  rw [ea] at hf
  have hlen : (w.filter fun c => decide (c ∈ abc)).length ≤ big := le_big (Nat.le_trans (List.length_filter_le ..) hw)
  generalize hfl : (w.filter fun c => decide (c ∈ abc)) = fl at *
  have habc : ([97, 98, 99, 100, 101, 102, 103, 104, 105, 106, 107, 108, 109, 110, 111, 112, 113, 114, 115, 116, 117, 118, 119, 120, 121, 122] : Tx) = abc := rfl
  simp only [runF, Pg.b__law_is_name, habc]
  unfold isNmF
  rw [hne]
  generalize hR : decide (w ∈ ([[97, 110, 100], [111, 114], [110, 111, 116], [97, 108, 108], [110, 111, 110, 101], [105, 115], [102, 114, 111, 109], [116, 111]] : List Tx)) = R at *
  by_cases h8 : 8 < w.length
  · have : ¬ w.length ≤ 8 := by omega
    have h8i : (8 : Int) < (w.length : Int) := by omega
    simp [aLen, gLen, hb, h8i, this]
  · have h8' : w.length ≤ 8 := by omega
    have h8i : ¬ (8 : Int) < (w.length : Int) := by omega
    cases R with
    | true => simp [aLen, gLen, hb, h8i, q2, h8']
    | false =>
      simp [aLen, gLen, hb, h8i, q2, h8', e, Me.items, Me.cl, hlen, -List.all_eq_true, -Bool.decide_and]
      rw [hf]
theorem law_are_figures (w : Tx) (h0 : w ≠ []) (hw : w.length ≤ 1000000) (n : Nat) (S : List SC) : Pg.call (n + 1) "_law_are_figures" [.str w] S = .ok (.bl (figF w).isSome) S := by
  rw [Pg.c__law_are_figures]
  have hb : w.length ≤ big := le_big hw
  obtain ⟨c, r, hcr⟩ := List.exists_cons_of_ne_nil h0
  have ix : ∀ m, gIxU (.v (.str w)) (.v (.int 0)) m = some (.str [c]) := fun m => by rw [gIxU_str _ _ _ hb, hcr]; simp [atI, ixN]
  have e := sel_signs w [48, 49, 50, 51, 52, 53, 54, 55, 56, 57] hw S (fun c m => by rw [gInV_str, inT_one])
  have ea : w.all (fun c => decide (c ∈ ([48, 49, 50, 51, 52, 53, 54, 55, 56, 57] : Tx))) = digs w := by
    unfold digs; congr 1; funext c; rw [decide_eq_decide]; exact d10_mem c
  have hf := filter_all w fun c => decide (c ∈ ([48, 49, 50, 51, 52, 53, 54, 55, 56, 57] : Tx))
  rw [ea] at hf
  have hlen : (w.filter fun c => decide (c ∈ ([48, 49, 50, 51, 52, 53, 54, 55, 56, 57] : Tx))).length ≤ big := le_big (Nat.le_trans (List.length_filter_le ..) hw)
  have hh : w.head? = some c := by rw [hcr]; rfl
  generalize hfl : (w.filter fun c => decide (c ∈ ([48, 49, 50, 51, 52, 53, 54, 55, 56, 57] : Tx))) = fl at *
  simp only [runF, Pg.b__law_are_figures]
  unfold figF
  by_cases h8 : 12 < w.length
  · have h8i : (12 : Int) < (w.length : Int) := by omega
    simp [aLen, gLen, hb, h8i, h8]
  · have h8i : ¬ (12 : Int) < (w.length : Int) := by omega
    rw [if_neg (show ¬ (w = [] ∨ 12 < w.length) from fun z => z.elim h0 h8)]
    by_cases hc : c = 48
    · subst hc
      by_cases h1 : 1 < w.length
      · have h1i : (1 : Int) < (w.length : Int) := by omega
        have hr : w ≠ [48] := fun z => by rw [z] at h1; simp at h1
        simp [aLen, gLen, hb, h8i, ix, h1i, hh, hr]
      · have h1i : ¬ (1 : Int) < (w.length : Int) := by omega
        have hr : w = [48] := by
          rw [hcr] at h1 ⊢
          cases r with
          | nil => rfl
          | cons a b => simp at h1
        rw [if_neg (show ¬ (w.head? = some 48 ∧ w ≠ [48]) from fun z => z.2 hr)]
        simp [aLen, gLen, hb, h8i, ix, h1i, e, Me.items, Me.cl, hlen]
        rw [hf]
        cases digs w <;> rfl
    · rw [if_neg (show ¬ (w.head? = some 48 ∧ w ≠ [48]) from fun z => hc (by rw [hh] at z; exact Option.some.inj z.1))]
      simp [aLen, gLen, hb, h8i, ix, hc, e, Me.items, Me.cl, hlen]
      rw [hf]
      cases digs w <;> rfl
/-! ### the open ones -/
def stD (k : List Tx) : SC := .c (.lst (k.reverse.map D.str))
structure OkSt (k : List Tx) : Prop where
  len : k.length ≤ 20
  all : ∀ x ∈ k, x = sNot ∨ x = sOpen
theorem OkSt.nil : OkSt [] := ⟨by simp, fun _ h => absurd h List.not_mem_nil⟩
theorem OkSt.tail {k : List Tx} (h : OkSt k) : OkSt k.tail := ⟨by have := h.len; simp; omega, fun x hx => h.all x (List.mem_of_mem_tail hx)⟩
theorem OkSt.pops : ∀ {k : List Tx}, OkSt k → OkSt (pops k)
  | [], h => h
  | a :: r, h => by
    rw [Lw.pops]
    split
    · exact OkSt.pops (OkSt.tail h)
    · exact h
theorem OkSt.push {k : List Tx} {w : Tx} (h : OkSt k) (hw : w = sNot ∨ w = sOpen) (hl : k.length ≠ 20) : OkSt (w :: k) := ⟨by have := h.len; simp; omega, fun x hx => by
  rcases List.mem_cons.mp hx with rfl | hx
  · exact hw
  · exact h.all x hx⟩
theorem OkSt.deps {k : List Tx} (h : ∀ x ∈ k, x = sNot ∨ x = sOpen) : deps (k.map D.str) = some 0 := by
  induction k with
  | nil => rfl
  | cons a r ih =>
    have ha : dep (D.str a) = some 0 := by rcases h a (.head _) with rfl | rfl <;> rfl
    rw [List.map_cons, Mi.deps, ha, ih fun x hx => h x (.tail _ hx)]
    rfl
theorem OkSt.rdeps {k : List Tx} (h : OkSt k) : Mi.deps (k.reverse.map D.str) = some 0 := OkSt.deps fun x hx => h.all x (by simpa using hx)
section
variable {S : List SC} {r : Nat} {k : List Tx} {σ : Env}
theorem dat_ref (hS : S[r]? = some (stD k)) : Me.dat ⟨σ, S⟩ (.v (.ref r)) = some (.lst (k.reverse.map D.str)) := by
  unfold Me.dat Me.cl Me.glob
  simp only [hS, stD]
theorem ne_ref (hS : S[r]? = some (stD k)) (h : OkSt k) : gNeU (.v (.ref r)) (.v (.lst [])) ⟨σ, S⟩ = some (.bl (!k.isEmpty)) := by
  have h1 : datum (.lst (k.reverse.map D.str)) = true := by simp only [datum, dep, h.rdeps]; rfl
  have h2 : datum (.lst []) = true := by simp [datum, dep, Mi.deps]
  have h3 : eqv (.lst (k.reverse.map D.str)) (.lst []) = k.isEmpty := by
    cases k with
    | nil => rfl
    | cons a r =>
      rw [List.reverse_cons, List.map_append]
      cases r.reverse.map D.str <;> rfl
  unfold gNeU orG gNe
  rw [dat_ref hS]
  generalize k.reverse.map D.str = L at *
  simp [Me.dat, Me.cl, h1, h2, h3]
theorem eq_ref (hS : S[r]? = some (stD k)) (h : OkSt k) : gEqU (.v (.ref r)) (.v (.lst [])) ⟨σ, S⟩ = some (.bl (k.isEmpty)) := by
  have h1 : datum (.lst (k.reverse.map D.str)) = true := by simp only [datum, dep, h.rdeps]; rfl
  have h2 : datum (.lst []) = true := by simp [datum, dep, Mi.deps]
  have h3 : eqv (.lst (k.reverse.map D.str)) (.lst []) = k.isEmpty := by
    cases k with
    | nil => rfl
    | cons a r =>
      rw [List.reverse_cons, List.map_append]
      cases r.reverse.map D.str <;> rfl
  unfold gEqU orG gEq
  rw [dat_ref hS]
  generalize k.reverse.map D.str = L at *
  simp [Me.dat, Me.cl, h1, h2, h3]
theorem last_ref {a : Tx} (hS : S[r]? = some (stD (a :: k))) : gIxU (.v (.ref r)) (.v (.int (-1))) ⟨σ, S⟩ = some (.str a) := by
  have e : Me.items ⟨σ, S⟩ (.v (.ref r)) = some ((a :: k).reverse.map D.str) := by
    unfold Me.items Me.cl Me.glob
    simp only [hS, stD]
  have q : atI ((a :: k).reverse.map D.str) (-1) = some (.str a) := by
    rw [List.reverse_cons, List.map_append]
    have g1 : (1 : Int) ≤ (k.length : Int) + 1 := by omega
    have g2 : ((-1 : Int) + ((k.length : Int) + 1)).toNat = k.length := by omega
    unfold atI ixN
    simp [g1, g2]
  unfold gIxU orG gIx
  rw [e]
  simp only [q]
theorem stset {x y : SC} (hS : S[r]? = some x) : (S.set r y)[r]? = some y := by
  rw [List.getElem?_set_self (List.getElem?_eq_some_iff.mp hS).1]
theorem stself (hS : S[r]? = some (stD k)) : S.set r (stD k) = S := by
  obtain ⟨h1, h2⟩ := List.getElem?_eq_some_iff.mp hS
  rw [← h2, List.set_getElem_self]
theorem pop_ref {a : Tx} (hS : S[r]? = some (stD (a :: k))) (C : Ev) (hC : C ⟨σ, S⟩ = .ok (.v (.ref r)) ⟨σ, S⟩) : sEx (eMut mPop C aNil) ⟨σ, S⟩ = .nx ⟨σ, S.set r (stD k)⟩ := by
  have hl : ((a :: k).reverse.map D.str)[((a :: k).reverse.map D.str).length - 1]? = some (.str a) := by
    rw [List.reverse_cons, List.map_append]
    simp
  have hd : ((a :: k).reverse.map D.str).dropLast = k.reverse.map D.str := by
    rw [List.reverse_cons, List.map_append]
    simp
  have ho : Me.own ⟨σ, S⟩ (.v (.ref r)) = some (.lst ((a :: k).reverse.map D.str)) := by
    unfold Me.own Me.glob
    simp only [hS, stD]
  simp only [sEx_ap, eMut_ap, hC, Res.bind_ok, ho, isL, if_true, aNil_ap, PV.ds, mPop, hl, Option.map_some, hd]
  rfl
theorem len_ref (hS : S[r]? = some (stD k)) (h : OkSt k) : aLen [.v (.ref r)] ⟨σ, S⟩ = some (.int k.length) := by
  have e : Me.items ⟨σ, S⟩ (.v (.ref r)) = some (k.reverse.map D.str) := by
    unfold Me.items Me.cl Me.glob
    simp only [hS, stD]
  have := h.len
  unfold aLen gLen
  simp [e]
end
def sBehind : Tx := [98, 101, 104, 105, 110, 100]
def sSt : St → Tx
  | .piece => [112, 105, 101, 99, 101] | .behind => sBehind | .name => [110, 97, 109, 101] | .first => [102, 105, 114, 115, 116] | .to => [116, 111] | .last => [108, 97, 115, 116]
theorem ended_loop (S : List SC) (r : Nat) (C : Cal) : ∀ (f : Nat) (k : List Tx) (x : SC), S[r]? = some x → OkSt k → k.length < f →
    whileN (tAnd (tV (e2 gNeU (eVar 0) (eL (lDisp aNil)))) (tV (e2 gEqU (e2 gIxU (eVar 0) (e1 gNeg (eC (.int 1)))) (eC (.str [110, 111, 116]))))) (Pg.lp__law_ended_1 C) f ⟨[some (.v (.ref r))], S.set r (stD k)⟩ = .nx ⟨[some (.v (.ref r))], S.set r (stD (pops k))⟩
  | 0, k, x, _, _, h => absurd h (Nat.not_lt_zero _)
  | f + 1, k, x, hS, ok, h => by
    have hS' := stset (y := stD k) hS
    have q1 := ne_ref (σ := [some (.v (.ref r))]) hS' ok
    rw [whileN]
    cases k with
    | nil =>
      simp [q1, pops]
    | cons a k =>
      have q2 := last_ref (σ := [some (.v (.ref r))]) hS'
      by_cases ha : a = sNot
      · have hp : pops (a :: k) = pops k := by rw [pops, if_pos ha]
        have ih := ended_loop S r C f k x hS (OkSt.tail ok) (by simp at h; omega)
        have hb := pop_ref (σ := [some (.v (.ref r))]) hS' (eVar 0) rfl
        rw [List.set_set] at hb
        rw [hp]
        have hab : (a == ([110, 111, 116] : Tx)) = true := by rw [ha]; rfl
        have ht : tAnd (tV (e2 gNeU (eVar 0) (eL (lDisp aNil)))) (tV (e2 gEqU (e2 gIxU (eVar 0) (e1 gNeg (eC (.int 1)))) (eC (.str [110, 111, 116])))) ⟨[some (.v (.ref r))], S.set r (stD (a :: k))⟩ = .ok true ⟨[some (.v (.ref r))], S.set r (stD (a :: k))⟩ := by
          simp [q1, q2, hab]
        rw [ht]
        dsimp only
        unfold Pg.lp__law_ended_1
        rw [hb]
        exact ih
      · have hp : pops (a :: k) = a :: k := by rw [pops, if_neg ha]
        have hab : (a == ([110, 111, 116] : Tx)) = false := beq_eq_false_iff_ne.mpr ha
        rw [hp]
        simp [q1, q2, hab]
theorem ended {S : List SC} {r : Nat} {k : List Tx} (hS : S[r]? = some (stD k)) (ok : OkSt k) (n : Nat) : Pg.call (n + 1) "_law_ended" [.ref r] S = .ok (.str sBehind) (S.set r (stD (pops k))) := by
  rw [Pg.c__law_ended]
  have h := ended_loop S r (Pg.call n) wlim k _ hS ok (by have := ok.len; rw [wlim_is]; omega)
  rw [stself hS] at h
  simp only [runF, Pg.b__law_ended]
  simp only [sSeq_ap, sWhile_ap]
  simp [h, sBehind]
theorem beqf {w l : Tx} (h : ¬ w = l) : (w == l) = false := beq_eq_false_iff_ne.mpr h
theorem push_ref {S : List SC} {r : Nat} {k : List Tx} {w : Tx} {σ : Env} (hS : S[r]? = some (stD k)) (ok : OkSt k) {C E : Ev} (hC : C ⟨σ, S⟩ = .ok (.v (.ref r)) ⟨σ, S⟩) (hE : E ⟨σ, S⟩ = .ok (.v (.str w)) ⟨σ, S⟩) :
    sEx (eMut mApp C (aCons E aNil)) ⟨σ, S⟩ = .nx ⟨σ, S.set r (stD (w :: k))⟩ := by
  have ho : Me.own ⟨σ, S⟩ (.v (.ref r)) = some (.lst (k.reverse.map D.str)) := by
    unfold Me.own Me.glob
    simp only [hS, stD]
  have hl := ok.len
  have hl2 : (k.reverse.map D.str).length < big := by simp; rw [big_is]; omega
  simp only [sEx_ap, eMut_ap, hC, hE, Res.bind_ok, ho, isL, if_true, aNil_ap, aCons_ap]
  simp only [PV.ds, mApp, Option.map_some, if_pos hl2, PV.d_v, Option.bind_some]
  simp [Me.put, stD]
theorem begun {S : List SC} {r : Nat} {k : List Tx} (hS : S[r]? = some (stD k)) (ok : OkSt k) (w : Tx) (h0 : w ≠ []) (hw : w.length ≤ 1000000) (n : Nat) : match nxt .piece w k with
    | some (st', k') => Pg.call (n + 2) "_law_begun" [.str w, .ref r] S = .ok (.str (sSt st')) (S.set r (stD k'))
    | none => Pg.call (n + 2) "_law_begun" [.str w, .ref r] S = .ok .non S := by
  rw [Pg.c__law_begun]
  have e1 := len_ref (σ := [some (.v (.str w)), some (.v (.ref r))]) hS ok
  have e2 := ended hS ok n
  have e3 := law_is_name w h0 hw n S
  have e4 := push_ref (w := w) (σ := [some (.v (.str w)), some (.v (.ref r))]) hS ok (C := eVar 1) (E := eVar 0) rfl rfl
  dsimp only [nxt]
  simp only [runF, Pg.b__law_begun]
  by_cases c1 : w = sNot ∨ w = sOpen
  · rw [if_pos c1]
    by_cases d : k.length = 20
    · rw [if_pos d]
      rw [d] at e1
      rcases c1 with rfl | rfl <;> simp [sNot, sOpen] at e1 ⊢ <;> simp [e1]
    · rw [if_neg d]
      have d' : ¬ (k.length : Int) = 20 := by omega
      rcases c1 with rfl | rfl <;> simp [sNot, sOpen] at e1 e4 ⊢ <;> simp [e1, d', e4, sSt]
  · rw [if_neg c1]
    have a1 : ¬ w = [110, 111, 116] := fun z => c1 (.inl z)
    have a2 : ¬ w = [40] := fun z => c1 (.inr z)
    by_cases c2 : w = sAll ∨ w = sNone
    · rw [if_pos c2]
      rcases c2 with rfl | rfl <;> simp [sAll, sNone, e2, sSt]
    · rw [if_neg c2]
      have a3 : ¬ w = [97, 108, 108] := fun z => c2 (.inl z)
      have a4 : ¬ w = [110, 111, 110, 101] := fun z => c2 (.inr z)
      cases hn : isNmF w with
      | true =>
        rw [hn] at e3
        simp [a1, a2, a3, a4, beqf a1, beqf a2, beqf a3, beqf a4, e3, sSt, stself hS]
      | false =>
        rw [hn] at e3
        simp [a1, a2, a3, a4, beqf a1, beqf a2, beqf a3, beqf a4, e3, sSt, stself hS]
theorem nxt_ok {st st' : St} {w : Tx} {k k' : List Tx} (h : nxt st w k = some (st', k')) (ok : OkSt k) : OkSt k' := by
  cases st <;> dsimp only [nxt] at h
  · split at h
    · split at h
      · cases h
      · cases h; exact ok.push ‹_› ‹_›
    · split at h
      · cases h; exact ok.pops
      · split at h
        · cases h; exact ok
        · cases h
  · split at h
    · cases h; exact ok.tail.pops
    · split at h
      · cases h; exact ok
      · cases h
  · split at h
    · cases h; exact ok
    · split at h
      · cases h; exact ok
      · cases h
  · split at h
    · cases h; exact ok
    · cases h
  · split at h
    · cases h; exact ok
    · cases h
  · split at h
    · cases h; exact ok.pops
    · cases h
theorem next (st : St) {S : List SC} {r : Nat} {k : List Tx} (hS : S[r]? = some (stD k)) (ok : OkSt k) (w : Tx) (h0 : w ≠ []) (hw : w.length ≤ 1000000) (n : Nat) : match nxt st w k with
    | some (st', k') => Pg.call (n + 3) "_law_next" [.str (sSt st), .str w, .ref r] S = .ok (.str (sSt st')) (S.set r (stD k'))
    | none => Pg.call (n + 3) "_law_next" [.str (sSt st), .str w, .ref r] S = .ok .non S := by
  rw [Pg.c__law_next]
  have b := begun hS ok w h0 hw n
  have e2 := ended hS ok (n + 1)
  have e3 := law_are_figures w h0 hw (n + 1) S
  have e5 := fun σ => ne_ref (σ := σ) hS ok
  simp only [runF, Pg.b__law_next]
  cases st with
  | piece =>
    revert b
    cases nxt .piece w k with
    | none => intro b; dsimp only at b ⊢; simp [sSt, b]
    | some p => intro b; obtain ⟨st', k'⟩ := p; dsimp only at b ⊢; simp [sSt, b]
  | behind =>
    clear b
    dsimp only [nxt]
    by_cases c1 : w = sClose ∧ k ≠ []
    · rw [if_pos c1]
      obtain ⟨rfl, ck⟩ := c1
      cases k with
      | nil => exact absurd rfl ck
      | cons a k =>
        have p := fun σ hC => pop_ref (σ := σ) hS (eVar 2) hC
        have e6 := ended (stset (y := stD k) hS) ok.tail (n + 1)
        rw [List.set_set] at e6
        have p2 := p [some (.v (.str sBehind)), some (.v (.str sClose)), some (.v (.ref r))] rfl
        simp [sBehind, sClose] at p2
        simp [sSt, sBehind, sClose, e5, p2, e6]
    · rw [if_neg c1]
      have c1' : ¬ (w = [41] ∧ k ≠ []) := c1
      have t1 : (if w = [41] then k.isEmpty = false else False) = False := by
        by_cases z : w = [41]
        · rw [if_pos z]; exact eq_false fun y => c1' ⟨z, by simpa using y⟩
        · rw [if_neg z]
      by_cases c2 : w = sAnd ∨ w = sOr
      · rw [if_pos c2]
        rcases c2 with rfl | rfl <;> simp [sSt, sBehind, sAnd, sOr, stself hS]
      · rw [if_neg c2]
        have a3 : ¬ w = [97, 110, 100] := fun z => c2 (.inl z)
        have a4 : ¬ w = [111, 114] := fun z => c2 (.inr z)
        by_cases z : w = [41]
        · have hk : k = [] := Classical.not_not.mp fun y => c1' ⟨z, y⟩
          subst hk
          simp [sSt, sBehind, z, e5]
        · simp [sSt, sBehind, z, beqf z, a3, a4, beqf a3, beqf a4]
  | name =>
    clear b
    dsimp only [nxt]
    by_cases c1 : w = sIs
    · rw [if_pos c1]; subst c1
      simp [sSt, sIs, stself hS]
    · rw [if_neg c1]
      have a1 : ¬ w = [105, 115] := c1
      by_cases c2 : w = sFrom
      · rw [if_pos c2]; subst c2
        simp [sSt, sFrom, stself hS]
      · rw [if_neg c2]
        have a2 : ¬ w = [102, 114, 111, 109] := c2
        simp [sSt, a1, a2, beqf a1, beqf a2]
  | first =>
    clear b
    dsimp only [nxt]
    cases hf : (figF w).isSome with
    | true => rw [hf] at e3; simp [sSt, e3, stself hS]
    | false => rw [hf] at e3; simp [sSt, e3, stself hS]
  | to =>
    clear b
    dsimp only [nxt]
    by_cases c1 : w = sTo
    · rw [if_pos c1]; subst c1
      simp [sSt, sTo, stself hS]
    · rw [if_neg c1]
      have a1 : ¬ w = [116, 111] := c1
      simp [sSt, a1, beqf a1]
  | last =>
    clear b
    dsimp only [nxt]
    cases hf : (figF w).isSome with
    | true => rw [hf] at e3; simp [sSt, e3, e2, sBehind]
    | false => rw [hf] at e3; simp [sSt, e3, stself hS]
end Lw

set_option linter.all false
set_option maxRecDepth 100000
namespace Lw
open Mi
def optP : Option Nat → D | some p => .int p | none => .non
theorem fault_loop (z : D) (S : List SC) (r : Nat) (x : SC) (hS : S[r]? = some x) (n fin : Nat) : ∀ (L : List W), (∀ w ∈ L, w.2 ≠ [] ∧ w.2.length ≤ 1000000) → ∀ (st : St) (k : List Tx), OkSt k → ∀ j3 j4 : Option FV,
    (∃ p m, aut fin st k L = some p ∧ (∃ y, m = S.set r y) ∧ ∃ σ, forL (.t [3, 4]) (Pg.lp__law_fault_1 (Pg.call (n + 3))) (L.map wD) ⟨[some (.v z), some (.v (.str (sSt st))), some (.v (.ref r)), j3, j4], S.set r (stD k)⟩ = .rt (.int p) ⟨σ, m⟩) ∨
    (∃ st' k' l3 l4, aut fin st k L = aut fin st' k' [] ∧ OkSt k' ∧ forL (.t [3, 4]) (Pg.lp__law_fault_1 (Pg.call (n + 3))) (L.map wD) ⟨[some (.v z), some (.v (.str (sSt st))), some (.v (.ref r)), j3, j4], S.set r (stD k)⟩ =
      .nx ⟨[some (.v z), some (.v (.str (sSt st'))), some (.v (.ref r)), l3, l4], S.set r (stD k')⟩)
  | [], _, st, k, ok, j3, j4 => .inr ⟨st, k, j3, j4, rfl, ok, rfl⟩
  | (p, w) :: L, hL, st, k, ok, j3, j4 => by
    obtain ⟨h0, hw⟩ := hL (p, w) (.head _)
    have hS' := stset (y := stD k) hS
    have nx := next st hS' ok w h0 hw n
    have step : ∀ o : Option (St × List Tx), nxt st w k = o → Pg.lp__law_fault_1 (Pg.call (n + 3)) ⟨[some (.v z), some (.v (.str (sSt st))), some (.v (.ref r)), some (.v (.int p)), some (.v (.str w))], S.set r (stD k)⟩ =
        match o with
        | some (st', k') => .nx ⟨[some (.v z), some (.v (.str (sSt st'))), some (.v (.ref r)), some (.v (.int p)), some (.v (.str w))], S.set r (stD k')⟩
        | none => .rt (.int p) ⟨[some (.v z), some (.v .non), some (.v (.ref r)), some (.v (.int p)), some (.v (.str w))], S.set r (stD k)⟩ := fun o ho => by
      rw [ho] at nx
      cases o with
      | none =>
        dsimp only at nx ⊢
        simp only [Pg.lp__law_fault_1]
        simp [nx, gIsN, isN]
      | some q =>
        obtain ⟨st', k'⟩ := q
        dsimp only at nx ⊢
        rw [List.set_set] at nx
        simp only [Pg.lp__law_fault_1]
        simp [nx, gIsN, isN]
    have hset : (Bd.t [3, 4]).set (wD (p, w)) [some (.v z), some (.v (.str (sSt st))), some (.v (.ref r)), j3, j4] = some [some (.v z), some (.v (.str (sSt st))), some (.v (.ref r)), some (.v (.int p)), some (.v (.str w))] := by simp [Bd.set, bTs, wD]
    rw [List.map_cons]
    cases ho : nxt st w k with
    | none =>
      have e := step _ ho
      dsimp only at e
      refine .inl ⟨p, S.set r (stD k), by rw [aut, ho], ⟨_, rfl⟩, ?_⟩
      refine ⟨[some (.v z), some (.v .non), some (.v (.ref r)), some (.v (.int p)), some (.v (.str w))], ?_⟩
      rw [forL]
      simp only [hset, e]
    | some q =>
      obtain ⟨st', k'⟩ := q
      have e := step _ ho
      dsimp only at e
      have ih := fault_loop z S r x hS n fin L (fun w h => hL w (.tail _ h)) st' k' (nxt_ok ho ok) (some (.v (.int p))) (some (.v (.str w)))
      have ea : aut fin st k ((p, w) :: L) = aut fin st' k' L := by rw [aut, ho]
      have ef := forL_cons (b := .t [3, 4]) (xs := L.map wD) (m := ⟨[some (.v z), some (.v (.str (sSt st))), some (.v (.ref r)), j3, j4], S.set r (stD k)⟩) hset e
      rw [ea, ef]
      exact ih
theorem wfold_ne : ∀ (cs : List Nat) (i : Nat) (fs : List W) (w : Tx), (∀ v ∈ fs, v.2 ≠ []) → ∀ v ∈ (wfold cs i fs w).1, v.2 ≠ []
  | [], _, _, _, h => h
  | c :: cs, i, fs, w, h => by
    rw [wfold]
    refine wfold_ne cs _ _ _ ?_
    unfold wstep
    intro v hv
    split at hv
    · rcases List.mem_append.mp hv with hv | hv
      · split at hv
        · exact h v hv
        · rename_i hw
          rcases List.mem_append.mp hv with hv | hv
          · exact h v hv
          · rw [List.mem_singleton.mp hv]; exact hw
      · split at hv
        · cases hv
        · rw [List.mem_singleton.mp hv]; simp
    · exact h v hv
theorem wordsF_ne (z : Tx) : ∀ v ∈ wordsF z, v.2 ≠ [] := wfold_ne _ _ _ _ fun _ h => absurd h List.not_mem_nil
theorem law_fault (z : Tx) (hz : z.length ≤ 40000) (n : Nat) (S : List SC) : ∃ y, Pg.call (n + 4) "_law_fault" [.str z] S = .ok (optP (aut z.length .piece [] (wordsF z))) (S ++ [y]) := by
  rw [Pg.c__law_fault]
  have e1 := split z hz (n + 2) (S ++ [.c (.lst [])])
  have hS : (S ++ [SC.c (.lst [])])[S.length]? = some (.c (.lst [])) := by simp
  have hL : ∀ w ∈ wordsF z, w.2 ≠ [] ∧ w.2.length ≤ 1000000 := fun w h => ⟨wordsF_ne z w h, Nat.le_trans (wordsF_len z w h) (by omega)⟩
  have hb : z.length ≤ big := le_big (by omega)
  have self : (S ++ [SC.c (.lst [])]).set S.length (stD []) = S ++ [SC.c (.lst [])] := by rw [set_last]; rfl
  have lp := fault_loop (.str z) _ S.length _ hS n z.length (wordsF z) hL .piece [] OkSt.nil none none
  rw [self] at lp
  simp only [runF, Pg.b__law_fault]
  have en : ∀ (x : Option FV) (y z u v : Option FV), eNewL (lDisp aNil) ⟨[x, y, z, u, v], S⟩ = .ok (.v (.ref S.length)) ⟨[x, y, z, u, v], S ++ [.c (.lst [])]⟩ := fun x y z u v => by
    unfold eNewL; simp
  rcases lp with ⟨p, m, h1, ⟨y, rfl⟩, σ, h2⟩ | ⟨st', k', l3, l4, h1, ok, h2⟩
  · refine ⟨y, ?_⟩
    rw [h1]
    rw [set_last] at h2
    simp only [sSt] at h2
    simp [en, e1, h2, optP]
  · refine ⟨stD k', ?_⟩
    rw [h1]
    rw [set_last] at h2
    simp only [show sSt .piece = [112, 105, 101, 99, 101] from rfl] at h2
    have hk : (S ++ [stD k'])[S.length]? = some (stD k') := by simp
    have q := fun σ => eq_ref (σ := σ) hk ok
    cases st' with
    | behind =>
      cases k' with
      | nil => simp [en, e1, h2, optP, q, sSt, sBehind, aut]
      | cons a k' => simp [en, e1, h2, optP, q, sSt, sBehind, aut, aLen, gLen, hb]
    | _ => simp [en, e1, h2, optP, sSt, aut, aLen, gLen, hb]
end Lw

set_option linter.all false
set_option maxRecDepth 100000
namespace Lw
open Mi
/-! ### names -/
def resv : List Tx := [[97, 110, 100], [111, 114], [110, 111, 116], [97, 108, 108], [110, 111, 110, 101], [105, 115], [102, 114, 111, 109], [116, 111]]
def nameF (z : Tx) : Tx := if z ∈ resv then z ++ [120] else z
theorem name_of (z : Tx) (hz : z.length ≤ 8) (n : Nat) (S : List SC) : Pg.call (n + 1) "_law_name_of" [.str z] S = .ok (.str (nameF z)) S := by
  rw [Pg.c__law_name_of]
  have e : ∀ m : Me, gInV (.v (.str z)) (.v (.lst (resv.map D.str))) m = some (.bl (decide (z ∈ resv))) := fun m => gInV_strs z resv m
  have e' : ∀ m : Me, gInV (.v (.str z)) (.v (.lst [.str [97, 110, 100], .str [111, 114], .str [110, 111, 116], .str [97, 108, 108], .str [110, 111, 110, 101], .str [105, 115], .str [102, 114, 111, 109], .str [116, 111]])) m = some (.bl (decide (z ∈ resv))) := e
  have hb : z.length + 1 ≤ big := by rw [big_is]; omega
  have g : ∀ m, gAddU (.v (.str z)) (.v (.str [120])) m = some (.str (z ++ [120])) := fun m => gAddU_str z [120] m hb
  by_cases h : z ∈ resv
  · simp [runF, Pg.b__law_name_of, e', h, nameF, g]
  · simp [runF, Pg.b__law_name_of, e', h, nameF, g]

def alph : Tx := [97, 98, 99, 100, 101, 102, 103, 104, 105, 106, 107, 108, 109, 110, 111, 112, 113, 114, 115, 116, 117, 118, 119, 120, 121, 122]
theorem alph_at (i : Int) (h0 : 0 ≤ i) (h1 : i < 26) : atI alph i = some (97 + i.toNat) := by
  obtain ⟨k, rfl⟩ := Int.eq_ofNat_of_zero_le h0
  have hk : k < 26 := by omega
  have : ∀ k : Fin 26, atI alph ((k : Nat) : Int) = some (97 + ((k : Nat) : Int).toNat) := by decide
  exact this ⟨k, hk⟩
def numF (x size : Int) (k j : Nat) : Int := x.fdiv (j + 2) + 5 * j + k * (if (j : Int) = (x.fdiv 64).fmod size then 1 else 0)
def letF (x size : Int) (k j : Nat) : Nat := 97 + ((numF x size k j).fmod 26).toNat
def wordF (x size : Int) (k : Nat) : Tx := (List.range size.toNat).map (letF x size k)
def sizeF (ns : List Int) (most : Int) : Int := 1 + (mixF (cellF ns 0) 0).fmod most
def namesF (ns : List Int) (most : Int) : List Tx := (List.range 3).map fun k => nameF (wordF (mixF (cellF ns 0) 0) (sizeF ns most) k)
theorem names_in (ns : List Int) (most x size : Int) (b1 : 1 ≤ size) (b2 : size ≤ 8) (n : Nat) (S : List SC) (k : Nat) (hk : k < 3) (acc : List D) (i : Nat) (hi : i < size.toNat) (j1 n1 : Option FV) (P : Me → Prop)
    (hP : P ⟨[some (.v (.scr (ns.map D.int))), some (.v (.int most)), some (.v (.int x)), some (.v (.int size)), some (.o (.lst acc)), some (.v (.int k)), some (.v (.str ((List.range i).map (letF x size k) ++ [letF x size k i]))), some (.v (.int i)), some (.v (.int (numF x size k i)))], S⟩) :
    (Bd.n 7).go (.int i) (Pg.lp__law_names_1 (Pg.call n)) ⟨[some (.v (.scr (ns.map D.int))), some (.v (.int most)), some (.v (.int x)), some (.v (.int size)), some (.o (.lst acc)), some (.v (.int k)), some (.v (.str ((List.range i).map (letF x size k)))), j1, n1], S⟩ P := by
  have hi8 : i < 8 := by omega
  have d1 : ((i : Int) + 2) ≠ 0 := by omega
  have d2 : ((i : Int) + 2).natAbs < lim30 := by rw [lim30_is]; omega
  have s1 : (small64 5 || small64 (i : Int)) = true := by simp [small_of]
  have s2 : ∀ z : Int, (small64 (k : Int) || small64 z) = true := fun z => by
    have : small64 (k : Int) = true := small_nn (by omega) (by omega)
    simp [this]
  have hsz0 : size ≠ 0 := by omega
  have q1 : 0 ≤ (numF x size k i).fmod 26 := fm_nn _ (by decide)
  have q2 : (numF x size k i).fmod 26 < 26 := fm_lt _ (by decide)
  have q3 := alph_at _ q1 q2
  have hal : alph.length ≤ big := by rw [show alph.length = 26 from rfl]; rw [big_is]; omega
  have g := fun m => gAddU_str ((List.range i).map (letF x size k)) [letF x size k i] m (by simp; rw [big_is]; omega)
  have al : ([97, 98, 99, 100, 101, 102, 103, 104, 105, 106, 107, 108, 109, 110, 111, 112, 113, 114, 115, 116, 117, 118, 119, 120, 121, 122] : Tx) = alph := rfl
  simp only [letF, numF] at g
  unfold numF at q3
  simp only [Pg.lp__law_names_1, al]
  simp [gDiv_int, gMul_int, gMod_int, d1, d2, s1, s2, hsz0, aInt2, aInt, gInt, gIxU_str, hal, q3, g]
  simpa [letF, numF] using hP

theorem names (ns : List Int) (most : Int) (hm : 0 < most) (hm2 : most ≤ 8) (n : Nat) (S : List SC) : Pg.call (n + 2) "_law_names" [.scr (ns.map D.int), .int most] S = .ok (.lst ((namesF ns most).map D.str)) S := by
  rw [Pg.c__law_names]
  have hs0 : 0 ≤ (mixF (cellF ns 0) 0).fmod most := fm_nn _ hm
  have hs1 : (mixF (cellF ns 0) 0).fmod most < most := fm_lt _ hm
  have e0 := cell_at ns 0 n S
  have hmost : most ≠ 0 := by omega
  have hsz : sizeF ns most = 1 + (mixF (cellF ns 0) 0).fmod most := rfl
  have hw : namesF ns most = (List.range 3).map fun k => nameF (wordF (mixF (cellF ns 0) 0) (sizeF ns most) k) := rfl
  have emix : mixF (cellF ns 0) 0 = mixF (cellF ns 0) 0 := rfl
  generalize hx : mixF (cellF ns 0) 0 = x at hs0 hs1 hsz hw
  generalize hz : sizeF ns most = size at hsz hw
  have b1 : 1 ≤ size := by omega
  have b2 : size ≤ 8 := by omega
  have hin : in62 size = true := in62_of (by omega) (by omega)
  have inner : ∀ (k : Nat) (acc : List D) (j0 n0 : Option FV), k < 3 → ∃ j1 n1, forL (.n 7) (Pg.lp__law_names_1 (Pg.call (n + 1)))
      (intsL 0 size.toNat) ⟨[some (.v (.scr (ns.map D.int))), some (.v (.int most)), some (.v (.int x)), some (.v (.int size)), some (.o (.lst acc)), some (.v (.int k)), some (.v (.str [])), j0, n0], S⟩ =
      .nx ⟨[some (.v (.scr (ns.map D.int))), some (.v (.int most)), some (.v (.int x)), some (.v (.int size)), some (.o (.lst acc)), some (.v (.int k)), some (.v (.str (wordF x size k))), j1, n1], S⟩ := by
    intro k acc j0 n0 hk
    obtain ⟨m', e, j1, n1, rfl⟩ := for_range (b := .n 7) (body := Pg.lp__law_names_1 (Pg.call (n + 1))) (fun i m => ∃ j1 n1, m = ⟨[some (.v (.scr (ns.map D.int))), some (.v (.int most)), some (.v (.int x)), some (.v (.int size)), some (.o (.lst acc)), some (.v (.int k)), some (.v (.str ((List.range i).map (letF x size k)))), j1, n1], S⟩) size.toNat _ ⟨j0, n0, rfl⟩ (by
      rintro i m hi ⟨j1, n1, rfl⟩
      exact names_in ns most x size b1 b2 (n + 1) S k hk acc i hi j1 n1 _ ⟨_, _, by rw [List.range_succ, List.map_append]; rfl⟩)
    exact ⟨j1, n1, e⟩
  have outer : ∃ k1 l1 j1 n1, forL (.n 5) (Pg.lp__law_names_2 (Pg.call (n + 1))) (intsL 0 3) ⟨[some (.v (.scr (ns.map D.int))), some (.v (.int most)), some (.v (.int x)), some (.v (.int size)), some (.o (.lst [])), none, none, none, none], S⟩ =
      .nx ⟨[some (.v (.scr (ns.map D.int))), some (.v (.int most)), some (.v (.int x)), some (.v (.int size)), some (.o (.lst ((namesF ns most).map D.str))), k1, l1, j1, n1], S⟩ := by
    obtain ⟨m', e, k1, l1, j1, n1, rfl⟩ := for_range (b := .n 5) (body := Pg.lp__law_names_2 (Pg.call (n + 1))) (fun i m => ∃ k1 l1 j1 n1, m = ⟨[some (.v (.scr (ns.map D.int))), some (.v (.int most)), some (.v (.int x)), some (.v (.int size)), some (.o (.lst (((List.range i).map fun k => nameF (wordF x size k)).map D.str))), k1, l1, j1, n1], S⟩) 3 _ ⟨none, none, none, none, rfl⟩ (by
      rintro i m hi ⟨k1, l1, j1, n1, rfl⟩
      have hsucc : ((List.range (i + 1)).map fun k => nameF (wordF x size k)).map D.str = ((List.range i).map fun k => nameF (wordF x size k)).map D.str ++ [D.str (nameF (wordF x size i))] := by simp [List.range_succ]
      have hlen : (((List.range i).map fun k => nameF (wordF x size k)).map D.str).length ≤ 1000 := by simp; omega
      rw [hsucc]
      generalize ((List.range i).map fun k => nameF (wordF x size k)).map D.str = acc at hlen ⊢
      obtain ⟨j2, n2, e⟩ := inner i acc j1 n1 hi
      have en := name_of (wordF x size i) (by simp [wordF]; omega) n S
      have hl2 : acc.length ≤ 1000000 := by omega
      simp only [Pg.lp__law_names_2]
      simp [hin, e, isL, Me.own, Me.slot, en, mApp, Me.put, hl2])
    refine ⟨k1, l1, j1, n1, ?_⟩
    rw [hw]; exact e
  obtain ⟨k1, l1, j1, n1, outer⟩ := outer
  have e0' : Pg.call (n + 1) "_law_cell_at" [.scr (ns.map D.int), .int 0] S = .ok (.int (cellF ns 0)) S := e0
  have h3 : in62 3 = true := in62_of (by omega) (by omega)
  have h3' : (3 : Int).toNat = 3 := rfl
  simp [runF, Pg.b__law_names, e0', mixed, hx, gMod_int, hmost, ← hsz, h3, h3', outer]
end Lw

set_option linter.all false
set_option maxRecDepth 100000
namespace Lw
open Mi
/-! # trees as they are told -/
theorem decT_nat (n : Nat) : decT (n : Int) = (Nat.toDigits 10 n).map Char.toNat := by
  unfold decT
  rw [show (toString (n : Int)) = toString n from rfl, Nat.toString_eq_ofList_toDigits, String.toList_ofList]
theorem decT_len (n k : Nat) (hk : 0 < k) (h : n < 10 ^ k) : (decT (n : Int)).length ≤ k := by
  rw [decT_nat, List.length_map]
  exact (Nat.length_toDigits_le_iff (by decide) hk).mpr h
def sBin (an : Bool) : Tx := if an then sAnd else sOr
def sIn : Tx := [105, 110]
mutual
def tD : Q → D
  | .all => .tup [.str sAll] | .none => .tup [.str sNone]
  | .leaf x lo hi => .tup [.str sIn, .str x, .int lo, .int hi]
  | .not q => .tup [.str sNot, tD q]
  | .bin an qs => .tup [.str (sBin an), .lst (tDs qs)]
def tDs : List Q → List D
  | [] => [] | q :: r => tD q :: tDs r
end
mutual
def dp : Q → Nat
  | .not q => dp q + 1
  | .bin _ qs => dps qs + 1
  | _ => 0
def dps : List Q → Nat
  | [] => 0 | q :: r => max (dp q) (dps r)
end
mutual
def sz : Q → Nat
  | .not q => sz q + 1
  | .bin _ qs => szs qs + 1
  | _ => 1
def szs : List Q → Nat
  | [] => 0 | q :: r => sz q + szs r
end
mutual
/-- its leaves -/
def lvs : Q → List Q
  | .not q => lvs q
  | .bin _ qs => lvss qs
  | .all => [.all] | .none => [.none] | .leaf x lo hi => [.leaf x lo hi]
def lvss : List Q → List Q
  | [] => [] | q :: r => lvs q ++ lvss r
end
/-- a leaf of the names L -/
def OkL (L : List Tx) : Q → Prop
  | .leaf x lo hi => x ∈ L ∧ 0 ≤ lo ∧ lo < 1000000000000 ∧ 0 ≤ hi ∧ hi < 1000000000000
  | _ => True
theorem ix_tup (xs : List D) (i : Nat) : atI xs (i : Int) = xs[i]? := by
  unfold atI ixN
  by_cases h : (i : Int) < xs.length
  · have : i < xs.length := by omega
    simp [h]
  · have : xs.length ≤ i := by omega
    simp [h, List.getElem?_eq_none this]
@[simp] theorem at0 (x : D) (xs : List D) : atI (x :: xs) 0 = some x := by simpa using ix_tup (x :: xs) 0
@[simp] theorem at1 (x y : D) (xs : List D) : atI (x :: y :: xs) 1 = some y := by simpa using ix_tup (x :: y :: xs) 1
@[simp] theorem at2 (x y z : D) (xs : List D) : atI (x :: y :: z :: xs) 2 = some z := by simpa using ix_tup (x :: y :: z :: xs) 2
@[simp] theorem at3 (x y z u : D) (xs : List D) : atI (x :: y :: z :: u :: xs) 3 = some u := by simpa using ix_tup (x :: y :: z :: u :: xs) 3
theorem two_at (a b : D) (i : Int) (h0 : 0 ≤ i) (h1 : i < 2) : atI [a, b] i = some (if i = 0 then a else b) := by
  obtain rfl | rfl : i = 0 ∨ i = 1 := by omega
  · simp
  · simp
theorem name_at (L : List Tx) (hL : L.length = 3) (i : Int) (h0 : 0 ≤ i) (h1 : i < 3) : ∃ x ∈ L, atI (L.map D.str) i = some (.str x) := by
  match L, hL with
  | [a, b, c], _ =>
    obtain rfl | rfl | rfl : i = 0 ∨ i = 1 ∨ i = 2 := by omega
    · exact ⟨a, by simp, by simp⟩
    · exact ⟨b, by simp, by simp⟩
    · exact ⟨c, by simp, by simp⟩
theorem four_at (a b c d i : Int) (h0 : 0 ≤ i) (h1 : i < 4) : ∃ v, (v = a ∨ v = b ∨ v = c ∨ v = d) ∧ atI [D.int a, .int b, .int c, .int d] i = some (.int v) := by
  obtain rfl | rfl | rfl | rfl : i = 0 ∨ i = 1 ∨ i = 2 ∨ i = 3 := by omega
  · exact ⟨a, by simp, by simp⟩
  · exact ⟨b, by simp, by simp⟩
  · exact ⟨c, by simp, by simp⟩
  · exact ⟨d, by simp, by simp⟩
theorem value (x : Int) (h0 : 0 ≤ x) (wide : Bool) : ∃ v : Int, 0 ≤ v ∧ v < 1000000000000 ∧ ∀ n S, Pg.call (n + 1) "_law_value" [.int x, .bl wide] S = .ok (.int v) S := by
  have a0 := fm_nn x (b := 10) (by decide)
  have a1 := fm_lt x (b := 10) (by decide)
  have b0 := fm_nn x (b := 1000) (by decide)
  have b1 := fm_lt x (b := 1000) (by decide)
  have c0 := fm_nn (x * 48271) (b := 1000000000000) (by decide)
  have c1 := fm_lt (x * 48271) (b := 1000000000000) (by decide)
  have d0 := fm_nn x (b := 3) (by decide)
  have d1 := fm_lt x (b := 3) (by decide)
  have p1 : ∀ m, gPow (.v (.int 10)) (.v (.int 12)) m = some (.int 1000000000000) := fun m => by rw [gPow_int] <;> simp
  have s1 : (small64 x || small64 48271) = true := by simp [small_of]
  cases wide with
  | false =>
    have e := two_at (.int (x.fmod 10)) (.int (x.fmod 1000)) ((x.fdiv 5).fmod 2) (fm_nn _ (by decide)) (fm_lt _ (by decide))
    have e' : ∃ v : Int, 0 ≤ v ∧ v < 1000000000000 ∧ atI [D.int (x.fmod 10), .int (x.fmod 1000)] ((x.fdiv 5).fmod 2) = some (.int v) := by
      rw [e]
      split
      · exact ⟨_, a0, by omega, rfl⟩
      · exact ⟨_, b0, by omega, rfl⟩
    obtain ⟨v, v0, v1, ev⟩ := e'
    refine ⟨v, v0, v1, fun n S => ?_⟩
    rw [Pg.c__law_value]
    simp [runF, Pg.b__law_value, gMod_int, gDiv_int, ev]
  | true =>
    obtain ⟨v, hv, ev⟩ := four_at (x.fmod 10) (x.fmod 1000) ((x * 48271).fmod 1000000000000) (1000000000000 - 1 - x.fmod 3) ((x.fdiv 5).fmod 4) (fm_nn _ (by decide)) (fm_lt _ (by decide))
    refine ⟨v, by omega, by omega, fun n S => ?_⟩
    rw [Pg.c__law_value]
    have ev' : atI [D.int (x.fmod 10), .int (x.fmod 1000), .int ((x * 48271).fmod 1000000000000), .int (999999999999 - x.fmod 3)] ((x.fdiv 5).fmod 4) = some (.int v) := ev
    simp [runF, Pg.b__law_value, gMod_int, gDiv_int, gMul_int, p1, s1, ev']
theorem leaf (L : List Tx) (hL : L.length = 3) (c : Int) (wide : Bool) : ∃ q : Q, dp q ≤ 1 ∧ sz q ≤ 2 ∧ (∀ x ∈ lvs q, OkL L x) ∧ lvs q ≠ [] ∧ ∀ n S, Pg.call (n + 2) "_law_leaf" [.int c, .lst (L.map D.str), .bl wide] S = .ok (tD q) S := by
  obtain ⟨nm, hnm, en⟩ := name_at L hL (((mixF c 2).fdiv 81).fmod 3) (fm_nn _ (by decide)) (fm_lt _ (by decide))
  have x0 := fm_nn (mixF c 2) (b := 9) (by decide)
  have hx0 := mix_nn c 2
  obtain ⟨lo, l0, l1, el⟩ := value ((mixF c 2).fdiv 9) (Int.fdiv_nonneg hx0 (by decide)) wide
  obtain ⟨hi, h0, h1, eh⟩ := value (mixF c 3) (mix_nn c 3) wide
  generalize hx : mixF c 2 = x at *
  generalize hy : mixF c 3 = y at *
  by_cases c1 : x.fmod 9 < 2
  · have e1 := two_at (.str sAll) (.str sNone) _ x0 c1
    refine ⟨if x.fmod 9 = 0 then .all else .none, by split <;> simp [dp], by split <;> simp [sz], by split <;> simp [lvs, OkL], by split <;> simp [lvs], fun n S => ?_⟩
    rw [Pg.c__law_leaf]
    simp [sAll, sNone] at e1
    by_cases h : x.fmod 9 = 0
    · simp [h] at e1
      simp [runF, Pg.b__law_leaf, mixed, hx, hy, gMod_int, h, tD, sAll]
    · simp [h] at e1
      simp [runF, Pg.b__law_leaf, mixed, hx, hy, gMod_int, c1, h, tD, sNone, e1]
  · by_cases c2 : (x.fdiv 27).fmod 3 = 0
    · refine ⟨.leaf nm lo lo, by simp [dp], by simp [sz], by simp [lvs, OkL, hnm, l0, l1], by simp [lvs], fun n S => ?_⟩
      rw [Pg.c__law_leaf]
      simp [runF, Pg.b__law_leaf, mixed, hx, hy, gMod_int, gDiv_int, c1, c2, tD, sIn, en, el, eh]
    · refine ⟨.leaf nm lo hi, by simp [dp], by simp [sz], by simp [lvs, OkL, hnm, l0, l1, h0, h1], by simp [lvs], fun n S => ?_⟩
      rw [Pg.c__law_leaf]
      simp [runF, Pg.b__law_leaf, mixed, hx, hy, gMod_int, gDiv_int, c1, c2, tD, sIn, en, el, eh]
end Lw

set_option linter.all false
set_option maxRecDepth 100000
namespace Lw
open Mi
theorem two_map {α β γ : Type} {P : β → γ → Prop} {f : α → β} {g : α → γ} : ∀ {l : List α}, (∀ a ∈ l, P (f a) (g a)) → Two P (l.map f) (l.map g)
  | [], _ => .nil
  | a :: r, h => .cons (h a List.mem_cons_self) (two_map fun b hb => h b (List.mem_cons_of_mem _ hb))
theorem cut_from {α : Type} (xs : List α) (k : Nat) (h : k ≤ xs.length) : cut xs (some (k : Int)) none = xs.drop k := by
  unfold cut sIx
  have : ¬ (k : Int) < 0 := by omega
  simp only [this, if_false, Int.toNat_natCast, Nat.min_eq_left h]
  rw [List.take_of_length_le (by simp)]
theorem cut_to {α : Type} (xs : List α) (k : Nat) (h : k ≤ xs.length) : cut xs none (some (k : Int)) = xs.take k := by
  unfold cut sIx
  have : ¬ (k : Int) < 0 := by omega
  simp [this, Nat.min_eq_left h]
theorem cut_last {α : Type} (xs : List α) : cut xs none (some (-1)) = xs.take (xs.length - 1) := by
  unfold cut sIx
  simp only [show (-1 : Int) < 0 by omega, if_true]
  have : ((-1 : Int) + (xs.length : Int)).toNat = xs.length - 1 := by omega
  rw [this]; simp
theorem maxI_ge (y : Int) (ys : List Int) : (y ≤ maxI y ys) ∧ ∀ z ∈ ys, z ≤ maxI y ys := by
  unfold maxI
  induction ys generalizing y with
  | nil => exact ⟨Int.le_refl _, fun z h => absurd h List.not_mem_nil⟩
  | cons a r ih =>
    rw [List.foldl_cons]
    obtain ⟨h1, h2⟩ := ih (if y < a then a else y)
    refine ⟨?_, fun z hz => ?_⟩
    · split at h1 <;> split <;> omega
    · rcases List.mem_cons.mp hz with rfl | hz
      · split at h1 <;> split <;> omega
      · exact h2 z hz
theorem asInts_map {α : Type} (f : α → Int) : ∀ l : List α, asInts (l.map fun a => D.int (f a)) = some (l.map f)
  | [] => rfl
  | a :: r => by simp [asInts, asInts_map f r]
abbrev It := Q × Int
def itD (p : It) : D := .tup [tD p.1, .int p.2]
theorem szs_app : ∀ a b : List Q, szs (a ++ b) = szs a + szs b
  | [], b => by simp [szs]
  | q :: r, b => by simp [szs, szs_app r b]; omega
theorem tDs_map : ∀ l : List It, tDs (l.map (·.1)) = l.map fun p => tD p.1
  | [] => rfl
  | p :: r => by simp [tDs, tDs_map r]
theorem lvss_mem {x : Q} : ∀ {qs : List Q}, x ∈ lvss qs → ∃ q ∈ qs, x ∈ lvs q
  | [], h => by simp [lvss] at h
  | q :: r, h => by
    rcases List.mem_append.mp (show x ∈ lvs q ++ lvss r from h) with h | h
    · exact ⟨q, List.mem_cons_self, h⟩
    · obtain ⟨p, h1, h2⟩ := lvss_mem h
      exact ⟨p, List.mem_cons_of_mem _ h1, h2⟩
theorem dps_le {k : Nat} : ∀ {qs : List Q}, (∀ q ∈ qs, dp q ≤ k) → dps qs ≤ k
  | [], _ => Nat.zero_le _
  | q :: r, h => by
    have := h q List.mem_cons_self
    have := dps_le fun p hp => h p (List.mem_cons_of_mem _ hp)
    simp [dps]; omega
/-- an item of the list that is built -/
structure ItOk (L : List Tx) (p : It) : Prop where
  lo : 1 ≤ p.2
  hi : p.2 ≤ 18
  dp : (dp p.1 : Int) ≤ p.2
  nm : ∀ x ∈ lvs p.1, OkL L x
  ne : lvs p.1 ≠ []
/-- the items so far, by i cells -/
structure ItsOk (L : List Tx) (i : Nat) (its : List It) : Prop where
  all : ∀ p ∈ its, ItOk L p
  len : its.length ≤ i
  sz : szs (its.map (·.1)) ≤ 3 * i
/-- the greatest depth of the last ones -/
def deepF (J : List It) : Int := match J.map (·.2) with | [] => 0 | y :: ys => maxI y ys
theorem deep_ge {J : List It} : ∀ p ∈ J, p.2 ≤ deepF J := fun p hp => by
  unfold deepF
  cases J with
  | nil => exact absurd hp List.not_mem_nil
  | cons q r =>
    obtain ⟨h1, h2⟩ := maxI_ge q.2 (r.map (·.2))
    rcases List.mem_cons.mp hp with rfl | hp
    · exact h1
    · exact h2 _ (List.mem_map.mpr ⟨p, hp, rfl⟩)
theorem deep_nn {L : List Tx} {J : List It} (h : ∀ p ∈ J, ItOk L p) : 0 ≤ deepF J := by
  cases J with
  | nil => exact Int.le_refl _
  | cons q r =>
    have := deep_ge (J := q :: r) q List.mem_cons_self
    have := (h q List.mem_cons_self).lo
    omega
theorem ItsOk.bin {L : List Tx} {i : Nat} {its : List It} (h : ItsOk L i its) (k : Nat) (b : Bool) (hk : k < its.length) (hd : deepF (its.drop k) < 18) : ItsOk L (i + 1) (its.take k ++ [(.bin b ((its.drop k).map (·.1)), deepF (its.drop k) + 1)]) := by
  have hd0 := deep_nn (L := L) (J := its.drop k) fun p hp => h.all p (List.mem_of_mem_drop hp)
  have hs : szs (its.map (·.1)) = szs ((its.take k).map (·.1)) + szs ((its.drop k).map (·.1)) := by
    rw [← szs_app, ← List.map_append, List.take_append_drop]
  have h1 := h.sz
  have h2 := h.len
  refine ⟨fun p hp => ?_, by simp; omega, ?_⟩
  · rcases List.mem_append.mp hp with hp | hp
    · exact h.all p (List.mem_of_mem_take hp)
    · rw [List.mem_singleton] at hp
      subst hp
      refine ⟨by show 1 ≤ deepF _ + 1; omega, by show deepF _ + 1 ≤ 18; omega, ?_, fun x hx => ?_, ?_⟩
      · show ((dps ((its.drop k).map (·.1)) + 1 : Nat) : Int) ≤ deepF (its.drop k) + 1
        have : dps ((its.drop k).map (·.1)) ≤ (deepF (its.drop k)).toNat := dps_le fun q hq => by
          obtain ⟨p, hp, rfl⟩ := List.mem_map.mp hq
          have a := (h.all p (List.mem_of_mem_drop hp)).dp
          have b := deep_ge p hp
          omega
        omega
      · obtain ⟨q, hq, hx⟩ := lvss_mem (show x ∈ lvss ((its.drop k).map (·.1)) from hx)
        obtain ⟨p, hp, rfl⟩ := List.mem_map.mp hq
        exact (h.all p (List.mem_of_mem_drop hp)).nm x hx
      · show lvss ((its.drop k).map (·.1)) ≠ []
        cases hd : its.drop k with
        | nil => exact absurd (List.drop_eq_nil_iff.mp hd) (by omega)
        | cons p r =>
          have := (h.all p (List.mem_of_mem_drop (by rw [hd]; exact .head _))).ne
          rw [List.map_cons, lvss]
          exact fun z => this (List.append_eq_nil_iff.mp z).1
  · rw [List.map_append, szs_app]
    simp only [List.map_cons, List.map_nil, szs, Lw.sz]
    omega
theorem ItsOk.leaf {L : List Tx} {i : Nat} {its : List It} (h : ItsOk L i its) {q : Q} (h1 : Lw.dp q ≤ 1) (h2 : Lw.sz q ≤ 2) (h3 : ∀ x ∈ lvs q, OkL L x) (h4 : lvs q ≠ []) : ItsOk L (i + 1) (its ++ [(q, 1)]) := by
  have a := h.sz
  have b := h.len
  refine ⟨fun p hp => ?_, by simp; omega, ?_⟩
  · rcases List.mem_append.mp hp with hp | hp
    · exact h.all p hp
    · rw [List.mem_singleton] at hp
      subst hp
      exact ⟨Int.le_refl _, by show (1 : Int) ≤ 18; decide, by show (Lw.dp q : Int) ≤ 1; omega, h3, h4⟩
  · rw [List.map_append, szs_app]
    simp only [List.map_cons, List.map_nil, szs]
    omega
theorem ItsOk.not {L : List Tx} {i : Nat} {its : List It} {p : It} (h : ItsOk L i (its ++ [p])) (hd : p.2 < 17) : ItsOk L (i + 1) (its ++ [(.not p.1, p.2 + 2)]) := by
  have a := h.sz
  have b := h.len
  have hp0 := h.all p (by simp)
  refine ⟨fun r hp => ?_, by simp at b ⊢; omega, ?_⟩
  · rcases List.mem_append.mp hp with hp | hp
    · exact h.all r (List.mem_append_left _ hp)
    · rw [List.mem_singleton] at hp
      subst hp
      have := hp0.dp
      have := hp0.lo
      exact ⟨by show 1 ≤ p.2 + 2; omega, by show p.2 + 2 ≤ 18; omega, by show ((Lw.dp p.1 + 1 : Nat) : Int) ≤ p.2 + 2; omega, hp0.nm, hp0.ne⟩
  · rw [List.map_append, szs_app] at a ⊢
    simp only [List.map_cons, List.map_nil, szs, Lw.sz] at a ⊢
    omega
theorem ItsOk.up {L : List Tx} {i : Nat} {its : List It} (h : ItsOk L i its) : ItsOk L (i + 1) its := ⟨h.all, Nat.le_succ_of_le h.len, by have := h.sz; omega⟩
end Lw

set_option linter.all false
set_option maxRecDepth 100000
namespace Lw
open Mi
abbrev stB (ns : List Int) (most : Int) (wide : Bool) (L : List Tx) (its : List It) (left nots : Int) (a7 a8 a9 a10 a12 : Option FV) : Env :=
  [some (.v (.scr (ns.map D.int))), some (.v (.int most)), some (.v (.bl wide)), some (.v (.lst (L.map D.str))), some (.o (.lst (its.map itD))), some (.v (.int left)), some (.v (.int nots)), a7, a8, a9, a10, none, a12]
/-- the last ones, their trees or depths -/
theorem built_comp (ns : List Int) (most : Int) (wide : Bool) (L : List Tx) (its : List It) (left nots : Int) (a7 a8 a10 a12 : Option FV) (S : List SC) (mn : Nat) (hm : mn ≤ its.length) (hl : its.length ≤ 1000) (w : Bool) :
    lComp [11] (.n 11) (iAny (eL (lCut (eVar 4) (oSome (e2 gSub (eA aLen (aCons (eVar 4) aNil)) (eVar 9))) oNone))) tYes (e2 gIxU (eVar 11) (eC (.int (if w then 1 else 0)))) ⟨stB ns most wide L its left nots a7 a8 (some (.v (.int mn))) a10 a12, S⟩ =
      .ok ((its.drop (its.length - mn)).map fun p => if w then D.int p.2 else tD p.1) ⟨stB ns most wide L its left nots a7 a8 (some (.v (.int mn))) a10 a12, S⟩ := by
  have hsub : (its.length : Int) - (mn : Int) = ((its.length - mn : Nat) : Int) := by omega
  refine lComp_ok (m1 := ⟨stB ns most wide L its left nots a7 a8 (some (.v (.int mn))) a10 a12, S⟩) (xs := (its.drop (its.length - mn)).map itD) ?_ (by simp [Me.slot]) ?_
  · simp only [iAny_ap, eL_ap, lCut_ap, eVar_ap, oSome_ap, e2_ap, eA_ap, aCons_ap, aNil_ap, oNone_ap, stB]
    simp [aLen, gLen, Me.items, Me.cl, Me.slot, hsub]
    rw [cut_from _ _ (by simp)]
  · have := comp_two (b := .n 11) (e := e2 gIxU (eVar 11) (eC (.int (if w then 1 else 0)))) (σ := stB ns most wide L its left nots a7 a8 (some (.v (.int mn))) a10 a12) (S := S) (xs := (its.drop (its.length - mn)).map itD) (ys := (its.drop (its.length - mn)).map fun p => if w then D.int p.2 else tD p.1) [] ?_ (le_big (by simp; omega))
    · simpa [wipe] using this
    · refine two_map fun p _ => ⟨_, rfl, ?_⟩
      cases w <;> simp [itD]
theorem built_max (ns : List Int) (most : Int) (wide : Bool) (L : List Tx) (its : List It) (left nots : Int) (a7 a8 a10 a12 : Option FV) (S : List SC) (mn : Nat) (hm : mn ≤ its.length) (hl : its.length ≤ 1000) :
    eAK aMaxD (aCons (eL (lComp [11] (.n 11) (iAny (eL (lCut (eVar 4) (oSome (e2 gSub (eA aLen (aCons (eVar 4) aNil)) (eVar 9))) oNone))) tYes (e2 gIxU (eVar 11) (eC (.int 1))))) aNil) (aCons (eC (.int 0)) aNil) ⟨stB ns most wide L its left nots a7 a8 (some (.v (.int mn))) a10 a12, S⟩ =
      .ok (.v (.int (deepF (its.drop (its.length - mn))))) ⟨stB ns most wide L its left nots a7 a8 (some (.v (.int mn))) a10 a12, S⟩ := by
  have h := built_comp ns most wide L its left nots a7 a8 a10 a12 S mn hm hl true
  simp only [if_true] at h
  simp only [eAK_ap, aCons_ap, eL_ap, h, aNil_ap, eC_ap, Res.bind_ok]
  have e : aMaxD [.v (.lst ((its.drop (its.length - mn)).map fun p => D.int p.2))] [.v (.int 0)] ⟨stB ns most wide L its left nots a7 a8 (some (.v (.int mn))) a10 a12, S⟩ = some (.int (deepF (its.drop (its.length - mn)))) := by
    unfold aMaxD deepF
    have : (Me.ls ⟨stB ns most wide L its left nots a7 a8 (some (.v (.int mn))) a10 a12, S⟩ (.v (.lst ((its.drop (its.length - mn)).map fun p => D.int p.2)))).bind asInts = some ((its.drop (its.length - mn)).map (·.2)) := by
      simp only [Me.ls, Me.cl, Option.bind_some]
      exact asInts_map (fun p : It => p.2) _
    simp only [this]
    cases (its.drop (its.length - mn)).map (·.2) <;> rfl
  rw [e]; rfl
theorem built_step (ns : List Int) (most : Int) (wide : Bool) (L : List Tx) (hL : L.length = 3) (its : List It) (left nots : Int) (a7 a8 a9 a10 a12 : Option FV) (n : Nat) (S : List SC) (i : Nat) (hi : i < 60) (h : ItsOk L i its) (c : Int) :
    (Bd.n 7).go (.int c) (Pg.lp__law_built_1 (Pg.call (n + 2))) ⟨stB ns most wide L its left nots a7 a8 a9 a10 a12, S⟩
      (fun m => ∃ its left nots a7 a8 a9 a10 a12, m = ⟨stB ns most wide L its left nots a7 a8 a9 a10 a12, S⟩ ∧ ItsOk L (i + 1) its) := by
  have hlen := h.len
  generalize hx : mixF c 1 = x
  have t0 := fm_nn (x.fdiv 8) (b := 3) (by decide)
  have t1 := fm_lt (x.fdiv 8) (b := 3) (by decide)
  obtain ⟨mn, hmn, hm1, hm2⟩ : ∃ mn : Nat, (if 2 + (x.fdiv 8).fmod 3 < (its.length : Int) then 2 + (x.fdiv 8).fmod 3 else (its.length : Int)) = (mn : Int) ∧ mn ≤ its.length ∧ (0 < mn → 0 < its.length) := by
    by_cases q : 2 + (x.fdiv 8).fmod 3 < (its.length : Int)
    · exact ⟨(2 + (x.fdiv 8).fmod 3).toNat, by rw [if_pos q]; omega, by omega, by omega⟩
    · exact ⟨its.length, by rw [if_neg q], by omega, by omega⟩
  have hmax := fun a7 a8 a10 a12 => built_max ns most wide L its left nots a7 a8 a10 a12 S mn hm1 (by omega)
  have hpar := fun a7 a8 a10 a12 => built_comp ns most wide L its left nots a7 a8 a10 a12 S mn hm1 (by omega) false
  simp only [Bool.false_eq_true, if_false] at hpar
  have hmin : ∀ m : Me, aMin [.v (.int (its.length : Int)), .v (.int (2 + (x.fdiv 8).fmod 3))] m = some (.int (mn : Int)) := fun m => by
    unfold aMin gMin2
    simp only [hmn]
  have hdeep := deep_nn (L := L) (J := its.drop (its.length - mn)) fun p hp => h.all p (List.mem_of_mem_drop hp)
  have hbin := fun b hk hd => h.bin (its.length - mn) b hk hd
  have hge := deep_ge (J := its.drop (its.length - mn))
  generalize hdp : deepF (its.drop (its.length - mn)) = dep at *
  have i0 := fm_nn (x.fdiv 24) (b := 2) (by decide)
  have i1 := fm_lt (x.fdiv 24) (b := 2) (by decide)
  have e2 := two_at (.str sAnd) (.str sOr) _ i0 i1
  have e2' : atI [D.str [97, 110, 100], D.str [111, 114]] ((x.fdiv 24).fmod 2) = some (D.str (sBin (decide ((x.fdiv 24).fmod 2 = 0)))) := by
    rw [show ([97, 110, 100] : Tx) = sAnd from rfl, show ([111, 114] : Tx) = sOr from rfl, e2]
    by_cases h : (x.fdiv 24).fmod 2 = 0 <;> simp [h, sBin]
  have hsub : (its.length : Int) - (mn : Int) = ((its.length - mn : Nat) : Int) := by omega
  have hcut : cut (its.map itD) none (some ((its.length - mn : Nat) : Int)) = (its.take (its.length - mn)).map itD := by rw [cut_to _ _ (by simp), List.map_take]
  have hbig : its.length ≤ 1000000 := by omega
  by_cases c1 : 5 < x.fmod 8 ∧ 1 < (mn : Int) ∧ dep < 18
  · obtain ⟨c1, c2, c3⟩ := c1
    have hb := hbin (decide ((x.fdiv 24).fmod 2 = 0)) (by omega) c3
    have hlc : (List.take (its.length - mn) (List.map itD its)).length + 1 ≤ big := le_big (by simp; omega)
    have hT : (its.take (its.length - mn) ++ [((Q.bin (decide ((x.fdiv 24).fmod 2 = 0)) ((its.drop (its.length - mn)).map (·.1)), dep + 1) : It)]).map itD = (its.take (its.length - mn)).map itD ++ [.tup [.tup [.str (sBin (decide ((x.fdiv 24).fmod 2 = 0))), .lst ((its.drop (its.length - mn)).map fun p => tD p.1)], .int (dep + 1)]] := by
      simp only [List.map_append, List.map_cons, List.map_nil, itD, tD, tDs_map]
    have hl3 : its.length - mn + 1 ≤ 1000000 := by omega
    simp only [Pg.lp__law_built_1]
    simp [-eAK_ap, mixed, hx, gDiv_int, gMod_int, aLen, gLen, Me.items, Me.cl, Me.slot, hmin, hmax, c1, c2, c3, hpar, e2', hsub, hcut, hlc, -List.length_take, -List.length_drop]
    have ht : tDs (List.drop (its.length - mn) (List.map (fun x : It => x.1) its)) = List.drop (its.length - mn) (List.map (fun p : It => tD p.1) its) := by rw [← List.map_drop, tDs_map, List.map_drop]
    refine ⟨_, ?_, hb⟩
    simp [itD, tD, ht]
  · have m3 : ¬ (3 : Int) < 2 := by omega
    obtain ⟨q, q1, q2, q3, q5, q4⟩ := leaf L hL c wide
    have hbig2 : its.length < big := by rw [big_is]; omega
    by_cases k1 : 5 < x.fmod 8
    · have d1 : ¬ x.fmod 8 = 5 := by omega
      by_cases k2 : 1 < (mn : Int)
      · have k3 : ¬ dep < 18 := fun z => c1 ⟨k1, k2, z⟩
        by_cases c3 : 0 < left
        · simp only [Pg.lp__law_built_1]
          simp [-eAK_ap, mixed, hx, gDiv_int, gMod_int, aLen, gLen, Me.items, Me.cl, Me.slot, hmin, hmax, k1, k2, k3, d1, c3, q4 n S, isL, Me.own, mApp, Me.put, hbig, hbig2]
          refine ⟨its ++ [(q, 1)], ?_, h.leaf q1 q2 q3 q5⟩
          simp [itD]
        · simp only [Pg.lp__law_built_1]
          simp [-eAK_ap, mixed, hx, gDiv_int, gMod_int, aLen, gLen, Me.items, Me.cl, Me.slot, hmin, hmax, k1, k2, k3, d1, c3]
          exact ⟨its, rfl, h.up⟩
      · skip
        by_cases c3 : 0 < left
        · simp only [Pg.lp__law_built_1]
          simp [-eAK_ap, mixed, hx, gDiv_int, gMod_int, aLen, gLen, Me.items, Me.cl, Me.slot, hmin, hmax, k1, k2, d1, c3, q4 n S, isL, Me.own, mApp, Me.put, hbig, hbig2]
          refine ⟨its ++ [(q, 1)], ?_, h.leaf q1 q2 q3 q5⟩
          simp [itD]
        · simp only [Pg.lp__law_built_1]
          simp [-eAK_ap, mixed, hx, gDiv_int, gMod_int, aLen, gLen, Me.items, Me.cl, Me.slot, hmin, hmax, k1, k2, d1, c3]
          exact ⟨its, rfl, h.up⟩
    · by_cases d1 : x.fmod 8 = 5
      · by_cases d2 : 0 < nots
        · by_cases d3 : 0 < mn
          · by_cases d4 : dep < 17
            · have hpos := hm2 (by omega)
              have hne : its ≠ [] := by intro z; rw [z] at hpos; simp at hpos
              obtain ⟨its0, p, hits⟩ : ∃ its0 p, its = its0 ++ [p] := ⟨its.dropLast, its.getLast hne, (List.dropLast_concat_getLast hne).symm⟩
              have hp : p.2 < 17 := by
                have : p.2 ≤ dep := hge p (by
                  rw [hits]
                  have : (its0 ++ [p]).length - mn ≤ its0.length := by simp; omega
                  rw [List.drop_append_of_le_length this]
                  simp)
                omega
              have hn := ItsOk.not (its := its0) (p := p) (by rw [← hits]; exact h) hp
              have hneg : atI (its.map itD) (-1) = some (itD p) := by
                rw [hits]
                have g1 : (1 : Int) ≤ (its0.length : Int) + 1 := by omega
                have g2 : ((-1 : Int) + ((its0.length : Int) + 1)).toNat = its0.length := by omega
                unfold atI ixN
                simp [g1, g2]
              have hcl : cut (its.map itD) none (some (-1)) = its0.map itD := by rw [cut_last, hits]; simp
              have hlc : its0.length + 1 ≤ 1000000 := by rw [hits] at hbig; simpa using hbig
              have hsl : ∀ (m : Me) (j : Int), m.slot 4 = some (.lst (its.map itD)) → gIxU (.sl 4) (.v (.int j)) m = atI (its.map itD) j := fun m j h => gIxU_sl 4 j m h
              simp only [Pg.lp__law_built_1]
              simp [-eAK_ap, mixed, hx, gDiv_int, gMod_int, aLen, gLen, Me.items, Me.cl, Me.slot, hmin, hmax, k1, d1, d2, d3, d4, hsl, hneg, hcl, hlc, itD]
              refine ⟨_, ?_, hn⟩
              simp [itD, tD, sNot]
            · skip
              by_cases c3 : 0 < left
              · simp only [Pg.lp__law_built_1]
                simp [-eAK_ap, mixed, hx, gDiv_int, gMod_int, aLen, gLen, Me.items, Me.cl, Me.slot, hmin, hmax, k1, d1, d2, d3, d4, c3, q4 n S, isL, Me.own, mApp, Me.put, hbig, hbig2]
                refine ⟨its ++ [(q, 1)], ?_, h.leaf q1 q2 q3 q5⟩
                simp [itD]
              · simp only [Pg.lp__law_built_1]
                simp [-eAK_ap, mixed, hx, gDiv_int, gMod_int, aLen, gLen, Me.items, Me.cl, Me.slot, hmin, hmax, k1, d1, d2, d3, d4, c3]
                exact ⟨its, rfl, h.up⟩
          · skip
            by_cases c3 : 0 < left
            · simp only [Pg.lp__law_built_1]
              simp [-eAK_ap, mixed, hx, gDiv_int, gMod_int, aLen, gLen, Me.items, Me.cl, Me.slot, hmin, hmax, k1, d1, d2, d3, c3, q4 n S, isL, Me.own, mApp, Me.put, hbig, hbig2]
              refine ⟨its ++ [(q, 1)], ?_, h.leaf q1 q2 q3 q5⟩
              simp [itD]
            · simp only [Pg.lp__law_built_1]
              simp [-eAK_ap, mixed, hx, gDiv_int, gMod_int, aLen, gLen, Me.items, Me.cl, Me.slot, hmin, hmax, k1, d1, d2, d3, c3]
              exact ⟨its, rfl, h.up⟩
        · skip
          by_cases c3 : 0 < left
          · simp only [Pg.lp__law_built_1]
            simp [-eAK_ap, mixed, hx, gDiv_int, gMod_int, aLen, gLen, Me.items, Me.cl, Me.slot, hmin, hmax, k1, d1, d2, c3, q4 n S, isL, Me.own, mApp, Me.put, hbig, hbig2]
            refine ⟨its ++ [(q, 1)], ?_, h.leaf q1 q2 q3 q5⟩
            simp [itD]
          · simp only [Pg.lp__law_built_1]
            simp [-eAK_ap, mixed, hx, gDiv_int, gMod_int, aLen, gLen, Me.items, Me.cl, Me.slot, hmin, hmax, k1, d1, d2, c3]
            exact ⟨its, rfl, h.up⟩
      · skip
        by_cases c3 : 0 < left
        · simp only [Pg.lp__law_built_1]
          simp [-eAK_ap, mixed, hx, gDiv_int, gMod_int, aLen, gLen, Me.items, Me.cl, Me.slot, hmin, hmax, k1, d1, c3, q4 n S, isL, Me.own, mApp, Me.put, hbig, hbig2]
          refine ⟨its ++ [(q, 1)], ?_, h.leaf q1 q2 q3 q5⟩
          simp [itD]
        · simp only [Pg.lp__law_built_1]
          simp [-eAK_ap, mixed, hx, gDiv_int, gMod_int, aLen, gLen, Me.items, Me.cl, Me.slot, hmin, hmax, k1, d1, c3]
          exact ⟨its, rfl, h.up⟩
end Lw

set_option linter.all false
set_option maxRecDepth 100000
namespace Lw
open Mi
def okTx (x : Tx) : Prop := x.all (fun c => decide (c < 1114112)) = true
theorem ok_bin (an : Bool) : okTx (sBin an) := by cases an <;> rfl
mutual
theorem dep_tD {L : List Tx} (hok : ∀ x ∈ L, okTx x) : ∀ q : Q, (∀ x ∈ lvs q, OkL L x) → ∃ k, dep (tD q) = some k ∧ k ≤ 2 * dp q + 1
  | .all, _ => ⟨1, by simp [tD, dep, deps, sAll], by simp [dp]⟩
  | .none, _ => ⟨1, by simp [tD, dep, deps, sNone], by simp [dp]⟩
  | .leaf x lo hi, h => ⟨1, by
      have := hok x (h (.leaf x lo hi) (by simp [lvs])).1
      simp only [okTx] at this
      simp [tD, dep, deps, sIn, this], by simp [dp]⟩
  | .not q, h => by
    obtain ⟨k, e, hk⟩ := dep_tD hok q (by simpa [lvs] using h)
    exact ⟨k + 1, by simp [tD, dep, deps, sNot, e], by simp [dp]; omega⟩
  | .bin an qs, h => by
    obtain ⟨k, e, hk⟩ := deps_tD hok qs (by simpa [lvs] using h)
    refine ⟨k + 2, ?_, by simp [dp]; omega⟩
    have := ok_bin an
    simp only [okTx] at this
    simp [tD, dep, deps, e, this]
theorem deps_tD {L : List Tx} (hok : ∀ x ∈ L, okTx x) : ∀ qs : List Q, (∀ x ∈ lvss qs, OkL L x) → ∃ k, deps (tDs qs) = some k ∧ k ≤ 2 * dps qs + 1
  | [], _ => ⟨0, rfl, by simp⟩
  | q :: r, h => by
    obtain ⟨k, e, hk⟩ := dep_tD hok q (fun x hx => h x (by simp [lvss, hx]))
    obtain ⟨j, e2, hj⟩ := deps_tD hok r (fun x hx => h x (by simp [lvss, hx]))
    exact ⟨max k j, by simp [tDs, deps, e, e2], by simp [dps]; omega⟩
end
theorem gNeU_nil (xs : List D) (m : Me) {k : Nat} (h : deps xs = some k) (hk : k ≤ 59) : gNeU (.v (.lst xs)) (.v (.lst [])) m = some (.bl (!xs.isEmpty)) := by
  have h1 : datum (.lst xs) = true := by simp [datum, dep, h]; omega
  have h2 : datum (.lst []) = true := by simp [datum, dep, deps]
  have h3 : eqv (.lst xs) (.lst []) = xs.isEmpty := by cases xs <;> rfl
  unfold gNeU orG gNe
  simp [Me.dat, Me.cl, h1, h2, h3]
theorem gEqU_nil_sl (i : Nat) (xs : List D) (m : Me) (hs : m.slot i = some (.lst xs)) {k : Nat} (h : deps xs = some k) (hk : k ≤ 59) : gEqU (.sl i) (.v (.lst [])) m = some (.bl xs.isEmpty) := by
  have h1 : datum (.lst xs) = true := by simp [datum, dep, h]; omega
  have h2 : datum (.lst []) = true := by simp [datum, dep, deps]
  have h3 : eqv (.lst xs) (.lst []) = xs.isEmpty := by cases xs <;> rfl
  unfold gEqU orG gEq
  simp [Me.dat, Me.cl, hs, h1, h2, h3]
theorem okTx_name (x size : Int) (k : Nat) : okTx (nameF (wordF x size k)) := by
  have hw : ∀ c ∈ wordF x size k, c < 1114112 := fun c hc => by
    obtain ⟨j, _, rfl⟩ := List.mem_map.mp hc
    have a := fm_nn (numF x size k j) (b := 26) (by decide)
    have b := fm_lt (numF x size k j) (b := 26) (by decide)
    show 97 + ((numF x size k j).fmod 26).toNat < 1114112
    omega
  unfold okTx nameF
  split
  · rw [List.all_append, Bool.and_eq_true]
    exact ⟨List.all_eq_true.mpr fun c hc => decide_eq_true (hw c hc), by decide⟩
  · exact List.all_eq_true.mpr fun c hc => decide_eq_true (hw c hc)
theorem names_ok {ns : List Int} {most : Int} : ∀ x ∈ namesF ns most, okTx x := fun x hx => by
  obtain ⟨k, _, rfl⟩ := List.mem_map.mp hx
  exact okTx_name _ _ _
theorem names_len {ns : List Int} {most : Int} : (namesF ns most).length = 3 := by simp [namesF]
def wideF (ns : List Int) : Bool := (cellF ns 1).fmod 3 == 0
def mostF (ns : List Int) : Int := if wideF ns then 8 else 3
theorem deps_it {L : List Tx} (hok : ∀ x ∈ L, okTx x) : ∀ {its : List It}, (∀ p ∈ its, ItOk L p) → ∃ k, deps (its.map itD) = some k ∧ k ≤ 59
  | [], _ => ⟨0, rfl, by omega⟩
  | p :: r, h => by
    obtain ⟨k, e, hk⟩ := deps_it hok (its := r) fun q hq => h q (List.mem_cons_of_mem _ hq)
    have hp := h p List.mem_cons_self
    obtain ⟨j, e2, hj⟩ := dep_tD hok p.1 hp.nm
    have := hp.dp
    have := hp.hi
    refine ⟨max (max j 0 + 1) k, ?_, by omega⟩
    simp [deps, itD, dep, e, e2]
theorem cut_ints (ns : List Int) : (∀ x ∈ cut (ns.map D.int) (some 3) (some 63), ∃ c : Int, x = .int c) ∧ (cut (ns.map D.int) (some 3) (some 63)).length ≤ 60 := by
  refine ⟨fun x hx => ?_, ?_⟩
  · have := List.mem_of_mem_drop (List.mem_of_mem_take hx)
    obtain ⟨c, _, rfl⟩ := List.mem_map.mp this
    exact ⟨c, rfl⟩
  · unfold cut sIx
    simp
    omega
theorem built (ns : List Int) (n : Nat) (S : List SC) : ∃ q : Q, dp q ≤ 19 ∧ sz q ≤ 200 ∧ (∀ x ∈ lvs q, OkL (namesF ns (mostF ns)) x) ∧ lvs q ≠ [] ∧ Pg.call (n + 3) "_law_built" [.scr (ns.map D.int), .int 12] S = .ok (tD q) S := by
  rw [Pg.c__law_built]
  have hL := names_len (ns := ns) (most := mostF ns)
  have hok := names_ok (ns := ns) (most := mostF ns)
  have enames : Pg.call (n + 2) "_law_names" [.scr (ns.map D.int), .int (mostF ns)] S = .ok (.lst ((namesF ns (mostF ns)).map D.str)) S := names ns (mostF ns) (by unfold mostF; split <;> omega) (by unfold mostF; split <;> omega) n S
  have ec1 : Pg.call (n + 2) "_law_cell_at" [.scr (ns.map D.int), .int 1] S = .ok (.int (cellF ns 1)) S := cell_at ns 1 (n + 1) S
  have ec2 : Pg.call (n + 2) "_law_cell_at" [.scr (ns.map D.int), .int 2] S = .ok (.int (cellF ns 2)) S := cell_at ns 2 (n + 1) S
  have ew : ((cellF ns 1).fmod 3 == 0) = wideF ns := rfl
  have em : atI [D.int 3, .int 8] (if wideF ns then 1 else 0) = some (.int (mostF ns)) := by
    unfold mostF; cases wideF ns <;> simp
  obtain ⟨left, el⟩ : ∃ left : Int, atI [D.int 12, .int 9] (if wideF ns then 1 else 0) = some (.int left) := by
    cases wideF ns
    · exact ⟨12, by simp⟩
    · exact ⟨9, by simp⟩
  have emin : ∀ m : Me, aMin [.v (.int 12), .v (.int 9)] m = some (.int 9) := fun m => rfl
  generalize hLd : namesF ns (mostF ns) = L at *
  generalize hwd : wideF ns = wide at *
  obtain ⟨hc1, hc2⟩ := cut_ints ns
  obtain ⟨m', e, its, left', nots', a7, a8, a9, a10, a12, rfl, hi⟩ := forL_inv (b := .n 7) (body := Pg.lp__law_built_1 (Pg.call (n + 2))) (fun i m => ∃ its left nots a7 a8 a9 a10 a12, m = ⟨stB ns 12 wide L its left nots a7 a8 a9 a10 a12, S⟩ ∧ ItsOk L i its)
    (cut (ns.map D.int) (some 3) (some 63)) ⟨stB ns 12 wide L [] left 6 none none none none none, S⟩ 0 ⟨[], left, 6, none, none, none, none, none, rfl, fun p h => absurd h List.not_mem_nil, Nat.le_refl _, Nat.le_refl _⟩ (by
    rintro i x m hx ⟨its, left, nots, a7, a8, a9, a10, a12, rfl, hi⟩
    have hlt := (List.getElem?_eq_some_iff.mp hx).1
    obtain ⟨c, rfl⟩ := hc1 x (List.mem_of_getElem? hx)
    exact built_step ns 12 wide L hL its left nots a7 a8 a9 a10 a12 n S (0 + i) (by omega) hi c)
  rw [Nat.zero_add] at hi
  unfold stB at e
  rw [show ([] : List It).map itD = [] from rfl] at e
  have hlen := hi.len
  have hsz := hi.sz
  have hbig : its.length ≤ 1000000 := by omega
  obtain ⟨k, ed, hk⟩ := deps_it hok hi.all
  have enil : ∀ m : Me, m.slot 4 = some (.lst (its.map itD)) → gEqU (.sl 4) (.v (.lst [])) m = some (.bl (its.map itD).isEmpty) := fun m h => gEqU_nil_sl 4 _ m h ed hk
  have esl : ∀ (m : Me) (j : Int), m.slot 4 = some (.lst (its.map itD)) → gIxU (.sl 4) (.v (.int j)) m = atI (its.map itD) j := fun m j h => gIxU_sl 4 j m h
  have c0 := fm_nn (cellF ns 2) (b := 2) (by decide)
  have c1 := fm_lt (cellF ns 2) (b := 2) (by decide)
  have ea2 := two_at (.str sAnd) (.str sOr) _ c0 c1
  have e2' : atI [D.str [97, 110, 100], D.str [111, 114]] ((cellF ns 2).fmod 2) = some (D.str (sBin (decide ((cellF ns 2).fmod 2 = 0)))) := by
    rw [show ([97, 110, 100] : Tx) = sAnd from rfl, show ([111, 114] : Tx) = sOr from rfl, ea2]
    by_cases h : (cellF ns 2).fmod 2 = 0 <;> simp [h, sBin]
  by_cases h0 : its = []
  · subst h0
    refine ⟨.all, by simp [dp], by simp [sz], by simp [lvs, OkL], by simp [lvs], ?_⟩
    simp only [List.map_nil, List.isEmpty_nil] at e enil
    simp [runF, Pg.b__law_built, ec1, gMod_int, ew, hwd, enames, aInt2, aInt, gInt, em, emin, el, e, aLen, gLen, Me.items, Me.cl, Me.slot, enil, tD, sAll]
  · by_cases h1 : its.length = 1
    · obtain ⟨p, rfl⟩ : ∃ p, its = [p] := List.length_eq_one_iff.mp h1
      have hp := hi.all p List.mem_cons_self
      have := hp.dp
      have := hp.hi
      refine ⟨p.1, by omega, by simp [szs] at hsz; omega, hp.nm, hp.ne, ?_⟩
      simp only [List.map_cons, List.map_nil, itD] at e esl
      simp [runF, Pg.b__law_built, ec1, gMod_int, ew, hwd, enames, aInt2, aInt, gInt, em, emin, el, e, aLen, gLen, Me.items, Me.cl, Me.slot, esl]
    · have hne : (its.map itD).isEmpty = false := by cases its with
        | nil => exact absurd rfl h0
        | cons _ _ => rfl
      rw [hne] at enil
      have h1' : ¬ (its.length : Int) = 1 := by omega
      have hL2 : lComp [11] (.n 11) (iAny (eFrz 4)) tYes (e2 gIxU (eVar 11) (eC (.int 0))) ⟨stB ns 12 wide L its left' nots' a7 a8 a9 a10 a12, S⟩ = .ok (its.map fun p => tD p.1) ⟨[some (.v (.scr (ns.map D.int))), some (.v (.int 12)), some (.v (.bl wide)), some (.v (.lst (L.map D.str))), some (.v (.lst (its.map itD))), some (.v (.int left')), some (.v (.int nots')), a7, a8, a9, a10, none, a12], S⟩ := by
        refine lComp_ok (m1 := ⟨[some (.v (.scr (ns.map D.int))), some (.v (.int 12)), some (.v (.bl wide)), some (.v (.lst (L.map D.str))), some (.v (.lst (its.map itD))), some (.v (.int left')), some (.v (.int nots')), a7, a8, a9, a10, none, a12], S⟩) (xs := its.map itD) (by simp) (by simp [Me.slot]) ?_
        have := comp_two (b := .n 11) (e := e2 gIxU (eVar 11) (eC (.int 0))) (σ := [some (.v (.scr (ns.map D.int))), some (.v (.int 12)), some (.v (.bl wide)), some (.v (.lst (L.map D.str))), some (.v (.lst (its.map itD))), some (.v (.int left')), some (.v (.int nots')), a7, a8, a9, a10, none, a12]) (S := S) (xs := its.map itD) (ys := its.map fun p => tD p.1) [] ?_ (le_big (by simp; omega))
        · simpa [wipe] using this
        · exact two_map fun p _ => ⟨_, rfl, by simp [itD]⟩
      refine ⟨.bin (decide ((cellF ns 2).fmod 2 = 0)) (its.map (·.1)), ?_, by simp [sz]; omega, fun x hx => ?_, ?_, ?_⟩
      · have : dps (its.map (·.1)) ≤ 18 := dps_le fun q hq => by
          obtain ⟨p, hp, rfl⟩ := List.mem_map.mp hq
          have a := (hi.all p hp).dp
          have b := (hi.all p hp).hi
          omega
        simp [dp]; omega
      · obtain ⟨q, hq, hx⟩ := lvss_mem (show x ∈ lvss (its.map (·.1)) from hx)
        obtain ⟨p, hp, rfl⟩ := List.mem_map.mp hq
        exact (hi.all p hp).nm x hx
      · show lvss (its.map (·.1)) ≠ []
        cases hd : its with
        | nil => exact absurd hd h0
        | cons p r =>
          have := (hi.all p (by rw [hd]; exact .head _)).ne
          rw [List.map_cons, lvss]
          exact fun z => this (List.append_eq_nil_iff.mp z).1
      · simp [runF, Pg.b__law_built, ec1, ec2, gMod_int, ew, hwd, enames, aInt2, aInt, gInt, em, emin, el, e, aLen, gLen, Me.items, Me.cl, Me.slot, enil, h1, h1', hL2, e2', tD, tDs_map]
end Lw

set_option linter.all false
set_option maxRecDepth 100000
namespace Lw
open Mi
/-! # the words of a tree -/
def wrapF (must : Bool) (l : Int) (ws : List Tx) : List Tx := if must = true ∨ (0 < l ∧ (ws.length : Int).fmod l = 0) then [sOpen] ++ ws ++ [sClose] else ws
def mustF (an : Bool) : Q → Bool
  | .bin false _ => true
  | .bin true _ => an
  | _ => false
def isBQ : Q → Bool
  | .bin _ _ => true
  | _ => false
mutual
def wordsT (l : Int) : Q → List Tx
  | .all => [sAll] | .none => [sNone]
  | .leaf x lo hi => if lo = hi then [x, sIs, decT lo] else [x, sFrom, decT lo, sTo, decT hi]
  | .not q => [sNot] ++ wrapF (isBQ q) l (wordsT l q)
  | .bin an qs => (wordsTs l an qs).drop 1
def wordsTs (l : Int) (an : Bool) : List Q → List Tx
  | [] => [] | q :: r => [sBin an] ++ wrapF (mustF an q) l (wordsT l q) ++ wordsTs l an r
end
theorem wrap_len (must : Bool) (l : Int) (ws : List Tx) : ws.length ≤ (wrapF must l ws).length ∧ (wrapF must l ws).length ≤ ws.length + 2 := by
  unfold wrapF; split <;> simp <;> omega
mutual
theorem words_cnt (l : Int) : ∀ q, (lvs q).length ≤ (wordsT l q).length ∧ (wordsT l q).length ≤ 9 * sz q - 4
  | .all => by simp [lvs, wordsT, sz]
  | .none => by simp [lvs, wordsT, sz]
  | .leaf x lo hi => by simp only [lvs, wordsT, sz]; split <;> simp
  | .not q => by
    obtain ⟨a, b⟩ := words_cnt l q
    obtain ⟨c, d⟩ := wrap_len (isBQ q) l (wordsT l q)
    simp only [lvs, wordsT, sz, List.length_append, List.length_singleton]
    have : 1 ≤ sz q := by cases q <;> simp [sz]
    omega
  | .bin an qs => by
    obtain ⟨a, b⟩ := words_cnts l an qs
    simp only [lvs, wordsT, sz, List.length_drop]
    omega
theorem words_cnts (l : Int) (an : Bool) : ∀ qs, (lvss qs).length ≤ (wordsTs l an qs).length - 1 ∧ (wordsTs l an qs).length ≤ 9 * szs qs
  | [] => by simp [lvss, wordsTs, szs]
  | q :: r => by
    obtain ⟨a, b⟩ := words_cnt l q
    obtain ⟨c, d⟩ := words_cnts l an r
    obtain ⟨e, f⟩ := wrap_len (mustF an q) l (wordsT l q)
    have : 1 ≤ sz q := by cases q <;> simp [sz]
    simp only [lvss, wordsTs, szs, List.length_append, List.length_singleton]
    omega
end
theorem wlen_app : ∀ a b : List Tx, wlen (a ++ b) = wlen a + wlen b := fun a b => by unfold wlen; rw [List.map_append, List.sum_append]
theorem wlen_wrap (must : Bool) (l : Int) (ws : List Tx) : wlen (wrapF must l ws) ≤ wlen ws + 6 := by
  unfold wrapF; split
  · rw [wlen_app, wlen_app]; simp [wlen, sOpen, sClose]; omega
  · omega
theorem wlen_drop (ws : List Tx) (k : Nat) : wlen (ws.drop k) ≤ wlen ws := by
  have : wlen ws = wlen (ws.take k) + wlen (ws.drop k) := by rw [← wlen_app, List.take_append_drop]
  omega
section
variable {L : List Tx} (hL : ∀ x ∈ L, x.length ≤ 9)
include hL
mutual
theorem words_wlen (l : Int) : ∀ q, (∀ x ∈ lvs q, OkL L x) → wlen (wordsT l q) ≤ 70 * sz q - 11
  | .all, _ => by simp [wordsT, wlen, sz, sAll]
  | .none, _ => by simp [wordsT, wlen, sz, sNone]
  | .leaf x lo hi, h => by
    obtain ⟨h1, h2, h3, h4, h5⟩ := h (.leaf x lo hi) (by simp [lvs])
    have a := hL x h1
    obtain ⟨n, rfl⟩ := Int.eq_ofNat_of_zero_le h2
    obtain ⟨m, rfl⟩ := Int.eq_ofNat_of_zero_le h4
    have b := decT_len n 12 (by decide) (by omega)
    have c := decT_len m 12 (by decide) (by omega)
    simp only [wordsT, sz]
    split <;> simp [wlen, sIs, sFrom, sTo] <;> omega
  | .not q, h => by
    have a := words_wlen l q h
    have b := wlen_wrap (isBQ q) l (wordsT l q)
    have : 1 ≤ sz q := by cases q <;> simp [sz]
    simp only [wordsT, wlen_app, sz]
    have : wlen [sNot] = 5 := rfl
    omega
  | .bin an qs, h => by
    have a := words_wlens l an qs h
    have b := wlen_drop (wordsTs l an qs) 1
    simp only [wordsT, sz]
    omega
theorem words_wlens (l : Int) (an : Bool) : ∀ qs, (∀ x ∈ lvss qs, OkL L x) → wlen (wordsTs l an qs) ≤ 70 * szs qs
  | [], _ => by simp [wordsTs, wlen, szs]
  | q :: r, h => by
    have a := words_wlen l q (fun x hx => h x (List.mem_append_left _ hx))
    have b := words_wlens l an r (fun x hx => h x (List.mem_append_right _ hx))
    have c := wlen_wrap (mustF an q) l (wordsT l q)
    have : 1 ≤ sz q := by cases q <;> simp [sz]
    have : wlen [sBin an] ≤ 5 := by cases an <;> simp [wlen, sBin, sAnd, sOr]
    simp only [wordsTs, wlen_app, szs]
    omega
end
end
def hdQ : Q → Tx
  | .all => sAll | .none => sNone | .leaf _ _ _ => sIn | .not _ => sNot | .bin an _ => sBin an
theorem hd_at (q : Q) (m : Me) : gIxU (.v (tD q)) (.v (.int 0)) m = some (.str (hdQ q)) := by cases q <;> simp [tD, hdQ]
theorem hd_in (q : Q) (m : Me) : gInV (.v (.str (hdQ q))) (.v (.lst [.str [97, 110, 100], .str [111, 114]])) m = some (.bl (isBQ q)) := by
  have e := gInV_strs (hdQ q) [[97, 110, 100], [111, 114]] m
  simp only [List.map_cons, List.map_nil] at e
  rw [e]
  cases q with
  | bin an qs => cases an <;> rfl
  | _ => rfl
theorem wrapped {q : Q} {l : Int} {n : Nat} {S : List SC} (h0 : 0 ≤ l) (hl : l < 4) (hc : (wordsT l q).length ≤ 100000) (e : Pg.call n "_law_words" [tD q, .int l] S = .ok (.lst ((wordsT l q).map D.str)) S) (must : Bool) :
    Pg.call (n + 1) "_law_wrapped" [tD q, .bl must, .int l] S = .ok (.lst ((wrapF must l (wordsT l q)).map D.str)) S := by
  rw [Pg.c__law_wrapped]
  generalize wordsT l q = ws at *
  have hb : ws.length ≤ 1000000 := by omega
  have g1 : ∀ m : Me, gAddU (.v (.lst [.str [40]])) (.v (.lst (ws.map D.str))) m = some (.lst ([.str [40]] ++ ws.map D.str)) := fun m => gAddU_lst _ _ m (le_big (by simp; omega))
  have g2 : ∀ m : Me, gAddU (.v (.lst ([.str [40]] ++ ws.map D.str))) (.v (.lst [.str [41]])) m = some (.lst ([.str [40]] ++ ws.map D.str ++ [.str [41]])) := fun m => gAddU_lst _ _ m (le_big (by simp; omega))
  simp only [List.cons_append, List.nil_append] at g1 g2
  unfold wrapF
  simp only [runF, Pg.b__law_wrapped]
  cases must with
  | true => simp [e, g1, g2, sOpen, sClose]
  | false =>
    by_cases c1 : 0 < l
    · have c0 : l ≠ 0 := by omega
      by_cases c2 : (ws.length : Int).fmod l = 0
      · simp [e, g1, g2, sOpen, sClose, c1, c2, aLen, gLen, Me.items, Me.cl, hb, gMod_int, c0]
      · simp [e, g1, g2, sOpen, sClose, c1, c2, aLen, gLen, Me.items, Me.cl, hb, gMod_int, c0]
    · simp [e, c1]
section
variable {L : List Tx} {l : Int} (h0 : 0 ≤ l) (hl : l < 4)
include h0 hl
mutual
theorem words (S : List SC) : ∀ (q : Q) (n : Nat), 2 * dp q ≤ n → sz q ≤ 1000 → (∀ x ∈ lvs q, OkL L x) → Pg.call (n + 1) "_law_words" [tD q, .int l] S = .ok (.lst ((wordsT l q).map D.str)) S
  | .all, n, _, _, _ => by
    rw [Pg.c__law_words]
    simp [runF, Pg.b__law_words, tD, sAll, wordsT]
  | .none, n, _, _, _ => by
    rw [Pg.c__law_words]
    simp [runF, Pg.b__law_words, tD, sNone, wordsT]
  | .leaf x lo hi, n, _, _, h => by
    obtain ⟨h1, h2, h3, h4, h5⟩ := h (.leaf x lo hi) (by simp [lvs])
    have s1 : ∀ m, aStr [.v (.int lo)] m = some (.str (decT lo)) := fun m => by unfold aStr; simp [small_nn h2 (by omega)]
    have s2 : ∀ m, aStr [.v (.int hi)] m = some (.str (decT hi)) := fun m => by unfold aStr; simp [small_nn h4 (by omega)]
    rw [Pg.c__law_words]
    by_cases c : lo = hi
    · subst c
      simp [runF, Pg.b__law_words, tD, sIn, wordsT, s1, sIs]
    · simp [runF, Pg.b__law_words, tD, sIn, wordsT, s1, s2, sFrom, sTo, c]
  | .not q, n, hn, hz, h => by
    simp only [dp] at hn
    simp only [sz] at hz
    obtain ⟨k, rfl⟩ : ∃ k, n = k + 2 := ⟨n - 2, by omega⟩
    have c1 := (words_cnt l q).2
    have e := wrapped (q := q) (l := l) (n := k + 1) (S := S) h0 hl (by omega) (words S q k (by omega) (by omega) h) (isBQ q)
    have g1 : ∀ m : Me, gAddU (.v (.lst [.str [110, 111, 116]])) (.v (.lst ((wrapF (isBQ q) l (wordsT l q)).map D.str))) m = some (.lst ([.str [110, 111, 116]] ++ (wrapF (isBQ q) l (wordsT l q)).map D.str)) := fun m => gAddU_lst _ _ m (le_big (by
      have := (wrap_len (isBQ q) l (wordsT l q)).2
      simp; omega))
    have h1 := fun m => hd_at q m
    have h2 := fun m => hd_in q m
    rw [Pg.c__law_words]
    generalize hw : wrapF (isBQ q) l (wordsT l q) = ws at *
    have ew : wordsT l (.not q) = [sNot] ++ ws := by rw [wordsT, hw]
    rw [ew]
    simp only [List.cons_append, List.nil_append] at g1
    simp [runF, Pg.b__law_words, tD, sNot, h1, h2, e, g1]
  | .bin an qs, n, hn, hz, h => by
    simp only [dp] at hn
    simp only [sz] at hz
    obtain ⟨k, rfl⟩ : ∃ k, n = k + 2 := ⟨n - 2, by omega⟩
    obtain ⟨j3, j4, e⟩ := wordss S an qs k (by omega) (by omega) h (tD (.bin an qs)) ⟨_, rfl⟩ [] (by simp; omega) none none
    have c1 := (words_cnts l an qs).2
    have hcut : cut ((wordsTs l an qs).map D.str) (some ((1 : Nat) : Int)) none = ((wordsTs l an qs).map D.str).drop 1 := by
      by_cases z : 1 ≤ ((wordsTs l an qs).map D.str).length
      · exact cut_from _ 1 z
      · have : (wordsTs l an qs).map D.str = [] := List.length_eq_zero_iff.mp (by omega)
        rw [this]; rfl
    rw [Pg.c__law_words]
    have ew : wordsT l (.bin an qs) = (wordsTs l an qs).drop 1 := by rw [wordsT]
    rw [ew]
    simp only [List.nil_append, List.map_nil] at e
    generalize hw : wordsTs l an qs = ws at *
    have hcut : cut (ws.map D.str) (some 1) none = (ws.map D.str).drop 1 := hcut
    have hb : ws.length ≤ 1000000 := by omega
    have hb2 : ws.length - 1 ≤ 1000000 := by omega
    cases an <;> simp [runF, Pg.b__law_words, tD, sBin, sAnd, sOr] at e ⊢ <;> simp [e, hcut, Me.cl, hb, hb2]
theorem wordss (S : List SC) (an : Bool) : ∀ (qs : List Q) (n : Nat), 2 * dps qs ≤ n → szs qs ≤ 1000 → (∀ x ∈ lvss qs, OkL L x) → ∀ (t : D), (∃ r, t = .tup (.str (sBin an) :: r)) → ∀ acc : List Tx, acc.length + 9 * szs qs ≤ 10000 → ∀ j3 j4 : Option FV,
    ∃ k3 k4, forL (.n 3) (Pg.lp__law_words_1 (Pg.call (n + 2))) (tDs qs) ⟨[some (.v t), some (.v (.int l)), some (.v (.lst (acc.map D.str))), j3, j4], S⟩ = .nx ⟨[some (.v t), some (.v (.int l)), some (.v (.lst ((acc ++ wordsTs l an qs).map D.str))), k3, k4], S⟩
  | [], n, _, _, _, t, _, acc, _, j3, j4 => ⟨j3, j4, by simp [tDs, forL, wordsTs]⟩
  | q :: r, n, hn, hz, h, t, ht, acc, ha, j3, j4 => by
    simp only [dps] at hn
    simp only [szs] at hz ha
    have c1 := (words_cnt l q).2
    have c2 := (wrap_len (mustF an q) l (wordsT l q)).2
    have e := wrapped (q := q) (l := l) (n := n + 1) (S := S) h0 hl (by omega) (words S q n (by omega) (by omega) (fun x hx => h x (List.mem_append_left _ hx))) (mustF an q)
    obtain ⟨k3, k4, ih⟩ := wordss S an r n (by omega) (by omega) (fun x hx => h x (List.mem_append_right _ hx)) t ht (acc ++ ([sBin an] ++ wrapF (mustF an q) l (wordsT l q))) (by
      have : 1 ≤ sz q := by cases q <;> simp [sz]
      simp; omega) (some (.v (tD q))) (some (.v (.bl (mustF an q))))
    refine ⟨k3, k4, ?_⟩
    have hsz : 1 ≤ sz q := by cases q <;> simp [sz]
    have ew : acc ++ wordsTs l an (q :: r) = acc ++ ([sBin an] ++ wrapF (mustF an q) l (wordsT l q)) ++ wordsTs l an r := by rw [wordsTs]; simp
    rw [ew, ← ih, tDs]
    generalize hw : wrapF (mustF an q) l (wordsT l q) = ws at *
    obtain ⟨tr, rfl⟩ := ht
    have g1 : ∀ m : Me, gAddU (.v (.lst (acc.map D.str))) (.v (.lst [.str (sBin an)])) m = some (.lst (acc.map D.str ++ [.str (sBin an)])) := fun m => gAddU_lst _ _ m (le_big (by simp; omega))
    have g2 : ∀ m : Me, gAddU (.v (.lst (acc.map D.str ++ [.str (sBin an)]))) (.v (.lst (ws.map D.str))) m = some (.lst (acc.map D.str ++ [.str (sBin an)] ++ ws.map D.str)) := fun m => gAddU_lst _ _ m (le_big (by simp; omega))
    have h1 := fun m => hd_at q m
    have em : (hdQ q == [111, 114] || hdQ q == [97, 110, 100] && sBin an == [97, 110, 100]) = mustF an q := by
      cases q with
      | bin b _ => cases b <;> cases an <;> rfl
      | _ => cases an <;> rfl
    refine forL_cons (σ1 := [some (.v (.tup (.str (sBin an) :: tr))), some (.v (.int l)), some (.v (.lst (acc.map D.str))), some (.v (tD q)), j4]) (by simp [Bd.set]) ?_
    have hm : ∀ m : Me, eOr (Mi.e2 gEqU (Mi.e2 gIxU (eVar 3) (eC (.int 0))) (eC (.str [111, 114]))) (eAnd (Mi.e2 gEqU (Mi.e2 gIxU (eVar 3) (eC (.int 0))) (eC (.str [97, 110, 100]))) (Mi.e2 gEqU (Mi.e2 gIxU (eVar 0) (eC (.int 0))) (eC (.str [97, 110, 100]))))
        ⟨[some (.v (.tup (.str (sBin an) :: tr))), some (.v (.int l)), some (.v (.lst (acc.map D.str))), some (.v (tD q)), j4], S⟩ = .ok (.v (.bl (mustF an q))) ⟨[some (.v (.tup (.str (sBin an) :: tr))), some (.v (.int l)), some (.v (.lst (acc.map D.str))), some (.v (tD q)), j4], S⟩ := fun m => by
      rw [← em]
      cases b1 : (hdQ q == [111, 114]) <;> cases b2 : (hdQ q == [97, 110, 100]) <;> simp [h1, b1, b2]
    have hm := hm ⟨[], []⟩
    simp only [Pg.lp__law_words_1, sSeq_ap, sSet_ap, hm]
    simp [-List.map_append, g1, g2, e]
    simp
end
end
end Lw

set_option linter.all false
set_option maxRecDepth 100000
namespace Lw
open Mi
/-! # spoilt words, a cut text -/
theorem map_cut {α β : Type} (f : α → β) (xs : List α) (lo hi : Option Int) : cut (xs.map f) lo hi = (cut xs lo hi).map f := by
  unfold cut
  rw [List.length_map, ← List.map_drop, ← List.map_take]
theorem cut_fromN {α : Type} (xs : List α) (k : Nat) : cut xs (some (k : Int)) none = xs.drop k := by
  by_cases h : k ≤ xs.length
  · exact cut_from xs k h
  · unfold cut sIx
    have h1 : ¬ (k : Int) < 0 := by omega
    simp only [h1, if_false, Int.toNat_natCast]
    rw [Nat.min_eq_right (by omega), List.drop_length, List.drop_eq_nil_iff.mpr (by omega)]
    simp
theorem strs_at (Ls : List Tx) (i : Int) (h0 : 0 ≤ i) (h1 : i < Ls.length) : ∃ w ∈ Ls, atI (Ls.map D.str) i = some (.str w) := by
  obtain ⟨k, rfl⟩ := Int.eq_ofNat_of_zero_le h0
  have hk : k < Ls.length := by omega
  refine ⟨Ls[k], List.getElem_mem hk, ?_⟩
  rw [ix_tup]
  simp [hk]
def oddL : List Tx := [[40], [41], [97, 110, 100], [111, 114], [110, 111, 116], [97, 108, 108], [110, 111, 110, 101], [105, 115], [102, 114, 111, 109], [116, 111], [55], [48], [48, 48, 55], [49, 50, 51, 52, 53, 54, 55, 56, 57, 48, 49, 50, 51],
  [97], [122, 122], [97, 98, 99, 100, 101, 102, 103, 104, 105], [97, 49], [65, 110, 100], [65, 76, 76], [49, 97], [45, 49], [49, 46, 53], [61], [38], [97, 95, 98], [120, 44], [34], [10], [9]]
theorem odd_word (x : Int) : ∃ w : Tx, w.length ≤ 13 ∧ ∀ n S, Pg.call (n + 1) "_law_odd_word" [.int x] S = .ok (.str w) S := by
  obtain ⟨w, hw, e⟩ := strs_at oddL (x.fmod 30) (fm_nn _ (by decide)) (fm_lt _ (by decide))
  refine ⟨w, ?_, fun n S => ?_⟩
  · have : ∀ w ∈ oddL, w.length ≤ 13 := by decide
    exact this w hw
  · rw [Pg.c__law_odd_word]
    have g : ∀ (a b : List D) (m : Me), a.length + b.length ≤ 1000 → gAddU (.v (.lst a)) (.v (.lst b)) m = some (.lst (a ++ b)) := fun a b m h => gAddU_lst _ _ m (le_big (by omega))
    simp only [oddL, List.map_cons, List.map_nil] at e
    simp [runF, Pg.b__law_odd_word, g, gMod_int, e]
theorem spoilt (ws : List Tx) (ns : List Int) (h0 : ws ≠ []) (hl : ws.length ≤ 10000) : ∃ us : List Tx, us.length ≤ ws.length + 1 ∧ wlen us ≤ wlen ws + 15 ∧
    ∀ n S, Pg.call (n + 2) "_law_spoilt" [.lst (ws.map D.str), .scr (ns.map D.int)] S = .ok (.lst (us.map D.str)) S := by
  obtain ⟨od, ho, eo⟩ := odd_word (mixF (cellF ns 0) 8)
  have x0 := mix_nn (cellF ns 2) 7
  have hpos : 0 < ws.length := List.length_pos_iff.mpr h0
  have hz : (ws.length : Int) ≠ 0 := by omega
  have a0 := fm_nn ((mixF (cellF ns 2) 7).fdiv 8) (b := ws.length) (by omega)
  have a1 := fm_lt ((mixF (cellF ns 2) 7).fdiv 8) (b := ws.length) (by omega)
  obtain ⟨at_, hat⟩ := Int.eq_ofNat_of_zero_le a0
  generalize hx : mixF (cellF ns 2) 7 = x at *
  have hb : ws.length ≤ 1000000 := by omega
  have hle : at_ ≤ ws.length := by omega
  have k1 : cut (ws.map D.str) none (some (at_ : Int)) = (ws.take at_).map D.str := by rw [cut_to _ _ (by simpa using hle), List.map_take]
  have k2 : cut (ws.map D.str) (some (at_ : Int)) none = (ws.drop at_).map D.str := by rw [cut_fromN, List.map_drop]
  have k3 : cut (ws.map D.str) (some ((at_ : Int) + 1)) none = (ws.drop (at_ + 1)).map D.str := by rw [show (at_ : Int) + 1 = ((at_ + 1 : Nat) : Int) by omega, cut_fromN, List.map_drop]
  have c0 : ∀ n S, Pg.call (n + 1) "_law_cell_at" [.scr (ns.map D.int), .int 0] S = .ok (.int (cellF ns 0)) S := fun n S => cell_at ns 0 n S
  have c2 : ∀ n S, Pg.call (n + 1) "_law_cell_at" [.scr (ns.map D.int), .int 2] S = .ok (.int (cellF ns 2)) S := fun n S => cell_at ns 2 n S
  have w1 : wlen ws = wlen (ws.take at_) + wlen (ws.drop at_) := by rw [← wlen_app, List.take_append_drop]
  have w2 : wlen (ws.drop (at_ + 1)) ≤ wlen (ws.drop at_) := by rw [← List.drop_drop]; exact wlen_drop _ 1
  have w3 : wlen [od] ≤ 15 := by simp [wlen]; omega
  have l1 : (ws.take at_).length + (ws.drop at_).length = ws.length := by rw [← List.length_append, List.take_append_drop]
  have l2 : (ws.drop (at_ + 1)).length ≤ (ws.drop at_).length := by simp; omega
  generalize hA : ws.take at_ = A at *
  generalize hB : ws.drop at_ = B at *
  generalize hC : ws.drop (at_ + 1) = C' at *
  have g : ∀ (a b : List D) (m : Me), a.length + b.length ≤ 100000 → gAddU (.v (.lst a)) (.v (.lst b)) m = some (.lst (a ++ b)) := fun a b m h => gAddU_lst _ _ m (le_big (by omega))
  by_cases d1 : x.fmod 8 = 1
  · refine ⟨A ++ C', by simp; omega, by rw [wlen_app]; omega, fun n S => ?_⟩
    rw [Pg.c__law_spoilt]
    have g1 := fun m => g (A.map D.str) (C'.map D.str) m (by simp; omega)
    simp [-List.map_append, runF, Pg.b__law_spoilt, c0, c2, mixed, hx, gMod_int, gDiv_int, aLen, gLen, Me.items, Me.cl, hb, hz, h0, hat, eo, d1, k1, k3, g1]
    simp
  · by_cases d2 : x.fmod 8 = 2 ∨ x.fmod 8 = 3
    · refine ⟨A ++ [od] ++ B, by simp; omega, by rw [wlen_app, wlen_app]; omega, fun n S => ?_⟩
      rw [Pg.c__law_spoilt]
      have g1 := fun m => g (A.map D.str) [.str od] m (by simp; omega)
      have g2 := fun m => g (A.map D.str ++ [.str od]) (B.map D.str) m (by simp; omega)
      rcases d2 with d2 | d2
      · simp [-List.map_append, -List.append_assoc, runF, Pg.b__law_spoilt, c0, c2, mixed, hx, gMod_int, gDiv_int, aLen, gLen, Me.items, Me.cl, hb, hz, h0, hat, eo, d1, d2, k1, k2, g1, g2]
        simp
      · simp [-List.map_append, -List.append_assoc, runF, Pg.b__law_spoilt, c0, c2, mixed, hx, gMod_int, gDiv_int, aLen, gLen, Me.items, Me.cl, hb, hz, h0, hat, eo, d1, d2, k1, k2, g1, g2]
        simp
    · have d2a : ¬ x.fmod 8 = 2 := fun z => d2 (.inl z)
      have d2b : ¬ x.fmod 8 = 3 := fun z => d2 (.inr z)
      by_cases d3 : x.fmod 8 = 4
      · refine ⟨A ++ [od] ++ C', by simp; omega, by rw [wlen_app, wlen_app]; omega, fun n S => ?_⟩
        rw [Pg.c__law_spoilt]
        have g1 := fun m => g (A.map D.str) [.str od] m (by simp; omega)
        have g2 := fun m => g (A.map D.str ++ [.str od]) (C'.map D.str) m (by simp; omega)
        simp [-List.map_append, -List.append_assoc, runF, Pg.b__law_spoilt, c0, c2, mixed, hx, gMod_int, gDiv_int, aLen, gLen, Me.items, Me.cl, hb, hz, h0, hat, eo, d1, d3, k1, k3, g1, g2]
        simp
      · refine ⟨ws, by omega, by omega, fun n S => ?_⟩
        rw [Pg.c__law_spoilt]
        simp [-List.map_append, runF, Pg.b__law_spoilt, c0, c2, mixed, hx, gMod_int, gDiv_int, aLen, gLen, Me.items, Me.cl, hb, hz, h0, hat, eo, d1, d2a, d2b, d3]
theorem law_cut (z : Tx) (ns : List Int) (hl : z.length ≤ 30000) : ∃ u : Tx, u.length ≤ z.length + 1 ∧ ∀ n S, Pg.call (n + 2) "_law_cut" [.str z, .scr (ns.map D.int)] S = .ok (.str u) S := by
  have x0 := mix_nn (cellF ns 2) 7
  have hz : ((z.length : Int) + 1) ≠ 0 := by omega
  have a0 := fm_nn ((mixF (cellF ns 2) 7).fdiv 8) (b := (z.length : Int) + 1) (by omega)
  have a1 := fm_lt ((mixF (cellF ns 2) 7).fdiv 8) (b := (z.length : Int) + 1) (by omega)
  obtain ⟨at_, hat⟩ := Int.eq_ofNat_of_zero_le a0
  generalize hx : mixF (cellF ns 2) 7 = x at *
  have hb : z.length ≤ 1000000 := by omega
  have hle : at_ ≤ z.length := by omega
  have k1 : cut z none (some (at_ : Int)) = z.take at_ := cut_to _ _ hle
  have k2 : cut z (some (at_ : Int)) none = z.drop at_ := cut_fromN _ _
  have k3 : cut z (some ((at_ : Int) + 1)) none = z.drop (at_ + 1) := by rw [show (at_ : Int) + 1 = ((at_ + 1 : Nat) : Int) by omega, cut_fromN]
  have c2 : ∀ n S, Pg.call (n + 1) "_law_cell_at" [.scr (ns.map D.int), .int 2] S = .ok (.int (cellF ns 2)) S := fun n S => cell_at ns 2 n S
  obtain ⟨ch, ec⟩ : ∃ ch : Nat, ∀ m : Me, gIxU (.v (.str [32, 40, 41, 97, 48, 45])) (.v (.int ((x.fdiv 8192).fmod 6))) m = some (.str [ch]) := by
    have i0 := fm_nn (x.fdiv 8192) (b := 6) (by decide)
    have i1 := fm_lt (x.fdiv 8192) (b := 6) (by decide)
    generalize (x.fdiv 8192).fmod 6 = i at *
    obtain ⟨k, rfl⟩ := Int.eq_ofNat_of_zero_le i0
    have hk : k < ([32, 40, 41, 97, 48, 45] : Tx).length := by simp; omega
    refine ⟨([32, 40, 41, 97, 48, 45] : Tx)[k], fun m => ?_⟩
    rw [ix_str _ _ (le_big (by decide)), List.getElem?_eq_getElem hk]
    rfl
  have l1 : (z.take at_).length + (z.drop at_).length = z.length := by rw [← List.length_append, List.take_append_drop]
  have l2 : (z.drop (at_ + 1)).length ≤ (z.drop at_).length := by simp; omega
  generalize hA : z.take at_ = A at *
  generalize hB : z.drop at_ = B at *
  generalize hC : z.drop (at_ + 1) = C' at *
  have g : ∀ (a b : Tx) (m : Me), a.length + b.length ≤ 100000 → gAddU (.v (.str a)) (.v (.str b)) m = some (.str (a ++ b)) := fun a b m h => gAddU_str _ _ m (le_big (by omega))
  by_cases d1 : x.fmod 8 = 5
  · refine ⟨A, by omega, fun n S => ?_⟩
    rw [Pg.c__law_cut]
    simp [runF, Pg.b__law_cut, c2, mixed, hx, gMod_int, gDiv_int, aLen, gLen, hb, hz, hat, d1, k1]
  · by_cases d2 : x.fmod 8 = 6
    · refine ⟨A ++ C', by simp; omega, fun n S => ?_⟩
      rw [Pg.c__law_cut]
      have g1 := fun m => g A C' m (by omega)
      simp [runF, Pg.b__law_cut, c2, mixed, hx, gMod_int, gDiv_int, aLen, gLen, hb, hz, hat, d1, d2, k1, k3, g1]
    · by_cases d3 : x.fmod 8 = 7
      · refine ⟨A ++ [ch] ++ B, by simp; omega, fun n S => ?_⟩
        rw [Pg.c__law_cut]
        have g1 := fun m => g A [ch] m (by simp; omega)
        have g2 := fun m => g (A ++ [ch]) B m (by simp; omega)
        simp [-List.append_assoc, runF, Pg.b__law_cut, c2, mixed, hx, gMod_int, gDiv_int, aLen, gLen, hb, hz, hat, d1, d2, d3, k1, k2, ec, g1, g2]
      · refine ⟨z, by omega, fun n S => ?_⟩
        rw [Pg.c__law_cut]
        simp [runF, Pg.b__law_cut, c2, mixed, hx, gMod_int, gDiv_int, aLen, gLen, hb, hz, hat, d1, d2, d3]
end Lw

set_option linter.all false
set_option maxRecDepth 100000
namespace Lw
open Mi
theorem law_whole (i : Int) (n : Nat) (S : List SC) : Pg.call (n + 1) "_law_whole" [.int i] S = .ok (.bl true) S := by
  rw [Pg.c__law_whole]
  simp [runF, Pg.b__law_whole, gIsT, tyD, isTy, gIsB]
theorem is_q (q : Q) (m : Me) : gIsC Pg.sub Pg.TY "Question" (.v (oD q)) m = some (.bl true) := by
  cases q with
  | bin an qs => cases an <;> simp [oD, cBin, gIsC, Me.obj, Pg.sub, subOf, Pg.subL]
  | _ => simp [oD, gIsC, Me.obj, Pg.sub, subOf, Pg.subL]
theorem sub_bt : Pg.subX "BadText" "BadText" = some true ∧ Pg.subX "BadText" "MarksError" = some true ∧ Pg.subX "BadText" "ValueError" = some true ∧ Pg.subX "BadText" "NoNumber" = some false := by
  simp [Pg.subX, subOf, Pg.subXL]
theorem law_refused (z : Tx) (hz : z.length ≤ 40000) (n : Nat) (hn : 84 ≤ n) (S : List SC) (p : Nat) (h : readF n z = .bad p) : ∃ x, Pg.call (n + 6) "_law_refused" [.str z] S = .ok (.bl true) (S ++ [x]) := by
  have e := read_question z hz n S
  rw [h] at e
  obtain ⟨x, e⟩ := e
  refine ⟨x, ?_⟩
  rw [Pg.c__law_refused]
  obtain ⟨s1, s2, s3, s4⟩ := sub_bt
  simp [runF, Pg.b__law_refused, sTryG, e, hand, badX, s1, s2, s3, s4, Me.slot, xPut, xAnd, xIs, xNot, aft]
theorem words_sure : aut 12 .piece [] (wordsF [110, 111, 116, 32, 40, 97, 32, 105, 115, 32, 49, 41]) = none := by decide
theorem sure : ∃ q, readF 108 [110, 111, 116, 32, 40, 97, 32, 105, 115, 32, 49, 41] = .ok q := by
  have h := readF_aut 108 [110, 111, 116, 32, 40, 97, 32, 105, 115, 32, 49, 41] (by decide) (by decide)
  rw [show List.length ([110, 111, 116, 32, 40, 97, 32, 105, 115, 32, 49, 41] : Tx) = 12 from rfl, words_sure] at h
  exact h
theorem rq (z : Tx) (hz : z.length ≤ 40000) (S : List SC) : (∃ q x, aut z.length .piece [] (wordsF z) = none ∧ Pg.call 113 "read_question" [.str z] S = .ok (oD q) (S ++ [x])) ∨
    (∃ p x, aut z.length .piece [] (wordsF z) = some p ∧ Pg.call 113 "read_question" [.str z] S = .ex (badX p) (S ++ [x])) := by
  have a := readF_aut 108 z hz (by decide)
  have b := read_question z hz 108 S
  revert a
  cases ha : aut z.length .piece [] (wordsF z) with
  | none => rintro ⟨q, e⟩; rw [e] at b; obtain ⟨x, b⟩ := b; exact .inl ⟨q, x, rfl, b⟩
  | some p => intro e; dsimp only at e; rw [e] at b; obtain ⟨x, b⟩ := b; exact .inr ⟨p, x, rfl, b⟩
theorem rs (S : List SC) : ∃ q x, Pg.call 113 "read_question" [.str [110, 111, 116, 32, 40, 97, 32, 105, 115, 32, 49, 41]] S = .ok (oD q) (S ++ [x]) := by
  obtain ⟨q, e⟩ := sure
  have b := read_question [110, 111, 116, 32, 40, 97, 32, 105, 115, 32, 49, 41] (by decide) 108 S
  rw [e] at b
  obtain ⟨x, b⟩ := b
  exact ⟨q, x, b⟩
theorem lref (z : Tx) (hz : z.length ≤ 40000) (S : List SC) (p : Nat) (h : aut z.length .piece [] (wordsF z) = some p) : ∃ x, Pg.call 113 "_law_refused" [.str z] S = .ok (.bl true) (S ++ [x]) := by
  have a := readF_aut 107 z hz (by decide)
  rw [h] at a
  exact law_refused z hz 107 (by decide) S p a
theorem names_short {ns : List Int} {most : Int} (h0 : 0 < most) (h1 : most ≤ 8) : ∀ x ∈ namesF ns most, x.length ≤ 9 := by
  intro x hx
  obtain ⟨k, _, rfl⟩ := List.mem_map.mp hx
  have a := fm_nn (mixF (cellF ns 0) 0) h0
  have b := fm_lt (mixF (cellF ns 0) 0) h0
  have : (wordF (mixF (cellF ns 0) 0) (sizeF ns most) k).length ≤ 8 := by simp [wordF, sizeF]; omega
  unfold nameF
  split
  · simp; omega
  · omega
theorem text_is (ns : List Int) : ∃ (ws us : List Tx) (sp z : Tx) (t : D), z.length ≤ 40000 ∧ Pg.call 113 "_law_built" [.scr (ns.map D.int), .int 12] [] = .ok t [] ∧
    Pg.call 113 "_law_words" [t, .int (((cellF ns 1).fdiv 3).fmod 4)] [] = .ok (.lst (ws.map D.str)) [] ∧ Pg.call 113 "_law_spoilt" [.lst (ws.map D.str), .scr (ns.map D.int)] [] = .ok (.lst (us.map D.str)) [] ∧
    Pg.call 113 "_law_spaced" [.lst (us.map D.str), .int (cellF ns 1)] [] = .ok (.str sp) [] ∧ Pg.call 113 "_law_cut" [.str sp, .scr (ns.map D.int)] [] = .ok (.str z) [] := by
  obtain ⟨q, h1, h2, h3, h4, eb⟩ := built ns 110 []
  have l0 := fm_nn ((cellF ns 1).fdiv 3) (b := 4) (by decide)
  have l1 := fm_lt ((cellF ns 1).fdiv 3) (b := 4) (by decide)
  generalize ((cellF ns 1).fdiv 3).fmod 4 = l at *
  have ew := words l0 l1 [] q 112 (by omega) (by omega) h3
  have nl := names_short (ns := ns) (most := mostF ns) (by unfold mostF; split <;> decide) (by unfold mostF; split <;> decide)
  have wl := words_wlen nl l q h3
  obtain ⟨wa, wb⟩ := words_cnt l q
  have wne : wordsT l q ≠ [] := fun z => h4 (List.length_eq_zero_iff.mp (by rw [z] at wa; simpa using wa))
  obtain ⟨us, u1, u2, eu⟩ := spoilt (wordsT l q) ns wne (by omega)
  have es := spaced us (cellF ns 1) (by omega) (by omega) 111 []
  have sl := spF_len us (cellF ns 1)
  obtain ⟨z, z1, ez⟩ := law_cut (spF us (cellF ns 1)) ns (by omega)
  exact ⟨_, us, _, z, _, by omega, eb, ew, eu 111 [], es, ez 111 []⟩
theorem law_true (ns : List Int) (hns : ns.length ≤ 63) : ∃ S, Pg.call 114 "law" [.scr (ns.map D.int)] [] = .ok (.bl true) S := by
  obtain ⟨ws, us, sp, z, t, hz, eb, ew, eu, es, ez⟩ := text_is ns
  obtain ⟨y, ef⟩ := law_fault z hz 109 []
  have c1 : ∀ S, Pg.call 113 "_law_cell_at" [.scr (ns.map D.int), .int 1] S = .ok (.int (cellF ns 1)) S := fun S => cell_at ns 1 112 S
  have ef : Pg.call 113 "_law_fault" [.str z] [] = .ok (optP (aut z.length .piece [] (wordsF z))) [y] := ef
  obtain ⟨s1, s2, s3, s4⟩ := sub_bt
  have lw : ∀ (p : Int) S, Pg.call 113 "_law_whole" [.int p] S = .ok (.bl true) S := fun p S => law_whole p 112 S
  have e0 : Pg.call 114 "law" = runF 1 8 (Pg.b_law (Pg.call 113)) := Pg.c_law 113
  rw [e0]
  clear e0
  generalize hA : aut z.length .piece [] (wordsF z) = A at *
  rcases rq z hz [y] with ⟨q1, x1, ha, r1⟩ | ⟨p, x1, ha, r1⟩
  · rw [hA] at ha
    subst ha
    obtain ⟨q0, x2, r2⟩ := rs ([y] ++ [x1])
    have hq1 := is_q q1
    have hq0 := is_q q0
    refine ⟨[y] ++ [x1] ++ [x2], ?_⟩
    generalize Pg.call 113 = C at *
    simp only [List.cons_append, List.nil_append] at r1 r2 ef ⊢
    simp [runF, Pg.b_law, eb, c1, gMod_int, gDiv_int, ew, eu, es, ez, ef, optP, sTryG, r1, r2, hq1, hq0, gIsN, isN]
  · obtain ⟨q0, x2, r2⟩ := rs ([y] ++ [x1])
    obtain ⟨x3, r3⟩ := lref z hz ([y] ++ [x1] ++ [x2]) p ha
    rw [hA] at ha
    subst ha
    have hq0 := is_q q0
    refine ⟨[y] ++ [x1] ++ [x2] ++ [x3], ?_⟩
    generalize Pg.call 113 = C at *
    simp only [List.cons_append, List.nil_append] at r1 r2 r3 ef ⊢
    simp [runF, Pg.b_law, eb, c1, gMod_int, gDiv_int, ew, eu, es, ez, ef, optP, sTryG, r1, r2, hq0, gIsN, isN, hand, badX, s1, Me.slot, xPut, xF, aft, lw, r3]
end Lw

set_option Elab.async false
set_option linter.all false
set_option maxRecDepth 100000
set_option maxHeartbeats 4000000
namespace Wk
open PySem PySem.Spec PyProof.Rows L2 So
open Mi (D Cl FV SC Me Xc Res PV Ky Ev Tv Av Lv Iv Ov Sv Bd Out Tx RG Cal Tb)
open Pg

def top (i : Nat) : Stmt := PySem.Challenge.pw_runmarks_k64_refused_by_place.main.body.getD i (.Pass ⟨0, 0, 0, 0⟩)
abbrev s_Question_holds : Stmt := inClass (top 6) 0
abbrev s_Every_holds : Stmt := inClass (top 7) 0
abbrev s_Within___init__ : Stmt := inClass (top 9) 0
abbrev s_Within_holds : Stmt := inClass (top 9) 1
abbrev s_Opposite___init__ : Stmt := inClass (top 10) 0
abbrev s_Opposite_holds : Stmt := inClass (top 10) 1
abbrev s_Chain___init__ : Stmt := inClass (top 11) 0
abbrev s_AllOf_holds : Stmt := inClass (top 12) 0
abbrev s_OneOf_holds : Stmt := inClass (top 13) 0
abbrev s_is_name : Stmt := top 15
abbrev s_figures_of : Stmt := top 16
abbrev s_words_of : Stmt := top 17
abbrev s_Reader___init__ : Stmt := inClass (top 18) 0
abbrev s_Reader_word_here : Stmt := inClass (top 18) 1
abbrev s_Reader_place_here : Stmt := inClass (top 18) 2
abbrev s_Reader_past : Stmt := inClass (top 18) 3
abbrev s_Reader_whole_number : Stmt := inClass (top 18) 4
abbrev s_Reader_question : Stmt := inClass (top 18) 5
abbrev s_Reader_chain : Stmt := inClass (top 18) 6
abbrev s_Reader_piece : Stmt := inClass (top 18) 7
abbrev s_Reader_inner : Stmt := inClass (top 18) 8
abbrev s_Reader_range_of : Stmt := inClass (top 18) 9
abbrev s_read_question : Stmt := top 19
abbrev s__law_cell_at : Stmt := top 21
abbrev s__law_whole : Stmt := top 22
abbrev s__law_mixed : Stmt := top 23
abbrev s__law_name_of : Stmt := top 24
abbrev s__law_names : Stmt := top 25
abbrev s__law_value : Stmt := top 26
abbrev s__law_leaf : Stmt := top 27
abbrev s__law_built : Stmt := top 28
abbrev s__law_wrapped : Stmt := top 29
abbrev s__law_words : Stmt := top 30
abbrev s__law_spaced : Stmt := top 31
abbrev s__law_split : Stmt := top 32
abbrev s__law_is_name : Stmt := top 33
abbrev s__law_are_figures : Stmt := top 34
abbrev s__law_begun : Stmt := top 35
abbrev s__law_ended : Stmt := top 36
abbrev s__law_next : Stmt := top 37
abbrev s__law_fault : Stmt := top 38
abbrev s__law_odd_word : Stmt := top 39
abbrev s__law_spoilt : Stmt := top 40
abbrev s__law_cut : Stmt := top 41
abbrev s__law_refused : Stmt := top 42
abbrev s_law : Stmt := top 43
structure Bl (mg : Str → Option Value) : Prop where
  list_ : mg "list" = none
  all_ : mg "all" = none
  any_ : mg "any" = none
  len_ : mg "len" = none
  int_ : mg "int" = none
  enumerate_ : mg "enumerate" = none
  isinstance_ : mg "isinstance" = none
  bool_ : mg "bool" = none
  range_ : mg "range" = none
  min_ : mg "min" = none
  max_ : mg "max" = none
  str_ : mg "str" = none
  ValueError_ : mg "ValueError" = none
section
variable {P : Program} {w : World} {K : PySem.W.Frag} {mg : Str → Option Value} {base : Heap} {ct : String → Option Addr} {C : Cal} {n : Nat}
abbrev s_xBadText : Stmt := inClass (top 4) 0
theorem sc_xBadText : FnScope ["self", "place"] ["self", "place"] (defScope s_xBadText) := ⟨rfl, rfl, rfl, by decide +kernel, rfl, by decide +kernel, by decide +kernel⟩
/-- the exceptions, and the classes asked for -/
structure Es (K : PySem.W.Frag) (mg : Str → Option Value) (ct : String → Option Addr) where
  one : Unit
  X_BadText : Addr
  x_BadText : Xp1 K mg ct "BadText" "place" X_BadText
  I_BadText : Addr
  xd_BadText : FuncData
  xF_BadText : Fun K "__init__" "BadText.__init__" s_xBadText I_BadText xd_BadText
  xi_BadText : PySem.W.findIn K (.ref X_BadText) "__init__" = some (some (.ref I_BadText))
  xt_BadText : PySem.W.typeIn K (.ref I_BadText) = some (.type "function")
  xb_BadText : L2.Binds K xd_BadText ["self", "place"] []
  Y_MarksError : Addr
  y_MarksError : Xpi K Y_MarksError
  yg_MarksError : mg "MarksError" = some (.ref Y_MarksError)
  X_MarksError : Addr
  h_MarksError : mg "MarksError" = some (.ref X_MarksError)
  e_MarksError : ∀ c b, subX c "MarksError" = some b → ∃ C', ct c = some C' ∧ PySem.W.exmOne K (.ref C') (.ref X_MarksError) = some b
  h_BadText : mg "BadText" = some (.ref X_BadText)
  e_BadText : ∀ c b, subX c "BadText" = some b → ∃ C', ct c = some C' ∧ PySem.W.exmOne K (.ref C') (.ref X_BadText) = some b
  K_BadText : Addr
  kg_BadText : mg "BadText" = some (.ref K_BadText)
  k_BadText : EIs K ct subX "BadText" (.ref K_BadText)
  k_ValueError : EIs K ct subX "ValueError" (.type "ValueError")
  K_NoNumber : Addr
  kg_NoNumber : mg "NoNumber" = some (.ref K_NoNumber)
  k_NoNumber : EIs K ct subX "NoNumber" (.ref K_NoNumber)
  s_Question : CIs K mg ct sub TY "Question"
theorem x_BadText (Z : Es K mg ct) : FnOk P w K mg base (L2.CX P w) 1 Z.I_BadText Z.xd_BadText ["self", "place"] (spX1 K Z.X_BadText (nm "place")) :=
  Z.xF_BadText.okX sc_xBadText (fun vs H Q E h => spX1_len h) fun cdv A outer s H vs Q E hr h => ⟨_, pss_cons (ps_expr (pe_minit Z.y_MarksError (by rfl) Z.yg_MarksError (pa_cons (pv 0) (pa_cons pe_str pa_nil)))) (pss_one (ps_ost (pv 0) (pv 1))), by
    obtain ⟨a, v, rfl, T, hn, ha, q⟩ := h
    exact ⟨_, rfl, a, _, _, rfl, (by decide), T, ha, _, rfl, _, rfl, a, _, rfl, T, hn, .inl ⟨ha, fun d hd hne => q d hd hne⟩⟩⟩
theorem sc_Question_holds : FnScope ["self", "values"] ["self", "values"] (defScope s_Question_holds) := ⟨rfl, rfl, rfl, by decide +kernel, rfl, by decide +kernel, by decide +kernel⟩
theorem d_Question_holds {f : Addr} {cdv : Value} {A : Around} {outer : List Env} {s : Shared} {H : Hp} {E : XK} (B : Bl mg) (Z : Es K mg ct) (G : PF K ct P w mg base (n + 2) C T fns) (hr : Room (n + 3) (A.deeper (envOfC "Question.holds" (defScope s_Question_holds) s.heap.objs.size f cdv))) :
  DSs (cxOf (L2.CX P w) P w K mg base ["self", "values"] "Question.holds" (defScope s_Question_holds) f cdv A outer s H E) ct (defBody s_Question_holds) (b_Question_holds C) := by
  have sc := sc_Question_holds
  exact (dss_one (ds_ret de_bl))
theorem f_Question_holds {f : Addr} {fd : FuncData} (F : Fun K "holds" "Question.holds" s_Question_holds f fd) (B : Bl mg) (Z : Es K mg ct) (G : PF K ct P w mg base (n + 2) C T fns) : FnOk P w K mg base (L2.CX P w) (n + 4) f fd ["self", "values"] (spOf K ct (Mi.runF 2 2 (b_Question_holds C))) :=
  fn_sound F sc_Question_holds fun cdv A outer s H E hr => d_Question_holds B Z G hr
theorem sc_Every_holds : FnScope ["self", "values"] ["self", "values"] (defScope s_Every_holds) := ⟨rfl, rfl, rfl, by decide +kernel, rfl, by decide +kernel, by decide +kernel⟩
theorem d_Every_holds {f : Addr} {cdv : Value} {A : Around} {outer : List Env} {s : Shared} {H : Hp} {E : XK} (B : Bl mg) (Z : Es K mg ct) (G : PF K ct P w mg base (n + 2) C T fns) (hr : Room (n + 3) (A.deeper (envOfC "Every.holds" (defScope s_Every_holds) s.heap.objs.size f cdv))) :
  DSs (cxOf (L2.CX P w) P w K mg base ["self", "values"] "Every.holds" (defScope s_Every_holds) f cdv A outer s H E) ct (defBody s_Every_holds) (b_Every_holds C) := by
  have sc := sc_Every_holds
  exact (dss_one (ds_ret de_bl))
theorem f_Every_holds {f : Addr} {fd : FuncData} (F : Fun K "holds" "Every.holds" s_Every_holds f fd) (B : Bl mg) (Z : Es K mg ct) (G : PF K ct P w mg base (n + 2) C T fns) : FnOk P w K mg base (L2.CX P w) (n + 4) f fd ["self", "values"] (spOf K ct (Mi.runF 2 2 (b_Every_holds C))) :=
  fn_sound F sc_Every_holds fun cdv A outer s H E hr => d_Every_holds B Z G hr
theorem sc_Within___init__ : FnScope ["self", "name", "low", "high"] ["self", "name", "low", "high"] (defScope s_Within___init__) := ⟨rfl, rfl, rfl, by decide +kernel, rfl, by decide +kernel, by decide +kernel⟩
theorem d_Within___init__ {f : Addr} {cdv : Value} {A : Around} {outer : List Env} {s : Shared} {H : Hp} {E : XK} (B : Bl mg) (Z : Es K mg ct) (G : PF K ct P w mg base (n + 2) C T fns) (hr : Room (n + 3) (A.deeper (envOfC "Within.__init__" (defScope s_Within___init__) s.heap.objs.size f cdv))) :
  DSs (cxOf (L2.CX P w) P w K mg base ["self", "name", "low", "high"] "Within.__init__" (defScope s_Within___init__) f cdv A outer s H E) ct (defBody s_Within___init__) (b_Within___init__ C) := by
  have sc := sc_Within___init__
  exact (dss_cons (ds_fld G "name" (de_var 0 (pv 0)) (de_var 1 (pv 1)))
  (dss_cons (ds_fld G "low" (de_var 0 (pv 0)) (de_var 2 (pv 2)))
  (dss_one (ds_fld G "high" (de_var 0 (pv 0)) (de_var 3 (pv 3))))))
theorem f_Within___init__ {f : Addr} {fd : FuncData} (F : Fun K "__init__" "Within.__init__" s_Within___init__ f fd) (B : Bl mg) (Z : Es K mg ct) (G : PF K ct P w mg base (n + 2) C T fns) : FnOk P w K mg base (L2.CX P w) (n + 4) f fd ["self", "name", "low", "high"] (spOf K ct (Mi.runF 4 4 (b_Within___init__ C))) :=
  fn_sound F sc_Within___init__ fun cdv A outer s H E hr => d_Within___init__ B Z G hr
theorem sc_Within_holds : FnScope ["self", "values"] ["self", "values"] (defScope s_Within_holds) := ⟨rfl, rfl, rfl, by decide +kernel, rfl, by decide +kernel, by decide +kernel⟩
theorem d_Within_holds {f : Addr} {cdv : Value} {A : Around} {outer : List Env} {s : Shared} {H : Hp} {E : XK} (B : Bl mg) (Z : Es K mg ct) (G : PF K ct P w mg base (n + 2) C T fns) (hr : Room (n + 3) (A.deeper (envOfC "Within.holds" (defScope s_Within_holds) s.heap.objs.size f cdv))) :
  DSs (cxOf (L2.CX P w) P w K mg base ["self", "values"] "Within.holds" (defScope s_Within_holds) f cdv A outer s H E) ct (defBody s_Within_holds) (b_Within_holds C) := by
  have sc := sc_Within_holds
  exact (dss_one (ds_ret (de_leLe (de_fld G "low" (de_var 0 (pv 0))) (de_ixU (hu_of hr) (de_var 1 (pv 1)) (de_fld G "name" (de_var 0 (pv 0)))) (de_fld G "high" (de_var 0 (pv 0))))))
theorem f_Within_holds {f : Addr} {fd : FuncData} (F : Fun K "holds" "Within.holds" s_Within_holds f fd) (B : Bl mg) (Z : Es K mg ct) (G : PF K ct P w mg base (n + 2) C T fns) : FnOk P w K mg base (L2.CX P w) (n + 4) f fd ["self", "values"] (spOf K ct (Mi.runF 2 2 (b_Within_holds C))) :=
  fn_sound F sc_Within_holds fun cdv A outer s H E hr => d_Within_holds B Z G hr
theorem sc_Opposite___init__ : FnScope ["self", "one"] ["self", "one"] (defScope s_Opposite___init__) := ⟨rfl, rfl, rfl, by decide +kernel, rfl, by decide +kernel, by decide +kernel⟩
theorem d_Opposite___init__ {f : Addr} {cdv : Value} {A : Around} {outer : List Env} {s : Shared} {H : Hp} {E : XK} (B : Bl mg) (Z : Es K mg ct) (G : PF K ct P w mg base (n + 2) C T fns) (hr : Room (n + 3) (A.deeper (envOfC "Opposite.__init__" (defScope s_Opposite___init__) s.heap.objs.size f cdv))) :
  DSs (cxOf (L2.CX P w) P w K mg base ["self", "one"] "Opposite.__init__" (defScope s_Opposite___init__) f cdv A outer s H E) ct (defBody s_Opposite___init__) (b_Opposite___init__ C) := by
  have sc := sc_Opposite___init__
  exact (dss_one (ds_fld G "one" (de_var 0 (pv 0)) (de_var 1 (pv 1))))
theorem f_Opposite___init__ {f : Addr} {fd : FuncData} (F : Fun K "__init__" "Opposite.__init__" s_Opposite___init__ f fd) (B : Bl mg) (Z : Es K mg ct) (G : PF K ct P w mg base (n + 2) C T fns) : FnOk P w K mg base (L2.CX P w) (n + 4) f fd ["self", "one"] (spOf K ct (Mi.runF 2 2 (b_Opposite___init__ C))) :=
  fn_sound F sc_Opposite___init__ fun cdv A outer s H E hr => d_Opposite___init__ B Z G hr
theorem sc_Opposite_holds : FnScope ["self", "values"] ["self", "values"] (defScope s_Opposite_holds) := ⟨rfl, rfl, rfl, by decide +kernel, rfl, by decide +kernel, by decide +kernel⟩
theorem d_Opposite_holds {f : Addr} {cdv : Value} {A : Around} {outer : List Env} {s : Shared} {H : Hp} {E : XK} (B : Bl mg) (Z : Es K mg ct) (G : PF K ct P w mg base (n + 2) C T fns) (hr : Room (n + 3) (A.deeper (envOfC "Opposite.holds" (defScope s_Opposite_holds) s.heap.objs.size f cdv))) :
  DSs (cxOf (L2.CX P w) P w K mg base ["self", "values"] "Opposite.holds" (defScope s_Opposite_holds) f cdv A outer s H E) ct (defBody s_Opposite_holds) (b_Opposite_holds C) := by
  have sc := sc_Opposite_holds
  exact (dss_one (ds_ret (de_not (de_meth G (Room.mono hr (Nat.le_succ _)) "holds" (de_fld G "one" (de_var 0 (pv 0))) (da_cons (de_var 1 (pv 1)) da_nil)))))
theorem f_Opposite_holds {f : Addr} {fd : FuncData} (F : Fun K "holds" "Opposite.holds" s_Opposite_holds f fd) (B : Bl mg) (Z : Es K mg ct) (G : PF K ct P w mg base (n + 2) C T fns) : FnOk P w K mg base (L2.CX P w) (n + 4) f fd ["self", "values"] (spOf K ct (Mi.runF 2 2 (b_Opposite_holds C))) :=
  fn_sound F sc_Opposite_holds fun cdv A outer s H E hr => d_Opposite_holds B Z G hr
theorem sc_Chain___init__ : FnScope ["self", "parts"] ["self", "parts"] (defScope s_Chain___init__) := ⟨rfl, rfl, rfl, by decide +kernel, rfl, by decide +kernel, by decide +kernel⟩
theorem d_Chain___init__ {f : Addr} {cdv : Value} {A : Around} {outer : List Env} {s : Shared} {H : Hp} {E : XK} (B : Bl mg) (Z : Es K mg ct) (G : PF K ct P w mg base (n + 2) C T fns) (hr : Room (n + 3) (A.deeper (envOfC "Chain.__init__" (defScope s_Chain___init__) s.heap.objs.size f cdv))) :
  DSs (cxOf (L2.CX P w) P w K mg base ["self", "parts"] "Chain.__init__" (defScope s_Chain___init__) f cdv A outer s H E) ct (defBody s_Chain___init__) (b_Chain___init__ C) := by
  have sc := sc_Chain___init__
  exact (dss_one (ds_fld G "parts" (de_var 0 (pv 0)) (de_l (dl_of rfl B.list_ boot_list (da_cons (de_var 1 (pv 1)) da_nil)))))
theorem f_Chain___init__ {f : Addr} {fd : FuncData} (F : Fun K "__init__" "Chain.__init__" s_Chain___init__ f fd) (B : Bl mg) (Z : Es K mg ct) (G : PF K ct P w mg base (n + 2) C T fns) : FnOk P w K mg base (L2.CX P w) (n + 4) f fd ["self", "parts"] (spOf K ct (Mi.runF 2 2 (b_Chain___init__ C))) :=
  fn_sound F sc_Chain___init__ fun cdv A outer s H E hr => d_Chain___init__ B Z G hr
theorem sc_AllOf_holds : FnScope ["self", "values", "part"] ["self", "values"] (defScope s_AllOf_holds) := ⟨rfl, rfl, rfl, by decide +kernel, rfl, by decide +kernel, by decide +kernel⟩
theorem d_AllOf_holds {f : Addr} {cdv : Value} {A : Around} {outer : List Env} {s : Shared} {H : Hp} {E : XK} (B : Bl mg) (Z : Es K mg ct) (G : PF K ct P w mg base (n + 2) C T fns) (hr : Room (n + 3) (A.deeper (envOfC "AllOf.holds" (defScope s_AllOf_holds) s.heap.objs.size f cdv))) :
  DSs (cxOf (L2.CX P w) P w K mg base ["self", "values", "part"] "AllOf.holds" (defScope s_AllOf_holds) f cdv A outer s H E) ct (defBody s_AllOf_holds) (b_AllOf_holds C) := by
  have sc := sc_AllOf_holds
  exact (dss_one (ds_ret (de_callB (cr_all rfl) ok_all rfl B.all_ boot_all (da_cons (de_l (dl_comp rfl sc.nd (di_any (de_fld G "parts" (de_var 0 (pv 0)))) (own := [("part", 2)]) (blkOk_by (N := ["self", "values", "part"]) (sc := defScope s_AllOf_holds) (by decide +kernel)) (fun _ _ _ _ _ => (dg_n (i := 2) sc.nd rfl (Or.inl rfl))) (fun _ _ _ _ _ => dts_nil) (fun _ _ _ _ _ => (de_meth G (Room.mono hr (Nat.le_succ _)) "holds" (de_var 2 (pv 2)) (da_cons (de_var 1 (pv 1)) da_nil))) (fun _ h => h))) da_nil))))
theorem f_AllOf_holds {f : Addr} {fd : FuncData} (F : Fun K "holds" "AllOf.holds" s_AllOf_holds f fd) (B : Bl mg) (Z : Es K mg ct) (G : PF K ct P w mg base (n + 2) C T fns) : FnOk P w K mg base (L2.CX P w) (n + 4) f fd ["self", "values"] (spOf K ct (Mi.runF 2 3 (b_AllOf_holds C))) :=
  fn_sound F sc_AllOf_holds fun cdv A outer s H E hr => d_AllOf_holds B Z G hr
theorem sc_OneOf_holds : FnScope ["self", "values", "part"] ["self", "values"] (defScope s_OneOf_holds) := ⟨rfl, rfl, rfl, by decide +kernel, rfl, by decide +kernel, by decide +kernel⟩
theorem d_OneOf_holds {f : Addr} {cdv : Value} {A : Around} {outer : List Env} {s : Shared} {H : Hp} {E : XK} (B : Bl mg) (Z : Es K mg ct) (G : PF K ct P w mg base (n + 2) C T fns) (hr : Room (n + 3) (A.deeper (envOfC "OneOf.holds" (defScope s_OneOf_holds) s.heap.objs.size f cdv))) :
  DSs (cxOf (L2.CX P w) P w K mg base ["self", "values", "part"] "OneOf.holds" (defScope s_OneOf_holds) f cdv A outer s H E) ct (defBody s_OneOf_holds) (b_OneOf_holds C) := by
  have sc := sc_OneOf_holds
  exact (dss_one (ds_ret (de_callB (cr_any rfl) ok_any rfl B.any_ boot_any (da_cons (de_l (dl_comp rfl sc.nd (di_any (de_fld G "parts" (de_var 0 (pv 0)))) (own := [("part", 2)]) (blkOk_by (N := ["self", "values", "part"]) (sc := defScope s_OneOf_holds) (by decide +kernel)) (fun _ _ _ _ _ => (dg_n (i := 2) sc.nd rfl (Or.inl rfl))) (fun _ _ _ _ _ => dts_nil) (fun _ _ _ _ _ => (de_meth G (Room.mono hr (Nat.le_succ _)) "holds" (de_var 2 (pv 2)) (da_cons (de_var 1 (pv 1)) da_nil))) (fun _ h => h))) da_nil))))
theorem f_OneOf_holds {f : Addr} {fd : FuncData} (F : Fun K "holds" "OneOf.holds" s_OneOf_holds f fd) (B : Bl mg) (Z : Es K mg ct) (G : PF K ct P w mg base (n + 2) C T fns) : FnOk P w K mg base (L2.CX P w) (n + 4) f fd ["self", "values"] (spOf K ct (Mi.runF 2 3 (b_OneOf_holds C))) :=
  fn_sound F sc_OneOf_holds fun cdv A outer s H E hr => d_OneOf_holds B Z G hr
theorem sc_is_name : FnScope ["word", "sign"] ["word"] (defScope s_is_name) := ⟨rfl, rfl, rfl, by decide +kernel, rfl, by decide +kernel, by decide +kernel⟩
theorem d_is_name {f : Addr} {cdv : Value} {A : Around} {outer : List Env} {s : Shared} {H : Hp} {E : XK} (B : Bl mg) (Z : Es K mg ct) (G : PF K ct P w mg base (n + 2) C T fns) (hr : Room (n + 3) (A.deeper (envOfC "is_name" (defScope s_is_name) s.heap.objs.size f cdv))) :
  DSs (cxOf (L2.CX P w) P w K mg base ["word", "sign"] "is_name" (defScope s_is_name) f cdv A outer s H E) ct (defBody s_is_name) (b_is_name C) := by
  have sc := sc_is_name
  exact (dss_cons (ds_if (DW.dt (dw_or (dt_eqU hr.units (de_var 0 (pv 0)) (de_str [])) (dw_or1 (dt_gt (de_callB call_lenU ok_len rfl B.len_ boot_len (da_cons (de_var 0 (pv 0)) da_nil)) de_int))))
    (dss_one (ds_ret de_bl))
    dss_nil)
  (dss_cons (ds_for (passes_of rfl) rfl (di_any (de_var 0 (pv 0))) (dg_n (i := 1) sc.nd rfl (Or.inl rfl))
    (dss_one (ds_if (dt_notInV (hu_of hr) (de_var 1 (pv 1)) (de_str [97, 98, 99, 100, 101, 102, 103, 104, 105, 106, 107, 108, 109, 110, 111, 112, 113, 114, 115, 116, 117, 118, 119, 120, 121, 122]))
    (dss_one (ds_ret de_bl))
    dss_nil)))
  (dss_one (ds_ret (de_notInV (hu_of hr) (de_var 0 (pv 0)) (de_l (dl_disp (da_cons (de_str [97, 110, 100]) (da_cons (de_str [111, 114]) (da_cons (de_str [110, 111, 116]) (da_cons (de_str [97, 108, 108]) (da_cons (de_str [110, 111, 110, 101]) (da_cons (de_str [105, 115]) (da_cons (de_str [102, 114, 111, 109]) (da_cons (de_str [116, 111]) da_nil)))))))))))))))
theorem f_is_name {f : Addr} {fd : FuncData} (F : Fun K "is_name" "is_name" s_is_name f fd) (B : Bl mg) (Z : Es K mg ct) (G : PF K ct P w mg base (n + 2) C T fns) : FnOk P w K mg base (L2.CX P w) (n + 4) f fd ["word"] (spOf K ct (Mi.runF 1 2 (b_is_name C))) :=
  fn_sound F sc_is_name fun cdv A outer s H E hr => d_is_name B Z G hr
theorem sc_figures_of : FnScope ["word", "sign"] ["word"] (defScope s_figures_of) := ⟨rfl, rfl, rfl, by decide +kernel, rfl, by decide +kernel, by decide +kernel⟩
theorem d_figures_of {f : Addr} {cdv : Value} {A : Around} {outer : List Env} {s : Shared} {H : Hp} {E : XK} (B : Bl mg) (Z : Es K mg ct) (G : PF K ct P w mg base (n + 2) C T fns) (hr : Room (n + 3) (A.deeper (envOfC "figures_of" (defScope s_figures_of) s.heap.objs.size f cdv))) :
  DSs (cxOf (L2.CX P w) P w K mg base ["word", "sign"] "figures_of" (defScope s_figures_of) f cdv A outer s H E) ct (defBody s_figures_of) (b_figures_of C) := by
  have sc := sc_figures_of
  exact (dss_cons (ds_if (DW.dt (dw_or (dt_eqU hr.units (de_var 0 (pv 0)) (de_str [])) (dw_or1 (dt_gt (de_callB call_lenU ok_len rfl B.len_ boot_len (da_cons (de_var 0 (pv 0)) da_nil)) de_int))))
    (dss_one (ds_ret de_non))
    dss_nil)
  (dss_cons (ds_for (passes_of rfl) rfl (di_any (de_var 0 (pv 0))) (dg_n (i := 1) sc.nd rfl (Or.inl rfl))
    (dss_one (ds_if (dt_notInV (hu_of hr) (de_var 1 (pv 1)) (de_str [48, 49, 50, 51, 52, 53, 54, 55, 56, 57]))
    (dss_one (ds_ret de_non))
    dss_nil)))
  (dss_cons (ds_if (DW.dt (dw_and (dt_eqU hr.units (de_ixU (hu_of hr) (de_var 0 (pv 0)) de_int) (de_str [48])) (dw_and1 (dt_neU hr.units (de_var 0 (pv 0)) (de_str [48])))))
    (dss_one (ds_ret de_non))
    dss_nil)
  (dss_one (ds_ret (de_callTy (CallR.or2 call_int1 call_int_str) ok_cint2 rfl B.int_ boot_int (da_cons (de_var 0 (pv 0)) da_nil)))))))
theorem f_figures_of {f : Addr} {fd : FuncData} (F : Fun K "figures_of" "figures_of" s_figures_of f fd) (B : Bl mg) (Z : Es K mg ct) (G : PF K ct P w mg base (n + 2) C T fns) : FnOk P w K mg base (L2.CX P w) (n + 4) f fd ["word"] (spOf K ct (Mi.runF 1 2 (b_figures_of C))) :=
  fn_sound F sc_figures_of fun cdv A outer s H E hr => d_figures_of B Z G hr
theorem sc_words_of : FnScope ["text", "found", "word", "place", "sign"] ["text"] (defScope s_words_of) := ⟨rfl, rfl, rfl, by decide +kernel, rfl, by decide +kernel, by decide +kernel⟩
theorem d_words_of {f : Addr} {cdv : Value} {A : Around} {outer : List Env} {s : Shared} {H : Hp} {E : XK} (B : Bl mg) (Z : Es K mg ct) (G : PF K ct P w mg base (n + 2) C T fns) (hr : Room (n + 3) (A.deeper (envOfC "words_of" (defScope s_words_of) s.heap.objs.size f cdv))) :
  DSs (cxOf (L2.CX P w) P w K mg base ["text", "found", "word", "place", "sign"] "words_of" (defScope s_words_of) f cdv A outer s H E) ct (defBody s_words_of) (b_words_of C) := by
  have sc := sc_words_of
  exact (dss_cons (ds_own (i := 1) sc.nd rfl (Or.inl rfl) (dl_disp da_nil))
  (dss_cons (ds_set (i := 2) sc.nd rfl (Or.inl rfl) (de_str []))
  (dss_cons (ds_for (passes_of rfl) rfl (di_enumU rfl B.enumerate_ (da_cons (de_addU (de_var 0 (pv 0)) (de_str [32])) da_nil)) (dg_t rfl (dgs_cons (i := 3) sc.nd rfl (Or.inl rfl) (dgs_cons (i := 4) sc.nd rfl (Or.inl rfl) dgs_nil)))
    (dss_one (ds_if (dt_inV (hu_of hr) (de_var 4 (pv 4)) (de_str [32, 40, 41]))
    (dss_cons (ds_if (dt_neU hr.units (de_var 2 (pv 2)) (de_str []))
    (dss_cons (ds_ex (de_app (de_var 1 (pv 1)) (da_cons (de_tup (da_cons (de_sub (de_var 3 (pv 3)) (de_callB call_lenU ok_len rfl B.len_ boot_len (da_cons (de_var 2 (pv 2)) da_nil))) (da_cons (de_var 2 (pv 2)) da_nil))) da_nil)))
  (dss_one (ds_set (i := 2) sc.nd rfl (Or.inl rfl) (de_str []))))
    dss_nil)
  (dss_one (ds_if (dt_neU hr.units (de_var 4 (pv 4)) (de_str [32]))
    (dss_one (ds_ex (de_app (de_var 1 (pv 1)) (da_cons (de_tup (da_cons (de_var 3 (pv 3)) (da_cons (de_var 4 (pv 4)) da_nil))) da_nil))))
    dss_nil)))
    (dss_one (ds_set (i := 2) sc.nd rfl (Or.inl rfl) (de_addU (de_var 2 (pv 2)) (de_var 4 (pv 4))))))))
  (dss_one (ds_ret (de_frz 1 (pv 1)))))))
theorem f_words_of {f : Addr} {fd : FuncData} (F : Fun K "words_of" "words_of" s_words_of f fd) (B : Bl mg) (Z : Es K mg ct) (G : PF K ct P w mg base (n + 2) C T fns) : FnOk P w K mg base (L2.CX P w) (n + 4) f fd ["text"] (spOf K ct (Mi.runF 1 5 (b_words_of C))) :=
  fn_sound F sc_words_of fun cdv A outer s H E hr => d_words_of B Z G hr
theorem sc_Reader___init__ : FnScope ["self", "text"] ["self", "text"] (defScope s_Reader___init__) := ⟨rfl, rfl, rfl, by decide +kernel, rfl, by decide +kernel, by decide +kernel⟩
theorem d_Reader___init__ {f : Addr} {cdv : Value} {A : Around} {outer : List Env} {s : Shared} {H : Hp} {E : XK} (B : Bl mg) (Z : Es K mg ct) (G : PF K ct P w mg base (n + 2) C T fns) (hr : Room (n + 3) (A.deeper (envOfC "Reader.__init__" (defScope s_Reader___init__) s.heap.objs.size f cdv))) :
  DSs (cxOf (L2.CX P w) P w K mg base ["self", "text"] "Reader.__init__" (defScope s_Reader___init__) f cdv A outer s H E) ct (defBody s_Reader___init__) (b_Reader___init__ C) := by
  have sc := sc_Reader___init__
  exact (dss_cons (ds_fld G "words" (de_var 0 (pv 0)) (de_call G (Room.mono hr (Nat.le_succ _)) "words_of" (by decide) (da_cons (de_var 1 (pv 1)) da_nil)))
  (dss_cons (ds_fld G "finish" (de_var 0 (pv 0)) (de_callB call_lenU ok_len rfl B.len_ boot_len (da_cons (de_var 1 (pv 1)) da_nil)))
  (dss_one (ds_fld G "at" (de_var 0 (pv 0)) de_int))))
theorem f_Reader___init__ {f : Addr} {fd : FuncData} (F : Fun K "__init__" "Reader.__init__" s_Reader___init__ f fd) (B : Bl mg) (Z : Es K mg ct) (G : PF K ct P w mg base (n + 2) C T fns) : FnOk P w K mg base (L2.CX P w) (n + 4) f fd ["self", "text"] (spOf K ct (Mi.runF 2 2 (b_Reader___init__ C))) :=
  fn_sound F sc_Reader___init__ fun cdv A outer s H E hr => d_Reader___init__ B Z G hr
theorem sc_Reader_word_here : FnScope ["self"] ["self"] (defScope s_Reader_word_here) := ⟨rfl, rfl, rfl, by decide +kernel, rfl, by decide +kernel, by decide +kernel⟩
theorem d_Reader_word_here {f : Addr} {cdv : Value} {A : Around} {outer : List Env} {s : Shared} {H : Hp} {E : XK} (B : Bl mg) (Z : Es K mg ct) (G : PF K ct P w mg base (n + 2) C T fns) (hr : Room (n + 3) (A.deeper (envOfC "Reader.word_here" (defScope s_Reader_word_here) s.heap.objs.size f cdv))) :
  DSs (cxOf (L2.CX P w) P w K mg base ["self"] "Reader.word_here" (defScope s_Reader_word_here) f cdv A outer s H E) ct (defBody s_Reader_word_here) (b_Reader_word_here C) := by
  have sc := sc_Reader_word_here
  exact (dss_cons (ds_if (dt_lt (de_fld G "at" (de_var 0 (pv 0))) (de_callB call_lenU ok_len rfl B.len_ boot_len (da_cons (de_fld G "words" (de_var 0 (pv 0))) da_nil)))
    (dss_one (ds_ret (de_ixU (hu_of hr) (de_ixU (hu_of hr) (de_fld G "words" (de_var 0 (pv 0))) (de_fld G "at" (de_var 0 (pv 0)))) de_int)))
    dss_nil)
  (dss_one (ds_ret (de_str []))))
theorem f_Reader_word_here {f : Addr} {fd : FuncData} (F : Fun K "word_here" "Reader.word_here" s_Reader_word_here f fd) (B : Bl mg) (Z : Es K mg ct) (G : PF K ct P w mg base (n + 2) C T fns) : FnOk P w K mg base (L2.CX P w) (n + 4) f fd ["self"] (spOf K ct (Mi.runF 1 1 (b_Reader_word_here C))) :=
  fn_sound F sc_Reader_word_here fun cdv A outer s H E hr => d_Reader_word_here B Z G hr
theorem sc_Reader_place_here : FnScope ["self"] ["self"] (defScope s_Reader_place_here) := ⟨rfl, rfl, rfl, by decide +kernel, rfl, by decide +kernel, by decide +kernel⟩
theorem d_Reader_place_here {f : Addr} {cdv : Value} {A : Around} {outer : List Env} {s : Shared} {H : Hp} {E : XK} (B : Bl mg) (Z : Es K mg ct) (G : PF K ct P w mg base (n + 2) C T fns) (hr : Room (n + 3) (A.deeper (envOfC "Reader.place_here" (defScope s_Reader_place_here) s.heap.objs.size f cdv))) :
  DSs (cxOf (L2.CX P w) P w K mg base ["self"] "Reader.place_here" (defScope s_Reader_place_here) f cdv A outer s H E) ct (defBody s_Reader_place_here) (b_Reader_place_here C) := by
  have sc := sc_Reader_place_here
  exact (dss_cons (ds_if (dt_lt (de_fld G "at" (de_var 0 (pv 0))) (de_callB call_lenU ok_len rfl B.len_ boot_len (da_cons (de_fld G "words" (de_var 0 (pv 0))) da_nil)))
    (dss_one (ds_ret (de_ixU (hu_of hr) (de_ixU (hu_of hr) (de_fld G "words" (de_var 0 (pv 0))) (de_fld G "at" (de_var 0 (pv 0)))) de_int)))
    dss_nil)
  (dss_one (ds_ret (de_fld G "finish" (de_var 0 (pv 0))))))
theorem f_Reader_place_here {f : Addr} {fd : FuncData} (F : Fun K "place_here" "Reader.place_here" s_Reader_place_here f fd) (B : Bl mg) (Z : Es K mg ct) (G : PF K ct P w mg base (n + 2) C T fns) : FnOk P w K mg base (L2.CX P w) (n + 4) f fd ["self"] (spOf K ct (Mi.runF 1 1 (b_Reader_place_here C))) :=
  fn_sound F sc_Reader_place_here fun cdv A outer s H E hr => d_Reader_place_here B Z G hr
theorem sc_Reader_past : FnScope ["self", "word"] ["self", "word"] (defScope s_Reader_past) := ⟨rfl, rfl, rfl, by decide +kernel, rfl, by decide +kernel, by decide +kernel⟩
theorem d_Reader_past {f : Addr} {cdv : Value} {A : Around} {outer : List Env} {s : Shared} {H : Hp} {E : XK} (B : Bl mg) (Z : Es K mg ct) (G : PF K ct P w mg base (n + 2) C T fns) (hr : Room (n + 3) (A.deeper (envOfC "Reader.past" (defScope s_Reader_past) s.heap.objs.size f cdv))) :
  DSs (cxOf (L2.CX P w) P w K mg base ["self", "word"] "Reader.past" (defScope s_Reader_past) f cdv A outer s H E) ct (defBody s_Reader_past) (b_Reader_past C) := by
  have sc := sc_Reader_past
  exact (dss_cons (ds_if (dt_neU hr.units (de_meth0 G (Room.mono hr (Nat.le_succ _)) "word_here" (de_var 0 (pv 0))) (de_var 1 (pv 1)))
    (dss_one (ds_raiseF "BadText" "place" rfl Z.x_BadText Z.xi_BadText Z.xt_BadText (x_BadText Z) (Room.mono hr (by omega)) Z.xb_BadText (de_meth0 G (Room.mono hr (Nat.le_succ _)) "place_here" (de_var 0 (pv 0)))))
    dss_nil)
  (dss_one (ds_fld G "at" (de_var 0 (pv 0)) (de_addU (de_fld G "at" (de_var 0 (pv 0))) de_int))))
theorem f_Reader_past {f : Addr} {fd : FuncData} (F : Fun K "past" "Reader.past" s_Reader_past f fd) (B : Bl mg) (Z : Es K mg ct) (G : PF K ct P w mg base (n + 2) C T fns) : FnOk P w K mg base (L2.CX P w) (n + 4) f fd ["self", "word"] (spOf K ct (Mi.runF 2 2 (b_Reader_past C))) :=
  fn_sound F sc_Reader_past fun cdv A outer s H E hr => d_Reader_past B Z G hr
theorem sc_Reader_whole_number : FnScope ["self", "number"] ["self"] (defScope s_Reader_whole_number) := ⟨rfl, rfl, rfl, by decide +kernel, rfl, by decide +kernel, by decide +kernel⟩
theorem d_Reader_whole_number {f : Addr} {cdv : Value} {A : Around} {outer : List Env} {s : Shared} {H : Hp} {E : XK} (B : Bl mg) (Z : Es K mg ct) (G : PF K ct P w mg base (n + 2) C T fns) (hr : Room (n + 3) (A.deeper (envOfC "Reader.whole_number" (defScope s_Reader_whole_number) s.heap.objs.size f cdv))) :
  DSs (cxOf (L2.CX P w) P w K mg base ["self", "number"] "Reader.whole_number" (defScope s_Reader_whole_number) f cdv A outer s H E) ct (defBody s_Reader_whole_number) (b_Reader_whole_number C) := by
  have sc := sc_Reader_whole_number
  exact (dss_cons (ds_set (i := 1) sc.nd rfl (Or.inl rfl) (de_call G (Room.mono hr (Nat.le_succ _)) "figures_of" (by decide) (da_cons (de_meth0 G (Room.mono hr (Nat.le_succ _)) "word_here" (de_var 0 (pv 0))) da_nil)))
  (dss_cons (ds_if (dt_isN (de_var 1 (pv 1)) de_non)
    (dss_one (ds_raiseF "BadText" "place" rfl Z.x_BadText Z.xi_BadText Z.xt_BadText (x_BadText Z) (Room.mono hr (by omega)) Z.xb_BadText (de_meth0 G (Room.mono hr (Nat.le_succ _)) "place_here" (de_var 0 (pv 0)))))
    dss_nil)
  (dss_cons (ds_fld G "at" (de_var 0 (pv 0)) (de_addU (de_fld G "at" (de_var 0 (pv 0))) de_int))
  (dss_one (ds_ret (de_var 1 (pv 1)))))))
theorem f_Reader_whole_number {f : Addr} {fd : FuncData} (F : Fun K "whole_number" "Reader.whole_number" s_Reader_whole_number f fd) (B : Bl mg) (Z : Es K mg ct) (G : PF K ct P w mg base (n + 2) C T fns) : FnOk P w K mg base (L2.CX P w) (n + 4) f fd ["self"] (spOf K ct (Mi.runF 1 2 (b_Reader_whole_number C))) :=
  fn_sound F sc_Reader_whole_number fun cdv A outer s H E hr => d_Reader_whole_number B Z G hr
theorem sc_Reader_question : FnScope ["self", "deep", "parts"] ["self", "deep"] (defScope s_Reader_question) := ⟨rfl, rfl, rfl, by decide +kernel, rfl, by decide +kernel, by decide +kernel⟩
theorem d_Reader_question {f : Addr} {cdv : Value} {A : Around} {outer : List Env} {s : Shared} {H : Hp} {E : XK} (B : Bl mg) (Z : Es K mg ct) (G : PF K ct P w mg base (n + 2) C T fns) (hr : Room (n + 3) (A.deeper (envOfC "Reader.question" (defScope s_Reader_question) s.heap.objs.size f cdv))) :
  DSs (cxOf (L2.CX P w) P w K mg base ["self", "deep", "parts"] "Reader.question" (defScope s_Reader_question) f cdv A outer s H E) ct (defBody s_Reader_question) (b_Reader_question C) := by
  have sc := sc_Reader_question
  exact (dss_cons (ds_own (i := 2) sc.nd rfl (Or.inl rfl) (dl_disp (da_cons (de_meth G (Room.mono hr (Nat.le_succ _)) "chain" (de_var 0 (pv 0)) (da_cons (de_var 1 (pv 1)) da_nil)) da_nil)))
  (dss_cons (ds_while (passes_of rfl) (dt_eqU hr.units (de_meth0 G (Room.mono hr (Nat.le_succ _)) "word_here" (de_var 0 (pv 0))) (de_str [111, 114]))
    (dss_cons (ds_ex (de_meth G (Room.mono hr (Nat.le_succ _)) "past" (de_var 0 (pv 0)) (da_cons (de_str [111, 114]) da_nil)))
  (dss_one (ds_ex (de_app (de_var 2 (pv 2)) (da_cons (de_meth G (Room.mono hr (Nat.le_succ _)) "chain" (de_var 0 (pv 0)) (da_cons (de_var 1 (pv 1)) da_nil)) da_nil))))))
  (dss_cons (ds_if (dt_eqU hr.units (de_callB call_lenU ok_len rfl B.len_ boot_len (da_cons (de_var 2 (pv 2)) da_nil)) de_int)
    (dss_one (ds_ret (de_ixU (hu_of hr) (de_var 2 (pv 2)) de_int)))
    dss_nil)
  (dss_one (ds_ret (de_makeF G hr "OneOf" rfl (by decide) (da_cons (de_frz 2 (pv 2)) da_nil)))))))
theorem f_Reader_question {f : Addr} {fd : FuncData} (F : Fun K "question" "Reader.question" s_Reader_question f fd) (B : Bl mg) (Z : Es K mg ct) (G : PF K ct P w mg base (n + 2) C T fns) : FnOk P w K mg base (L2.CX P w) (n + 4) f fd ["self", "deep"] (spOf K ct (Mi.runF 2 3 (b_Reader_question C))) :=
  fn_sound F sc_Reader_question fun cdv A outer s H E hr => d_Reader_question B Z G hr
theorem sc_Reader_chain : FnScope ["self", "deep", "parts"] ["self", "deep"] (defScope s_Reader_chain) := ⟨rfl, rfl, rfl, by decide +kernel, rfl, by decide +kernel, by decide +kernel⟩
theorem d_Reader_chain {f : Addr} {cdv : Value} {A : Around} {outer : List Env} {s : Shared} {H : Hp} {E : XK} (B : Bl mg) (Z : Es K mg ct) (G : PF K ct P w mg base (n + 2) C T fns) (hr : Room (n + 3) (A.deeper (envOfC "Reader.chain" (defScope s_Reader_chain) s.heap.objs.size f cdv))) :
  DSs (cxOf (L2.CX P w) P w K mg base ["self", "deep", "parts"] "Reader.chain" (defScope s_Reader_chain) f cdv A outer s H E) ct (defBody s_Reader_chain) (b_Reader_chain C) := by
  have sc := sc_Reader_chain
  exact (dss_cons (ds_own (i := 2) sc.nd rfl (Or.inl rfl) (dl_disp (da_cons (de_meth G (Room.mono hr (Nat.le_succ _)) "piece" (de_var 0 (pv 0)) (da_cons (de_var 1 (pv 1)) da_nil)) da_nil)))
  (dss_cons (ds_while (passes_of rfl) (dt_eqU hr.units (de_meth0 G (Room.mono hr (Nat.le_succ _)) "word_here" (de_var 0 (pv 0))) (de_str [97, 110, 100]))
    (dss_cons (ds_ex (de_meth G (Room.mono hr (Nat.le_succ _)) "past" (de_var 0 (pv 0)) (da_cons (de_str [97, 110, 100]) da_nil)))
  (dss_one (ds_ex (de_app (de_var 2 (pv 2)) (da_cons (de_meth G (Room.mono hr (Nat.le_succ _)) "piece" (de_var 0 (pv 0)) (da_cons (de_var 1 (pv 1)) da_nil)) da_nil))))))
  (dss_cons (ds_if (dt_eqU hr.units (de_callB call_lenU ok_len rfl B.len_ boot_len (da_cons (de_var 2 (pv 2)) da_nil)) de_int)
    (dss_one (ds_ret (de_ixU (hu_of hr) (de_var 2 (pv 2)) de_int)))
    dss_nil)
  (dss_one (ds_ret (de_makeF G hr "AllOf" rfl (by decide) (da_cons (de_frz 2 (pv 2)) da_nil)))))))
theorem f_Reader_chain {f : Addr} {fd : FuncData} (F : Fun K "chain" "Reader.chain" s_Reader_chain f fd) (B : Bl mg) (Z : Es K mg ct) (G : PF K ct P w mg base (n + 2) C T fns) : FnOk P w K mg base (L2.CX P w) (n + 4) f fd ["self", "deep"] (spOf K ct (Mi.runF 2 3 (b_Reader_chain C))) :=
  fn_sound F sc_Reader_chain fun cdv A outer s H E hr => d_Reader_chain B Z G hr
theorem sc_Reader_piece : FnScope ["self", "deep", "word"] ["self", "deep"] (defScope s_Reader_piece) := ⟨rfl, rfl, rfl, by decide +kernel, rfl, by decide +kernel, by decide +kernel⟩
theorem d_Reader_piece {f : Addr} {cdv : Value} {A : Around} {outer : List Env} {s : Shared} {H : Hp} {E : XK} (B : Bl mg) (Z : Es K mg ct) (G : PF K ct P w mg base (n + 2) C T fns) (hr : Room (n + 3) (A.deeper (envOfC "Reader.piece" (defScope s_Reader_piece) s.heap.objs.size f cdv))) :
  DSs (cxOf (L2.CX P w) P w K mg base ["self", "deep", "word"] "Reader.piece" (defScope s_Reader_piece) f cdv A outer s H E) ct (defBody s_Reader_piece) (b_Reader_piece C) := by
  have sc := sc_Reader_piece
  exact (dss_cons (ds_set (i := 2) sc.nd rfl (Or.inl rfl) (de_meth0 G (Room.mono hr (Nat.le_succ _)) "word_here" (de_var 0 (pv 0))))
  (dss_cons (ds_if (DW.dt (dw_or (dt_eqU hr.units (de_var 2 (pv 2)) (de_str [110, 111, 116])) (dw_or1 (dt_eqU hr.units (de_var 2 (pv 2)) (de_str [40])))))
    (dss_one (ds_ret (de_meth G (Room.mono hr (Nat.le_succ _)) "inner" (de_var 0 (pv 0)) (da_cons (de_var 2 (pv 2)) (da_cons (de_var 1 (pv 1)) da_nil)))))
    dss_nil)
  (dss_cons (ds_if (dt_eqU hr.units (de_var 2 (pv 2)) (de_str [97, 108, 108]))
    (dss_cons (ds_ex (de_meth G (Room.mono hr (Nat.le_succ _)) "past" (de_var 0 (pv 0)) (da_cons (de_str [97, 108, 108]) da_nil)))
  (dss_one (ds_ret (de_make0 G "Every" rfl))))
    dss_nil)
  (dss_cons (ds_if (dt_eqU hr.units (de_var 2 (pv 2)) (de_str [110, 111, 110, 101]))
    (dss_cons (ds_ex (de_meth G (Room.mono hr (Nat.le_succ _)) "past" (de_var 0 (pv 0)) (da_cons (de_str [110, 111, 110, 101]) da_nil)))
  (dss_one (ds_ret (de_make0 G "Nobody" rfl))))
    dss_nil)
  (dss_cons (ds_if (dt_not (dt_tru (de_call G (Room.mono hr (Nat.le_succ _)) "is_name" (by decide) (da_cons (de_var 2 (pv 2)) da_nil))))
    (dss_one (ds_raiseF "BadText" "place" rfl Z.x_BadText Z.xi_BadText Z.xt_BadText (x_BadText Z) (Room.mono hr (by omega)) Z.xb_BadText (de_meth0 G (Room.mono hr (Nat.le_succ _)) "place_here" (de_var 0 (pv 0)))))
    dss_nil)
  (dss_cons (ds_ex (de_meth G (Room.mono hr (Nat.le_succ _)) "past" (de_var 0 (pv 0)) (da_cons (de_var 2 (pv 2)) da_nil)))
  (dss_one (ds_ret (de_meth G (Room.mono hr (Nat.le_succ _)) "range_of" (de_var 0 (pv 0)) (da_cons (de_var 2 (pv 2)) da_nil))))))))))
theorem f_Reader_piece {f : Addr} {fd : FuncData} (F : Fun K "piece" "Reader.piece" s_Reader_piece f fd) (B : Bl mg) (Z : Es K mg ct) (G : PF K ct P w mg base (n + 2) C T fns) : FnOk P w K mg base (L2.CX P w) (n + 4) f fd ["self", "deep"] (spOf K ct (Mi.runF 2 3 (b_Reader_piece C))) :=
  fn_sound F sc_Reader_piece fun cdv A outer s H E hr => d_Reader_piece B Z G hr
theorem sc_Reader_inner : FnScope ["self", "word", "deep", "found"] ["self", "word", "deep"] (defScope s_Reader_inner) := ⟨rfl, rfl, rfl, by decide +kernel, rfl, by decide +kernel, by decide +kernel⟩
theorem d_Reader_inner {f : Addr} {cdv : Value} {A : Around} {outer : List Env} {s : Shared} {H : Hp} {E : XK} (B : Bl mg) (Z : Es K mg ct) (G : PF K ct P w mg base (n + 2) C T fns) (hr : Room (n + 3) (A.deeper (envOfC "Reader.inner" (defScope s_Reader_inner) s.heap.objs.size f cdv))) :
  DSs (cxOf (L2.CX P w) P w K mg base ["self", "word", "deep", "found"] "Reader.inner" (defScope s_Reader_inner) f cdv A outer s H E) ct (defBody s_Reader_inner) (b_Reader_inner C) := by
  have sc := sc_Reader_inner
  exact (dss_cons (ds_if (dt_eqU hr.units (de_var 2 (pv 2)) de_int)
    (dss_one (ds_raiseF "BadText" "place" rfl Z.x_BadText Z.xi_BadText Z.xt_BadText (x_BadText Z) (Room.mono hr (by omega)) Z.xb_BadText (de_meth0 G (Room.mono hr (Nat.le_succ _)) "place_here" (de_var 0 (pv 0)))))
    dss_nil)
  (dss_cons (ds_ex (de_meth G (Room.mono hr (Nat.le_succ _)) "past" (de_var 0 (pv 0)) (da_cons (de_var 1 (pv 1)) da_nil)))
  (dss_cons (ds_if (dt_eqU hr.units (de_var 1 (pv 1)) (de_str [110, 111, 116]))
    (dss_one (ds_ret (de_makeF G hr "Opposite" rfl (by decide) (da_cons (de_meth G (Room.mono hr (Nat.le_succ _)) "piece" (de_var 0 (pv 0)) (da_cons (de_addU (de_var 2 (pv 2)) de_int) da_nil)) da_nil))))
    dss_nil)
  (dss_cons (ds_set (i := 3) sc.nd rfl (Or.inl rfl) (de_meth G (Room.mono hr (Nat.le_succ _)) "question" (de_var 0 (pv 0)) (da_cons (de_addU (de_var 2 (pv 2)) de_int) da_nil)))
  (dss_cons (ds_ex (de_meth G (Room.mono hr (Nat.le_succ _)) "past" (de_var 0 (pv 0)) (da_cons (de_str [41]) da_nil)))
  (dss_one (ds_ret (de_var 3 (pv 3)))))))))
theorem f_Reader_inner {f : Addr} {fd : FuncData} (F : Fun K "inner" "Reader.inner" s_Reader_inner f fd) (B : Bl mg) (Z : Es K mg ct) (G : PF K ct P w mg base (n + 2) C T fns) : FnOk P w K mg base (L2.CX P w) (n + 4) f fd ["self", "word", "deep"] (spOf K ct (Mi.runF 3 4 (b_Reader_inner C))) :=
  fn_sound F sc_Reader_inner fun cdv A outer s H E hr => d_Reader_inner B Z G hr
theorem sc_Reader_range_of : FnScope ["self", "name", "low"] ["self", "name"] (defScope s_Reader_range_of) := ⟨rfl, rfl, rfl, by decide +kernel, rfl, by decide +kernel, by decide +kernel⟩
theorem d_Reader_range_of {f : Addr} {cdv : Value} {A : Around} {outer : List Env} {s : Shared} {H : Hp} {E : XK} (B : Bl mg) (Z : Es K mg ct) (G : PF K ct P w mg base (n + 2) C T fns) (hr : Room (n + 3) (A.deeper (envOfC "Reader.range_of" (defScope s_Reader_range_of) s.heap.objs.size f cdv))) :
  DSs (cxOf (L2.CX P w) P w K mg base ["self", "name", "low"] "Reader.range_of" (defScope s_Reader_range_of) f cdv A outer s H E) ct (defBody s_Reader_range_of) (b_Reader_range_of C) := by
  have sc := sc_Reader_range_of
  exact (dss_cons (ds_if (dt_eqU hr.units (de_meth0 G (Room.mono hr (Nat.le_succ _)) "word_here" (de_var 0 (pv 0))) (de_str [105, 115]))
    (dss_cons (ds_ex (de_meth G (Room.mono hr (Nat.le_succ _)) "past" (de_var 0 (pv 0)) (da_cons (de_str [105, 115]) da_nil)))
  (dss_cons (ds_set (i := 2) sc.nd rfl (Or.inl rfl) (de_meth0 G (Room.mono hr (Nat.le_succ _)) "whole_number" (de_var 0 (pv 0))))
  (dss_one (ds_ret (de_makeF G hr "Within" rfl (by decide) (da_cons (de_var 1 (pv 1)) (da_cons (de_var 2 (pv 2)) (da_cons (de_var 2 (pv 2)) da_nil))))))))
    dss_nil)
  (dss_cons (ds_ex (de_meth G (Room.mono hr (Nat.le_succ _)) "past" (de_var 0 (pv 0)) (da_cons (de_str [102, 114, 111, 109]) da_nil)))
  (dss_cons (ds_set (i := 2) sc.nd rfl (Or.inl rfl) (de_meth0 G (Room.mono hr (Nat.le_succ _)) "whole_number" (de_var 0 (pv 0))))
  (dss_cons (ds_ex (de_meth G (Room.mono hr (Nat.le_succ _)) "past" (de_var 0 (pv 0)) (da_cons (de_str [116, 111]) da_nil)))
  (dss_one (ds_ret (de_makeF G hr "Within" rfl (by decide) (da_cons (de_var 1 (pv 1)) (da_cons (de_var 2 (pv 2)) (da_cons (de_meth0 G (Room.mono hr (Nat.le_succ _)) "whole_number" (de_var 0 (pv 0))) da_nil))))))))))
theorem f_Reader_range_of {f : Addr} {fd : FuncData} (F : Fun K "range_of" "Reader.range_of" s_Reader_range_of f fd) (B : Bl mg) (Z : Es K mg ct) (G : PF K ct P w mg base (n + 2) C T fns) : FnOk P w K mg base (L2.CX P w) (n + 4) f fd ["self", "name"] (spOf K ct (Mi.runF 2 3 (b_Reader_range_of C))) :=
  fn_sound F sc_Reader_range_of fun cdv A outer s H E hr => d_Reader_range_of B Z G hr
theorem sc_read_question : FnScope ["text", "reader", "found"] ["text"] (defScope s_read_question) := ⟨rfl, rfl, rfl, by decide +kernel, rfl, by decide +kernel, by decide +kernel⟩
theorem d_read_question {f : Addr} {cdv : Value} {A : Around} {outer : List Env} {s : Shared} {H : Hp} {E : XK} (B : Bl mg) (Z : Es K mg ct) (G : PF K ct P w mg base (n + 2) C T fns) (hr : Room (n + 3) (A.deeper (envOfC "read_question" (defScope s_read_question) s.heap.objs.size f cdv))) :
  DSs (cxOf (L2.CX P w) P w K mg base ["text", "reader", "found"] "read_question" (defScope s_read_question) f cdv A outer s H E) ct (defBody s_read_question) (b_read_question C) := by
  have sc := sc_read_question
  exact (dss_cons (ds_set (i := 1) sc.nd rfl (Or.inl rfl) (de_make G hr "Reader" rfl (by decide) (da_cons (de_var 0 (pv 0)) da_nil)))
  (dss_cons (ds_set (i := 2) sc.nd rfl (Or.inl rfl) (de_meth G (Room.mono hr (Nat.le_succ _)) "question" (de_var 1 (pv 1)) (da_cons de_int da_nil)))
  (dss_cons (ds_if (dt_lt (de_fld G "at" (de_var 1 (pv 1))) (de_callB call_lenU ok_len rfl B.len_ boot_len (da_cons (de_fld G "words" (de_var 1 (pv 1))) da_nil)))
    (dss_one (ds_raiseF "BadText" "place" rfl Z.x_BadText Z.xi_BadText Z.xt_BadText (x_BadText Z) (Room.mono hr (by omega)) Z.xb_BadText (de_meth0 G (Room.mono hr (Nat.le_succ _)) "place_here" (de_var 1 (pv 1)))))
    dss_nil)
  (dss_one (ds_ret (de_var 2 (pv 2)))))))
theorem f_read_question {f : Addr} {fd : FuncData} (F : Fun K "read_question" "read_question" s_read_question f fd) (B : Bl mg) (Z : Es K mg ct) (G : PF K ct P w mg base (n + 2) C T fns) : FnOk P w K mg base (L2.CX P w) (n + 4) f fd ["text"] (spOf K ct (Mi.runF 1 3 (b_read_question C))) :=
  fn_sound F sc_read_question fun cdv A outer s H E hr => d_read_question B Z G hr
theorem sc__law_cell_at : FnScope ["script", "k"] ["script", "k"] (defScope s__law_cell_at) := ⟨rfl, rfl, rfl, by decide +kernel, rfl, by decide +kernel, by decide +kernel⟩
theorem d__law_cell_at {f : Addr} {cdv : Value} {A : Around} {outer : List Env} {s : Shared} {H : Hp} {E : XK} (B : Bl mg) (Z : Es K mg ct) (G : PF K ct P w mg base (n + 2) C T fns) (hr : Room (n + 3) (A.deeper (envOfC "_law_cell_at" (defScope s__law_cell_at) s.heap.objs.size f cdv))) :
  DSs (cxOf (L2.CX P w) P w K mg base ["script", "k"] "_law_cell_at" (defScope s__law_cell_at) f cdv A outer s H E) ct (defBody s__law_cell_at) (b__law_cell_at C) := by
  have sc := sc__law_cell_at
  exact (dss_cons (ds_if (dt_lt (de_var 1 (pv 1)) (de_callB call_lenU ok_len rfl B.len_ boot_len (da_cons (de_var 0 (pv 0)) da_nil)))
    (dss_one (ds_ret (de_ixU (hu_of hr) (de_var 0 (pv 0)) (de_var 1 (pv 1)))))
    dss_nil)
  (dss_one (ds_ret de_int)))
theorem f__law_cell_at {f : Addr} {fd : FuncData} (F : Fun K "_law_cell_at" "_law_cell_at" s__law_cell_at f fd) (B : Bl mg) (Z : Es K mg ct) (G : PF K ct P w mg base (n + 2) C T fns) : FnOk P w K mg base (L2.CX P w) (n + 4) f fd ["script", "k"] (spOf K ct (Mi.runF 2 2 (b__law_cell_at C))) :=
  fn_sound F sc__law_cell_at fun cdv A outer s H E hr => d__law_cell_at B Z G hr
theorem sc__law_whole : FnScope ["found"] ["found"] (defScope s__law_whole) := ⟨rfl, rfl, rfl, by decide +kernel, rfl, by decide +kernel, by decide +kernel⟩
theorem d__law_whole {f : Addr} {cdv : Value} {A : Around} {outer : List Env} {s : Shared} {H : Hp} {E : XK} (B : Bl mg) (Z : Es K mg ct) (G : PF K ct P w mg base (n + 2) C T fns) (hr : Room (n + 3) (A.deeper (envOfC "_law_whole" (defScope s__law_whole) s.heap.objs.size f cdv))) :
  DSs (cxOf (L2.CX P w) P w K mg base ["found"] "_law_whole" (defScope s__law_whole) f cdv A outer s H E) ct (defBody s__law_whole) (b__law_whole C) := by
  have sc := sc__law_whole
  exact (dss_one (ds_ret (de_and (de_isT "int" (by decide) (by rfl) B.isinstance_ (by rfl) B.int_ (by rfl) (de_var 0 (pv 0))) (de_one (de_not (de_isB (by rfl) B.isinstance_ (by rfl) B.bool_ (de_var 0 (pv 0))))))))
theorem f__law_whole {f : Addr} {fd : FuncData} (F : Fun K "_law_whole" "_law_whole" s__law_whole f fd) (B : Bl mg) (Z : Es K mg ct) (G : PF K ct P w mg base (n + 2) C T fns) : FnOk P w K mg base (L2.CX P w) (n + 4) f fd ["found"] (spOf K ct (Mi.runF 1 1 (b__law_whole C))) :=
  fn_sound F sc__law_whole fun cdv A outer s H E hr => d__law_whole B Z G hr
theorem sc__law_mixed : FnScope ["cell", "k", "number"] ["cell", "k"] (defScope s__law_mixed) := ⟨rfl, rfl, rfl, by decide +kernel, rfl, by decide +kernel, by decide +kernel⟩
theorem d__law_mixed {f : Addr} {cdv : Value} {A : Around} {outer : List Env} {s : Shared} {H : Hp} {E : XK} (B : Bl mg) (Z : Es K mg ct) (G : PF K ct P w mg base (n + 2) C T fns) (hr : Room (n + 3) (A.deeper (envOfC "_law_mixed" (defScope s__law_mixed) s.heap.objs.size f cdv))) :
  DSs (cxOf (L2.CX P w) P w K mg base ["cell", "k", "number"] "_law_mixed" (defScope s__law_mixed) f cdv A outer s H E) ct (defBody s__law_mixed) (b__law_mixed C) := by
  have sc := sc__law_mixed
  exact (dss_cons (ds_set (i := 2) sc.nd rfl (Or.inl rfl) (de_mod (de_addU (de_addU (de_mul (de_var 0 (pv 0)) de_int) (de_mul (de_var 1 (pv 1)) de_int)) de_int) de_int))
  (dss_one (ds_ret (de_mod (de_mul (de_var 2 (pv 2)) (de_var 2 (pv 2))) de_int))))
theorem f__law_mixed {f : Addr} {fd : FuncData} (F : Fun K "_law_mixed" "_law_mixed" s__law_mixed f fd) (B : Bl mg) (Z : Es K mg ct) (G : PF K ct P w mg base (n + 2) C T fns) : FnOk P w K mg base (L2.CX P w) (n + 4) f fd ["cell", "k"] (spOf K ct (Mi.runF 2 3 (b__law_mixed C))) :=
  fn_sound F sc__law_mixed fun cdv A outer s H E hr => d__law_mixed B Z G hr
theorem sc__law_name_of : FnScope ["letters"] ["letters"] (defScope s__law_name_of) := ⟨rfl, rfl, rfl, by decide +kernel, rfl, by decide +kernel, by decide +kernel⟩
theorem d__law_name_of {f : Addr} {cdv : Value} {A : Around} {outer : List Env} {s : Shared} {H : Hp} {E : XK} (B : Bl mg) (Z : Es K mg ct) (G : PF K ct P w mg base (n + 2) C T fns) (hr : Room (n + 3) (A.deeper (envOfC "_law_name_of" (defScope s__law_name_of) s.heap.objs.size f cdv))) :
  DSs (cxOf (L2.CX P w) P w K mg base ["letters"] "_law_name_of" (defScope s__law_name_of) f cdv A outer s H E) ct (defBody s__law_name_of) (b__law_name_of C) := by
  have sc := sc__law_name_of
  exact (dss_cons (ds_if (dt_inV (hu_of hr) (de_var 0 (pv 0)) (de_l (dl_disp (da_cons (de_str [97, 110, 100]) (da_cons (de_str [111, 114]) (da_cons (de_str [110, 111, 116]) (da_cons (de_str [97, 108, 108]) (da_cons (de_str [110, 111, 110, 101]) (da_cons (de_str [105, 115]) (da_cons (de_str [102, 114, 111, 109]) (da_cons (de_str [116, 111]) da_nil)))))))))))
    (dss_one (ds_ret (de_addU (de_var 0 (pv 0)) (de_str [120]))))
    dss_nil)
  (dss_one (ds_ret (de_var 0 (pv 0)))))
theorem f__law_name_of {f : Addr} {fd : FuncData} (F : Fun K "_law_name_of" "_law_name_of" s__law_name_of f fd) (B : Bl mg) (Z : Es K mg ct) (G : PF K ct P w mg base (n + 2) C T fns) : FnOk P w K mg base (L2.CX P w) (n + 4) f fd ["letters"] (spOf K ct (Mi.runF 1 1 (b__law_name_of C))) :=
  fn_sound F sc__law_name_of fun cdv A outer s H E hr => d__law_name_of B Z G hr
theorem sc__law_names : FnScope ["script", "most", "x", "size", "names", "k", "letters", "j", "number"] ["script", "most"] (defScope s__law_names) := ⟨rfl, rfl, rfl, by decide +kernel, rfl, by decide +kernel, by decide +kernel⟩
theorem d__law_names {f : Addr} {cdv : Value} {A : Around} {outer : List Env} {s : Shared} {H : Hp} {E : XK} (B : Bl mg) (Z : Es K mg ct) (G : PF K ct P w mg base (n + 2) C T fns) (hr : Room (n + 3) (A.deeper (envOfC "_law_names" (defScope s__law_names) s.heap.objs.size f cdv))) :
  DSs (cxOf (L2.CX P w) P w K mg base ["script", "most", "x", "size", "names", "k", "letters", "j", "number"] "_law_names" (defScope s__law_names) f cdv A outer s H E) ct (defBody s__law_names) (b__law_names C) := by
  have sc := sc__law_names
  exact (dss_cons (ds_set (i := 2) sc.nd rfl (Or.inl rfl) (de_call G (Room.mono hr (Nat.le_succ _)) "_law_mixed" (by decide) (da_cons (de_call G (Room.mono hr (Nat.le_succ _)) "_law_cell_at" (by decide) (da_cons (de_var 0 (pv 0)) (da_cons de_int da_nil))) (da_cons de_int da_nil))))
  (dss_cons (ds_set (i := 3) sc.nd rfl (Or.inl rfl) (de_addU de_int (de_mod (de_var 2 (pv 2)) (de_var 1 (pv 1)))))
  (dss_cons (ds_own (i := 4) sc.nd rfl (Or.inl rfl) (dl_disp da_nil))
  (dss_cons (ds_for (passes_of rfl) rfl (di_rg1 rfl B.range_ (da_cons de_int da_nil)) (dg_n (i := 5) sc.nd rfl (Or.inl rfl))
    (dss_cons (ds_set (i := 6) sc.nd rfl (Or.inl rfl) (de_str []))
  (dss_cons (ds_for (passes_of rfl) rfl (di_rg1 rfl B.range_ (da_cons (de_var 3 (pv 3)) da_nil)) (dg_n (i := 7) sc.nd rfl (Or.inl rfl))
    (dss_cons (ds_set (i := 8) sc.nd rfl (Or.inl rfl) (de_addU (de_addU (de_div (de_var 2 (pv 2)) (de_addU (de_var 7 (pv 7)) de_int)) (de_mul de_int (de_var 7 (pv 7)))) (de_mul (de_var 5 (pv 5)) (de_callTy (CallR.or2 call_int1 call_int_str) ok_cint2 rfl B.int_ boot_int (da_cons (de_eqU hr.units (de_var 7 (pv 7)) (de_mod (de_div (de_var 2 (pv 2)) de_int) (de_var 3 (pv 3)))) da_nil)))))
  (dss_one (ds_set (i := 6) sc.nd rfl (Or.inl rfl) (de_addU (de_var 6 (pv 6)) (de_ixU (hu_of hr) (de_str [97, 98, 99, 100, 101, 102, 103, 104, 105, 106, 107, 108, 109, 110, 111, 112, 113, 114, 115, 116, 117, 118, 119, 120, 121, 122]) (de_mod (de_var 8 (pv 8)) de_int)))))))
  (dss_one (ds_ex (de_app (de_var 4 (pv 4)) (da_cons (de_call G (Room.mono hr (Nat.le_succ _)) "_law_name_of" (by decide) (da_cons (de_var 6 (pv 6)) da_nil)) da_nil)))))))
  (dss_one (ds_ret (de_frz 4 (pv 4))))))))
theorem f__law_names {f : Addr} {fd : FuncData} (F : Fun K "_law_names" "_law_names" s__law_names f fd) (B : Bl mg) (Z : Es K mg ct) (G : PF K ct P w mg base (n + 2) C T fns) : FnOk P w K mg base (L2.CX P w) (n + 4) f fd ["script", "most"] (spOf K ct (Mi.runF 2 9 (b__law_names C))) :=
  fn_sound F sc__law_names fun cdv A outer s H E hr => d__law_names B Z G hr
theorem sc__law_value : FnScope ["x", "wide"] ["x", "wide"] (defScope s__law_value) := ⟨rfl, rfl, rfl, by decide +kernel, rfl, by decide +kernel, by decide +kernel⟩
theorem d__law_value {f : Addr} {cdv : Value} {A : Around} {outer : List Env} {s : Shared} {H : Hp} {E : XK} (B : Bl mg) (Z : Es K mg ct) (G : PF K ct P w mg base (n + 2) C T fns) (hr : Room (n + 3) (A.deeper (envOfC "_law_value" (defScope s__law_value) s.heap.objs.size f cdv))) :
  DSs (cxOf (L2.CX P w) P w K mg base ["x", "wide"] "_law_value" (defScope s__law_value) f cdv A outer s H E) ct (defBody s__law_value) (b__law_value C) := by
  have sc := sc__law_value
  exact (dss_cons (ds_if (dt_tru (de_var 1 (pv 1)))
    (dss_one (ds_ret (de_ixU (hu_of hr) (de_l (dl_disp (da_cons (de_mod (de_var 0 (pv 0)) de_int) (da_cons (de_mod (de_var 0 (pv 0)) de_int) (da_cons (de_mod (de_mul (de_var 0 (pv 0)) de_int) (de_pow de_int de_int)) (da_cons (de_sub (de_sub (de_pow de_int de_int) de_int) (de_mod (de_var 0 (pv 0)) de_int)) da_nil)))))) (de_mod (de_div (de_var 0 (pv 0)) de_int) de_int))))
    dss_nil)
  (dss_one (ds_ret (de_ixU (hu_of hr) (de_l (dl_disp (da_cons (de_mod (de_var 0 (pv 0)) de_int) (da_cons (de_mod (de_var 0 (pv 0)) de_int) da_nil)))) (de_mod (de_div (de_var 0 (pv 0)) de_int) de_int)))))
theorem f__law_value {f : Addr} {fd : FuncData} (F : Fun K "_law_value" "_law_value" s__law_value f fd) (B : Bl mg) (Z : Es K mg ct) (G : PF K ct P w mg base (n + 2) C T fns) : FnOk P w K mg base (L2.CX P w) (n + 4) f fd ["x", "wide"] (spOf K ct (Mi.runF 2 2 (b__law_value C))) :=
  fn_sound F sc__law_value fun cdv A outer s H E hr => d__law_value B Z G hr
theorem sc__law_leaf : FnScope ["cell", "names", "wide", "x", "low", "high"] ["cell", "names", "wide"] (defScope s__law_leaf) := ⟨rfl, rfl, rfl, by decide +kernel, rfl, by decide +kernel, by decide +kernel⟩
theorem d__law_leaf {f : Addr} {cdv : Value} {A : Around} {outer : List Env} {s : Shared} {H : Hp} {E : XK} (B : Bl mg) (Z : Es K mg ct) (G : PF K ct P w mg base (n + 2) C T fns) (hr : Room (n + 3) (A.deeper (envOfC "_law_leaf" (defScope s__law_leaf) s.heap.objs.size f cdv))) :
  DSs (cxOf (L2.CX P w) P w K mg base ["cell", "names", "wide", "x", "low", "high"] "_law_leaf" (defScope s__law_leaf) f cdv A outer s H E) ct (defBody s__law_leaf) (b__law_leaf C) := by
  have sc := sc__law_leaf
  exact (dss_cons (ds_set (i := 3) sc.nd rfl (Or.inl rfl) (de_call G (Room.mono hr (Nat.le_succ _)) "_law_mixed" (by decide) (da_cons (de_var 0 (pv 0)) (da_cons de_int da_nil))))
  (dss_cons (ds_if (dt_lt (de_mod (de_var 3 (pv 3)) de_int) de_int)
    (dss_one (ds_ret (de_tup (da_cons (de_ixU (hu_of hr) (de_l (dl_disp (da_cons (de_str [97, 108, 108]) (da_cons (de_str [110, 111, 110, 101]) da_nil)))) (de_mod (de_var 3 (pv 3)) de_int)) da_nil))))
    dss_nil)
  (dss_cons (ds_set (i := 4) sc.nd rfl (Or.inl rfl) (de_call G (Room.mono hr (Nat.le_succ _)) "_law_value" (by decide) (da_cons (de_div (de_var 3 (pv 3)) de_int) (da_cons (de_var 2 (pv 2)) da_nil))))
  (dss_cons (ds_set (i := 5) sc.nd rfl (Or.inl rfl) (de_call G (Room.mono hr (Nat.le_succ _)) "_law_value" (by decide) (da_cons (de_call G (Room.mono hr (Nat.le_succ _)) "_law_mixed" (by decide) (da_cons (de_var 0 (pv 0)) (da_cons de_int da_nil))) (da_cons (de_var 2 (pv 2)) da_nil))))
  (dss_cons (ds_if (dt_eqU hr.units (de_mod (de_div (de_var 3 (pv 3)) de_int) de_int) de_int)
    (dss_one (ds_set (i := 5) sc.nd rfl (Or.inl rfl) (de_var 4 (pv 4))))
    dss_nil)
  (dss_one (ds_ret (de_tup (da_cons (de_str [105, 110]) (da_cons (de_ixU (hu_of hr) (de_var 1 (pv 1)) (de_mod (de_div (de_var 3 (pv 3)) de_int) de_int)) (da_cons (de_var 4 (pv 4)) (da_cons (de_var 5 (pv 5)) da_nil))))))))))))
theorem f__law_leaf {f : Addr} {fd : FuncData} (F : Fun K "_law_leaf" "_law_leaf" s__law_leaf f fd) (B : Bl mg) (Z : Es K mg ct) (G : PF K ct P w mg base (n + 2) C T fns) : FnOk P w K mg base (L2.CX P w) (n + 4) f fd ["cell", "names", "wide"] (spOf K ct (Mi.runF 3 6 (b__law_leaf C))) :=
  fn_sound F sc__law_leaf fun cdv A outer s H E hr => d__law_leaf B Z G hr
theorem sc__law_built : FnScope ["script", "most", "wide", "names", "items", "left", "nots", "cell", "x", "many", "deep", "item", "parts"] ["script", "most"] (defScope s__law_built) := ⟨rfl, rfl, rfl, by decide +kernel, rfl, by decide +kernel, by decide +kernel⟩
theorem d__law_built {f : Addr} {cdv : Value} {A : Around} {outer : List Env} {s : Shared} {H : Hp} {E : XK} (B : Bl mg) (Z : Es K mg ct) (G : PF K ct P w mg base (n + 2) C T fns) (hr : Room (n + 3) (A.deeper (envOfC "_law_built" (defScope s__law_built) s.heap.objs.size f cdv))) :
  DSs (cxOf (L2.CX P w) P w K mg base ["script", "most", "wide", "names", "items", "left", "nots", "cell", "x", "many", "deep", "item", "parts"] "_law_built" (defScope s__law_built) f cdv A outer s H E) ct (defBody s__law_built) (b__law_built C) := by
  have sc := sc__law_built
  exact (dss_cons (ds_set (i := 2) sc.nd rfl (Or.inl rfl) (de_eqU hr.units (de_mod (de_call G (Room.mono hr (Nat.le_succ _)) "_law_cell_at" (by decide) (da_cons (de_var 0 (pv 0)) (da_cons de_int da_nil))) de_int) de_int))
  (dss_cons (ds_set (i := 3) sc.nd rfl (Or.inl rfl) (de_call G (Room.mono hr (Nat.le_succ _)) "_law_names" (by decide) (da_cons (de_var 0 (pv 0)) (da_cons (de_ixU (hu_of hr) (de_l (dl_disp (da_cons de_int (da_cons de_int da_nil)))) (de_callTy (CallR.or2 call_int1 call_int_str) ok_cint2 rfl B.int_ boot_int (da_cons (de_var 2 (pv 2)) da_nil))) da_nil))))
  (dss_cons (ds_own (i := 4) sc.nd rfl (Or.inl rfl) (dl_disp da_nil))
  (dss_cons (ds_set (i := 5) sc.nd rfl (Or.inl rfl) (de_ixU (hu_of hr) (de_l (dl_disp (da_cons (de_var 1 (pv 1)) (da_cons (de_callB (call_min2 rfl) ok_min2 rfl B.min_ boot_min (da_cons (de_var 1 (pv 1)) (da_cons de_int da_nil))) da_nil)))) (de_callTy (CallR.or2 call_int1 call_int_str) ok_cint2 rfl B.int_ boot_int (da_cons (de_var 2 (pv 2)) da_nil))))
  (dss_cons (ds_set (i := 6) sc.nd rfl (Or.inl rfl) de_int)
  (dss_cons (ds_for (passes_of rfl) rfl (di_any (de_l (dl_cut (de_var 0 (pv 0)) (do_some de_int) (do_some de_int)))) (dg_n (i := 7) sc.nd rfl (Or.inl rfl))
    (dss_cons (ds_set (i := 8) sc.nd rfl (Or.inl rfl) (de_call G (Room.mono hr (Nat.le_succ _)) "_law_mixed" (by decide) (da_cons (de_var 7 (pv 7)) (da_cons de_int da_nil))))
  (dss_cons (ds_set (i := 9) sc.nd rfl (Or.inl rfl) (de_callB (call_min2 rfl) ok_min2 rfl B.min_ boot_min (da_cons (de_callB call_lenU ok_len rfl B.len_ boot_len (da_cons (de_var 4 (pv 4)) da_nil)) (da_cons (de_addU de_int (de_mod (de_div (de_var 8 (pv 8)) de_int) de_int)) da_nil))))
  (dss_cons (ds_set (i := 10) sc.nd rfl (Or.inl rfl) (de_maxD (by rfl) hr.units (by rfl) B.max_ (de_l (dl_comp rfl sc.nd (di_any (de_l (dl_cut (de_var 4 (pv 4)) (do_some (de_sub (de_callB call_lenU ok_len rfl B.len_ boot_len (da_cons (de_var 4 (pv 4)) da_nil)) (de_var 9 (pv 9)))) do_none))) (own := [("item", 11)]) (blkOk_by (N := ["script", "most", "wide", "names", "items", "left", "nots", "cell", "x", "many", "deep", "item", "parts"]) (sc := defScope s__law_built) (by decide +kernel)) (fun _ _ _ _ _ => (dg_n (i := 11) sc.nd rfl (Or.inl rfl))) (fun _ _ _ _ _ => dts_nil) (fun _ _ _ _ _ => (de_ixU (hu_of hr) (de_var 11 (pv 11)) de_int)) (fun _ h => h))) de_int))
  (dss_one (ds_if (DW.dt (dw_and (dt_gt (de_mod (de_var 8 (pv 8)) de_int) de_int) (dw_and (dt_gt (de_var 9 (pv 9)) de_int) (dw_and1 (dt_lt (de_var 10 (pv 10)) de_int)))))
    (dss_cons (ds_setLc (i := 12) rfl sc.nd rfl rfl (sw_true rfl rfl rfl (by decide +kernel)) (di_any (de_l (dl_cut (de_var 4 (pv 4)) (do_some (de_sub (de_callB call_lenU ok_len rfl B.len_ boot_len (da_cons (de_var 4 (pv 4)) da_nil)) (de_var 9 (pv 9)))) do_none))) (own := [("item", 11)]) (blkOk_by (N := ["script", "most", "wide", "names", "items", "left", "nots", "cell", "x", "many", "deep", "item", "parts"]) (sc := defScope s__law_built) (by decide +kernel)) (fun _ _ _ _ _ => (dg_n (i := 11) sc.nd rfl (Or.inl rfl))) (fun _ _ _ _ _ => dts_nil) (fun _ _ _ _ _ => (de_ixU (hu_of hr) (de_var 11 (pv 11)) de_int)) (fun _ h => h))
  (dss_one (ds_own (i := 4) sc.nd rfl (Or.inl rfl) (dl_cat (de_l (dl_cut (de_var 4 (pv 4)) do_none (do_some (de_sub (de_callB call_lenU ok_len rfl B.len_ boot_len (da_cons (de_var 4 (pv 4)) da_nil)) (de_var 9 (pv 9)))))) (de_l (dl_disp (da_cons (de_tup (da_cons (de_tup (da_cons (de_ixU (hu_of hr) (de_l (dl_disp (da_cons (de_str [97, 110, 100]) (da_cons (de_str [111, 114]) da_nil)))) (de_mod (de_div (de_var 8 (pv 8)) de_int) de_int)) (da_cons (de_var 12 (pv 12)) da_nil))) (da_cons (de_addU (de_var 10 (pv 10)) de_int) da_nil))) da_nil)))))))
    (dss_one (ds_if (DW.dt (dw_and (dt_eqU hr.units (de_mod (de_var 8 (pv 8)) de_int) de_int) (dw_and (dt_gt (de_var 6 (pv 6)) de_int) (dw_and (dt_gt (de_var 9 (pv 9)) de_int) (dw_and1 (dt_lt (de_var 10 (pv 10)) de_int))))))
    (dss_cons (ds_set (i := 6) sc.nd rfl (Or.inl rfl) (de_sub (de_var 6 (pv 6)) de_int))
  (dss_one (ds_own (i := 4) sc.nd rfl (Or.inl rfl) (dl_cat (de_l (dl_cut (de_var 4 (pv 4)) do_none (do_some (de_neg de_int)))) (de_l (dl_disp (da_cons (de_tup (da_cons (de_tup (da_cons (de_str [110, 111, 116]) (da_cons (de_ixU (hu_of hr) (de_ixU (hu_of hr) (de_var 4 (pv 4)) (de_neg de_int)) de_int) da_nil))) (da_cons (de_addU (de_ixU (hu_of hr) (de_ixU (hu_of hr) (de_var 4 (pv 4)) (de_neg de_int)) de_int) de_int) da_nil))) da_nil)))))))
    (dss_one (ds_if (dt_gt (de_var 5 (pv 5)) de_int)
    (dss_cons (ds_set (i := 5) sc.nd rfl (Or.inl rfl) (de_sub (de_var 5 (pv 5)) de_int))
  (dss_one (ds_ex (de_app (de_var 4 (pv 4)) (da_cons (de_tup (da_cons (de_call G (Room.mono hr (Nat.le_succ _)) "_law_leaf" (by decide) (da_cons (de_var 7 (pv 7)) (da_cons (de_var 3 (pv 3)) (da_cons (de_var 2 (pv 2)) da_nil)))) (da_cons de_int da_nil))) da_nil)))))
    dss_nil))))))))))
  (dss_cons (ds_if (dt_eqU hr.units (de_callB call_lenU ok_len rfl B.len_ boot_len (da_cons (de_var 4 (pv 4)) da_nil)) de_int)
    (dss_one (ds_ret (de_ixU (hu_of hr) (de_ixU (hu_of hr) (de_var 4 (pv 4)) de_int) de_int)))
    dss_nil)
  (dss_cons (ds_if (dt_eqU hr.units (de_var 4 (pv 4)) (de_l (dl_disp da_nil)))
    (dss_one (ds_ret (de_tup (da_cons (de_str [97, 108, 108]) da_nil))))
    dss_nil)
  (dss_one (ds_ret (de_tup (da_cons (de_ixU (hu_of hr) (de_l (dl_disp (da_cons (de_str [97, 110, 100]) (da_cons (de_str [111, 114]) da_nil)))) (de_mod (de_call G (Room.mono hr (Nat.le_succ _)) "_law_cell_at" (by decide) (da_cons (de_var 0 (pv 0)) (da_cons de_int da_nil))) de_int)) (da_cons (de_l (dl_comp rfl sc.nd (di_any (de_frz 4 (pv 4))) (own := [("item", 11)]) (blkOk_by (N := ["script", "most", "wide", "names", "items", "left", "nots", "cell", "x", "many", "deep", "item", "parts"]) (sc := defScope s__law_built) (by decide +kernel)) (fun _ _ _ _ _ => (dg_n (i := 11) sc.nd rfl (Or.inl rfl))) (fun _ _ _ _ _ => dts_nil) (fun _ _ _ _ _ => (de_ixU (hu_of hr) (de_var 11 (pv 11)) de_int)) (fun _ h => h))) da_nil)))))))))))))
theorem f__law_built {f : Addr} {fd : FuncData} (F : Fun K "_law_built" "_law_built" s__law_built f fd) (B : Bl mg) (Z : Es K mg ct) (G : PF K ct P w mg base (n + 2) C T fns) : FnOk P w K mg base (L2.CX P w) (n + 4) f fd ["script", "most"] (spOf K ct (Mi.runF 2 13 (b__law_built C))) :=
  fn_sound F sc__law_built fun cdv A outer s H E hr => d__law_built B Z G hr
theorem sc__law_wrapped : FnScope ["tree", "must", "loose", "words"] ["tree", "must", "loose"] (defScope s__law_wrapped) := ⟨rfl, rfl, rfl, by decide +kernel, rfl, by decide +kernel, by decide +kernel⟩
theorem d__law_wrapped {f : Addr} {cdv : Value} {A : Around} {outer : List Env} {s : Shared} {H : Hp} {E : XK} (B : Bl mg) (Z : Es K mg ct) (G : PF K ct P w mg base (n + 2) C T fns) (hr : Room (n + 3) (A.deeper (envOfC "_law_wrapped" (defScope s__law_wrapped) s.heap.objs.size f cdv))) :
  DSs (cxOf (L2.CX P w) P w K mg base ["tree", "must", "loose", "words"] "_law_wrapped" (defScope s__law_wrapped) f cdv A outer s H E) ct (defBody s__law_wrapped) (b__law_wrapped C) := by
  have sc := sc__law_wrapped
  exact (dss_cons (ds_set (i := 3) sc.nd rfl (Or.inl rfl) (de_call G (Room.mono hr (Nat.le_succ _)) "_law_words" (by decide) (da_cons (de_var 0 (pv 0)) (da_cons (de_var 2 (pv 2)) da_nil))))
  (dss_cons (ds_if (DW.dt (dw_or (dt_tru (de_var 1 (pv 1))) (dw_or1 (DW.dt (dw_and (dt_gt (de_var 2 (pv 2)) de_int) (dw_and1 (dt_eqU hr.units (de_mod (de_callB call_lenU ok_len rfl B.len_ boot_len (da_cons (de_var 3 (pv 3)) da_nil)) (de_var 2 (pv 2))) de_int)))))))
    (dss_one (ds_ret (de_addU (de_addU (de_l (dl_disp (da_cons (de_str [40]) da_nil))) (de_var 3 (pv 3))) (de_l (dl_disp (da_cons (de_str [41]) da_nil))))))
    dss_nil)
  (dss_one (ds_ret (de_var 3 (pv 3))))))
theorem f__law_wrapped {f : Addr} {fd : FuncData} (F : Fun K "_law_wrapped" "_law_wrapped" s__law_wrapped f fd) (B : Bl mg) (Z : Es K mg ct) (G : PF K ct P w mg base (n + 2) C T fns) : FnOk P w K mg base (L2.CX P w) (n + 4) f fd ["tree", "must", "loose"] (spOf K ct (Mi.runF 3 4 (b__law_wrapped C))) :=
  fn_sound F sc__law_wrapped fun cdv A outer s H E hr => d__law_wrapped B Z G hr
theorem sc__law_words : FnScope ["tree", "loose", "words", "part", "must"] ["tree", "loose"] (defScope s__law_words) := ⟨rfl, rfl, rfl, by decide +kernel, rfl, by decide +kernel, by decide +kernel⟩
theorem d__law_words {f : Addr} {cdv : Value} {A : Around} {outer : List Env} {s : Shared} {H : Hp} {E : XK} (B : Bl mg) (Z : Es K mg ct) (G : PF K ct P w mg base (n + 2) C T fns) (hr : Room (n + 3) (A.deeper (envOfC "_law_words" (defScope s__law_words) s.heap.objs.size f cdv))) :
  DSs (cxOf (L2.CX P w) P w K mg base ["tree", "loose", "words", "part", "must"] "_law_words" (defScope s__law_words) f cdv A outer s H E) ct (defBody s__law_words) (b__law_words C) := by
  have sc := sc__law_words
  exact (dss_cons (ds_if (DW.dt (dw_or (dt_eqU hr.units (de_ixU (hu_of hr) (de_var 0 (pv 0)) de_int) (de_str [97, 108, 108])) (dw_or1 (dt_eqU hr.units (de_ixU (hu_of hr) (de_var 0 (pv 0)) de_int) (de_str [110, 111, 110, 101])))))
    (dss_one (ds_ret (de_l (dl_disp (da_cons (de_ixU (hu_of hr) (de_var 0 (pv 0)) de_int) da_nil)))))
    dss_nil)
  (dss_cons (ds_if (DW.dt (dw_and (dt_eqU hr.units (de_ixU (hu_of hr) (de_var 0 (pv 0)) de_int) (de_str [105, 110])) (dw_and1 (dt_eqU hr.units (de_ixU (hu_of hr) (de_var 0 (pv 0)) de_int) (de_ixU (hu_of hr) (de_var 0 (pv 0)) de_int)))))
    (dss_one (ds_ret (de_l (dl_disp (da_cons (de_ixU (hu_of hr) (de_var 0 (pv 0)) de_int) (da_cons (de_str [105, 115]) (da_cons (de_callTy call_str_int ok_str rfl B.str_ boot_str (da_cons (de_ixU (hu_of hr) (de_var 0 (pv 0)) de_int) da_nil)) da_nil)))))))
    dss_nil)
  (dss_cons (ds_if (dt_eqU hr.units (de_ixU (hu_of hr) (de_var 0 (pv 0)) de_int) (de_str [105, 110]))
    (dss_one (ds_ret (de_l (dl_disp (da_cons (de_ixU (hu_of hr) (de_var 0 (pv 0)) de_int) (da_cons (de_str [102, 114, 111, 109]) (da_cons (de_callTy call_str_int ok_str rfl B.str_ boot_str (da_cons (de_ixU (hu_of hr) (de_var 0 (pv 0)) de_int) da_nil)) (da_cons (de_str [116, 111]) (da_cons (de_callTy call_str_int ok_str rfl B.str_ boot_str (da_cons (de_ixU (hu_of hr) (de_var 0 (pv 0)) de_int) da_nil)) da_nil)))))))))
    dss_nil)
  (dss_cons (ds_if (dt_eqU hr.units (de_ixU (hu_of hr) (de_var 0 (pv 0)) de_int) (de_str [110, 111, 116]))
    (dss_one (ds_ret (de_addU (de_l (dl_disp (da_cons (de_str [110, 111, 116]) da_nil))) (de_call G (Room.mono hr (Nat.le_succ _)) "_law_wrapped" (by decide) (da_cons (de_ixU (hu_of hr) (de_var 0 (pv 0)) de_int) (da_cons (de_inV (hu_of hr) (de_ixU (hu_of hr) (de_ixU (hu_of hr) (de_var 0 (pv 0)) de_int) de_int) (de_l (dl_disp (da_cons (de_str [97, 110, 100]) (da_cons (de_str [111, 114]) da_nil))))) (da_cons (de_var 1 (pv 1)) da_nil)))))))
    dss_nil)
  (dss_cons (ds_set (i := 2) sc.nd rfl (Or.inl rfl) (de_l (dl_disp da_nil)))
  (dss_cons (ds_for (passes_of rfl) rfl (di_any (de_ixU (hu_of hr) (de_var 0 (pv 0)) de_int)) (dg_n (i := 3) sc.nd rfl (Or.inl rfl))
    (dss_cons (ds_set (i := 4) sc.nd rfl (Or.inl rfl) (de_or (de_eqU hr.units (de_ixU (hu_of hr) (de_var 3 (pv 3)) de_int) (de_str [111, 114])) (de_one (de_and (de_eqU hr.units (de_ixU (hu_of hr) (de_var 3 (pv 3)) de_int) (de_str [97, 110, 100])) (de_one (de_eqU hr.units (de_ixU (hu_of hr) (de_var 0 (pv 0)) de_int) (de_str [97, 110, 100])))))))
  (dss_one (ds_set (i := 2) sc.nd rfl (Or.inl rfl) (de_addU (de_addU (de_var 2 (pv 2)) (de_l (dl_disp (da_cons (de_ixU (hu_of hr) (de_var 0 (pv 0)) de_int) da_nil)))) (de_call G (Room.mono hr (Nat.le_succ _)) "_law_wrapped" (by decide) (da_cons (de_var 3 (pv 3)) (da_cons (de_var 4 (pv 4)) (da_cons (de_var 1 (pv 1)) da_nil)))))))))
  (dss_one (ds_ret (de_l (dl_cut (de_var 2 (pv 2)) (do_some de_int) do_none))))))))))
theorem f__law_words {f : Addr} {fd : FuncData} (F : Fun K "_law_words" "_law_words" s__law_words f fd) (B : Bl mg) (Z : Es K mg ct) (G : PF K ct P w mg base (n + 2) C T fns) : FnOk P w K mg base (L2.CX P w) (n + 4) f fd ["tree", "loose"] (spOf K ct (Mi.runF 2 5 (b__law_words C))) :=
  fn_sound F sc__law_words fun cdv A outer s H E hr => d__law_words B Z G hr
theorem sc__law_spaced : FnScope ["words", "cell", "text", "before", "k", "x", "tight"] ["words", "cell"] (defScope s__law_spaced) := ⟨rfl, rfl, rfl, by decide +kernel, rfl, by decide +kernel, by decide +kernel⟩
theorem d__law_spaced {f : Addr} {cdv : Value} {A : Around} {outer : List Env} {s : Shared} {H : Hp} {E : XK} (B : Bl mg) (Z : Es K mg ct) (G : PF K ct P w mg base (n + 2) C T fns) (hr : Room (n + 3) (A.deeper (envOfC "_law_spaced" (defScope s__law_spaced) s.heap.objs.size f cdv))) :
  DSs (cxOf (L2.CX P w) P w K mg base ["words", "cell", "text", "before", "k", "x", "tight"] "_law_spaced" (defScope s__law_spaced) f cdv A outer s H E) ct (defBody s__law_spaced) (b__law_spaced C) := by
  have sc := sc__law_spaced
  exact (dss_cons (ds_set (i := 2) sc.nd rfl (Or.inl rfl) (de_cutT (de_str [32, 32]) do_none (do_some (de_mod (de_var 1 (pv 1)) de_int))))
  (dss_cons (ds_set (i := 3) sc.nd rfl (Or.inl rfl) (de_str [40]))
  (dss_cons (ds_for (passes_of rfl) rfl (di_rg1 rfl B.range_ (da_cons (de_callB call_lenU ok_len rfl B.len_ boot_len (da_cons (de_var 0 (pv 0)) da_nil)) da_nil)) (dg_n (i := 4) sc.nd rfl (Or.inl rfl))
    (dss_cons (ds_set (i := 5) sc.nd rfl (Or.inl rfl) (de_call G (Room.mono hr (Nat.le_succ _)) "_law_mixed" (by decide) (da_cons (de_var 1 (pv 1)) (da_cons (de_addU (de_var 4 (pv 4)) de_int) da_nil))))
  (dss_cons (ds_set (i := 6) sc.nd rfl (Or.inl rfl) (de_or (de_inV (hu_of hr) (de_var 3 (pv 3)) (de_str [40, 41])) (de_one (de_inV (hu_of hr) (de_ixU (hu_of hr) (de_var 0 (pv 0)) (de_var 4 (pv 4))) (de_str [40, 41])))))
  (dss_cons (ds_if (DW.dt (dw_and (dt_gt (de_var 4 (pv 4)) de_int) (dw_and1 (DW.dt (dw_or (dt_not (dt_tru (de_var 6 (pv 6)))) (dw_or1 (dt_eqU hr.units (de_mod (de_var 5 (pv 5)) de_int) de_int)))))))
    (dss_one (ds_set (i := 2) sc.nd rfl (Or.inl rfl) (de_addU (de_var 2 (pv 2)) (de_str [32]))))
    dss_nil)
  (dss_cons (ds_if (DW.dt (dw_and (dt_eqU hr.units (de_mod (de_var 4 (pv 4)) de_int) de_int) (dw_and1 (dt_eqU hr.units (de_mod (de_var 5 (pv 5)) de_int) de_int))))
    (dss_one (ds_set (i := 2) sc.nd rfl (Or.inl rfl) (de_addU (de_var 2 (pv 2)) (de_str [32]))))
    dss_nil)
  (dss_cons (ds_set (i := 2) sc.nd rfl (Or.inl rfl) (de_addU (de_var 2 (pv 2)) (de_ixU (hu_of hr) (de_var 0 (pv 0)) (de_var 4 (pv 4)))))
  (dss_one (ds_set (i := 3) sc.nd rfl (Or.inl rfl) (de_ixU (hu_of hr) (de_var 0 (pv 0)) (de_var 4 (pv 4)))))))))))
  (dss_one (ds_ret (de_addU (de_var 2 (pv 2)) (de_cutT (de_str [32, 32]) do_none (do_some (de_mod (de_div (de_var 1 (pv 1)) de_int) de_int)))))))))
theorem f__law_spaced {f : Addr} {fd : FuncData} (F : Fun K "_law_spaced" "_law_spaced" s__law_spaced f fd) (B : Bl mg) (Z : Es K mg ct) (G : PF K ct P w mg base (n + 2) C T fns) : FnOk P w K mg base (L2.CX P w) (n + 4) f fd ["words", "cell"] (spOf K ct (Mi.runF 2 7 (b__law_spaced C))) :=
  fn_sound F sc__law_spaced fun cdv A outer s H E hr => d__law_spaced B Z G hr
theorem sc__law_split : FnScope ["text", "found", "start", "k"] ["text"] (defScope s__law_split) := ⟨rfl, rfl, rfl, by decide +kernel, rfl, by decide +kernel, by decide +kernel⟩
theorem d__law_split {f : Addr} {cdv : Value} {A : Around} {outer : List Env} {s : Shared} {H : Hp} {E : XK} (B : Bl mg) (Z : Es K mg ct) (G : PF K ct P w mg base (n + 2) C T fns) (hr : Room (n + 3) (A.deeper (envOfC "_law_split" (defScope s__law_split) s.heap.objs.size f cdv))) :
  DSs (cxOf (L2.CX P w) P w K mg base ["text", "found", "start", "k"] "_law_split" (defScope s__law_split) f cdv A outer s H E) ct (defBody s__law_split) (b__law_split C) := by
  have sc := sc__law_split
  exact (dss_cons (ds_own (i := 1) sc.nd rfl (Or.inl rfl) (dl_disp da_nil))
  (dss_cons (ds_set (i := 2) sc.nd rfl (Or.inl rfl) de_int)
  (dss_cons (ds_for (passes_of rfl) rfl (di_rg1 rfl B.range_ (da_cons (de_addU (de_callB call_lenU ok_len rfl B.len_ boot_len (da_cons (de_var 0 (pv 0)) da_nil)) de_int) da_nil)) (dg_n (i := 3) sc.nd rfl (Or.inl rfl))
    (dss_one (ds_if (DW.dt (dw_or (dt_eqU hr.units (de_var 3 (pv 3)) (de_callB call_lenU ok_len rfl B.len_ boot_len (da_cons (de_var 0 (pv 0)) da_nil))) (dw_or1 (dt_inV (hu_of hr) (de_ixU (hu_of hr) (de_var 0 (pv 0)) (de_var 3 (pv 3))) (de_str [32, 40, 41])))))
    (dss_cons (ds_if (dt_lt (de_var 2 (pv 2)) (de_var 3 (pv 3)))
    (dss_one (ds_ex (de_app (de_var 1 (pv 1)) (da_cons (de_tup (da_cons (de_var 2 (pv 2)) (da_cons (de_cutT (de_var 0 (pv 0)) (do_some (de_var 2 (pv 2))) (do_some (de_var 3 (pv 3)))) da_nil))) da_nil))))
    dss_nil)
  (dss_cons (ds_if (DW.dt (dw_and (dt_lt (de_var 3 (pv 3)) (de_callB call_lenU ok_len rfl B.len_ boot_len (da_cons (de_var 0 (pv 0)) da_nil))) (dw_and1 (dt_neU hr.units (de_ixU (hu_of hr) (de_var 0 (pv 0)) (de_var 3 (pv 3))) (de_str [32])))))
    (dss_one (ds_ex (de_app (de_var 1 (pv 1)) (da_cons (de_tup (da_cons (de_var 3 (pv 3)) (da_cons (de_ixU (hu_of hr) (de_var 0 (pv 0)) (de_var 3 (pv 3))) da_nil))) da_nil))))
    dss_nil)
  (dss_one (ds_set (i := 2) sc.nd rfl (Or.inl rfl) (de_addU (de_var 3 (pv 3)) de_int)))))
    dss_nil)))
  (dss_one (ds_ret (de_frz 1 (pv 1)))))))
theorem f__law_split {f : Addr} {fd : FuncData} (F : Fun K "_law_split" "_law_split" s__law_split f fd) (B : Bl mg) (Z : Es K mg ct) (G : PF K ct P w mg base (n + 2) C T fns) : FnOk P w K mg base (L2.CX P w) (n + 4) f fd ["text"] (spOf K ct (Mi.runF 1 4 (b__law_split C))) :=
  fn_sound F sc__law_split fun cdv A outer s H E hr => d__law_split B Z G hr
theorem sc__law_is_name : FnScope ["word", "sign"] ["word"] (defScope s__law_is_name) := ⟨rfl, rfl, rfl, by decide +kernel, rfl, by decide +kernel, by decide +kernel⟩
theorem d__law_is_name {f : Addr} {cdv : Value} {A : Around} {outer : List Env} {s : Shared} {H : Hp} {E : XK} (B : Bl mg) (Z : Es K mg ct) (G : PF K ct P w mg base (n + 2) C T fns) (hr : Room (n + 3) (A.deeper (envOfC "_law_is_name" (defScope s__law_is_name) s.heap.objs.size f cdv))) :
  DSs (cxOf (L2.CX P w) P w K mg base ["word", "sign"] "_law_is_name" (defScope s__law_is_name) f cdv A outer s H E) ct (defBody s__law_is_name) (b__law_is_name C) := by
  have sc := sc__law_is_name
  exact (dss_cons (ds_if (DW.dt (dw_or (dt_gt (de_callB call_lenU ok_len rfl B.len_ boot_len (da_cons (de_var 0 (pv 0)) da_nil)) de_int) (dw_or1 (dt_inV (hu_of hr) (de_var 0 (pv 0)) (de_l (dl_disp (da_cons (de_str [97, 110, 100]) (da_cons (de_str [111, 114]) (da_cons (de_str [110, 111, 116]) (da_cons (de_str [97, 108, 108]) (da_cons (de_str [110, 111, 110, 101]) (da_cons (de_str [105, 115]) (da_cons (de_str [102, 114, 111, 109]) (da_cons (de_str [116, 111]) da_nil))))))))))))))
    (dss_one (ds_ret de_bl))
    dss_nil)
  (dss_one (ds_ret (de_eqU hr.units (de_callB call_lenU ok_len rfl B.len_ boot_len (da_cons (de_l (dl_comp rfl sc.nd (di_any (de_var 0 (pv 0))) (own := [("sign", 1)]) (blkOk_by (N := ["word", "sign"]) (sc := defScope s__law_is_name) (by decide +kernel)) (fun _ _ _ _ _ => (dg_n (i := 1) sc.nd rfl (Or.inl rfl))) (fun _ _ _ _ _ => (dts_one (dt_inV (hu_of hr) (de_var 1 (pv 1)) (de_str [97, 98, 99, 100, 101, 102, 103, 104, 105, 106, 107, 108, 109, 110, 111, 112, 113, 114, 115, 116, 117, 118, 119, 120, 121, 122])))) (fun _ _ _ _ _ => (de_var 1 (pv 1))) (fun _ h => h))) da_nil)) (de_callB call_lenU ok_len rfl B.len_ boot_len (da_cons (de_var 0 (pv 0)) da_nil))))))
theorem f__law_is_name {f : Addr} {fd : FuncData} (F : Fun K "_law_is_name" "_law_is_name" s__law_is_name f fd) (B : Bl mg) (Z : Es K mg ct) (G : PF K ct P w mg base (n + 2) C T fns) : FnOk P w K mg base (L2.CX P w) (n + 4) f fd ["word"] (spOf K ct (Mi.runF 1 2 (b__law_is_name C))) :=
  fn_sound F sc__law_is_name fun cdv A outer s H E hr => d__law_is_name B Z G hr
theorem sc__law_are_figures : FnScope ["word", "sign"] ["word"] (defScope s__law_are_figures) := ⟨rfl, rfl, rfl, by decide +kernel, rfl, by decide +kernel, by decide +kernel⟩
theorem d__law_are_figures {f : Addr} {cdv : Value} {A : Around} {outer : List Env} {s : Shared} {H : Hp} {E : XK} (B : Bl mg) (Z : Es K mg ct) (G : PF K ct P w mg base (n + 2) C T fns) (hr : Room (n + 3) (A.deeper (envOfC "_law_are_figures" (defScope s__law_are_figures) s.heap.objs.size f cdv))) :
  DSs (cxOf (L2.CX P w) P w K mg base ["word", "sign"] "_law_are_figures" (defScope s__law_are_figures) f cdv A outer s H E) ct (defBody s__law_are_figures) (b__law_are_figures C) := by
  have sc := sc__law_are_figures
  exact (dss_cons (ds_if (DW.dt (dw_or (dt_gt (de_callB call_lenU ok_len rfl B.len_ boot_len (da_cons (de_var 0 (pv 0)) da_nil)) de_int) (dw_or1 (DW.dt (dw_and (dt_eqU hr.units (de_ixU (hu_of hr) (de_var 0 (pv 0)) de_int) (de_str [48])) (dw_and1 (dt_gt (de_callB call_lenU ok_len rfl B.len_ boot_len (da_cons (de_var 0 (pv 0)) da_nil)) de_int)))))))
    (dss_one (ds_ret de_bl))
    dss_nil)
  (dss_one (ds_ret (de_eqU hr.units (de_callB call_lenU ok_len rfl B.len_ boot_len (da_cons (de_l (dl_comp rfl sc.nd (di_any (de_var 0 (pv 0))) (own := [("sign", 1)]) (blkOk_by (N := ["word", "sign"]) (sc := defScope s__law_are_figures) (by decide +kernel)) (fun _ _ _ _ _ => (dg_n (i := 1) sc.nd rfl (Or.inl rfl))) (fun _ _ _ _ _ => (dts_one (dt_inV (hu_of hr) (de_var 1 (pv 1)) (de_str [48, 49, 50, 51, 52, 53, 54, 55, 56, 57])))) (fun _ _ _ _ _ => (de_var 1 (pv 1))) (fun _ h => h))) da_nil)) (de_callB call_lenU ok_len rfl B.len_ boot_len (da_cons (de_var 0 (pv 0)) da_nil))))))
theorem f__law_are_figures {f : Addr} {fd : FuncData} (F : Fun K "_law_are_figures" "_law_are_figures" s__law_are_figures f fd) (B : Bl mg) (Z : Es K mg ct) (G : PF K ct P w mg base (n + 2) C T fns) : FnOk P w K mg base (L2.CX P w) (n + 4) f fd ["word"] (spOf K ct (Mi.runF 1 2 (b__law_are_figures C))) :=
  fn_sound F sc__law_are_figures fun cdv A outer s H E hr => d__law_are_figures B Z G hr
theorem sc__law_begun : FnScope ["word", "open_ones"] ["word", "open_ones"] (defScope s__law_begun) := ⟨rfl, rfl, rfl, by decide +kernel, rfl, by decide +kernel, by decide +kernel⟩
theorem d__law_begun {f : Addr} {cdv : Value} {A : Around} {outer : List Env} {s : Shared} {H : Hp} {E : XK} (B : Bl mg) (Z : Es K mg ct) (G : PF K ct P w mg base (n + 2) C T fns) (hr : Room (n + 3) (A.deeper (envOfC "_law_begun" (defScope s__law_begun) s.heap.objs.size f cdv))) :
  DSs (cxOf (L2.CX P w) P w K mg base ["word", "open_ones"] "_law_begun" (defScope s__law_begun) f cdv A outer s H E) ct (defBody s__law_begun) (b__law_begun C) := by
  have sc := sc__law_begun
  exact (dss_cons (ds_if (DW.dt (dw_or (dt_eqU hr.units (de_var 0 (pv 0)) (de_str [110, 111, 116])) (dw_or1 (dt_eqU hr.units (de_var 0 (pv 0)) (de_str [40])))))
    (dss_cons (ds_if (dt_eqU hr.units (de_callB call_lenU ok_len rfl B.len_ boot_len (da_cons (de_var 1 (pv 1)) da_nil)) de_int)
    (dss_one (ds_ret de_non))
    dss_nil)
  (dss_cons (ds_ex (de_app (de_var 1 (pv 1)) (da_cons (de_var 0 (pv 0)) da_nil)))
  (dss_one (ds_ret (de_str [112, 105, 101, 99, 101])))))
    dss_nil)
  (dss_cons (ds_if (DW.dt (dw_or (dt_eqU hr.units (de_var 0 (pv 0)) (de_str [97, 108, 108])) (dw_or1 (dt_eqU hr.units (de_var 0 (pv 0)) (de_str [110, 111, 110, 101])))))
    (dss_one (ds_ret (de_call G (Room.mono hr (Nat.le_succ _)) "_law_ended" (by decide) (da_cons (de_var 1 (pv 1)) da_nil))))
    dss_nil)
  (dss_cons (ds_if (dt_tru (de_call G (Room.mono hr (Nat.le_succ _)) "_law_is_name" (by decide) (da_cons (de_var 0 (pv 0)) da_nil)))
    (dss_one (ds_ret (de_str [110, 97, 109, 101])))
    dss_nil)
  (dss_one (ds_ret de_non)))))
theorem f__law_begun {f : Addr} {fd : FuncData} (F : Fun K "_law_begun" "_law_begun" s__law_begun f fd) (B : Bl mg) (Z : Es K mg ct) (G : PF K ct P w mg base (n + 2) C T fns) : FnOk P w K mg base (L2.CX P w) (n + 4) f fd ["word", "open_ones"] (spOf K ct (Mi.runF 2 2 (b__law_begun C))) :=
  fn_sound F sc__law_begun fun cdv A outer s H E hr => d__law_begun B Z G hr
theorem sc__law_ended : FnScope ["open_ones"] ["open_ones"] (defScope s__law_ended) := ⟨rfl, rfl, rfl, by decide +kernel, rfl, by decide +kernel, by decide +kernel⟩
theorem d__law_ended {f : Addr} {cdv : Value} {A : Around} {outer : List Env} {s : Shared} {H : Hp} {E : XK} (B : Bl mg) (Z : Es K mg ct) (G : PF K ct P w mg base (n + 2) C T fns) (hr : Room (n + 3) (A.deeper (envOfC "_law_ended" (defScope s__law_ended) s.heap.objs.size f cdv))) :
  DSs (cxOf (L2.CX P w) P w K mg base ["open_ones"] "_law_ended" (defScope s__law_ended) f cdv A outer s H E) ct (defBody s__law_ended) (b__law_ended C) := by
  have sc := sc__law_ended
  exact (dss_cons (ds_while (passes_of rfl) (DW.dt (dw_and (dt_neU hr.units (de_var 0 (pv 0)) (de_l (dl_disp da_nil))) (dw_and1 (dt_eqU hr.units (de_ixU (hu_of hr) (de_var 0 (pv 0)) (de_neg de_int)) (de_str [110, 111, 116])))))
    (dss_one (ds_ex (de_pop (de_var 0 (pv 0))))))
  (dss_one (ds_ret (de_str [98, 101, 104, 105, 110, 100]))))
theorem f__law_ended {f : Addr} {fd : FuncData} (F : Fun K "_law_ended" "_law_ended" s__law_ended f fd) (B : Bl mg) (Z : Es K mg ct) (G : PF K ct P w mg base (n + 2) C T fns) : FnOk P w K mg base (L2.CX P w) (n + 4) f fd ["open_ones"] (spOf K ct (Mi.runF 1 1 (b__law_ended C))) :=
  fn_sound F sc__law_ended fun cdv A outer s H E hr => d__law_ended B Z G hr
theorem sc__law_next : FnScope ["state", "word", "open_ones"] ["state", "word", "open_ones"] (defScope s__law_next) := ⟨rfl, rfl, rfl, by decide +kernel, rfl, by decide +kernel, by decide +kernel⟩
theorem d__law_next {f : Addr} {cdv : Value} {A : Around} {outer : List Env} {s : Shared} {H : Hp} {E : XK} (B : Bl mg) (Z : Es K mg ct) (G : PF K ct P w mg base (n + 2) C T fns) (hr : Room (n + 3) (A.deeper (envOfC "_law_next" (defScope s__law_next) s.heap.objs.size f cdv))) :
  DSs (cxOf (L2.CX P w) P w K mg base ["state", "word", "open_ones"] "_law_next" (defScope s__law_next) f cdv A outer s H E) ct (defBody s__law_next) (b__law_next C) := by
  have sc := sc__law_next
  exact (dss_cons (ds_if (dt_eqU hr.units (de_var 0 (pv 0)) (de_str [112, 105, 101, 99, 101]))
    (dss_one (ds_ret (de_call G (Room.mono hr (Nat.le_succ _)) "_law_begun" (by decide) (da_cons (de_var 1 (pv 1)) (da_cons (de_var 2 (pv 2)) da_nil)))))
    dss_nil)
  (dss_cons (ds_if (DW.dt (dw_and (dt_eqU hr.units (de_var 0 (pv 0)) (de_str [98, 101, 104, 105, 110, 100])) (dw_and (dt_eqU hr.units (de_var 1 (pv 1)) (de_str [41])) (dw_and1 (dt_neU hr.units (de_var 2 (pv 2)) (de_l (dl_disp da_nil)))))))
    (dss_cons (ds_ex (de_pop (de_var 2 (pv 2))))
  (dss_one (ds_ret (de_call G (Room.mono hr (Nat.le_succ _)) "_law_ended" (by decide) (da_cons (de_var 2 (pv 2)) da_nil)))))
    dss_nil)
  (dss_cons (ds_if (DW.dt (dw_and (dt_eqU hr.units (de_var 0 (pv 0)) (de_str [98, 101, 104, 105, 110, 100])) (dw_and1 (DW.dt (dw_or (dt_eqU hr.units (de_var 1 (pv 1)) (de_str [97, 110, 100])) (dw_or1 (dt_eqU hr.units (de_var 1 (pv 1)) (de_str [111, 114]))))))))
    (dss_one (ds_ret (de_str [112, 105, 101, 99, 101])))
    dss_nil)
  (dss_cons (ds_if (DW.dt (dw_or (DW.dt (dw_and (dt_eqU hr.units (de_var 0 (pv 0)) (de_str [110, 97, 109, 101])) (dw_and1 (dt_eqU hr.units (de_var 1 (pv 1)) (de_str [105, 115]))))) (dw_or1 (DW.dt (dw_and (dt_eqU hr.units (de_var 0 (pv 0)) (de_str [116, 111])) (dw_and1 (dt_eqU hr.units (de_var 1 (pv 1)) (de_str [116, 111]))))))))
    (dss_one (ds_ret (de_str [108, 97, 115, 116])))
    dss_nil)
  (dss_cons (ds_if (DW.dt (dw_and (dt_eqU hr.units (de_var 0 (pv 0)) (de_str [110, 97, 109, 101])) (dw_and1 (dt_eqU hr.units (de_var 1 (pv 1)) (de_str [102, 114, 111, 109])))))
    (dss_one (ds_ret (de_str [102, 105, 114, 115, 116])))
    dss_nil)
  (dss_cons (ds_if (DW.dt (dw_and (dt_eqU hr.units (de_var 0 (pv 0)) (de_str [102, 105, 114, 115, 116])) (dw_and1 (dt_tru (de_call G (Room.mono hr (Nat.le_succ _)) "_law_are_figures" (by decide) (da_cons (de_var 1 (pv 1)) da_nil))))))
    (dss_one (ds_ret (de_str [116, 111])))
    dss_nil)
  (dss_cons (ds_if (DW.dt (dw_and (dt_eqU hr.units (de_var 0 (pv 0)) (de_str [108, 97, 115, 116])) (dw_and1 (dt_tru (de_call G (Room.mono hr (Nat.le_succ _)) "_law_are_figures" (by decide) (da_cons (de_var 1 (pv 1)) da_nil))))))
    (dss_one (ds_ret (de_call G (Room.mono hr (Nat.le_succ _)) "_law_ended" (by decide) (da_cons (de_var 2 (pv 2)) da_nil))))
    dss_nil)
  (dss_one (ds_ret de_non)))))))))
theorem f__law_next {f : Addr} {fd : FuncData} (F : Fun K "_law_next" "_law_next" s__law_next f fd) (B : Bl mg) (Z : Es K mg ct) (G : PF K ct P w mg base (n + 2) C T fns) : FnOk P w K mg base (L2.CX P w) (n + 4) f fd ["state", "word", "open_ones"] (spOf K ct (Mi.runF 3 3 (b__law_next C))) :=
  fn_sound F sc__law_next fun cdv A outer s H E hr => d__law_next B Z G hr
theorem sc__law_fault : FnScope ["text", "state", "open_ones", "place", "word"] ["text"] (defScope s__law_fault) := ⟨rfl, rfl, rfl, by decide +kernel, rfl, by decide +kernel, by decide +kernel⟩
theorem d__law_fault {f : Addr} {cdv : Value} {A : Around} {outer : List Env} {s : Shared} {H : Hp} {E : XK} (B : Bl mg) (Z : Es K mg ct) (G : PF K ct P w mg base (n + 2) C T fns) (hr : Room (n + 3) (A.deeper (envOfC "_law_fault" (defScope s__law_fault) s.heap.objs.size f cdv))) :
  DSs (cxOf (L2.CX P w) P w K mg base ["text", "state", "open_ones", "place", "word"] "_law_fault" (defScope s__law_fault) f cdv A outer s H E) ct (defBody s__law_fault) (b__law_fault C) := by
  have sc := sc__law_fault
  exact (dss_cons (ds_set (i := 1) sc.nd rfl (Or.inl rfl) (de_str [112, 105, 101, 99, 101]))
  (dss_cons (ds_set (i := 2) sc.nd rfl (Or.inl rfl) (de_newL (dl_disp da_nil)))
  (dss_cons (ds_for (passes_of rfl) rfl (di_any (de_call G (Room.mono hr (Nat.le_succ _)) "_law_split" (by decide) (da_cons (de_var 0 (pv 0)) da_nil))) (dg_t rfl (dgs_cons (i := 3) sc.nd rfl (Or.inl rfl) (dgs_cons (i := 4) sc.nd rfl (Or.inl rfl) dgs_nil)))
    (dss_cons (ds_set (i := 1) sc.nd rfl (Or.inl rfl) (de_call G (Room.mono hr (Nat.le_succ _)) "_law_next" (by decide) (da_cons (de_var 1 (pv 1)) (da_cons (de_var 4 (pv 4)) (da_cons (de_var 2 (pv 2)) da_nil)))))
  (dss_one (ds_if (dt_isN (de_var 1 (pv 1)) de_non)
    (dss_one (ds_ret (de_var 3 (pv 3))))
    dss_nil))))
  (dss_cons (ds_if (DW.dt (dw_and (dt_eqU hr.units (de_var 1 (pv 1)) (de_str [98, 101, 104, 105, 110, 100])) (dw_and1 (dt_eqU hr.units (de_var 2 (pv 2)) (de_l (dl_disp da_nil))))))
    (dss_one (ds_ret de_non))
    dss_nil)
  (dss_one (ds_ret (de_callB call_lenU ok_len rfl B.len_ boot_len (da_cons (de_var 0 (pv 0)) da_nil))))))))
theorem f__law_fault {f : Addr} {fd : FuncData} (F : Fun K "_law_fault" "_law_fault" s__law_fault f fd) (B : Bl mg) (Z : Es K mg ct) (G : PF K ct P w mg base (n + 2) C T fns) : FnOk P w K mg base (L2.CX P w) (n + 4) f fd ["text"] (spOf K ct (Mi.runF 1 5 (b__law_fault C))) :=
  fn_sound F sc__law_fault fun cdv A outer s H E hr => d__law_fault B Z G hr
theorem sc__law_odd_word : FnScope ["x", "some"] ["x"] (defScope s__law_odd_word) := ⟨rfl, rfl, rfl, by decide +kernel, rfl, by decide +kernel, by decide +kernel⟩
theorem d__law_odd_word {f : Addr} {cdv : Value} {A : Around} {outer : List Env} {s : Shared} {H : Hp} {E : XK} (B : Bl mg) (Z : Es K mg ct) (G : PF K ct P w mg base (n + 2) C T fns) (hr : Room (n + 3) (A.deeper (envOfC "_law_odd_word" (defScope s__law_odd_word) s.heap.objs.size f cdv))) :
  DSs (cxOf (L2.CX P w) P w K mg base ["x", "some"] "_law_odd_word" (defScope s__law_odd_word) f cdv A outer s H E) ct (defBody s__law_odd_word) (b__law_odd_word C) := by
  have sc := sc__law_odd_word
  exact (dss_cons (ds_set (i := 1) sc.nd rfl (Or.inl rfl) (de_l (dl_disp (da_cons (de_str [40]) (da_cons (de_str [41]) (da_cons (de_str [97, 110, 100]) (da_cons (de_str [111, 114]) (da_cons (de_str [110, 111, 116]) (da_cons (de_str [97, 108, 108]) (da_cons (de_str [110, 111, 110, 101]) (da_cons (de_str [105, 115]) (da_cons (de_str [102, 114, 111, 109]) (da_cons (de_str [116, 111]) (da_cons (de_str [55]) (da_cons (de_str [48]) (da_cons (de_str [48, 48, 55]) (da_cons (de_str [49, 50, 51, 52, 53, 54, 55, 56, 57, 48, 49, 50, 51]) da_nil)))))))))))))))))
  (dss_cons (ds_set (i := 1) sc.nd rfl (Or.inl rfl) (de_addU (de_var 1 (pv 1)) (de_l (dl_disp (da_cons (de_str [97]) (da_cons (de_str [122, 122]) (da_cons (de_str [97, 98, 99, 100, 101, 102, 103, 104, 105]) (da_cons (de_str [97, 49]) (da_cons (de_str [65, 110, 100]) (da_cons (de_str [65, 76, 76]) (da_cons (de_str [49, 97]) (da_cons (de_str [45, 49]) (da_cons (de_str [49, 46, 53]) (da_cons (de_str [61]) (da_cons (de_str [38]) (da_cons (de_str [97, 95, 98]) (da_cons (de_str [120, 44]) da_nil)))))))))))))))))
  (dss_one (ds_ret (de_ixU (hu_of hr) (de_addU (de_var 1 (pv 1)) (de_l (dl_disp (da_cons (de_str [34]) (da_cons (de_str [10]) (da_cons (de_str [9]) da_nil)))))) (de_mod (de_var 0 (pv 0)) de_int))))))
theorem f__law_odd_word {f : Addr} {fd : FuncData} (F : Fun K "_law_odd_word" "_law_odd_word" s__law_odd_word f fd) (B : Bl mg) (Z : Es K mg ct) (G : PF K ct P w mg base (n + 2) C T fns) : FnOk P w K mg base (L2.CX P w) (n + 4) f fd ["x"] (spOf K ct (Mi.runF 1 2 (b__law_odd_word C))) :=
  fn_sound F sc__law_odd_word fun cdv A outer s H E hr => d__law_odd_word B Z G hr
theorem sc__law_spoilt : FnScope ["words", "script", "x", "at", "odd"] ["words", "script"] (defScope s__law_spoilt) := ⟨rfl, rfl, rfl, by decide +kernel, rfl, by decide +kernel, by decide +kernel⟩
theorem d__law_spoilt {f : Addr} {cdv : Value} {A : Around} {outer : List Env} {s : Shared} {H : Hp} {E : XK} (B : Bl mg) (Z : Es K mg ct) (G : PF K ct P w mg base (n + 2) C T fns) (hr : Room (n + 3) (A.deeper (envOfC "_law_spoilt" (defScope s__law_spoilt) s.heap.objs.size f cdv))) :
  DSs (cxOf (L2.CX P w) P w K mg base ["words", "script", "x", "at", "odd"] "_law_spoilt" (defScope s__law_spoilt) f cdv A outer s H E) ct (defBody s__law_spoilt) (b__law_spoilt C) := by
  have sc := sc__law_spoilt
  exact (dss_cons (ds_set (i := 2) sc.nd rfl (Or.inl rfl) (de_call G (Room.mono hr (Nat.le_succ _)) "_law_mixed" (by decide) (da_cons (de_call G (Room.mono hr (Nat.le_succ _)) "_law_cell_at" (by decide) (da_cons (de_var 1 (pv 1)) (da_cons de_int da_nil))) (da_cons de_int da_nil))))
  (dss_cons (ds_set (i := 3) sc.nd rfl (Or.inl rfl) (de_mod (de_div (de_var 2 (pv 2)) de_int) (de_callB call_lenU ok_len rfl B.len_ boot_len (da_cons (de_var 0 (pv 0)) da_nil))))
  (dss_cons (ds_set (i := 4) sc.nd rfl (Or.inl rfl) (de_call G (Room.mono hr (Nat.le_succ _)) "_law_odd_word" (by decide) (da_cons (de_call G (Room.mono hr (Nat.le_succ _)) "_law_mixed" (by decide) (da_cons (de_call G (Room.mono hr (Nat.le_succ _)) "_law_cell_at" (by decide) (da_cons (de_var 1 (pv 1)) (da_cons de_int da_nil))) (da_cons de_int da_nil))) da_nil)))
  (dss_cons (ds_if (dt_eqU hr.units (de_mod (de_var 2 (pv 2)) de_int) de_int)
    (dss_one (ds_ret (de_addU (de_l (dl_cut (de_var 0 (pv 0)) do_none (do_some (de_var 3 (pv 3))))) (de_l (dl_cut (de_var 0 (pv 0)) (do_some (de_addU (de_var 3 (pv 3)) de_int)) do_none)))))
    dss_nil)
  (dss_cons (ds_if (DW.dt (dw_or (dt_eqU hr.units (de_mod (de_var 2 (pv 2)) de_int) de_int) (dw_or1 (dt_eqU hr.units (de_mod (de_var 2 (pv 2)) de_int) de_int))))
    (dss_one (ds_ret (de_addU (de_addU (de_l (dl_cut (de_var 0 (pv 0)) do_none (do_some (de_var 3 (pv 3))))) (de_l (dl_disp (da_cons (de_var 4 (pv 4)) da_nil)))) (de_l (dl_cut (de_var 0 (pv 0)) (do_some (de_var 3 (pv 3))) do_none)))))
    dss_nil)
  (dss_cons (ds_if (dt_eqU hr.units (de_mod (de_var 2 (pv 2)) de_int) de_int)
    (dss_one (ds_ret (de_addU (de_addU (de_l (dl_cut (de_var 0 (pv 0)) do_none (do_some (de_var 3 (pv 3))))) (de_l (dl_disp (da_cons (de_var 4 (pv 4)) da_nil)))) (de_l (dl_cut (de_var 0 (pv 0)) (do_some (de_addU (de_var 3 (pv 3)) de_int)) do_none)))))
    dss_nil)
  (dss_one (ds_ret (de_var 0 (pv 0))))))))))
theorem f__law_spoilt {f : Addr} {fd : FuncData} (F : Fun K "_law_spoilt" "_law_spoilt" s__law_spoilt f fd) (B : Bl mg) (Z : Es K mg ct) (G : PF K ct P w mg base (n + 2) C T fns) : FnOk P w K mg base (L2.CX P w) (n + 4) f fd ["words", "script"] (spOf K ct (Mi.runF 2 5 (b__law_spoilt C))) :=
  fn_sound F sc__law_spoilt fun cdv A outer s H E hr => d__law_spoilt B Z G hr
theorem sc__law_cut : FnScope ["text", "script", "x", "at"] ["text", "script"] (defScope s__law_cut) := ⟨rfl, rfl, rfl, by decide +kernel, rfl, by decide +kernel, by decide +kernel⟩
theorem d__law_cut {f : Addr} {cdv : Value} {A : Around} {outer : List Env} {s : Shared} {H : Hp} {E : XK} (B : Bl mg) (Z : Es K mg ct) (G : PF K ct P w mg base (n + 2) C T fns) (hr : Room (n + 3) (A.deeper (envOfC "_law_cut" (defScope s__law_cut) s.heap.objs.size f cdv))) :
  DSs (cxOf (L2.CX P w) P w K mg base ["text", "script", "x", "at"] "_law_cut" (defScope s__law_cut) f cdv A outer s H E) ct (defBody s__law_cut) (b__law_cut C) := by
  have sc := sc__law_cut
  exact (dss_cons (ds_set (i := 2) sc.nd rfl (Or.inl rfl) (de_call G (Room.mono hr (Nat.le_succ _)) "_law_mixed" (by decide) (da_cons (de_call G (Room.mono hr (Nat.le_succ _)) "_law_cell_at" (by decide) (da_cons (de_var 1 (pv 1)) (da_cons de_int da_nil))) (da_cons de_int da_nil))))
  (dss_cons (ds_set (i := 3) sc.nd rfl (Or.inl rfl) (de_mod (de_div (de_var 2 (pv 2)) de_int) (de_addU (de_callB call_lenU ok_len rfl B.len_ boot_len (da_cons (de_var 0 (pv 0)) da_nil)) de_int)))
  (dss_cons (ds_if (dt_eqU hr.units (de_mod (de_var 2 (pv 2)) de_int) de_int)
    (dss_one (ds_ret (de_cutT (de_var 0 (pv 0)) do_none (do_some (de_var 3 (pv 3))))))
    dss_nil)
  (dss_cons (ds_if (dt_eqU hr.units (de_mod (de_var 2 (pv 2)) de_int) de_int)
    (dss_one (ds_ret (de_addU (de_cutT (de_var 0 (pv 0)) do_none (do_some (de_var 3 (pv 3)))) (de_cutT (de_var 0 (pv 0)) (do_some (de_addU (de_var 3 (pv 3)) de_int)) do_none))))
    dss_nil)
  (dss_cons (ds_if (dt_eqU hr.units (de_mod (de_var 2 (pv 2)) de_int) de_int)
    (dss_one (ds_ret (de_addU (de_addU (de_cutT (de_var 0 (pv 0)) do_none (do_some (de_var 3 (pv 3)))) (de_ixU (hu_of hr) (de_str [32, 40, 41, 97, 48, 45]) (de_mod (de_div (de_var 2 (pv 2)) de_int) de_int))) (de_cutT (de_var 0 (pv 0)) (do_some (de_var 3 (pv 3))) do_none))))
    dss_nil)
  (dss_one (ds_ret (de_var 0 (pv 0)))))))))
theorem f__law_cut {f : Addr} {fd : FuncData} (F : Fun K "_law_cut" "_law_cut" s__law_cut f fd) (B : Bl mg) (Z : Es K mg ct) (G : PF K ct P w mg base (n + 2) C T fns) : FnOk P w K mg base (L2.CX P w) (n + 4) f fd ["text", "script"] (spOf K ct (Mi.runF 2 4 (b__law_cut C))) :=
  fn_sound F sc__law_cut fun cdv A outer s H E hr => d__law_cut B Z G hr
theorem sc__law_refused : FnScope ["text", "found", "e"] ["text"] (defScope s__law_refused) := ⟨rfl, rfl, rfl, by decide +kernel, rfl, by decide +kernel, by decide +kernel⟩
theorem d__law_refused {f : Addr} {cdv : Value} {A : Around} {outer : List Env} {s : Shared} {H : Hp} {E : XK} (B : Bl mg) (Z : Es K mg ct) (G : PF K ct P w mg base (n + 2) C T fns) (hr : Room (n + 3) (A.deeper (envOfC "_law_refused" (defScope s__law_refused) s.heap.objs.size f cdv))) :
  DSs (cxOf (L2.CX P w) P w K mg base ["text", "found", "e"] "_law_refused" (defScope s__law_refused) f cdv A outer s H E) ct (defBody s__law_refused) (b__law_refused C) := by
  have sc := sc__law_refused
  exact (dss_cons (ds_set (i := 1) sc.nd rfl (Or.inl rfl) de_bl)
  (dss_cons (ds_tryG rfl rfl sc.nd (DH.named 2 "MarksError" (by rfl) Z.h_MarksError Z.e_MarksError rfl rfl (dx_put (i := 2) (j := 1) sc.nd rfl (Or.inl rfl) (dxe_and (dxe_is (i := 2) Z.k_BadText (by rfl) B.isinstance_ (fun _ r => by cases r; rfl) (fun _ _ => pv 2) (fun _ _ => pe_glob (v := .ref Z.K_BadText) (u := .ref Z.K_BadText) (by rfl) Z.kg_BadText rfl)) (dxe_and (dxe_is (i := 2) Z.k_ValueError (by rfl) B.isinstance_ (fun _ r => by cases r; rfl) (fun _ _ => pv 2) (fun _ _ => pe_bltn (v := .ty "ValueError") (u := .type "ValueError") (by rfl) B.ValueError_ (by rfl) rfl)) (dxe_one (dxe_not (dxe_is (i := 2) Z.k_NoNumber (by rfl) B.isinstance_ (fun _ r => by cases r; rfl) (fun _ _ => pv 2) (fun _ _ => pe_glob (v := .ref Z.K_NoNumber) (u := .ref Z.K_NoNumber) (by rfl) Z.kg_NoNumber rfl))))))) DH.nil) (fun _ _ => (dss_one (ds_ex (de_call G (Room.mono hr (Nat.le_succ _)) "read_question" (by decide) (da_cons (de_var 0 (pv 0)) da_nil))))) dss_nil)
  (dss_one (ds_ret (de_var 1 (pv 1))))))
theorem f__law_refused {f : Addr} {fd : FuncData} (F : Fun K "_law_refused" "_law_refused" s__law_refused f fd) (B : Bl mg) (Z : Es K mg ct) (G : PF K ct P w mg base (n + 2) C T fns) : FnOk P w K mg base (L2.CX P w) (n + 4) f fd ["text"] (spOf K ct (Mi.runF 1 3 (b__law_refused C))) :=
  fn_sound F sc__law_refused fun cdv A outer s H E hr => d__law_refused B Z G hr
theorem sc_law : FnScope ["script", "words", "text", "due", "place", "good", "found", "e"] ["script"] (defScope s_law) := ⟨rfl, rfl, rfl, by decide +kernel, rfl, by decide +kernel, by decide +kernel⟩
theorem d_law {f : Addr} {cdv : Value} {A : Around} {outer : List Env} {s : Shared} {H : Hp} {E : XK} (B : Bl mg) (Z : Es K mg ct) (G : PF K ct P w mg base (n + 2) C T fns) (hr : Room (n + 3) (A.deeper (envOfC "law" (defScope s_law) s.heap.objs.size f cdv))) :
  DSs (cxOf (L2.CX P w) P w K mg base ["script", "words", "text", "due", "place", "good", "found", "e"] "law" (defScope s_law) f cdv A outer s H E) ct (defBody s_law) (b_law C) := by
  have sc := sc_law
  exact (dss_cons (ds_set (i := 1) sc.nd rfl (Or.inl rfl) (de_call G (Room.mono hr (Nat.le_succ _)) "_law_words" (by decide) (da_cons (de_call G (Room.mono hr (Nat.le_succ _)) "_law_built" (by decide) (da_cons (de_var 0 (pv 0)) (da_cons de_int da_nil))) (da_cons (de_mod (de_div (de_call G (Room.mono hr (Nat.le_succ _)) "_law_cell_at" (by decide) (da_cons (de_var 0 (pv 0)) (da_cons de_int da_nil))) de_int) de_int) da_nil))))
  (dss_cons (ds_set (i := 2) sc.nd rfl (Or.inl rfl) (de_call G (Room.mono hr (Nat.le_succ _)) "_law_cut" (by decide) (da_cons (de_call G (Room.mono hr (Nat.le_succ _)) "_law_spaced" (by decide) (da_cons (de_call G (Room.mono hr (Nat.le_succ _)) "_law_spoilt" (by decide) (da_cons (de_var 1 (pv 1)) (da_cons (de_var 0 (pv 0)) da_nil))) (da_cons (de_call G (Room.mono hr (Nat.le_succ _)) "_law_cell_at" (by decide) (da_cons (de_var 0 (pv 0)) (da_cons de_int da_nil))) da_nil))) (da_cons (de_var 0 (pv 0)) da_nil))))
  (dss_cons (ds_set (i := 3) sc.nd rfl (Or.inl rfl) (de_call G (Room.mono hr (Nat.le_succ _)) "_law_fault" (by decide) (da_cons (de_var 2 (pv 2)) da_nil)))
  (dss_cons (ds_set (i := 4) sc.nd rfl (Or.inl rfl) de_non)
  (dss_cons (ds_set (i := 5) sc.nd rfl (Or.inl rfl) de_bl)
  (dss_cons (ds_tryG rfl rfl sc.nd (DH.named 7 "BadText" (by rfl) Z.h_BadText Z.e_BadText rfl rfl (dx_put (i := 7) (j := 4) sc.nd rfl (Or.inl rfl) (dxe_fld (i := 7) "BadText" "place" Z.x_BadText (fun _ _ => pv 7))) DH.nil) (fun _ _ => (dss_one (ds_set (i := 6) sc.nd rfl (Or.inl rfl) (de_call G (Room.mono hr (Nat.le_succ _)) "read_question" (by decide) (da_cons (de_var 2 (pv 2)) da_nil))))) (dss_one (ds_set (i := 5) sc.nd rfl (Or.inl rfl) (de_isC "Question" Z.s_Question (by rfl) B.isinstance_ (by rfl) (de_var 6 (pv 6))))))
  (dss_cons (ds_if (dt_not (dt_tru (de_isC "Question" Z.s_Question (by rfl) B.isinstance_ (by rfl) (de_call G (Room.mono hr (Nat.le_succ _)) "read_question" (by decide) (da_cons (de_str [110, 111, 116, 32, 40, 97, 32, 105, 115, 32, 49, 41]) da_nil)))))
    (dss_one (ds_ret de_bl))
    dss_nil)
  (dss_cons (ds_if (dt_isN (de_var 3 (pv 3)) de_non)
    (dss_one (ds_ret (de_and (de_isN (de_var 4 (pv 4)) de_non) (de_one (de_var 5 (pv 5))))))
    dss_nil)
  (dss_one (ds_ret (de_and (de_call G (Room.mono hr (Nat.le_succ _)) "_law_whole" (by decide) (da_cons (de_var 4 (pv 4)) da_nil)) (de_and (de_eqU hr.units (de_var 4 (pv 4)) (de_var 3 (pv 3))) (de_one (de_call G (Room.mono hr (Nat.le_succ _)) "_law_refused" (by decide) (da_cons (de_var 2 (pv 2)) da_nil)))))))))))))))
theorem f_law {f : Addr} {fd : FuncData} (F : Fun K "law" "law" s_law f fd) (B : Bl mg) (Z : Es K mg ct) (G : PF K ct P w mg base (n + 2) C T fns) : FnOk P w K mg base (L2.CX P w) (n + 4) f fd ["script"] (spOf K ct (Mi.runF 1 8 (b_law C))) :=
  fn_sound F sc_law fun cdv A outer s H E hr => d_law B Z G hr
/-- the program's classes and defs as they stand -/
structure Fs (K : PySem.W.Frag) (mg : Str → Option Value) (ct : String → Option Addr) where
  es : Es K mg ct
  a_Question_holds : Addr
  fd_Question_holds : FuncData
  F_Question_holds : Fun K "holds" "Question.holds" s_Question_holds a_Question_holds fd_Question_holds
  b_Question_holds : L2.Binds K fd_Question_holds ["self", "values"] []
  a_Every_holds : Addr
  fd_Every_holds : FuncData
  F_Every_holds : Fun K "holds" "Every.holds" s_Every_holds a_Every_holds fd_Every_holds
  b_Every_holds : L2.Binds K fd_Every_holds ["self", "values"] []
  a_Within___init__ : Addr
  fd_Within___init__ : FuncData
  F_Within___init__ : Fun K "__init__" "Within.__init__" s_Within___init__ a_Within___init__ fd_Within___init__
  b_Within___init__ : L2.Binds K fd_Within___init__ ["self", "name", "low", "high"] []
  a_Within_holds : Addr
  fd_Within_holds : FuncData
  F_Within_holds : Fun K "holds" "Within.holds" s_Within_holds a_Within_holds fd_Within_holds
  b_Within_holds : L2.Binds K fd_Within_holds ["self", "values"] []
  a_Opposite___init__ : Addr
  fd_Opposite___init__ : FuncData
  F_Opposite___init__ : Fun K "__init__" "Opposite.__init__" s_Opposite___init__ a_Opposite___init__ fd_Opposite___init__
  b_Opposite___init__ : L2.Binds K fd_Opposite___init__ ["self", "one"] []
  a_Opposite_holds : Addr
  fd_Opposite_holds : FuncData
  F_Opposite_holds : Fun K "holds" "Opposite.holds" s_Opposite_holds a_Opposite_holds fd_Opposite_holds
  b_Opposite_holds : L2.Binds K fd_Opposite_holds ["self", "values"] []
  a_Chain___init__ : Addr
  fd_Chain___init__ : FuncData
  F_Chain___init__ : Fun K "__init__" "Chain.__init__" s_Chain___init__ a_Chain___init__ fd_Chain___init__
  b_Chain___init__ : L2.Binds K fd_Chain___init__ ["self", "parts"] []
  a_AllOf_holds : Addr
  fd_AllOf_holds : FuncData
  F_AllOf_holds : Fun K "holds" "AllOf.holds" s_AllOf_holds a_AllOf_holds fd_AllOf_holds
  b_AllOf_holds : L2.Binds K fd_AllOf_holds ["self", "values"] []
  a_OneOf_holds : Addr
  fd_OneOf_holds : FuncData
  F_OneOf_holds : Fun K "holds" "OneOf.holds" s_OneOf_holds a_OneOf_holds fd_OneOf_holds
  b_OneOf_holds : L2.Binds K fd_OneOf_holds ["self", "values"] []
  a_is_name : Addr
  fd_is_name : FuncData
  F_is_name : Fun K "is_name" "is_name" s_is_name a_is_name fd_is_name
  b_is_name : L2.Binds K fd_is_name ["word"] []
  g_is_name : mg "is_name" = some (.ref a_is_name)
  a_figures_of : Addr
  fd_figures_of : FuncData
  F_figures_of : Fun K "figures_of" "figures_of" s_figures_of a_figures_of fd_figures_of
  b_figures_of : L2.Binds K fd_figures_of ["word"] []
  g_figures_of : mg "figures_of" = some (.ref a_figures_of)
  a_words_of : Addr
  fd_words_of : FuncData
  F_words_of : Fun K "words_of" "words_of" s_words_of a_words_of fd_words_of
  b_words_of : L2.Binds K fd_words_of ["text"] []
  g_words_of : mg "words_of" = some (.ref a_words_of)
  a_Reader___init__ : Addr
  fd_Reader___init__ : FuncData
  F_Reader___init__ : Fun K "__init__" "Reader.__init__" s_Reader___init__ a_Reader___init__ fd_Reader___init__
  b_Reader___init__ : L2.Binds K fd_Reader___init__ ["self", "text"] []
  a_Reader_word_here : Addr
  fd_Reader_word_here : FuncData
  F_Reader_word_here : Fun K "word_here" "Reader.word_here" s_Reader_word_here a_Reader_word_here fd_Reader_word_here
  b_Reader_word_here : L2.Binds K fd_Reader_word_here ["self"] []
  a_Reader_place_here : Addr
  fd_Reader_place_here : FuncData
  F_Reader_place_here : Fun K "place_here" "Reader.place_here" s_Reader_place_here a_Reader_place_here fd_Reader_place_here
  b_Reader_place_here : L2.Binds K fd_Reader_place_here ["self"] []
  a_Reader_past : Addr
  fd_Reader_past : FuncData
  F_Reader_past : Fun K "past" "Reader.past" s_Reader_past a_Reader_past fd_Reader_past
  b_Reader_past : L2.Binds K fd_Reader_past ["self", "word"] []
  a_Reader_whole_number : Addr
  fd_Reader_whole_number : FuncData
  F_Reader_whole_number : Fun K "whole_number" "Reader.whole_number" s_Reader_whole_number a_Reader_whole_number fd_Reader_whole_number
  b_Reader_whole_number : L2.Binds K fd_Reader_whole_number ["self"] []
  a_Reader_question : Addr
  fd_Reader_question : FuncData
  F_Reader_question : Fun K "question" "Reader.question" s_Reader_question a_Reader_question fd_Reader_question
  b_Reader_question : L2.Binds K fd_Reader_question ["self", "deep"] []
  a_Reader_chain : Addr
  fd_Reader_chain : FuncData
  F_Reader_chain : Fun K "chain" "Reader.chain" s_Reader_chain a_Reader_chain fd_Reader_chain
  b_Reader_chain : L2.Binds K fd_Reader_chain ["self", "deep"] []
  a_Reader_piece : Addr
  fd_Reader_piece : FuncData
  F_Reader_piece : Fun K "piece" "Reader.piece" s_Reader_piece a_Reader_piece fd_Reader_piece
  b_Reader_piece : L2.Binds K fd_Reader_piece ["self", "deep"] []
  a_Reader_inner : Addr
  fd_Reader_inner : FuncData
  F_Reader_inner : Fun K "inner" "Reader.inner" s_Reader_inner a_Reader_inner fd_Reader_inner
  b_Reader_inner : L2.Binds K fd_Reader_inner ["self", "word", "deep"] []
  a_Reader_range_of : Addr
  fd_Reader_range_of : FuncData
  F_Reader_range_of : Fun K "range_of" "Reader.range_of" s_Reader_range_of a_Reader_range_of fd_Reader_range_of
  b_Reader_range_of : L2.Binds K fd_Reader_range_of ["self", "name"] []
  a_read_question : Addr
  fd_read_question : FuncData
  F_read_question : Fun K "read_question" "read_question" s_read_question a_read_question fd_read_question
  b_read_question : L2.Binds K fd_read_question ["text"] []
  g_read_question : mg "read_question" = some (.ref a_read_question)
  a__law_cell_at : Addr
  fd__law_cell_at : FuncData
  F__law_cell_at : Fun K "_law_cell_at" "_law_cell_at" s__law_cell_at a__law_cell_at fd__law_cell_at
  b__law_cell_at : L2.Binds K fd__law_cell_at ["script", "k"] []
  g__law_cell_at : mg "_law_cell_at" = some (.ref a__law_cell_at)
  a__law_whole : Addr
  fd__law_whole : FuncData
  F__law_whole : Fun K "_law_whole" "_law_whole" s__law_whole a__law_whole fd__law_whole
  b__law_whole : L2.Binds K fd__law_whole ["found"] []
  g__law_whole : mg "_law_whole" = some (.ref a__law_whole)
  a__law_mixed : Addr
  fd__law_mixed : FuncData
  F__law_mixed : Fun K "_law_mixed" "_law_mixed" s__law_mixed a__law_mixed fd__law_mixed
  b__law_mixed : L2.Binds K fd__law_mixed ["cell", "k"] []
  g__law_mixed : mg "_law_mixed" = some (.ref a__law_mixed)
  a__law_name_of : Addr
  fd__law_name_of : FuncData
  F__law_name_of : Fun K "_law_name_of" "_law_name_of" s__law_name_of a__law_name_of fd__law_name_of
  b__law_name_of : L2.Binds K fd__law_name_of ["letters"] []
  g__law_name_of : mg "_law_name_of" = some (.ref a__law_name_of)
  a__law_names : Addr
  fd__law_names : FuncData
  F__law_names : Fun K "_law_names" "_law_names" s__law_names a__law_names fd__law_names
  b__law_names : L2.Binds K fd__law_names ["script", "most"] []
  g__law_names : mg "_law_names" = some (.ref a__law_names)
  a__law_value : Addr
  fd__law_value : FuncData
  F__law_value : Fun K "_law_value" "_law_value" s__law_value a__law_value fd__law_value
  b__law_value : L2.Binds K fd__law_value ["x", "wide"] []
  g__law_value : mg "_law_value" = some (.ref a__law_value)
  a__law_leaf : Addr
  fd__law_leaf : FuncData
  F__law_leaf : Fun K "_law_leaf" "_law_leaf" s__law_leaf a__law_leaf fd__law_leaf
  b__law_leaf : L2.Binds K fd__law_leaf ["cell", "names", "wide"] []
  g__law_leaf : mg "_law_leaf" = some (.ref a__law_leaf)
  a__law_built : Addr
  fd__law_built : FuncData
  F__law_built : Fun K "_law_built" "_law_built" s__law_built a__law_built fd__law_built
  b__law_built : L2.Binds K fd__law_built ["script", "most"] []
  g__law_built : mg "_law_built" = some (.ref a__law_built)
  a__law_wrapped : Addr
  fd__law_wrapped : FuncData
  F__law_wrapped : Fun K "_law_wrapped" "_law_wrapped" s__law_wrapped a__law_wrapped fd__law_wrapped
  b__law_wrapped : L2.Binds K fd__law_wrapped ["tree", "must", "loose"] []
  g__law_wrapped : mg "_law_wrapped" = some (.ref a__law_wrapped)
  a__law_words : Addr
  fd__law_words : FuncData
  F__law_words : Fun K "_law_words" "_law_words" s__law_words a__law_words fd__law_words
  b__law_words : L2.Binds K fd__law_words ["tree", "loose"] []
  g__law_words : mg "_law_words" = some (.ref a__law_words)
  a__law_spaced : Addr
  fd__law_spaced : FuncData
  F__law_spaced : Fun K "_law_spaced" "_law_spaced" s__law_spaced a__law_spaced fd__law_spaced
  b__law_spaced : L2.Binds K fd__law_spaced ["words", "cell"] []
  g__law_spaced : mg "_law_spaced" = some (.ref a__law_spaced)
  a__law_split : Addr
  fd__law_split : FuncData
  F__law_split : Fun K "_law_split" "_law_split" s__law_split a__law_split fd__law_split
  b__law_split : L2.Binds K fd__law_split ["text"] []
  g__law_split : mg "_law_split" = some (.ref a__law_split)
  a__law_is_name : Addr
  fd__law_is_name : FuncData
  F__law_is_name : Fun K "_law_is_name" "_law_is_name" s__law_is_name a__law_is_name fd__law_is_name
  b__law_is_name : L2.Binds K fd__law_is_name ["word"] []
  g__law_is_name : mg "_law_is_name" = some (.ref a__law_is_name)
  a__law_are_figures : Addr
  fd__law_are_figures : FuncData
  F__law_are_figures : Fun K "_law_are_figures" "_law_are_figures" s__law_are_figures a__law_are_figures fd__law_are_figures
  b__law_are_figures : L2.Binds K fd__law_are_figures ["word"] []
  g__law_are_figures : mg "_law_are_figures" = some (.ref a__law_are_figures)
  a__law_begun : Addr
  fd__law_begun : FuncData
  F__law_begun : Fun K "_law_begun" "_law_begun" s__law_begun a__law_begun fd__law_begun
  b__law_begun : L2.Binds K fd__law_begun ["word", "open_ones"] []
  g__law_begun : mg "_law_begun" = some (.ref a__law_begun)
  a__law_ended : Addr
  fd__law_ended : FuncData
  F__law_ended : Fun K "_law_ended" "_law_ended" s__law_ended a__law_ended fd__law_ended
  b__law_ended : L2.Binds K fd__law_ended ["open_ones"] []
  g__law_ended : mg "_law_ended" = some (.ref a__law_ended)
  a__law_next : Addr
  fd__law_next : FuncData
  F__law_next : Fun K "_law_next" "_law_next" s__law_next a__law_next fd__law_next
  b__law_next : L2.Binds K fd__law_next ["state", "word", "open_ones"] []
  g__law_next : mg "_law_next" = some (.ref a__law_next)
  a__law_fault : Addr
  fd__law_fault : FuncData
  F__law_fault : Fun K "_law_fault" "_law_fault" s__law_fault a__law_fault fd__law_fault
  b__law_fault : L2.Binds K fd__law_fault ["text"] []
  g__law_fault : mg "_law_fault" = some (.ref a__law_fault)
  a__law_odd_word : Addr
  fd__law_odd_word : FuncData
  F__law_odd_word : Fun K "_law_odd_word" "_law_odd_word" s__law_odd_word a__law_odd_word fd__law_odd_word
  b__law_odd_word : L2.Binds K fd__law_odd_word ["x"] []
  g__law_odd_word : mg "_law_odd_word" = some (.ref a__law_odd_word)
  a__law_spoilt : Addr
  fd__law_spoilt : FuncData
  F__law_spoilt : Fun K "_law_spoilt" "_law_spoilt" s__law_spoilt a__law_spoilt fd__law_spoilt
  b__law_spoilt : L2.Binds K fd__law_spoilt ["words", "script"] []
  g__law_spoilt : mg "_law_spoilt" = some (.ref a__law_spoilt)
  a__law_cut : Addr
  fd__law_cut : FuncData
  F__law_cut : Fun K "_law_cut" "_law_cut" s__law_cut a__law_cut fd__law_cut
  b__law_cut : L2.Binds K fd__law_cut ["text", "script"] []
  g__law_cut : mg "_law_cut" = some (.ref a__law_cut)
  a__law_refused : Addr
  fd__law_refused : FuncData
  F__law_refused : Fun K "_law_refused" "_law_refused" s__law_refused a__law_refused fd__law_refused
  b__law_refused : L2.Binds K fd__law_refused ["text"] []
  g__law_refused : mg "_law_refused" = some (.ref a__law_refused)
  a_law : Addr
  fd_law : FuncData
  F_law : Fun K "law" "law" s_law a_law fd_law
  b_law : L2.Binds K fd_law ["script"] []
  g_law : mg "law" = some (.ref a_law)
  C_Question : Addr
  t_Question : ct "Question" = some C_Question
  cl_Question : Cls K C_Question
  C_Every : Addr
  t_Every : ct "Every" = some C_Every
  cl_Every : Cls K C_Every
  C_Nobody : Addr
  t_Nobody : ct "Nobody" = some C_Nobody
  cl_Nobody : Cls K C_Nobody
  C_Within : Addr
  t_Within : ct "Within" = some C_Within
  cl_Within : Cls K C_Within
  C_Opposite : Addr
  t_Opposite : ct "Opposite" = some C_Opposite
  cl_Opposite : Cls K C_Opposite
  C_Chain : Addr
  t_Chain : ct "Chain" = some C_Chain
  cl_Chain : Cls K C_Chain
  C_AllOf : Addr
  t_AllOf : ct "AllOf" = some C_AllOf
  cl_AllOf : Cls K C_AllOf
  C_OneOf : Addr
  t_OneOf : ct "OneOf" = some C_OneOf
  cl_OneOf : Cls K C_OneOf
  C_Reader : Addr
  t_Reader : ct "Reader" = some C_Reader
  cl_Reader : Cls K C_Reader
  m_Question_holds : Meth K C_Question "holds" a_Question_holds
  m_Every_holds : Meth K C_Every "holds" a_Every_holds
  m_Nobody_holds : Meth K C_Nobody "holds" a_Question_holds
  m_Within_holds : Meth K C_Within "holds" a_Within_holds
  m_Opposite_holds : Meth K C_Opposite "holds" a_Opposite_holds
  m_Chain_holds : Meth K C_Chain "holds" a_Question_holds
  m_AllOf_holds : Meth K C_AllOf "holds" a_AllOf_holds
  m_OneOf_holds : Meth K C_OneOf "holds" a_OneOf_holds
  m_Reader_word_here : Meth K C_Reader "word_here" a_Reader_word_here
  m_Reader_place_here : Meth K C_Reader "place_here" a_Reader_place_here
  m_Reader_past : Meth K C_Reader "past" a_Reader_past
  m_Reader_whole_number : Meth K C_Reader "whole_number" a_Reader_whole_number
  m_Reader_question : Meth K C_Reader "question" a_Reader_question
  m_Reader_chain : Meth K C_Reader "chain" a_Reader_chain
  m_Reader_piece : Meth K C_Reader "piece" a_Reader_piece
  m_Reader_inner : Meth K C_Reader "inner" a_Reader_inner
  m_Reader_range_of : Meth K C_Reader "range_of" a_Reader_range_of
  gc_Every : mg "Every" = some (.ref C_Every)
  mk_Every : PySem.W.makesIn K C_Every = true ∧ PySem.W.findIn K (.ref C_Every) "__init__" = some (some (.builtin "object.__init__")) ∧ PySem.W.keepIn K (.ref C_Every) = true ∧ PySem.W.mroIn K C_Every (.type "object") = some true
  gc_Nobody : mg "Nobody" = some (.ref C_Nobody)
  mk_Nobody : PySem.W.makesIn K C_Nobody = true ∧ PySem.W.findIn K (.ref C_Nobody) "__init__" = some (some (.builtin "object.__init__")) ∧ PySem.W.keepIn K (.ref C_Nobody) = true ∧ PySem.W.mroIn K C_Nobody (.type "object") = some true
  gc_Within : mg "Within" = some (.ref C_Within)
  mk_Within : Mk K C_Within a_Within___init__
  gc_Opposite : mg "Opposite" = some (.ref C_Opposite)
  mk_Opposite : Mk K C_Opposite a_Opposite___init__
  gc_AllOf : mg "AllOf" = some (.ref C_AllOf)
  mk_AllOf : Mk K C_AllOf a_Chain___init__
  gc_OneOf : mg "OneOf" = some (.ref C_OneOf)
  mk_OneOf : Mk K C_OneOf a_Chain___init__
  gc_Reader : mg "Reader" = some (.ref C_Reader)
  mk_Reader : Mk K C_Reader a_Reader___init__
  n_Within_name : NoAttr K C_Within "name"
  n_Within_low : NoAttr K C_Within "low"
  n_Within_high : NoAttr K C_Within "high"
  n_Opposite_one : NoAttr K C_Opposite "one"
  n_Chain_parts : NoAttr K C_Chain "parts"
  n_AllOf_parts : NoAttr K C_AllOf "parts"
  n_OneOf_parts : NoAttr K C_OneOf "parts"
  n_Reader_words : NoAttr K C_Reader "words"
  n_Reader_finish : NoAttr K C_Reader "finish"
  n_Reader_at : NoAttr K C_Reader "at"
theorem pf_step (B : Bl mg) (Z : Fs K mg ct) (G : PF K ct P w mg base (n + 2) C T fns) : PF K ct P w mg base (n + 4) (Pg.step C) T fns := by
  have z_Question_holds : FnAt K ct P w mg base (n + 4) Z.a_Question_holds (Pg.step C "Question.holds") := by
    rw [show Pg.step C "Question.holds" = Mi.runF 2 2 (b_Question_holds C) by simp [Pg.step]]
    exact ⟨⟨_, _, Z.b_Question_holds, f_Question_holds Z.F_Question_holds B Z.es G⟩⟩
  have z_Every_holds : FnAt K ct P w mg base (n + 4) Z.a_Every_holds (Pg.step C "Every.holds") := by
    rw [show Pg.step C "Every.holds" = Mi.runF 2 2 (b_Every_holds C) by simp [Pg.step]]
    exact ⟨⟨_, _, Z.b_Every_holds, f_Every_holds Z.F_Every_holds B Z.es G⟩⟩
  have z_Within___init__ : FnAt K ct P w mg base (n + 4) Z.a_Within___init__ (Pg.step C "Within.__init__") := by
    rw [show Pg.step C "Within.__init__" = Mi.runF 4 4 (b_Within___init__ C) by simp [Pg.step]]
    exact ⟨⟨_, _, Z.b_Within___init__, f_Within___init__ Z.F_Within___init__ B Z.es G⟩⟩
  have z_Within_holds : FnAt K ct P w mg base (n + 4) Z.a_Within_holds (Pg.step C "Within.holds") := by
    rw [show Pg.step C "Within.holds" = Mi.runF 2 2 (b_Within_holds C) by simp [Pg.step]]
    exact ⟨⟨_, _, Z.b_Within_holds, f_Within_holds Z.F_Within_holds B Z.es G⟩⟩
  have z_Opposite___init__ : FnAt K ct P w mg base (n + 4) Z.a_Opposite___init__ (Pg.step C "Opposite.__init__") := by
    rw [show Pg.step C "Opposite.__init__" = Mi.runF 2 2 (b_Opposite___init__ C) by simp [Pg.step]]
    exact ⟨⟨_, _, Z.b_Opposite___init__, f_Opposite___init__ Z.F_Opposite___init__ B Z.es G⟩⟩
  have z_Opposite_holds : FnAt K ct P w mg base (n + 4) Z.a_Opposite_holds (Pg.step C "Opposite.holds") := by
    rw [show Pg.step C "Opposite.holds" = Mi.runF 2 2 (b_Opposite_holds C) by simp [Pg.step]]
    exact ⟨⟨_, _, Z.b_Opposite_holds, f_Opposite_holds Z.F_Opposite_holds B Z.es G⟩⟩
  have z_Chain___init__ : FnAt K ct P w mg base (n + 4) Z.a_Chain___init__ (Pg.step C "Chain.__init__") := by
    rw [show Pg.step C "Chain.__init__" = Mi.runF 2 2 (b_Chain___init__ C) by simp [Pg.step]]
    exact ⟨⟨_, _, Z.b_Chain___init__, f_Chain___init__ Z.F_Chain___init__ B Z.es G⟩⟩
  have z_AllOf_holds : FnAt K ct P w mg base (n + 4) Z.a_AllOf_holds (Pg.step C "AllOf.holds") := by
    rw [show Pg.step C "AllOf.holds" = Mi.runF 2 3 (b_AllOf_holds C) by simp [Pg.step]]
    exact ⟨⟨_, _, Z.b_AllOf_holds, f_AllOf_holds Z.F_AllOf_holds B Z.es G⟩⟩
  have z_OneOf_holds : FnAt K ct P w mg base (n + 4) Z.a_OneOf_holds (Pg.step C "OneOf.holds") := by
    rw [show Pg.step C "OneOf.holds" = Mi.runF 2 3 (b_OneOf_holds C) by simp [Pg.step]]
    exact ⟨⟨_, _, Z.b_OneOf_holds, f_OneOf_holds Z.F_OneOf_holds B Z.es G⟩⟩
  have z_is_name : FnAt K ct P w mg base (n + 4) Z.a_is_name (Pg.step C "is_name") := by
    rw [show Pg.step C "is_name" = Mi.runF 1 2 (b_is_name C) by simp [Pg.step]]
    exact ⟨⟨_, _, Z.b_is_name, f_is_name Z.F_is_name B Z.es G⟩⟩
  have z_figures_of : FnAt K ct P w mg base (n + 4) Z.a_figures_of (Pg.step C "figures_of") := by
    rw [show Pg.step C "figures_of" = Mi.runF 1 2 (b_figures_of C) by simp [Pg.step]]
    exact ⟨⟨_, _, Z.b_figures_of, f_figures_of Z.F_figures_of B Z.es G⟩⟩
  have z_words_of : FnAt K ct P w mg base (n + 4) Z.a_words_of (Pg.step C "words_of") := by
    rw [show Pg.step C "words_of" = Mi.runF 1 5 (b_words_of C) by simp [Pg.step]]
    exact ⟨⟨_, _, Z.b_words_of, f_words_of Z.F_words_of B Z.es G⟩⟩
  have z_Reader___init__ : FnAt K ct P w mg base (n + 4) Z.a_Reader___init__ (Pg.step C "Reader.__init__") := by
    rw [show Pg.step C "Reader.__init__" = Mi.runF 2 2 (b_Reader___init__ C) by simp [Pg.step]]
    exact ⟨⟨_, _, Z.b_Reader___init__, f_Reader___init__ Z.F_Reader___init__ B Z.es G⟩⟩
  have z_Reader_word_here : FnAt K ct P w mg base (n + 4) Z.a_Reader_word_here (Pg.step C "Reader.word_here") := by
    rw [show Pg.step C "Reader.word_here" = Mi.runF 1 1 (b_Reader_word_here C) by simp [Pg.step]]
    exact ⟨⟨_, _, Z.b_Reader_word_here, f_Reader_word_here Z.F_Reader_word_here B Z.es G⟩⟩
  have z_Reader_place_here : FnAt K ct P w mg base (n + 4) Z.a_Reader_place_here (Pg.step C "Reader.place_here") := by
    rw [show Pg.step C "Reader.place_here" = Mi.runF 1 1 (b_Reader_place_here C) by simp [Pg.step]]
    exact ⟨⟨_, _, Z.b_Reader_place_here, f_Reader_place_here Z.F_Reader_place_here B Z.es G⟩⟩
  have z_Reader_past : FnAt K ct P w mg base (n + 4) Z.a_Reader_past (Pg.step C "Reader.past") := by
    rw [show Pg.step C "Reader.past" = Mi.runF 2 2 (b_Reader_past C) by simp [Pg.step]]
    exact ⟨⟨_, _, Z.b_Reader_past, f_Reader_past Z.F_Reader_past B Z.es G⟩⟩
  have z_Reader_whole_number : FnAt K ct P w mg base (n + 4) Z.a_Reader_whole_number (Pg.step C "Reader.whole_number") := by
    rw [show Pg.step C "Reader.whole_number" = Mi.runF 1 2 (b_Reader_whole_number C) by simp [Pg.step]]
    exact ⟨⟨_, _, Z.b_Reader_whole_number, f_Reader_whole_number Z.F_Reader_whole_number B Z.es G⟩⟩
  have z_Reader_question : FnAt K ct P w mg base (n + 4) Z.a_Reader_question (Pg.step C "Reader.question") := by
    rw [show Pg.step C "Reader.question" = Mi.runF 2 3 (b_Reader_question C) by simp [Pg.step]]
    exact ⟨⟨_, _, Z.b_Reader_question, f_Reader_question Z.F_Reader_question B Z.es G⟩⟩
  have z_Reader_chain : FnAt K ct P w mg base (n + 4) Z.a_Reader_chain (Pg.step C "Reader.chain") := by
    rw [show Pg.step C "Reader.chain" = Mi.runF 2 3 (b_Reader_chain C) by simp [Pg.step]]
    exact ⟨⟨_, _, Z.b_Reader_chain, f_Reader_chain Z.F_Reader_chain B Z.es G⟩⟩
  have z_Reader_piece : FnAt K ct P w mg base (n + 4) Z.a_Reader_piece (Pg.step C "Reader.piece") := by
    rw [show Pg.step C "Reader.piece" = Mi.runF 2 3 (b_Reader_piece C) by simp [Pg.step]]
    exact ⟨⟨_, _, Z.b_Reader_piece, f_Reader_piece Z.F_Reader_piece B Z.es G⟩⟩
  have z_Reader_inner : FnAt K ct P w mg base (n + 4) Z.a_Reader_inner (Pg.step C "Reader.inner") := by
    rw [show Pg.step C "Reader.inner" = Mi.runF 3 4 (b_Reader_inner C) by simp [Pg.step]]
    exact ⟨⟨_, _, Z.b_Reader_inner, f_Reader_inner Z.F_Reader_inner B Z.es G⟩⟩
  have z_Reader_range_of : FnAt K ct P w mg base (n + 4) Z.a_Reader_range_of (Pg.step C "Reader.range_of") := by
    rw [show Pg.step C "Reader.range_of" = Mi.runF 2 3 (b_Reader_range_of C) by simp [Pg.step]]
    exact ⟨⟨_, _, Z.b_Reader_range_of, f_Reader_range_of Z.F_Reader_range_of B Z.es G⟩⟩
  have z_read_question : FnAt K ct P w mg base (n + 4) Z.a_read_question (Pg.step C "read_question") := by
    rw [show Pg.step C "read_question" = Mi.runF 1 3 (b_read_question C) by simp [Pg.step]]
    exact ⟨⟨_, _, Z.b_read_question, f_read_question Z.F_read_question B Z.es G⟩⟩
  have z__law_cell_at : FnAt K ct P w mg base (n + 4) Z.a__law_cell_at (Pg.step C "_law_cell_at") := by
    rw [show Pg.step C "_law_cell_at" = Mi.runF 2 2 (b__law_cell_at C) by simp [Pg.step]]
    exact ⟨⟨_, _, Z.b__law_cell_at, f__law_cell_at Z.F__law_cell_at B Z.es G⟩⟩
  have z__law_whole : FnAt K ct P w mg base (n + 4) Z.a__law_whole (Pg.step C "_law_whole") := by
    rw [show Pg.step C "_law_whole" = Mi.runF 1 1 (b__law_whole C) by simp [Pg.step]]
    exact ⟨⟨_, _, Z.b__law_whole, f__law_whole Z.F__law_whole B Z.es G⟩⟩
  have z__law_mixed : FnAt K ct P w mg base (n + 4) Z.a__law_mixed (Pg.step C "_law_mixed") := by
    rw [show Pg.step C "_law_mixed" = Mi.runF 2 3 (b__law_mixed C) by simp [Pg.step]]
    exact ⟨⟨_, _, Z.b__law_mixed, f__law_mixed Z.F__law_mixed B Z.es G⟩⟩
  have z__law_name_of : FnAt K ct P w mg base (n + 4) Z.a__law_name_of (Pg.step C "_law_name_of") := by
    rw [show Pg.step C "_law_name_of" = Mi.runF 1 1 (b__law_name_of C) by simp [Pg.step]]
    exact ⟨⟨_, _, Z.b__law_name_of, f__law_name_of Z.F__law_name_of B Z.es G⟩⟩
  have z__law_names : FnAt K ct P w mg base (n + 4) Z.a__law_names (Pg.step C "_law_names") := by
    rw [show Pg.step C "_law_names" = Mi.runF 2 9 (b__law_names C) by simp [Pg.step]]
    exact ⟨⟨_, _, Z.b__law_names, f__law_names Z.F__law_names B Z.es G⟩⟩
  have z__law_value : FnAt K ct P w mg base (n + 4) Z.a__law_value (Pg.step C "_law_value") := by
    rw [show Pg.step C "_law_value" = Mi.runF 2 2 (b__law_value C) by simp [Pg.step]]
    exact ⟨⟨_, _, Z.b__law_value, f__law_value Z.F__law_value B Z.es G⟩⟩
  have z__law_leaf : FnAt K ct P w mg base (n + 4) Z.a__law_leaf (Pg.step C "_law_leaf") := by
    rw [show Pg.step C "_law_leaf" = Mi.runF 3 6 (b__law_leaf C) by simp [Pg.step]]
    exact ⟨⟨_, _, Z.b__law_leaf, f__law_leaf Z.F__law_leaf B Z.es G⟩⟩
  have z__law_built : FnAt K ct P w mg base (n + 4) Z.a__law_built (Pg.step C "_law_built") := by
    rw [show Pg.step C "_law_built" = Mi.runF 2 13 (b__law_built C) by simp [Pg.step]]
    exact ⟨⟨_, _, Z.b__law_built, f__law_built Z.F__law_built B Z.es G⟩⟩
  have z__law_wrapped : FnAt K ct P w mg base (n + 4) Z.a__law_wrapped (Pg.step C "_law_wrapped") := by
    rw [show Pg.step C "_law_wrapped" = Mi.runF 3 4 (b__law_wrapped C) by simp [Pg.step]]
    exact ⟨⟨_, _, Z.b__law_wrapped, f__law_wrapped Z.F__law_wrapped B Z.es G⟩⟩
  have z__law_words : FnAt K ct P w mg base (n + 4) Z.a__law_words (Pg.step C "_law_words") := by
    rw [show Pg.step C "_law_words" = Mi.runF 2 5 (b__law_words C) by simp [Pg.step]]
    exact ⟨⟨_, _, Z.b__law_words, f__law_words Z.F__law_words B Z.es G⟩⟩
  have z__law_spaced : FnAt K ct P w mg base (n + 4) Z.a__law_spaced (Pg.step C "_law_spaced") := by
    rw [show Pg.step C "_law_spaced" = Mi.runF 2 7 (b__law_spaced C) by simp [Pg.step]]
    exact ⟨⟨_, _, Z.b__law_spaced, f__law_spaced Z.F__law_spaced B Z.es G⟩⟩
  have z__law_split : FnAt K ct P w mg base (n + 4) Z.a__law_split (Pg.step C "_law_split") := by
    rw [show Pg.step C "_law_split" = Mi.runF 1 4 (b__law_split C) by simp [Pg.step]]
    exact ⟨⟨_, _, Z.b__law_split, f__law_split Z.F__law_split B Z.es G⟩⟩
  have z__law_is_name : FnAt K ct P w mg base (n + 4) Z.a__law_is_name (Pg.step C "_law_is_name") := by
    rw [show Pg.step C "_law_is_name" = Mi.runF 1 2 (b__law_is_name C) by simp [Pg.step]]
    exact ⟨⟨_, _, Z.b__law_is_name, f__law_is_name Z.F__law_is_name B Z.es G⟩⟩
  have z__law_are_figures : FnAt K ct P w mg base (n + 4) Z.a__law_are_figures (Pg.step C "_law_are_figures") := by
    rw [show Pg.step C "_law_are_figures" = Mi.runF 1 2 (b__law_are_figures C) by simp [Pg.step]]
    exact ⟨⟨_, _, Z.b__law_are_figures, f__law_are_figures Z.F__law_are_figures B Z.es G⟩⟩
  have z__law_begun : FnAt K ct P w mg base (n + 4) Z.a__law_begun (Pg.step C "_law_begun") := by
    rw [show Pg.step C "_law_begun" = Mi.runF 2 2 (b__law_begun C) by simp [Pg.step]]
    exact ⟨⟨_, _, Z.b__law_begun, f__law_begun Z.F__law_begun B Z.es G⟩⟩
  have z__law_ended : FnAt K ct P w mg base (n + 4) Z.a__law_ended (Pg.step C "_law_ended") := by
    rw [show Pg.step C "_law_ended" = Mi.runF 1 1 (b__law_ended C) by simp [Pg.step]]
    exact ⟨⟨_, _, Z.b__law_ended, f__law_ended Z.F__law_ended B Z.es G⟩⟩
  have z__law_next : FnAt K ct P w mg base (n + 4) Z.a__law_next (Pg.step C "_law_next") := by
    rw [show Pg.step C "_law_next" = Mi.runF 3 3 (b__law_next C) by simp [Pg.step]]
    exact ⟨⟨_, _, Z.b__law_next, f__law_next Z.F__law_next B Z.es G⟩⟩
  have z__law_fault : FnAt K ct P w mg base (n + 4) Z.a__law_fault (Pg.step C "_law_fault") := by
    rw [show Pg.step C "_law_fault" = Mi.runF 1 5 (b__law_fault C) by simp [Pg.step]]
    exact ⟨⟨_, _, Z.b__law_fault, f__law_fault Z.F__law_fault B Z.es G⟩⟩
  have z__law_odd_word : FnAt K ct P w mg base (n + 4) Z.a__law_odd_word (Pg.step C "_law_odd_word") := by
    rw [show Pg.step C "_law_odd_word" = Mi.runF 1 2 (b__law_odd_word C) by simp [Pg.step]]
    exact ⟨⟨_, _, Z.b__law_odd_word, f__law_odd_word Z.F__law_odd_word B Z.es G⟩⟩
  have z__law_spoilt : FnAt K ct P w mg base (n + 4) Z.a__law_spoilt (Pg.step C "_law_spoilt") := by
    rw [show Pg.step C "_law_spoilt" = Mi.runF 2 5 (b__law_spoilt C) by simp [Pg.step]]
    exact ⟨⟨_, _, Z.b__law_spoilt, f__law_spoilt Z.F__law_spoilt B Z.es G⟩⟩
  have z__law_cut : FnAt K ct P w mg base (n + 4) Z.a__law_cut (Pg.step C "_law_cut") := by
    rw [show Pg.step C "_law_cut" = Mi.runF 2 4 (b__law_cut C) by simp [Pg.step]]
    exact ⟨⟨_, _, Z.b__law_cut, f__law_cut Z.F__law_cut B Z.es G⟩⟩
  have z__law_refused : FnAt K ct P w mg base (n + 4) Z.a__law_refused (Pg.step C "_law_refused") := by
    rw [show Pg.step C "_law_refused" = Mi.runF 1 3 (b__law_refused C) by simp [Pg.step]]
    exact ⟨⟨_, _, Z.b__law_refused, f__law_refused Z.F__law_refused B Z.es G⟩⟩
  have z_law : FnAt K ct P w mg base (n + 4) Z.a_law (Pg.step C "law") := by
    rw [show Pg.step C "law" = Mi.runF 1 8 (b_law C) by simp [Pg.step]]
    exact ⟨⟨_, _, Z.b_law, f_law Z.F_law B Z.es G⟩⟩
  refine ⟨?_, ?_, ?_, ?_, ?_⟩
  · exact (all_cons ⟨Z.a_is_name, Z.g_is_name, Z.F_is_name.kp, z_is_name⟩
      (all_cons ⟨Z.a_figures_of, Z.g_figures_of, Z.F_figures_of.kp, z_figures_of⟩
      (all_cons ⟨Z.a_words_of, Z.g_words_of, Z.F_words_of.kp, z_words_of⟩
      (all_cons ⟨Z.a_read_question, Z.g_read_question, Z.F_read_question.kp, z_read_question⟩
      (all_cons ⟨Z.a__law_cell_at, Z.g__law_cell_at, Z.F__law_cell_at.kp, z__law_cell_at⟩
      (all_cons ⟨Z.a__law_whole, Z.g__law_whole, Z.F__law_whole.kp, z__law_whole⟩
      (all_cons ⟨Z.a__law_mixed, Z.g__law_mixed, Z.F__law_mixed.kp, z__law_mixed⟩
      (all_cons ⟨Z.a__law_name_of, Z.g__law_name_of, Z.F__law_name_of.kp, z__law_name_of⟩
      (all_cons ⟨Z.a__law_names, Z.g__law_names, Z.F__law_names.kp, z__law_names⟩
      (all_cons ⟨Z.a__law_value, Z.g__law_value, Z.F__law_value.kp, z__law_value⟩
      (all_cons ⟨Z.a__law_leaf, Z.g__law_leaf, Z.F__law_leaf.kp, z__law_leaf⟩
      (all_cons ⟨Z.a__law_built, Z.g__law_built, Z.F__law_built.kp, z__law_built⟩
      (all_cons ⟨Z.a__law_wrapped, Z.g__law_wrapped, Z.F__law_wrapped.kp, z__law_wrapped⟩
      (all_cons ⟨Z.a__law_words, Z.g__law_words, Z.F__law_words.kp, z__law_words⟩
      (all_cons ⟨Z.a__law_spaced, Z.g__law_spaced, Z.F__law_spaced.kp, z__law_spaced⟩
      (all_cons ⟨Z.a__law_split, Z.g__law_split, Z.F__law_split.kp, z__law_split⟩
      (all_cons ⟨Z.a__law_is_name, Z.g__law_is_name, Z.F__law_is_name.kp, z__law_is_name⟩
      (all_cons ⟨Z.a__law_are_figures, Z.g__law_are_figures, Z.F__law_are_figures.kp, z__law_are_figures⟩
      (all_cons ⟨Z.a__law_begun, Z.g__law_begun, Z.F__law_begun.kp, z__law_begun⟩
      (all_cons ⟨Z.a__law_ended, Z.g__law_ended, Z.F__law_ended.kp, z__law_ended⟩
      (all_cons ⟨Z.a__law_next, Z.g__law_next, Z.F__law_next.kp, z__law_next⟩
      (all_cons ⟨Z.a__law_fault, Z.g__law_fault, Z.F__law_fault.kp, z__law_fault⟩
      (all_cons ⟨Z.a__law_odd_word, Z.g__law_odd_word, Z.F__law_odd_word.kp, z__law_odd_word⟩
      (all_cons ⟨Z.a__law_spoilt, Z.g__law_spoilt, Z.F__law_spoilt.kp, z__law_spoilt⟩
      (all_cons ⟨Z.a__law_cut, Z.g__law_cut, Z.F__law_cut.kp, z__law_cut⟩
      (all_cons ⟨Z.a__law_refused, Z.g__law_refused, Z.F__law_refused.kp, z__law_refused⟩
      (all_cons ⟨Z.a_law, Z.g_law, Z.F_law.kp, z_law⟩
      all_nil)))))))))))))))))))))))))))
  · exact mt_all (all_cons ⟨Z.C_Question, Z.a_Question_holds, Z.t_Question, Z.cl_Question, Z.m_Question_holds, z_Question_holds⟩
      (all_cons ⟨Z.C_Every, Z.a_Every_holds, Z.t_Every, Z.cl_Every, Z.m_Every_holds, z_Every_holds⟩
      (all_cons ⟨Z.C_Nobody, Z.a_Question_holds, Z.t_Nobody, Z.cl_Nobody, Z.m_Nobody_holds, z_Question_holds⟩
      (all_cons ⟨Z.C_Within, Z.a_Within_holds, Z.t_Within, Z.cl_Within, Z.m_Within_holds, z_Within_holds⟩
      (all_cons ⟨Z.C_Opposite, Z.a_Opposite_holds, Z.t_Opposite, Z.cl_Opposite, Z.m_Opposite_holds, z_Opposite_holds⟩
      (all_cons ⟨Z.C_Chain, Z.a_Question_holds, Z.t_Chain, Z.cl_Chain, Z.m_Chain_holds, z_Question_holds⟩
      (all_cons ⟨Z.C_AllOf, Z.a_AllOf_holds, Z.t_AllOf, Z.cl_AllOf, Z.m_AllOf_holds, z_AllOf_holds⟩
      (all_cons ⟨Z.C_OneOf, Z.a_OneOf_holds, Z.t_OneOf, Z.cl_OneOf, Z.m_OneOf_holds, z_OneOf_holds⟩
      (all_cons ⟨Z.C_Reader, Z.a_Reader_word_here, Z.t_Reader, Z.cl_Reader, Z.m_Reader_word_here, z_Reader_word_here⟩
      (all_cons ⟨Z.C_Reader, Z.a_Reader_place_here, Z.t_Reader, Z.cl_Reader, Z.m_Reader_place_here, z_Reader_place_here⟩
      (all_cons ⟨Z.C_Reader, Z.a_Reader_past, Z.t_Reader, Z.cl_Reader, Z.m_Reader_past, z_Reader_past⟩
      (all_cons ⟨Z.C_Reader, Z.a_Reader_whole_number, Z.t_Reader, Z.cl_Reader, Z.m_Reader_whole_number, z_Reader_whole_number⟩
      (all_cons ⟨Z.C_Reader, Z.a_Reader_question, Z.t_Reader, Z.cl_Reader, Z.m_Reader_question, z_Reader_question⟩
      (all_cons ⟨Z.C_Reader, Z.a_Reader_chain, Z.t_Reader, Z.cl_Reader, Z.m_Reader_chain, z_Reader_chain⟩
      (all_cons ⟨Z.C_Reader, Z.a_Reader_piece, Z.t_Reader, Z.cl_Reader, Z.m_Reader_piece, z_Reader_piece⟩
      (all_cons ⟨Z.C_Reader, Z.a_Reader_inner, Z.t_Reader, Z.cl_Reader, Z.m_Reader_inner, z_Reader_inner⟩
      (all_cons ⟨Z.C_Reader, Z.a_Reader_range_of, Z.t_Reader, Z.cl_Reader, Z.m_Reader_range_of, z_Reader_range_of⟩
      all_nil)))))))))))))))))
  · exact in_all (all_cons (fun q => absurd rfl q)
      (all_cons (fun q => absurd rfl q)
      (all_cons (fun _ => ⟨Z.C_Within, Z.a_Within___init__, Z.t_Within, Z.gc_Within, Z.mk_Within, z_Within___init__⟩)
      (all_cons (fun _ => ⟨Z.C_Opposite, Z.a_Opposite___init__, Z.t_Opposite, Z.gc_Opposite, Z.mk_Opposite, z_Opposite___init__⟩)
      (all_cons (fun _ => ⟨Z.C_AllOf, Z.a_Chain___init__, Z.t_AllOf, Z.gc_AllOf, Z.mk_AllOf, z_Chain___init__⟩)
      (all_cons (fun _ => ⟨Z.C_OneOf, Z.a_Chain___init__, Z.t_OneOf, Z.gc_OneOf, Z.mk_OneOf, z_Chain___init__⟩)
      (all_cons (fun _ => ⟨Z.C_Reader, Z.a_Reader___init__, Z.t_Reader, Z.gc_Reader, Z.mk_Reader, z_Reader___init__⟩)
      all_nil)))))))
  · exact in0_all (all_cons (fun _ => ⟨Z.C_Every, Z.t_Every, Z.gc_Every, Z.mk_Every⟩)
      (all_cons (fun _ => ⟨Z.C_Nobody, Z.t_Nobody, Z.gc_Nobody, Z.mk_Nobody⟩)
      (all_cons (fun q => absurd q (by decide))
      (all_cons (fun q => absurd q (by decide))
      (all_cons (fun q => absurd q (by decide))
      (all_cons (fun q => absurd q (by decide))
      (all_cons (fun q => absurd q (by decide))
      all_nil)))))))
  · exact fl_all (all_cons ⟨Z.C_Within, Z.t_Within, Z.cl_Within, Z.n_Within_name⟩
      (all_cons ⟨Z.C_Within, Z.t_Within, Z.cl_Within, Z.n_Within_low⟩
      (all_cons ⟨Z.C_Within, Z.t_Within, Z.cl_Within, Z.n_Within_high⟩
      (all_cons ⟨Z.C_Opposite, Z.t_Opposite, Z.cl_Opposite, Z.n_Opposite_one⟩
      (all_cons ⟨Z.C_Chain, Z.t_Chain, Z.cl_Chain, Z.n_Chain_parts⟩
      (all_cons ⟨Z.C_AllOf, Z.t_AllOf, Z.cl_AllOf, Z.n_AllOf_parts⟩
      (all_cons ⟨Z.C_OneOf, Z.t_OneOf, Z.cl_OneOf, Z.n_OneOf_parts⟩
      (all_cons ⟨Z.C_Reader, Z.t_Reader, Z.cl_Reader, Z.n_Reader_words⟩
      (all_cons ⟨Z.C_Reader, Z.t_Reader, Z.cl_Reader, Z.n_Reader_finish⟩
      (all_cons ⟨Z.C_Reader, Z.t_Reader, Z.cl_Reader, Z.n_Reader_at⟩
      all_nil))))))))))
theorem pf_0 (Z : Fs K mg ct) : PF K ct P w mg base 2 (fun _ _ _ => .bad) T fns := by
  refine ⟨?_, ?_, ?_, ?_, ?_⟩
  · exact (all_cons ⟨Z.a_is_name, Z.g_is_name, Z.F_is_name.kp, ⟨_, _, Z.b_is_name, fn_bad⟩⟩
      (all_cons ⟨Z.a_figures_of, Z.g_figures_of, Z.F_figures_of.kp, ⟨_, _, Z.b_figures_of, fn_bad⟩⟩
      (all_cons ⟨Z.a_words_of, Z.g_words_of, Z.F_words_of.kp, ⟨_, _, Z.b_words_of, fn_bad⟩⟩
      (all_cons ⟨Z.a_read_question, Z.g_read_question, Z.F_read_question.kp, ⟨_, _, Z.b_read_question, fn_bad⟩⟩
      (all_cons ⟨Z.a__law_cell_at, Z.g__law_cell_at, Z.F__law_cell_at.kp, ⟨_, _, Z.b__law_cell_at, fn_bad⟩⟩
      (all_cons ⟨Z.a__law_whole, Z.g__law_whole, Z.F__law_whole.kp, ⟨_, _, Z.b__law_whole, fn_bad⟩⟩
      (all_cons ⟨Z.a__law_mixed, Z.g__law_mixed, Z.F__law_mixed.kp, ⟨_, _, Z.b__law_mixed, fn_bad⟩⟩
      (all_cons ⟨Z.a__law_name_of, Z.g__law_name_of, Z.F__law_name_of.kp, ⟨_, _, Z.b__law_name_of, fn_bad⟩⟩
      (all_cons ⟨Z.a__law_names, Z.g__law_names, Z.F__law_names.kp, ⟨_, _, Z.b__law_names, fn_bad⟩⟩
      (all_cons ⟨Z.a__law_value, Z.g__law_value, Z.F__law_value.kp, ⟨_, _, Z.b__law_value, fn_bad⟩⟩
      (all_cons ⟨Z.a__law_leaf, Z.g__law_leaf, Z.F__law_leaf.kp, ⟨_, _, Z.b__law_leaf, fn_bad⟩⟩
      (all_cons ⟨Z.a__law_built, Z.g__law_built, Z.F__law_built.kp, ⟨_, _, Z.b__law_built, fn_bad⟩⟩
      (all_cons ⟨Z.a__law_wrapped, Z.g__law_wrapped, Z.F__law_wrapped.kp, ⟨_, _, Z.b__law_wrapped, fn_bad⟩⟩
      (all_cons ⟨Z.a__law_words, Z.g__law_words, Z.F__law_words.kp, ⟨_, _, Z.b__law_words, fn_bad⟩⟩
      (all_cons ⟨Z.a__law_spaced, Z.g__law_spaced, Z.F__law_spaced.kp, ⟨_, _, Z.b__law_spaced, fn_bad⟩⟩
      (all_cons ⟨Z.a__law_split, Z.g__law_split, Z.F__law_split.kp, ⟨_, _, Z.b__law_split, fn_bad⟩⟩
      (all_cons ⟨Z.a__law_is_name, Z.g__law_is_name, Z.F__law_is_name.kp, ⟨_, _, Z.b__law_is_name, fn_bad⟩⟩
      (all_cons ⟨Z.a__law_are_figures, Z.g__law_are_figures, Z.F__law_are_figures.kp, ⟨_, _, Z.b__law_are_figures, fn_bad⟩⟩
      (all_cons ⟨Z.a__law_begun, Z.g__law_begun, Z.F__law_begun.kp, ⟨_, _, Z.b__law_begun, fn_bad⟩⟩
      (all_cons ⟨Z.a__law_ended, Z.g__law_ended, Z.F__law_ended.kp, ⟨_, _, Z.b__law_ended, fn_bad⟩⟩
      (all_cons ⟨Z.a__law_next, Z.g__law_next, Z.F__law_next.kp, ⟨_, _, Z.b__law_next, fn_bad⟩⟩
      (all_cons ⟨Z.a__law_fault, Z.g__law_fault, Z.F__law_fault.kp, ⟨_, _, Z.b__law_fault, fn_bad⟩⟩
      (all_cons ⟨Z.a__law_odd_word, Z.g__law_odd_word, Z.F__law_odd_word.kp, ⟨_, _, Z.b__law_odd_word, fn_bad⟩⟩
      (all_cons ⟨Z.a__law_spoilt, Z.g__law_spoilt, Z.F__law_spoilt.kp, ⟨_, _, Z.b__law_spoilt, fn_bad⟩⟩
      (all_cons ⟨Z.a__law_cut, Z.g__law_cut, Z.F__law_cut.kp, ⟨_, _, Z.b__law_cut, fn_bad⟩⟩
      (all_cons ⟨Z.a__law_refused, Z.g__law_refused, Z.F__law_refused.kp, ⟨_, _, Z.b__law_refused, fn_bad⟩⟩
      (all_cons ⟨Z.a_law, Z.g_law, Z.F_law.kp, ⟨_, _, Z.b_law, fn_bad⟩⟩
      all_nil)))))))))))))))))))))))))))
  · exact mt_all (all_cons ⟨Z.C_Question, Z.a_Question_holds, Z.t_Question, Z.cl_Question, Z.m_Question_holds, ⟨_, _, Z.b_Question_holds, fn_bad⟩⟩
      (all_cons ⟨Z.C_Every, Z.a_Every_holds, Z.t_Every, Z.cl_Every, Z.m_Every_holds, ⟨_, _, Z.b_Every_holds, fn_bad⟩⟩
      (all_cons ⟨Z.C_Nobody, Z.a_Question_holds, Z.t_Nobody, Z.cl_Nobody, Z.m_Nobody_holds, ⟨_, _, Z.b_Question_holds, fn_bad⟩⟩
      (all_cons ⟨Z.C_Within, Z.a_Within_holds, Z.t_Within, Z.cl_Within, Z.m_Within_holds, ⟨_, _, Z.b_Within_holds, fn_bad⟩⟩
      (all_cons ⟨Z.C_Opposite, Z.a_Opposite_holds, Z.t_Opposite, Z.cl_Opposite, Z.m_Opposite_holds, ⟨_, _, Z.b_Opposite_holds, fn_bad⟩⟩
      (all_cons ⟨Z.C_Chain, Z.a_Question_holds, Z.t_Chain, Z.cl_Chain, Z.m_Chain_holds, ⟨_, _, Z.b_Question_holds, fn_bad⟩⟩
      (all_cons ⟨Z.C_AllOf, Z.a_AllOf_holds, Z.t_AllOf, Z.cl_AllOf, Z.m_AllOf_holds, ⟨_, _, Z.b_AllOf_holds, fn_bad⟩⟩
      (all_cons ⟨Z.C_OneOf, Z.a_OneOf_holds, Z.t_OneOf, Z.cl_OneOf, Z.m_OneOf_holds, ⟨_, _, Z.b_OneOf_holds, fn_bad⟩⟩
      (all_cons ⟨Z.C_Reader, Z.a_Reader_word_here, Z.t_Reader, Z.cl_Reader, Z.m_Reader_word_here, ⟨_, _, Z.b_Reader_word_here, fn_bad⟩⟩
      (all_cons ⟨Z.C_Reader, Z.a_Reader_place_here, Z.t_Reader, Z.cl_Reader, Z.m_Reader_place_here, ⟨_, _, Z.b_Reader_place_here, fn_bad⟩⟩
      (all_cons ⟨Z.C_Reader, Z.a_Reader_past, Z.t_Reader, Z.cl_Reader, Z.m_Reader_past, ⟨_, _, Z.b_Reader_past, fn_bad⟩⟩
      (all_cons ⟨Z.C_Reader, Z.a_Reader_whole_number, Z.t_Reader, Z.cl_Reader, Z.m_Reader_whole_number, ⟨_, _, Z.b_Reader_whole_number, fn_bad⟩⟩
      (all_cons ⟨Z.C_Reader, Z.a_Reader_question, Z.t_Reader, Z.cl_Reader, Z.m_Reader_question, ⟨_, _, Z.b_Reader_question, fn_bad⟩⟩
      (all_cons ⟨Z.C_Reader, Z.a_Reader_chain, Z.t_Reader, Z.cl_Reader, Z.m_Reader_chain, ⟨_, _, Z.b_Reader_chain, fn_bad⟩⟩
      (all_cons ⟨Z.C_Reader, Z.a_Reader_piece, Z.t_Reader, Z.cl_Reader, Z.m_Reader_piece, ⟨_, _, Z.b_Reader_piece, fn_bad⟩⟩
      (all_cons ⟨Z.C_Reader, Z.a_Reader_inner, Z.t_Reader, Z.cl_Reader, Z.m_Reader_inner, ⟨_, _, Z.b_Reader_inner, fn_bad⟩⟩
      (all_cons ⟨Z.C_Reader, Z.a_Reader_range_of, Z.t_Reader, Z.cl_Reader, Z.m_Reader_range_of, ⟨_, _, Z.b_Reader_range_of, fn_bad⟩⟩
      all_nil)))))))))))))))))
  · exact in_all (all_cons (fun q => absurd rfl q)
      (all_cons (fun q => absurd rfl q)
      (all_cons (fun _ => ⟨Z.C_Within, Z.a_Within___init__, Z.t_Within, Z.gc_Within, Z.mk_Within, ⟨_, _, Z.b_Within___init__, fn_bad⟩⟩)
      (all_cons (fun _ => ⟨Z.C_Opposite, Z.a_Opposite___init__, Z.t_Opposite, Z.gc_Opposite, Z.mk_Opposite, ⟨_, _, Z.b_Opposite___init__, fn_bad⟩⟩)
      (all_cons (fun _ => ⟨Z.C_AllOf, Z.a_Chain___init__, Z.t_AllOf, Z.gc_AllOf, Z.mk_AllOf, ⟨_, _, Z.b_Chain___init__, fn_bad⟩⟩)
      (all_cons (fun _ => ⟨Z.C_OneOf, Z.a_Chain___init__, Z.t_OneOf, Z.gc_OneOf, Z.mk_OneOf, ⟨_, _, Z.b_Chain___init__, fn_bad⟩⟩)
      (all_cons (fun _ => ⟨Z.C_Reader, Z.a_Reader___init__, Z.t_Reader, Z.gc_Reader, Z.mk_Reader, ⟨_, _, Z.b_Reader___init__, fn_bad⟩⟩)
      all_nil)))))))
  · exact in0_all (all_cons (fun _ => ⟨Z.C_Every, Z.t_Every, Z.gc_Every, Z.mk_Every⟩)
      (all_cons (fun _ => ⟨Z.C_Nobody, Z.t_Nobody, Z.gc_Nobody, Z.mk_Nobody⟩)
      (all_cons (fun q => absurd q (by decide))
      (all_cons (fun q => absurd q (by decide))
      (all_cons (fun q => absurd q (by decide))
      (all_cons (fun q => absurd q (by decide))
      (all_cons (fun q => absurd q (by decide))
      all_nil)))))))
  · exact fl_all (all_cons ⟨Z.C_Within, Z.t_Within, Z.cl_Within, Z.n_Within_name⟩
      (all_cons ⟨Z.C_Within, Z.t_Within, Z.cl_Within, Z.n_Within_low⟩
      (all_cons ⟨Z.C_Within, Z.t_Within, Z.cl_Within, Z.n_Within_high⟩
      (all_cons ⟨Z.C_Opposite, Z.t_Opposite, Z.cl_Opposite, Z.n_Opposite_one⟩
      (all_cons ⟨Z.C_Chain, Z.t_Chain, Z.cl_Chain, Z.n_Chain_parts⟩
      (all_cons ⟨Z.C_AllOf, Z.t_AllOf, Z.cl_AllOf, Z.n_AllOf_parts⟩
      (all_cons ⟨Z.C_OneOf, Z.t_OneOf, Z.cl_OneOf, Z.n_OneOf_parts⟩
      (all_cons ⟨Z.C_Reader, Z.t_Reader, Z.cl_Reader, Z.n_Reader_words⟩
      (all_cons ⟨Z.C_Reader, Z.t_Reader, Z.cl_Reader, Z.n_Reader_finish⟩
      (all_cons ⟨Z.C_Reader, Z.t_Reader, Z.cl_Reader, Z.n_Reader_at⟩
      all_nil))))))))))
theorem pf (B : Bl mg) (Z : Fs K mg ct) : ∀ j, PF K ct P w mg base (2 * j + 2) (call j) T fns
  | 0 => pf_0 Z
  | j + 1 => pf_step B Z (pf B Z j)
end
def spLaw (K : PySem.W.Frag) : Sp := fun vs H Q _ => ∃ (a : Addr) (ns : List Int), vs = [.ref a] ∧ SqL K H a (ns.map V.int) ∧ ns.length ≤ 63 ∧ ∀ H', Q (.bl true) H'
theorem all_mk {l : PySem.W.OpenLaw} {w : World} {K : PySem.W.Frag} {h : Heap} {mg : Str → Option Value} {fa : Addr} (law : ∀ ns : List Int, ns.length ≤ 63 → ∃ S, call 114 "law" [.scr (ns.map D.int)] [] = .ok (.bl true) S) (X : K.In h) (G : h.Ns mainGlobals mg) (hfa : mg "law" = some (.ref fa))
    {C_Question C_Every C_Nobody C_Within C_Opposite C_Chain C_AllOf C_OneOf C_Reader a_Question_holds a_Every_holds a_Within___init__ a_Within_holds a_Opposite___init__ a_Opposite_holds a_Chain___init__ a_AllOf_holds a_OneOf_holds a_is_name a_figures_of a_words_of a_Reader___init__ a_Reader_word_here a_Reader_place_here a_Reader_past a_Reader_whole_number a_Reader_question a_Reader_chain a_Reader_piece a_Reader_inner a_Reader_range_of a_read_question a__law_cell_at a__law_whole a__law_mixed a__law_name_of a__law_names a__law_value a__law_leaf a__law_built a__law_wrapped a__law_words a__law_spaced a__law_split a__law_is_name a__law_are_figures a__law_begun a__law_ended a__law_next a__law_fault a__law_odd_word a__law_spoilt a__law_cut a__law_refused a_law C_BadText C_MarksError C_NoNumber I_BadText : Addr} {od_Question_holds an_Question_holds od_Every_holds an_Every_holds od_Within___init__ an_Within___init__ od_Within_holds an_Within_holds od_Opposite___init__ an_Opposite___init__ od_Opposite_holds an_Opposite_holds od_Chain___init__ an_Chain___init__ od_AllOf_holds an_AllOf_holds od_OneOf_holds an_OneOf_holds od_is_name an_is_name od_figures_of an_figures_of od_words_of an_words_of od_Reader___init__ an_Reader___init__ od_Reader_word_here an_Reader_word_here od_Reader_place_here an_Reader_place_here od_Reader_past an_Reader_past od_Reader_whole_number an_Reader_whole_number od_Reader_question an_Reader_question od_Reader_chain an_Reader_chain od_Reader_piece an_Reader_piece od_Reader_inner an_Reader_inner od_Reader_range_of an_Reader_range_of od_read_question an_read_question od__law_cell_at an__law_cell_at od__law_whole an__law_whole od__law_mixed an__law_mixed od__law_name_of an__law_name_of od__law_names an__law_names od__law_value an__law_value od__law_leaf an__law_leaf od__law_built an__law_built od__law_wrapped an__law_wrapped od__law_words an__law_words od__law_spaced an__law_spaced od__law_split an__law_split od__law_is_name an__law_is_name od__law_are_figures an__law_are_figures od__law_begun an__law_begun od__law_ended an__law_ended od__law_next an__law_next od__law_fault an__law_fault od__law_odd_word an__law_odd_word od__law_spoilt an__law_spoilt od__law_cut an__law_cut od__law_refused an__law_refused od_law an_law od_xBadText an_xBadText : Option Addr} {sl_Question_holds sl_Every_holds sl_Within___init__ sl_Within_holds sl_Opposite___init__ sl_Opposite_holds sl_Chain___init__ sl_AllOf_holds sl_OneOf_holds sl_is_name sl_figures_of sl_words_of sl_Reader___init__ sl_Reader_word_here sl_Reader_place_here sl_Reader_past sl_Reader_whole_number sl_Reader_question sl_Reader_chain sl_Reader_piece sl_Reader_inner sl_Reader_range_of sl_read_question sl__law_cell_at sl__law_whole sl__law_mixed sl__law_name_of sl__law_names sl__law_value sl__law_leaf sl__law_built sl__law_wrapped sl__law_words sl__law_spaced sl__law_split sl__law_is_name sl__law_are_figures sl__law_begun sl__law_ended sl__law_next sl__law_fault sl__law_odd_word sl__law_spoilt sl__law_cut sl__law_refused sl_law sl_xBadText : Array (Option Value)} {oc_Question_holds kV_Question_holds dc_Question_holds pm_Question_holds cd_Question_holds ty_Question_holds oc_Every_holds kV_Every_holds dc_Every_holds pm_Every_holds cd_Every_holds ty_Every_holds oc_Within___init__ kV_Within___init__ dc_Within___init__ pm_Within___init__ cd_Within___init__ ty_Within___init__ oc_Within_holds kV_Within_holds dc_Within_holds pm_Within_holds cd_Within_holds ty_Within_holds oc_Opposite___init__ kV_Opposite___init__ dc_Opposite___init__ pm_Opposite___init__ cd_Opposite___init__ ty_Opposite___init__ oc_Opposite_holds kV_Opposite_holds dc_Opposite_holds pm_Opposite_holds cd_Opposite_holds ty_Opposite_holds oc_Chain___init__ kV_Chain___init__ dc_Chain___init__ pm_Chain___init__ cd_Chain___init__ ty_Chain___init__ oc_AllOf_holds kV_AllOf_holds dc_AllOf_holds pm_AllOf_holds cd_AllOf_holds ty_AllOf_holds oc_OneOf_holds kV_OneOf_holds dc_OneOf_holds pm_OneOf_holds cd_OneOf_holds ty_OneOf_holds oc_is_name kV_is_name dc_is_name pm_is_name cd_is_name ty_is_name oc_figures_of kV_figures_of dc_figures_of pm_figures_of cd_figures_of ty_figures_of oc_words_of kV_words_of dc_words_of pm_words_of cd_words_of ty_words_of oc_Reader___init__ kV_Reader___init__ dc_Reader___init__ pm_Reader___init__ cd_Reader___init__ ty_Reader___init__ oc_Reader_word_here kV_Reader_word_here dc_Reader_word_here pm_Reader_word_here cd_Reader_word_here ty_Reader_word_here oc_Reader_place_here kV_Reader_place_here dc_Reader_place_here pm_Reader_place_here cd_Reader_place_here ty_Reader_place_here oc_Reader_past kV_Reader_past dc_Reader_past pm_Reader_past cd_Reader_past ty_Reader_past oc_Reader_whole_number kV_Reader_whole_number dc_Reader_whole_number pm_Reader_whole_number cd_Reader_whole_number ty_Reader_whole_number oc_Reader_question kV_Reader_question dc_Reader_question pm_Reader_question cd_Reader_question ty_Reader_question oc_Reader_chain kV_Reader_chain dc_Reader_chain pm_Reader_chain cd_Reader_chain ty_Reader_chain oc_Reader_piece kV_Reader_piece dc_Reader_piece pm_Reader_piece cd_Reader_piece ty_Reader_piece oc_Reader_inner kV_Reader_inner dc_Reader_inner pm_Reader_inner cd_Reader_inner ty_Reader_inner oc_Reader_range_of kV_Reader_range_of dc_Reader_range_of pm_Reader_range_of cd_Reader_range_of ty_Reader_range_of oc_read_question kV_read_question dc_read_question pm_read_question cd_read_question ty_read_question oc__law_cell_at kV__law_cell_at dc__law_cell_at pm__law_cell_at cd__law_cell_at ty__law_cell_at oc__law_whole kV__law_whole dc__law_whole pm__law_whole cd__law_whole ty__law_whole oc__law_mixed kV__law_mixed dc__law_mixed pm__law_mixed cd__law_mixed ty__law_mixed oc__law_name_of kV__law_name_of dc__law_name_of pm__law_name_of cd__law_name_of ty__law_name_of oc__law_names kV__law_names dc__law_names pm__law_names cd__law_names ty__law_names oc__law_value kV__law_value dc__law_value pm__law_value cd__law_value ty__law_value oc__law_leaf kV__law_leaf dc__law_leaf pm__law_leaf cd__law_leaf ty__law_leaf oc__law_built kV__law_built dc__law_built pm__law_built cd__law_built ty__law_built oc__law_wrapped kV__law_wrapped dc__law_wrapped pm__law_wrapped cd__law_wrapped ty__law_wrapped oc__law_words kV__law_words dc__law_words pm__law_words cd__law_words ty__law_words oc__law_spaced kV__law_spaced dc__law_spaced pm__law_spaced cd__law_spaced ty__law_spaced oc__law_split kV__law_split dc__law_split pm__law_split cd__law_split ty__law_split oc__law_is_name kV__law_is_name dc__law_is_name pm__law_is_name cd__law_is_name ty__law_is_name oc__law_are_figures kV__law_are_figures dc__law_are_figures pm__law_are_figures cd__law_are_figures ty__law_are_figures oc__law_begun kV__law_begun dc__law_begun pm__law_begun cd__law_begun ty__law_begun oc__law_ended kV__law_ended dc__law_ended pm__law_ended cd__law_ended ty__law_ended oc__law_next kV__law_next dc__law_next pm__law_next cd__law_next ty__law_next oc__law_fault kV__law_fault dc__law_fault pm__law_fault cd__law_fault ty__law_fault oc__law_odd_word kV__law_odd_word dc__law_odd_word pm__law_odd_word cd__law_odd_word ty__law_odd_word oc__law_spoilt kV__law_spoilt dc__law_spoilt pm__law_spoilt cd__law_spoilt ty__law_spoilt oc__law_cut kV__law_cut dc__law_cut pm__law_cut cd__law_cut ty__law_cut oc__law_refused kV__law_refused dc__law_refused pm__law_refused cd__law_refused ty__law_refused oc_law kV_law dc_law pm_law cd_law ty_law oc_xBadText kV_xBadText dc_xBadText pm_xBadText cd_xBadText ty_xBadText : Value} {nm_BadText q_BadText : Str} {N_BadText : Addr} {bs_BadText bm_BadText : List Value} {sn_BadText : List Str} {sub_BadText : List Value} {ab_BadText : Bool} {col_BadText : Option Bool} {dd_BadText : Option Addr} {k0_BadText k1_BadText k2_BadText k3_BadText k5_BadText : Option Value}
    (hC_Question : PySem.W.nsIn K mainGlobals "Question" = some (some (.ref C_Question)))
    (hC_Every : PySem.W.nsIn K mainGlobals "Every" = some (some (.ref C_Every)))
    (hC_Nobody : PySem.W.nsIn K mainGlobals "Nobody" = some (some (.ref C_Nobody)))
    (hC_Within : PySem.W.nsIn K mainGlobals "Within" = some (some (.ref C_Within)))
    (hC_Opposite : PySem.W.nsIn K mainGlobals "Opposite" = some (some (.ref C_Opposite)))
    (hC_Chain : PySem.W.nsIn K mainGlobals "Chain" = some (some (.ref C_Chain)))
    (hC_AllOf : PySem.W.nsIn K mainGlobals "AllOf" = some (some (.ref C_AllOf)))
    (hC_OneOf : PySem.W.nsIn K mainGlobals "OneOf" = some (some (.ref C_OneOf)))
    (hC_Reader : PySem.W.nsIn K mainGlobals "Reader" = some (some (.ref C_Reader)))
    (ha_Question_holds : PySem.W.findIn K (.ref C_Question) "holds" = some (some (.ref a_Question_holds)))
    (hl_Question_holds : K.lookup a_Question_holds = some ⟨oc_Question_holds, od_Question_holds, .func (PySem.W.fnOf "holds" "Question.holds" (defArgs s_Question_holds) (defBody s_Question_holds) (defScope s_Question_holds) .none kV_Question_holds dc_Question_holds pm_Question_holds an_Question_holds cd_Question_holds ty_Question_holds), sl_Question_holds⟩)
    (hc_Question_holds : PySem.W.codeIn K cd_Question_holds "Question.holds" = true)
    (hk_Question_holds : PySem.W.keepIn K (.ref a_Question_holds) = true)
    (hi_Question_holds : PySem.W.isFn K (.ref a_Question_holds) = true)
    (ha_Every_holds : PySem.W.findIn K (.ref C_Every) "holds" = some (some (.ref a_Every_holds)))
    (hl_Every_holds : K.lookup a_Every_holds = some ⟨oc_Every_holds, od_Every_holds, .func (PySem.W.fnOf "holds" "Every.holds" (defArgs s_Every_holds) (defBody s_Every_holds) (defScope s_Every_holds) .none kV_Every_holds dc_Every_holds pm_Every_holds an_Every_holds cd_Every_holds ty_Every_holds), sl_Every_holds⟩)
    (hc_Every_holds : PySem.W.codeIn K cd_Every_holds "Every.holds" = true)
    (hk_Every_holds : PySem.W.keepIn K (.ref a_Every_holds) = true)
    (hi_Every_holds : PySem.W.isFn K (.ref a_Every_holds) = true)
    (ha_Within___init__ : PySem.W.findIn K (.ref C_Within) "__init__" = some (some (.ref a_Within___init__)))
    (hl_Within___init__ : K.lookup a_Within___init__ = some ⟨oc_Within___init__, od_Within___init__, .func (PySem.W.fnOf "__init__" "Within.__init__" (defArgs s_Within___init__) (defBody s_Within___init__) (defScope s_Within___init__) .none kV_Within___init__ dc_Within___init__ pm_Within___init__ an_Within___init__ cd_Within___init__ ty_Within___init__), sl_Within___init__⟩)
    (hc_Within___init__ : PySem.W.codeIn K cd_Within___init__ "Within.__init__" = true)
    (hk_Within___init__ : PySem.W.keepIn K (.ref a_Within___init__) = true)
    (hi_Within___init__ : PySem.W.isFn K (.ref a_Within___init__) = true)
    (ha_Within_holds : PySem.W.findIn K (.ref C_Within) "holds" = some (some (.ref a_Within_holds)))
    (hl_Within_holds : K.lookup a_Within_holds = some ⟨oc_Within_holds, od_Within_holds, .func (PySem.W.fnOf "holds" "Within.holds" (defArgs s_Within_holds) (defBody s_Within_holds) (defScope s_Within_holds) .none kV_Within_holds dc_Within_holds pm_Within_holds an_Within_holds cd_Within_holds ty_Within_holds), sl_Within_holds⟩)
    (hc_Within_holds : PySem.W.codeIn K cd_Within_holds "Within.holds" = true)
    (hk_Within_holds : PySem.W.keepIn K (.ref a_Within_holds) = true)
    (hi_Within_holds : PySem.W.isFn K (.ref a_Within_holds) = true)
    (ha_Opposite___init__ : PySem.W.findIn K (.ref C_Opposite) "__init__" = some (some (.ref a_Opposite___init__)))
    (hl_Opposite___init__ : K.lookup a_Opposite___init__ = some ⟨oc_Opposite___init__, od_Opposite___init__, .func (PySem.W.fnOf "__init__" "Opposite.__init__" (defArgs s_Opposite___init__) (defBody s_Opposite___init__) (defScope s_Opposite___init__) .none kV_Opposite___init__ dc_Opposite___init__ pm_Opposite___init__ an_Opposite___init__ cd_Opposite___init__ ty_Opposite___init__), sl_Opposite___init__⟩)
    (hc_Opposite___init__ : PySem.W.codeIn K cd_Opposite___init__ "Opposite.__init__" = true)
    (hk_Opposite___init__ : PySem.W.keepIn K (.ref a_Opposite___init__) = true)
    (hi_Opposite___init__ : PySem.W.isFn K (.ref a_Opposite___init__) = true)
    (ha_Opposite_holds : PySem.W.findIn K (.ref C_Opposite) "holds" = some (some (.ref a_Opposite_holds)))
    (hl_Opposite_holds : K.lookup a_Opposite_holds = some ⟨oc_Opposite_holds, od_Opposite_holds, .func (PySem.W.fnOf "holds" "Opposite.holds" (defArgs s_Opposite_holds) (defBody s_Opposite_holds) (defScope s_Opposite_holds) .none kV_Opposite_holds dc_Opposite_holds pm_Opposite_holds an_Opposite_holds cd_Opposite_holds ty_Opposite_holds), sl_Opposite_holds⟩)
    (hc_Opposite_holds : PySem.W.codeIn K cd_Opposite_holds "Opposite.holds" = true)
    (hk_Opposite_holds : PySem.W.keepIn K (.ref a_Opposite_holds) = true)
    (hi_Opposite_holds : PySem.W.isFn K (.ref a_Opposite_holds) = true)
    (ha_Chain___init__ : PySem.W.findIn K (.ref C_Chain) "__init__" = some (some (.ref a_Chain___init__)))
    (hl_Chain___init__ : K.lookup a_Chain___init__ = some ⟨oc_Chain___init__, od_Chain___init__, .func (PySem.W.fnOf "__init__" "Chain.__init__" (defArgs s_Chain___init__) (defBody s_Chain___init__) (defScope s_Chain___init__) .none kV_Chain___init__ dc_Chain___init__ pm_Chain___init__ an_Chain___init__ cd_Chain___init__ ty_Chain___init__), sl_Chain___init__⟩)
    (hc_Chain___init__ : PySem.W.codeIn K cd_Chain___init__ "Chain.__init__" = true)
    (hk_Chain___init__ : PySem.W.keepIn K (.ref a_Chain___init__) = true)
    (hi_Chain___init__ : PySem.W.isFn K (.ref a_Chain___init__) = true)
    (ha_AllOf_holds : PySem.W.findIn K (.ref C_AllOf) "holds" = some (some (.ref a_AllOf_holds)))
    (hl_AllOf_holds : K.lookup a_AllOf_holds = some ⟨oc_AllOf_holds, od_AllOf_holds, .func (PySem.W.fnOf "holds" "AllOf.holds" (defArgs s_AllOf_holds) (defBody s_AllOf_holds) (defScope s_AllOf_holds) .none kV_AllOf_holds dc_AllOf_holds pm_AllOf_holds an_AllOf_holds cd_AllOf_holds ty_AllOf_holds), sl_AllOf_holds⟩)
    (hc_AllOf_holds : PySem.W.codeIn K cd_AllOf_holds "AllOf.holds" = true)
    (hk_AllOf_holds : PySem.W.keepIn K (.ref a_AllOf_holds) = true)
    (hi_AllOf_holds : PySem.W.isFn K (.ref a_AllOf_holds) = true)
    (ha_OneOf_holds : PySem.W.findIn K (.ref C_OneOf) "holds" = some (some (.ref a_OneOf_holds)))
    (hl_OneOf_holds : K.lookup a_OneOf_holds = some ⟨oc_OneOf_holds, od_OneOf_holds, .func (PySem.W.fnOf "holds" "OneOf.holds" (defArgs s_OneOf_holds) (defBody s_OneOf_holds) (defScope s_OneOf_holds) .none kV_OneOf_holds dc_OneOf_holds pm_OneOf_holds an_OneOf_holds cd_OneOf_holds ty_OneOf_holds), sl_OneOf_holds⟩)
    (hc_OneOf_holds : PySem.W.codeIn K cd_OneOf_holds "OneOf.holds" = true)
    (hk_OneOf_holds : PySem.W.keepIn K (.ref a_OneOf_holds) = true)
    (hi_OneOf_holds : PySem.W.isFn K (.ref a_OneOf_holds) = true)
    (ha_is_name : PySem.W.nsIn K mainGlobals "is_name" = some (some (.ref a_is_name)))
    (hl_is_name : K.lookup a_is_name = some ⟨oc_is_name, od_is_name, .func (PySem.W.fnOf "is_name" "is_name" (defArgs s_is_name) (defBody s_is_name) (defScope s_is_name) .none kV_is_name dc_is_name pm_is_name an_is_name cd_is_name ty_is_name), sl_is_name⟩)
    (hc_is_name : PySem.W.codeIn K cd_is_name "is_name" = true)
    (hk_is_name : PySem.W.keepIn K (.ref a_is_name) = true)
    (hi_is_name : PySem.W.isFn K (.ref a_is_name) = true)
    (ha_figures_of : PySem.W.nsIn K mainGlobals "figures_of" = some (some (.ref a_figures_of)))
    (hl_figures_of : K.lookup a_figures_of = some ⟨oc_figures_of, od_figures_of, .func (PySem.W.fnOf "figures_of" "figures_of" (defArgs s_figures_of) (defBody s_figures_of) (defScope s_figures_of) .none kV_figures_of dc_figures_of pm_figures_of an_figures_of cd_figures_of ty_figures_of), sl_figures_of⟩)
    (hc_figures_of : PySem.W.codeIn K cd_figures_of "figures_of" = true)
    (hk_figures_of : PySem.W.keepIn K (.ref a_figures_of) = true)
    (hi_figures_of : PySem.W.isFn K (.ref a_figures_of) = true)
    (ha_words_of : PySem.W.nsIn K mainGlobals "words_of" = some (some (.ref a_words_of)))
    (hl_words_of : K.lookup a_words_of = some ⟨oc_words_of, od_words_of, .func (PySem.W.fnOf "words_of" "words_of" (defArgs s_words_of) (defBody s_words_of) (defScope s_words_of) .none kV_words_of dc_words_of pm_words_of an_words_of cd_words_of ty_words_of), sl_words_of⟩)
    (hc_words_of : PySem.W.codeIn K cd_words_of "words_of" = true)
    (hk_words_of : PySem.W.keepIn K (.ref a_words_of) = true)
    (hi_words_of : PySem.W.isFn K (.ref a_words_of) = true)
    (ha_Reader___init__ : PySem.W.findIn K (.ref C_Reader) "__init__" = some (some (.ref a_Reader___init__)))
    (hl_Reader___init__ : K.lookup a_Reader___init__ = some ⟨oc_Reader___init__, od_Reader___init__, .func (PySem.W.fnOf "__init__" "Reader.__init__" (defArgs s_Reader___init__) (defBody s_Reader___init__) (defScope s_Reader___init__) .none kV_Reader___init__ dc_Reader___init__ pm_Reader___init__ an_Reader___init__ cd_Reader___init__ ty_Reader___init__), sl_Reader___init__⟩)
    (hc_Reader___init__ : PySem.W.codeIn K cd_Reader___init__ "Reader.__init__" = true)
    (hk_Reader___init__ : PySem.W.keepIn K (.ref a_Reader___init__) = true)
    (hi_Reader___init__ : PySem.W.isFn K (.ref a_Reader___init__) = true)
    (ha_Reader_word_here : PySem.W.findIn K (.ref C_Reader) "word_here" = some (some (.ref a_Reader_word_here)))
    (hl_Reader_word_here : K.lookup a_Reader_word_here = some ⟨oc_Reader_word_here, od_Reader_word_here, .func (PySem.W.fnOf "word_here" "Reader.word_here" (defArgs s_Reader_word_here) (defBody s_Reader_word_here) (defScope s_Reader_word_here) .none kV_Reader_word_here dc_Reader_word_here pm_Reader_word_here an_Reader_word_here cd_Reader_word_here ty_Reader_word_here), sl_Reader_word_here⟩)
    (hc_Reader_word_here : PySem.W.codeIn K cd_Reader_word_here "Reader.word_here" = true)
    (hk_Reader_word_here : PySem.W.keepIn K (.ref a_Reader_word_here) = true)
    (hi_Reader_word_here : PySem.W.isFn K (.ref a_Reader_word_here) = true)
    (ha_Reader_place_here : PySem.W.findIn K (.ref C_Reader) "place_here" = some (some (.ref a_Reader_place_here)))
    (hl_Reader_place_here : K.lookup a_Reader_place_here = some ⟨oc_Reader_place_here, od_Reader_place_here, .func (PySem.W.fnOf "place_here" "Reader.place_here" (defArgs s_Reader_place_here) (defBody s_Reader_place_here) (defScope s_Reader_place_here) .none kV_Reader_place_here dc_Reader_place_here pm_Reader_place_here an_Reader_place_here cd_Reader_place_here ty_Reader_place_here), sl_Reader_place_here⟩)
    (hc_Reader_place_here : PySem.W.codeIn K cd_Reader_place_here "Reader.place_here" = true)
    (hk_Reader_place_here : PySem.W.keepIn K (.ref a_Reader_place_here) = true)
    (hi_Reader_place_here : PySem.W.isFn K (.ref a_Reader_place_here) = true)
    (ha_Reader_past : PySem.W.findIn K (.ref C_Reader) "past" = some (some (.ref a_Reader_past)))
    (hl_Reader_past : K.lookup a_Reader_past = some ⟨oc_Reader_past, od_Reader_past, .func (PySem.W.fnOf "past" "Reader.past" (defArgs s_Reader_past) (defBody s_Reader_past) (defScope s_Reader_past) .none kV_Reader_past dc_Reader_past pm_Reader_past an_Reader_past cd_Reader_past ty_Reader_past), sl_Reader_past⟩)
    (hc_Reader_past : PySem.W.codeIn K cd_Reader_past "Reader.past" = true)
    (hk_Reader_past : PySem.W.keepIn K (.ref a_Reader_past) = true)
    (hi_Reader_past : PySem.W.isFn K (.ref a_Reader_past) = true)
    (ha_Reader_whole_number : PySem.W.findIn K (.ref C_Reader) "whole_number" = some (some (.ref a_Reader_whole_number)))
    (hl_Reader_whole_number : K.lookup a_Reader_whole_number = some ⟨oc_Reader_whole_number, od_Reader_whole_number, .func (PySem.W.fnOf "whole_number" "Reader.whole_number" (defArgs s_Reader_whole_number) (defBody s_Reader_whole_number) (defScope s_Reader_whole_number) .none kV_Reader_whole_number dc_Reader_whole_number pm_Reader_whole_number an_Reader_whole_number cd_Reader_whole_number ty_Reader_whole_number), sl_Reader_whole_number⟩)
    (hc_Reader_whole_number : PySem.W.codeIn K cd_Reader_whole_number "Reader.whole_number" = true)
    (hk_Reader_whole_number : PySem.W.keepIn K (.ref a_Reader_whole_number) = true)
    (hi_Reader_whole_number : PySem.W.isFn K (.ref a_Reader_whole_number) = true)
    (ha_Reader_question : PySem.W.findIn K (.ref C_Reader) "question" = some (some (.ref a_Reader_question)))
    (hl_Reader_question : K.lookup a_Reader_question = some ⟨oc_Reader_question, od_Reader_question, .func (PySem.W.fnOf "question" "Reader.question" (defArgs s_Reader_question) (defBody s_Reader_question) (defScope s_Reader_question) .none kV_Reader_question dc_Reader_question pm_Reader_question an_Reader_question cd_Reader_question ty_Reader_question), sl_Reader_question⟩)
    (hc_Reader_question : PySem.W.codeIn K cd_Reader_question "Reader.question" = true)
    (hk_Reader_question : PySem.W.keepIn K (.ref a_Reader_question) = true)
    (hi_Reader_question : PySem.W.isFn K (.ref a_Reader_question) = true)
    (ha_Reader_chain : PySem.W.findIn K (.ref C_Reader) "chain" = some (some (.ref a_Reader_chain)))
    (hl_Reader_chain : K.lookup a_Reader_chain = some ⟨oc_Reader_chain, od_Reader_chain, .func (PySem.W.fnOf "chain" "Reader.chain" (defArgs s_Reader_chain) (defBody s_Reader_chain) (defScope s_Reader_chain) .none kV_Reader_chain dc_Reader_chain pm_Reader_chain an_Reader_chain cd_Reader_chain ty_Reader_chain), sl_Reader_chain⟩)
    (hc_Reader_chain : PySem.W.codeIn K cd_Reader_chain "Reader.chain" = true)
    (hk_Reader_chain : PySem.W.keepIn K (.ref a_Reader_chain) = true)
    (hi_Reader_chain : PySem.W.isFn K (.ref a_Reader_chain) = true)
    (ha_Reader_piece : PySem.W.findIn K (.ref C_Reader) "piece" = some (some (.ref a_Reader_piece)))
    (hl_Reader_piece : K.lookup a_Reader_piece = some ⟨oc_Reader_piece, od_Reader_piece, .func (PySem.W.fnOf "piece" "Reader.piece" (defArgs s_Reader_piece) (defBody s_Reader_piece) (defScope s_Reader_piece) .none kV_Reader_piece dc_Reader_piece pm_Reader_piece an_Reader_piece cd_Reader_piece ty_Reader_piece), sl_Reader_piece⟩)
    (hc_Reader_piece : PySem.W.codeIn K cd_Reader_piece "Reader.piece" = true)
    (hk_Reader_piece : PySem.W.keepIn K (.ref a_Reader_piece) = true)
    (hi_Reader_piece : PySem.W.isFn K (.ref a_Reader_piece) = true)
    (ha_Reader_inner : PySem.W.findIn K (.ref C_Reader) "inner" = some (some (.ref a_Reader_inner)))
    (hl_Reader_inner : K.lookup a_Reader_inner = some ⟨oc_Reader_inner, od_Reader_inner, .func (PySem.W.fnOf "inner" "Reader.inner" (defArgs s_Reader_inner) (defBody s_Reader_inner) (defScope s_Reader_inner) .none kV_Reader_inner dc_Reader_inner pm_Reader_inner an_Reader_inner cd_Reader_inner ty_Reader_inner), sl_Reader_inner⟩)
    (hc_Reader_inner : PySem.W.codeIn K cd_Reader_inner "Reader.inner" = true)
    (hk_Reader_inner : PySem.W.keepIn K (.ref a_Reader_inner) = true)
    (hi_Reader_inner : PySem.W.isFn K (.ref a_Reader_inner) = true)
    (ha_Reader_range_of : PySem.W.findIn K (.ref C_Reader) "range_of" = some (some (.ref a_Reader_range_of)))
    (hl_Reader_range_of : K.lookup a_Reader_range_of = some ⟨oc_Reader_range_of, od_Reader_range_of, .func (PySem.W.fnOf "range_of" "Reader.range_of" (defArgs s_Reader_range_of) (defBody s_Reader_range_of) (defScope s_Reader_range_of) .none kV_Reader_range_of dc_Reader_range_of pm_Reader_range_of an_Reader_range_of cd_Reader_range_of ty_Reader_range_of), sl_Reader_range_of⟩)
    (hc_Reader_range_of : PySem.W.codeIn K cd_Reader_range_of "Reader.range_of" = true)
    (hk_Reader_range_of : PySem.W.keepIn K (.ref a_Reader_range_of) = true)
    (hi_Reader_range_of : PySem.W.isFn K (.ref a_Reader_range_of) = true)
    (ha_read_question : PySem.W.nsIn K mainGlobals "read_question" = some (some (.ref a_read_question)))
    (hl_read_question : K.lookup a_read_question = some ⟨oc_read_question, od_read_question, .func (PySem.W.fnOf "read_question" "read_question" (defArgs s_read_question) (defBody s_read_question) (defScope s_read_question) .none kV_read_question dc_read_question pm_read_question an_read_question cd_read_question ty_read_question), sl_read_question⟩)
    (hc_read_question : PySem.W.codeIn K cd_read_question "read_question" = true)
    (hk_read_question : PySem.W.keepIn K (.ref a_read_question) = true)
    (hi_read_question : PySem.W.isFn K (.ref a_read_question) = true)
    (ha__law_cell_at : PySem.W.nsIn K mainGlobals "_law_cell_at" = some (some (.ref a__law_cell_at)))
    (hl__law_cell_at : K.lookup a__law_cell_at = some ⟨oc__law_cell_at, od__law_cell_at, .func (PySem.W.fnOf "_law_cell_at" "_law_cell_at" (defArgs s__law_cell_at) (defBody s__law_cell_at) (defScope s__law_cell_at) .none kV__law_cell_at dc__law_cell_at pm__law_cell_at an__law_cell_at cd__law_cell_at ty__law_cell_at), sl__law_cell_at⟩)
    (hc__law_cell_at : PySem.W.codeIn K cd__law_cell_at "_law_cell_at" = true)
    (hk__law_cell_at : PySem.W.keepIn K (.ref a__law_cell_at) = true)
    (hi__law_cell_at : PySem.W.isFn K (.ref a__law_cell_at) = true)
    (ha__law_whole : PySem.W.nsIn K mainGlobals "_law_whole" = some (some (.ref a__law_whole)))
    (hl__law_whole : K.lookup a__law_whole = some ⟨oc__law_whole, od__law_whole, .func (PySem.W.fnOf "_law_whole" "_law_whole" (defArgs s__law_whole) (defBody s__law_whole) (defScope s__law_whole) .none kV__law_whole dc__law_whole pm__law_whole an__law_whole cd__law_whole ty__law_whole), sl__law_whole⟩)
    (hc__law_whole : PySem.W.codeIn K cd__law_whole "_law_whole" = true)
    (hk__law_whole : PySem.W.keepIn K (.ref a__law_whole) = true)
    (hi__law_whole : PySem.W.isFn K (.ref a__law_whole) = true)
    (ha__law_mixed : PySem.W.nsIn K mainGlobals "_law_mixed" = some (some (.ref a__law_mixed)))
    (hl__law_mixed : K.lookup a__law_mixed = some ⟨oc__law_mixed, od__law_mixed, .func (PySem.W.fnOf "_law_mixed" "_law_mixed" (defArgs s__law_mixed) (defBody s__law_mixed) (defScope s__law_mixed) .none kV__law_mixed dc__law_mixed pm__law_mixed an__law_mixed cd__law_mixed ty__law_mixed), sl__law_mixed⟩)
    (hc__law_mixed : PySem.W.codeIn K cd__law_mixed "_law_mixed" = true)
    (hk__law_mixed : PySem.W.keepIn K (.ref a__law_mixed) = true)
    (hi__law_mixed : PySem.W.isFn K (.ref a__law_mixed) = true)
    (ha__law_name_of : PySem.W.nsIn K mainGlobals "_law_name_of" = some (some (.ref a__law_name_of)))
    (hl__law_name_of : K.lookup a__law_name_of = some ⟨oc__law_name_of, od__law_name_of, .func (PySem.W.fnOf "_law_name_of" "_law_name_of" (defArgs s__law_name_of) (defBody s__law_name_of) (defScope s__law_name_of) .none kV__law_name_of dc__law_name_of pm__law_name_of an__law_name_of cd__law_name_of ty__law_name_of), sl__law_name_of⟩)
    (hc__law_name_of : PySem.W.codeIn K cd__law_name_of "_law_name_of" = true)
    (hk__law_name_of : PySem.W.keepIn K (.ref a__law_name_of) = true)
    (hi__law_name_of : PySem.W.isFn K (.ref a__law_name_of) = true)
    (ha__law_names : PySem.W.nsIn K mainGlobals "_law_names" = some (some (.ref a__law_names)))
    (hl__law_names : K.lookup a__law_names = some ⟨oc__law_names, od__law_names, .func (PySem.W.fnOf "_law_names" "_law_names" (defArgs s__law_names) (defBody s__law_names) (defScope s__law_names) .none kV__law_names dc__law_names pm__law_names an__law_names cd__law_names ty__law_names), sl__law_names⟩)
    (hc__law_names : PySem.W.codeIn K cd__law_names "_law_names" = true)
    (hk__law_names : PySem.W.keepIn K (.ref a__law_names) = true)
    (hi__law_names : PySem.W.isFn K (.ref a__law_names) = true)
    (ha__law_value : PySem.W.nsIn K mainGlobals "_law_value" = some (some (.ref a__law_value)))
    (hl__law_value : K.lookup a__law_value = some ⟨oc__law_value, od__law_value, .func (PySem.W.fnOf "_law_value" "_law_value" (defArgs s__law_value) (defBody s__law_value) (defScope s__law_value) .none kV__law_value dc__law_value pm__law_value an__law_value cd__law_value ty__law_value), sl__law_value⟩)
    (hc__law_value : PySem.W.codeIn K cd__law_value "_law_value" = true)
    (hk__law_value : PySem.W.keepIn K (.ref a__law_value) = true)
    (hi__law_value : PySem.W.isFn K (.ref a__law_value) = true)
    (ha__law_leaf : PySem.W.nsIn K mainGlobals "_law_leaf" = some (some (.ref a__law_leaf)))
    (hl__law_leaf : K.lookup a__law_leaf = some ⟨oc__law_leaf, od__law_leaf, .func (PySem.W.fnOf "_law_leaf" "_law_leaf" (defArgs s__law_leaf) (defBody s__law_leaf) (defScope s__law_leaf) .none kV__law_leaf dc__law_leaf pm__law_leaf an__law_leaf cd__law_leaf ty__law_leaf), sl__law_leaf⟩)
    (hc__law_leaf : PySem.W.codeIn K cd__law_leaf "_law_leaf" = true)
    (hk__law_leaf : PySem.W.keepIn K (.ref a__law_leaf) = true)
    (hi__law_leaf : PySem.W.isFn K (.ref a__law_leaf) = true)
    (ha__law_built : PySem.W.nsIn K mainGlobals "_law_built" = some (some (.ref a__law_built)))
    (hl__law_built : K.lookup a__law_built = some ⟨oc__law_built, od__law_built, .func (PySem.W.fnOf "_law_built" "_law_built" (defArgs s__law_built) (defBody s__law_built) (defScope s__law_built) .none kV__law_built dc__law_built pm__law_built an__law_built cd__law_built ty__law_built), sl__law_built⟩)
    (hc__law_built : PySem.W.codeIn K cd__law_built "_law_built" = true)
    (hk__law_built : PySem.W.keepIn K (.ref a__law_built) = true)
    (hi__law_built : PySem.W.isFn K (.ref a__law_built) = true)
    (ha__law_wrapped : PySem.W.nsIn K mainGlobals "_law_wrapped" = some (some (.ref a__law_wrapped)))
    (hl__law_wrapped : K.lookup a__law_wrapped = some ⟨oc__law_wrapped, od__law_wrapped, .func (PySem.W.fnOf "_law_wrapped" "_law_wrapped" (defArgs s__law_wrapped) (defBody s__law_wrapped) (defScope s__law_wrapped) .none kV__law_wrapped dc__law_wrapped pm__law_wrapped an__law_wrapped cd__law_wrapped ty__law_wrapped), sl__law_wrapped⟩)
    (hc__law_wrapped : PySem.W.codeIn K cd__law_wrapped "_law_wrapped" = true)
    (hk__law_wrapped : PySem.W.keepIn K (.ref a__law_wrapped) = true)
    (hi__law_wrapped : PySem.W.isFn K (.ref a__law_wrapped) = true)
    (ha__law_words : PySem.W.nsIn K mainGlobals "_law_words" = some (some (.ref a__law_words)))
    (hl__law_words : K.lookup a__law_words = some ⟨oc__law_words, od__law_words, .func (PySem.W.fnOf "_law_words" "_law_words" (defArgs s__law_words) (defBody s__law_words) (defScope s__law_words) .none kV__law_words dc__law_words pm__law_words an__law_words cd__law_words ty__law_words), sl__law_words⟩)
    (hc__law_words : PySem.W.codeIn K cd__law_words "_law_words" = true)
    (hk__law_words : PySem.W.keepIn K (.ref a__law_words) = true)
    (hi__law_words : PySem.W.isFn K (.ref a__law_words) = true)
    (ha__law_spaced : PySem.W.nsIn K mainGlobals "_law_spaced" = some (some (.ref a__law_spaced)))
    (hl__law_spaced : K.lookup a__law_spaced = some ⟨oc__law_spaced, od__law_spaced, .func (PySem.W.fnOf "_law_spaced" "_law_spaced" (defArgs s__law_spaced) (defBody s__law_spaced) (defScope s__law_spaced) .none kV__law_spaced dc__law_spaced pm__law_spaced an__law_spaced cd__law_spaced ty__law_spaced), sl__law_spaced⟩)
    (hc__law_spaced : PySem.W.codeIn K cd__law_spaced "_law_spaced" = true)
    (hk__law_spaced : PySem.W.keepIn K (.ref a__law_spaced) = true)
    (hi__law_spaced : PySem.W.isFn K (.ref a__law_spaced) = true)
    (ha__law_split : PySem.W.nsIn K mainGlobals "_law_split" = some (some (.ref a__law_split)))
    (hl__law_split : K.lookup a__law_split = some ⟨oc__law_split, od__law_split, .func (PySem.W.fnOf "_law_split" "_law_split" (defArgs s__law_split) (defBody s__law_split) (defScope s__law_split) .none kV__law_split dc__law_split pm__law_split an__law_split cd__law_split ty__law_split), sl__law_split⟩)
    (hc__law_split : PySem.W.codeIn K cd__law_split "_law_split" = true)
    (hk__law_split : PySem.W.keepIn K (.ref a__law_split) = true)
    (hi__law_split : PySem.W.isFn K (.ref a__law_split) = true)
    (ha__law_is_name : PySem.W.nsIn K mainGlobals "_law_is_name" = some (some (.ref a__law_is_name)))
    (hl__law_is_name : K.lookup a__law_is_name = some ⟨oc__law_is_name, od__law_is_name, .func (PySem.W.fnOf "_law_is_name" "_law_is_name" (defArgs s__law_is_name) (defBody s__law_is_name) (defScope s__law_is_name) .none kV__law_is_name dc__law_is_name pm__law_is_name an__law_is_name cd__law_is_name ty__law_is_name), sl__law_is_name⟩)
    (hc__law_is_name : PySem.W.codeIn K cd__law_is_name "_law_is_name" = true)
    (hk__law_is_name : PySem.W.keepIn K (.ref a__law_is_name) = true)
    (hi__law_is_name : PySem.W.isFn K (.ref a__law_is_name) = true)
    (ha__law_are_figures : PySem.W.nsIn K mainGlobals "_law_are_figures" = some (some (.ref a__law_are_figures)))
    (hl__law_are_figures : K.lookup a__law_are_figures = some ⟨oc__law_are_figures, od__law_are_figures, .func (PySem.W.fnOf "_law_are_figures" "_law_are_figures" (defArgs s__law_are_figures) (defBody s__law_are_figures) (defScope s__law_are_figures) .none kV__law_are_figures dc__law_are_figures pm__law_are_figures an__law_are_figures cd__law_are_figures ty__law_are_figures), sl__law_are_figures⟩)
    (hc__law_are_figures : PySem.W.codeIn K cd__law_are_figures "_law_are_figures" = true)
    (hk__law_are_figures : PySem.W.keepIn K (.ref a__law_are_figures) = true)
    (hi__law_are_figures : PySem.W.isFn K (.ref a__law_are_figures) = true)
    (ha__law_begun : PySem.W.nsIn K mainGlobals "_law_begun" = some (some (.ref a__law_begun)))
    (hl__law_begun : K.lookup a__law_begun = some ⟨oc__law_begun, od__law_begun, .func (PySem.W.fnOf "_law_begun" "_law_begun" (defArgs s__law_begun) (defBody s__law_begun) (defScope s__law_begun) .none kV__law_begun dc__law_begun pm__law_begun an__law_begun cd__law_begun ty__law_begun), sl__law_begun⟩)
    (hc__law_begun : PySem.W.codeIn K cd__law_begun "_law_begun" = true)
    (hk__law_begun : PySem.W.keepIn K (.ref a__law_begun) = true)
    (hi__law_begun : PySem.W.isFn K (.ref a__law_begun) = true)
    (ha__law_ended : PySem.W.nsIn K mainGlobals "_law_ended" = some (some (.ref a__law_ended)))
    (hl__law_ended : K.lookup a__law_ended = some ⟨oc__law_ended, od__law_ended, .func (PySem.W.fnOf "_law_ended" "_law_ended" (defArgs s__law_ended) (defBody s__law_ended) (defScope s__law_ended) .none kV__law_ended dc__law_ended pm__law_ended an__law_ended cd__law_ended ty__law_ended), sl__law_ended⟩)
    (hc__law_ended : PySem.W.codeIn K cd__law_ended "_law_ended" = true)
    (hk__law_ended : PySem.W.keepIn K (.ref a__law_ended) = true)
    (hi__law_ended : PySem.W.isFn K (.ref a__law_ended) = true)
    (ha__law_next : PySem.W.nsIn K mainGlobals "_law_next" = some (some (.ref a__law_next)))
    (hl__law_next : K.lookup a__law_next = some ⟨oc__law_next, od__law_next, .func (PySem.W.fnOf "_law_next" "_law_next" (defArgs s__law_next) (defBody s__law_next) (defScope s__law_next) .none kV__law_next dc__law_next pm__law_next an__law_next cd__law_next ty__law_next), sl__law_next⟩)
    (hc__law_next : PySem.W.codeIn K cd__law_next "_law_next" = true)
    (hk__law_next : PySem.W.keepIn K (.ref a__law_next) = true)
    (hi__law_next : PySem.W.isFn K (.ref a__law_next) = true)
    (ha__law_fault : PySem.W.nsIn K mainGlobals "_law_fault" = some (some (.ref a__law_fault)))
    (hl__law_fault : K.lookup a__law_fault = some ⟨oc__law_fault, od__law_fault, .func (PySem.W.fnOf "_law_fault" "_law_fault" (defArgs s__law_fault) (defBody s__law_fault) (defScope s__law_fault) .none kV__law_fault dc__law_fault pm__law_fault an__law_fault cd__law_fault ty__law_fault), sl__law_fault⟩)
    (hc__law_fault : PySem.W.codeIn K cd__law_fault "_law_fault" = true)
    (hk__law_fault : PySem.W.keepIn K (.ref a__law_fault) = true)
    (hi__law_fault : PySem.W.isFn K (.ref a__law_fault) = true)
    (ha__law_odd_word : PySem.W.nsIn K mainGlobals "_law_odd_word" = some (some (.ref a__law_odd_word)))
    (hl__law_odd_word : K.lookup a__law_odd_word = some ⟨oc__law_odd_word, od__law_odd_word, .func (PySem.W.fnOf "_law_odd_word" "_law_odd_word" (defArgs s__law_odd_word) (defBody s__law_odd_word) (defScope s__law_odd_word) .none kV__law_odd_word dc__law_odd_word pm__law_odd_word an__law_odd_word cd__law_odd_word ty__law_odd_word), sl__law_odd_word⟩)
    (hc__law_odd_word : PySem.W.codeIn K cd__law_odd_word "_law_odd_word" = true)
    (hk__law_odd_word : PySem.W.keepIn K (.ref a__law_odd_word) = true)
    (hi__law_odd_word : PySem.W.isFn K (.ref a__law_odd_word) = true)
    (ha__law_spoilt : PySem.W.nsIn K mainGlobals "_law_spoilt" = some (some (.ref a__law_spoilt)))
    (hl__law_spoilt : K.lookup a__law_spoilt = some ⟨oc__law_spoilt, od__law_spoilt, .func (PySem.W.fnOf "_law_spoilt" "_law_spoilt" (defArgs s__law_spoilt) (defBody s__law_spoilt) (defScope s__law_spoilt) .none kV__law_spoilt dc__law_spoilt pm__law_spoilt an__law_spoilt cd__law_spoilt ty__law_spoilt), sl__law_spoilt⟩)
    (hc__law_spoilt : PySem.W.codeIn K cd__law_spoilt "_law_spoilt" = true)
    (hk__law_spoilt : PySem.W.keepIn K (.ref a__law_spoilt) = true)
    (hi__law_spoilt : PySem.W.isFn K (.ref a__law_spoilt) = true)
    (ha__law_cut : PySem.W.nsIn K mainGlobals "_law_cut" = some (some (.ref a__law_cut)))
    (hl__law_cut : K.lookup a__law_cut = some ⟨oc__law_cut, od__law_cut, .func (PySem.W.fnOf "_law_cut" "_law_cut" (defArgs s__law_cut) (defBody s__law_cut) (defScope s__law_cut) .none kV__law_cut dc__law_cut pm__law_cut an__law_cut cd__law_cut ty__law_cut), sl__law_cut⟩)
    (hc__law_cut : PySem.W.codeIn K cd__law_cut "_law_cut" = true)
    (hk__law_cut : PySem.W.keepIn K (.ref a__law_cut) = true)
    (hi__law_cut : PySem.W.isFn K (.ref a__law_cut) = true)
    (ha__law_refused : PySem.W.nsIn K mainGlobals "_law_refused" = some (some (.ref a__law_refused)))
    (hl__law_refused : K.lookup a__law_refused = some ⟨oc__law_refused, od__law_refused, .func (PySem.W.fnOf "_law_refused" "_law_refused" (defArgs s__law_refused) (defBody s__law_refused) (defScope s__law_refused) .none kV__law_refused dc__law_refused pm__law_refused an__law_refused cd__law_refused ty__law_refused), sl__law_refused⟩)
    (hc__law_refused : PySem.W.codeIn K cd__law_refused "_law_refused" = true)
    (hk__law_refused : PySem.W.keepIn K (.ref a__law_refused) = true)
    (hi__law_refused : PySem.W.isFn K (.ref a__law_refused) = true)
    (ha_law : PySem.W.nsIn K mainGlobals "law" = some (some (.ref a_law)))
    (hl_law : K.lookup a_law = some ⟨oc_law, od_law, .func (PySem.W.fnOf "law" "law" (defArgs s_law) (defBody s_law) (defScope s_law) .none kV_law dc_law pm_law an_law cd_law ty_law), sl_law⟩)
    (hc_law : PySem.W.codeIn K cd_law "law" = true)
    (hk_law : PySem.W.keepIn K (.ref a_law) = true)
    (hi_law : PySem.W.isFn K (.ref a_law) = true)
    (p1_Question : PySem.W.plainGet K C_Question Str.empty = true)
    (p2_Question : PySem.W.hasDictIn K C_Question = true)
    (p3_Question : PySem.W.plainOver K C_Question = true)
    (p4_Question : PySem.W.findIn K (.ref C_Question) "__setattr__" = some (some (.builtin "object.__setattr__")))
    (p1_Every : PySem.W.plainGet K C_Every Str.empty = true)
    (p2_Every : PySem.W.hasDictIn K C_Every = true)
    (p3_Every : PySem.W.plainOver K C_Every = true)
    (p4_Every : PySem.W.findIn K (.ref C_Every) "__setattr__" = some (some (.builtin "object.__setattr__")))
    (p1_Nobody : PySem.W.plainGet K C_Nobody Str.empty = true)
    (p2_Nobody : PySem.W.hasDictIn K C_Nobody = true)
    (p3_Nobody : PySem.W.plainOver K C_Nobody = true)
    (p4_Nobody : PySem.W.findIn K (.ref C_Nobody) "__setattr__" = some (some (.builtin "object.__setattr__")))
    (p1_Within : PySem.W.plainGet K C_Within Str.empty = true)
    (p2_Within : PySem.W.hasDictIn K C_Within = true)
    (p3_Within : PySem.W.plainOver K C_Within = true)
    (p4_Within : PySem.W.findIn K (.ref C_Within) "__setattr__" = some (some (.builtin "object.__setattr__")))
    (p1_Opposite : PySem.W.plainGet K C_Opposite Str.empty = true)
    (p2_Opposite : PySem.W.hasDictIn K C_Opposite = true)
    (p3_Opposite : PySem.W.plainOver K C_Opposite = true)
    (p4_Opposite : PySem.W.findIn K (.ref C_Opposite) "__setattr__" = some (some (.builtin "object.__setattr__")))
    (p1_Chain : PySem.W.plainGet K C_Chain Str.empty = true)
    (p2_Chain : PySem.W.hasDictIn K C_Chain = true)
    (p3_Chain : PySem.W.plainOver K C_Chain = true)
    (p4_Chain : PySem.W.findIn K (.ref C_Chain) "__setattr__" = some (some (.builtin "object.__setattr__")))
    (p1_AllOf : PySem.W.plainGet K C_AllOf Str.empty = true)
    (p2_AllOf : PySem.W.hasDictIn K C_AllOf = true)
    (p3_AllOf : PySem.W.plainOver K C_AllOf = true)
    (p4_AllOf : PySem.W.findIn K (.ref C_AllOf) "__setattr__" = some (some (.builtin "object.__setattr__")))
    (p1_OneOf : PySem.W.plainGet K C_OneOf Str.empty = true)
    (p2_OneOf : PySem.W.hasDictIn K C_OneOf = true)
    (p3_OneOf : PySem.W.plainOver K C_OneOf = true)
    (p4_OneOf : PySem.W.findIn K (.ref C_OneOf) "__setattr__" = some (some (.builtin "object.__setattr__")))
    (p1_Reader : PySem.W.plainGet K C_Reader Str.empty = true)
    (p2_Reader : PySem.W.hasDictIn K C_Reader = true)
    (p3_Reader : PySem.W.plainOver K C_Reader = true)
    (p4_Reader : PySem.W.findIn K (.ref C_Reader) "__setattr__" = some (some (.builtin "object.__setattr__")))
    (hm_Question_holds : PySem.W.findIn K (.ref C_Question) "holds" = some (some (.ref a_Question_holds)))
    (hm_Every_holds : PySem.W.findIn K (.ref C_Every) "holds" = some (some (.ref a_Every_holds)))
    (hm_Nobody_holds : PySem.W.findIn K (.ref C_Nobody) "holds" = some (some (.ref a_Question_holds)))
    (hm_Within_holds : PySem.W.findIn K (.ref C_Within) "holds" = some (some (.ref a_Within_holds)))
    (hm_Opposite_holds : PySem.W.findIn K (.ref C_Opposite) "holds" = some (some (.ref a_Opposite_holds)))
    (hm_Chain_holds : PySem.W.findIn K (.ref C_Chain) "holds" = some (some (.ref a_Question_holds)))
    (hm_AllOf_holds : PySem.W.findIn K (.ref C_AllOf) "holds" = some (some (.ref a_AllOf_holds)))
    (hm_OneOf_holds : PySem.W.findIn K (.ref C_OneOf) "holds" = some (some (.ref a_OneOf_holds)))
    (hm_Reader_word_here : PySem.W.findIn K (.ref C_Reader) "word_here" = some (some (.ref a_Reader_word_here)))
    (hm_Reader_place_here : PySem.W.findIn K (.ref C_Reader) "place_here" = some (some (.ref a_Reader_place_here)))
    (hm_Reader_past : PySem.W.findIn K (.ref C_Reader) "past" = some (some (.ref a_Reader_past)))
    (hm_Reader_whole_number : PySem.W.findIn K (.ref C_Reader) "whole_number" = some (some (.ref a_Reader_whole_number)))
    (hm_Reader_question : PySem.W.findIn K (.ref C_Reader) "question" = some (some (.ref a_Reader_question)))
    (hm_Reader_chain : PySem.W.findIn K (.ref C_Reader) "chain" = some (some (.ref a_Reader_chain)))
    (hm_Reader_piece : PySem.W.findIn K (.ref C_Reader) "piece" = some (some (.ref a_Reader_piece)))
    (hm_Reader_inner : PySem.W.findIn K (.ref C_Reader) "inner" = some (some (.ref a_Reader_inner)))
    (hm_Reader_range_of : PySem.W.findIn K (.ref C_Reader) "range_of" = some (some (.ref a_Reader_range_of)))
    (q1_Every : PySem.W.makesIn K C_Every = true)
    (q2_Every : PySem.W.findIn K (.ref C_Every) "__init__" = some (some (.builtin "object.__init__")))
    (q3_Every : PySem.W.keepIn K (.ref C_Every) = true)
    (q4_Every : PySem.W.mroIn K C_Every (.type "object") = some true)
    (q1_Nobody : PySem.W.makesIn K C_Nobody = true)
    (q2_Nobody : PySem.W.findIn K (.ref C_Nobody) "__init__" = some (some (.builtin "object.__init__")))
    (q3_Nobody : PySem.W.keepIn K (.ref C_Nobody) = true)
    (q4_Nobody : PySem.W.mroIn K C_Nobody (.type "object") = some true)
    (q1_Within : PySem.W.makesIn K C_Within = true)
    (q2_Within : PySem.W.findIn K (.ref C_Within) "__init__" = some (some (.ref a_Within___init__)))
    (q3_Within : PySem.W.keepIn K (.ref C_Within) = true)
    (q1_Opposite : PySem.W.makesIn K C_Opposite = true)
    (q2_Opposite : PySem.W.findIn K (.ref C_Opposite) "__init__" = some (some (.ref a_Opposite___init__)))
    (q3_Opposite : PySem.W.keepIn K (.ref C_Opposite) = true)
    (q1_AllOf : PySem.W.makesIn K C_AllOf = true)
    (q2_AllOf : PySem.W.findIn K (.ref C_AllOf) "__init__" = some (some (.ref a_Chain___init__)))
    (q3_AllOf : PySem.W.keepIn K (.ref C_AllOf) = true)
    (q1_OneOf : PySem.W.makesIn K C_OneOf = true)
    (q2_OneOf : PySem.W.findIn K (.ref C_OneOf) "__init__" = some (some (.ref a_Chain___init__)))
    (q3_OneOf : PySem.W.keepIn K (.ref C_OneOf) = true)
    (q1_Reader : PySem.W.makesIn K C_Reader = true)
    (q2_Reader : PySem.W.findIn K (.ref C_Reader) "__init__" = some (some (.ref a_Reader___init__)))
    (q3_Reader : PySem.W.keepIn K (.ref C_Reader) = true)
    (n_Within_name : PySem.W.findIn K (.ref C_Within) "name" = some none)
    (n_Within_low : PySem.W.findIn K (.ref C_Within) "low" = some none)
    (n_Within_high : PySem.W.findIn K (.ref C_Within) "high" = some none)
    (n_Opposite_one : PySem.W.findIn K (.ref C_Opposite) "one" = some none)
    (n_Chain_parts : PySem.W.findIn K (.ref C_Chain) "parts" = some none)
    (n_AllOf_parts : PySem.W.findIn K (.ref C_AllOf) "parts" = some none)
    (n_OneOf_parts : PySem.W.findIn K (.ref C_OneOf) "parts" = some none)
    (n_Reader_words : PySem.W.findIn K (.ref C_Reader) "words" = some none)
    (n_Reader_finish : PySem.W.findIn K (.ref C_Reader) "finish" = some none)
    (n_Reader_at : PySem.W.findIn K (.ref C_Reader) "at" = some none)
    (hC_BadText : PySem.W.nsIn K mainGlobals "BadText" = some (some (.ref C_BadText)))
    (hC_MarksError : PySem.W.nsIn K mainGlobals "MarksError" = some (some (.ref C_MarksError)))
    (hC_NoNumber : PySem.W.nsIn K mainGlobals "NoNumber" = some (some (.ref C_NoNumber)))
    (xs_BadText : PySem.W.subIn K (.ref C_BadText) (.type "BaseException") = some true)
    (xt_BadText : PySem.W.typeIn K (.ref C_BadText) = some (.type "type"))
    (xk_BadText : PySem.W.keepIn K (.ref C_BadText) = true)
    (xq_BadText : PySem.W.findIn K (.ref C_BadText) "__class__" = some (some (.builtin "object.__class__")))
    (xm_BadText : PySem.W.mroIn K C_BadText (.type "object") = some true)
    (xl_BadText : K.lookup C_BadText = some (excClassObj nm_BadText q_BadText C_BadText N_BadText bs_BadText bm_BadText true sn_BadText sub_BadText ab_BadText col_BadText dd_BadText k0_BadText k1_BadText k2_BadText k3_BadText k5_BadText "ValueError.__new__"))
    (xb_BadText : PySem.HandSPX.refsVE bm_BadText = true)
    (xa_BadText : PySem.W.findIn K (.ref C_BadText) "__setattr__" = some (some (.builtin "object.__setattr__")))
    (xg_BadText : PySem.W.findIn K (.ref C_BadText) "__getattribute__" = some (some (.builtin "BaseException.__getattribute__")))
    (xh_BadText : PySem.W.findIn K (.ref C_BadText) "__getattr__" = some none)
    (xd_BadText : PySem.W.hasDictIn K C_BadText = true)
    (xf_BadText : PySem.W.findIn K (.ref C_BadText) "place" = some none)
    (xi_BadText : PySem.W.findIn K (.ref C_BadText) "__init__" = some (some (.ref I_BadText)))
    (xj_BadText : PySem.W.typeIn K (.ref I_BadText) = some (.type "function"))
    (hl_xBadText : K.lookup I_BadText = some ⟨oc_xBadText, od_xBadText, .func (PySem.W.fnOf "__init__" "BadText.__init__" (defArgs s_xBadText) (defBody s_xBadText) (defScope s_xBadText) .none kV_xBadText dc_xBadText pm_xBadText an_xBadText cd_xBadText ty_xBadText), sl_xBadText⟩)
    (hc_xBadText : PySem.W.codeIn K cd_xBadText "BadText.__init__" = true)
    (hk_xBadText : PySem.W.keepIn K (.ref I_BadText) = true)
    (y1_MarksError : PySem.W.readsIn K C_MarksError (.type "type") = true)
    (y2_MarksError : PySem.W.specialIn K (.ref C_MarksError) "__getattribute__" = some (some (.builtin "type.__getattribute__")))
    (y3_MarksError : PySem.W.findCls K (.ref C_MarksError) (.type "type") "__init__" = some (.val (.builtin "ValueError.__init__")))
    (ex_BadText_MarksError : PySem.W.exmOne K (.ref C_BadText) (.ref C_MarksError) = some true)
    (ex_BadText_BadText : PySem.W.exmOne K (.ref C_BadText) (.ref C_BadText) = some true)
    (ck_BadText_BadText : PySem.W.kitOne K (.ref C_BadText) (.ref C_BadText) = some true)
    (ck_BadText_ValueError : PySem.W.kitOne K (.ref C_BadText) (.type "ValueError") = some true)
    (ck_BadText_NoNumber : PySem.W.kitOne K (.ref C_BadText) (.ref C_NoNumber) = some false)
    (cw_n : PySem.W.specialIn K (.builtin "object.__class__") "__get__" = some (some (.builtin "getset_descriptor.__get__")))
    (cw_k : PySem.W.takesIn K (.builtin "object.__class__") = some true)
    (cw_a_Every : PySem.W.findIn K (.ref C_Every) "__class__" = some (some (.builtin "object.__class__")))
    (cw_m_Every : PySem.W.mroIn K C_Every (.type "object") = some true)
    (cw_a_Nobody : PySem.W.findIn K (.ref C_Nobody) "__class__" = some (some (.builtin "object.__class__")))
    (cw_m_Nobody : PySem.W.mroIn K C_Nobody (.type "object") = some true)
    (cw_a_Within : PySem.W.findIn K (.ref C_Within) "__class__" = some (some (.builtin "object.__class__")))
    (cw_m_Within : PySem.W.mroIn K C_Within (.type "object") = some true)
    (cw_a_Opposite : PySem.W.findIn K (.ref C_Opposite) "__class__" = some (some (.builtin "object.__class__")))
    (cw_m_Opposite : PySem.W.mroIn K C_Opposite (.type "object") = some true)
    (cw_a_AllOf : PySem.W.findIn K (.ref C_AllOf) "__class__" = some (some (.builtin "object.__class__")))
    (cw_m_AllOf : PySem.W.mroIn K C_AllOf (.type "object") = some true)
    (cw_a_OneOf : PySem.W.findIn K (.ref C_OneOf) "__class__" = some (some (.builtin "object.__class__")))
    (cw_m_OneOf : PySem.W.mroIn K C_OneOf (.type "object") = some true)
    (cw_a_Reader : PySem.W.findIn K (.ref C_Reader) "__class__" = some (some (.builtin "object.__class__")))
    (cw_m_Reader : PySem.W.mroIn K C_Reader (.type "object") = some true)
    (ci_Every_Question : PySem.W.kitOne K (.ref C_Every) (.ref C_Question) = some true)
    (ci_Nobody_Question : PySem.W.kitOne K (.ref C_Nobody) (.ref C_Question) = some true)
    (ci_Within_Question : PySem.W.kitOne K (.ref C_Within) (.ref C_Question) = some true)
    (ci_Opposite_Question : PySem.W.kitOne K (.ref C_Opposite) (.ref C_Question) = some true)
    (ci_AllOf_Question : PySem.W.kitOne K (.ref C_AllOf) (.ref C_Question) = some true)
    (ci_OneOf_Question : PySem.W.kitOne K (.ref C_OneOf) (.ref C_Question) = some true)
    (ci_Reader_Question : PySem.W.kitOne K (.ref C_Reader) (.ref C_Question) = some false)
    (z_list : PySem.W.nsIn K mainGlobals "list" = some none)
    (z_all : PySem.W.nsIn K mainGlobals "all" = some none)
    (z_any : PySem.W.nsIn K mainGlobals "any" = some none)
    (z_len : PySem.W.nsIn K mainGlobals "len" = some none)
    (z_int : PySem.W.nsIn K mainGlobals "int" = some none)
    (z_enumerate : PySem.W.nsIn K mainGlobals "enumerate" = some none)
    (z_isinstance : PySem.W.nsIn K mainGlobals "isinstance" = some none)
    (z_bool : PySem.W.nsIn K mainGlobals "bool" = some none)
    (z_range : PySem.W.nsIn K mainGlobals "range" = some none)
    (z_min : PySem.W.nsIn K mainGlobals "min" = some none)
    (z_max : PySem.W.nsIn K mainGlobals "max" = some none)
    (z_str : PySem.W.nsIn K mainGlobals "str" = some none)
    (z_ValueError : PySem.W.nsIn K mainGlobals "ValueError" = some none)
    : ∃ fd : FuncData, (∀ (s : Shared) (v : Value), BindsTo s fd ⟨[v], []⟩ [("script", v)]) ∧ ∀ base : Heap, K.In base → base.Ns mainGlobals mg → FnOk l.prog w K mg base (L2.CX l.prog w) 230 fa fd ["script"] (spLaw K) := by
  have e := hfa.symm.trans (PySem.W.mg_of X G ha_law)
  have e : a_law = fa := by cases e; rfl
  subst e
  have B : Bl mg := ⟨PySem.W.mg_none_of X G z_list, PySem.W.mg_none_of X G z_all, PySem.W.mg_none_of X G z_any, PySem.W.mg_none_of X G z_len, PySem.W.mg_none_of X G z_int, PySem.W.mg_none_of X G z_enumerate, PySem.W.mg_none_of X G z_isinstance, PySem.W.mg_none_of X G z_bool, PySem.W.mg_none_of X G z_range, PySem.W.mg_none_of X G z_min, PySem.W.mg_none_of X G z_max, PySem.W.mg_none_of X G z_str, PySem.W.mg_none_of X G z_ValueError⟩
  have F_Question_holds := fun_mk (st := s_Question_holds) hl_Question_holds hc_Question_holds hk_Question_holds
  have b_Question_holds := F_Question_holds.binds (ps := ["self", "values"]) fun _ _ _ _ _ _ us hl => match us, hl with | [_, _], _ => rfl
  have F_Every_holds := fun_mk (st := s_Every_holds) hl_Every_holds hc_Every_holds hk_Every_holds
  have b_Every_holds := F_Every_holds.binds (ps := ["self", "values"]) fun _ _ _ _ _ _ us hl => match us, hl with | [_, _], _ => rfl
  have F_Within___init__ := fun_mk (st := s_Within___init__) hl_Within___init__ hc_Within___init__ hk_Within___init__
  have b_Within___init__ := F_Within___init__.binds (ps := ["self", "name", "low", "high"]) fun _ _ _ _ _ _ us hl => match us, hl with | [_, _, _, _], _ => rfl
  have F_Within_holds := fun_mk (st := s_Within_holds) hl_Within_holds hc_Within_holds hk_Within_holds
  have b_Within_holds := F_Within_holds.binds (ps := ["self", "values"]) fun _ _ _ _ _ _ us hl => match us, hl with | [_, _], _ => rfl
  have F_Opposite___init__ := fun_mk (st := s_Opposite___init__) hl_Opposite___init__ hc_Opposite___init__ hk_Opposite___init__
  have b_Opposite___init__ := F_Opposite___init__.binds (ps := ["self", "one"]) fun _ _ _ _ _ _ us hl => match us, hl with | [_, _], _ => rfl
  have F_Opposite_holds := fun_mk (st := s_Opposite_holds) hl_Opposite_holds hc_Opposite_holds hk_Opposite_holds
  have b_Opposite_holds := F_Opposite_holds.binds (ps := ["self", "values"]) fun _ _ _ _ _ _ us hl => match us, hl with | [_, _], _ => rfl
  have F_Chain___init__ := fun_mk (st := s_Chain___init__) hl_Chain___init__ hc_Chain___init__ hk_Chain___init__
  have b_Chain___init__ := F_Chain___init__.binds (ps := ["self", "parts"]) fun _ _ _ _ _ _ us hl => match us, hl with | [_, _], _ => rfl
  have F_AllOf_holds := fun_mk (st := s_AllOf_holds) hl_AllOf_holds hc_AllOf_holds hk_AllOf_holds
  have b_AllOf_holds := F_AllOf_holds.binds (ps := ["self", "values"]) fun _ _ _ _ _ _ us hl => match us, hl with | [_, _], _ => rfl
  have F_OneOf_holds := fun_mk (st := s_OneOf_holds) hl_OneOf_holds hc_OneOf_holds hk_OneOf_holds
  have b_OneOf_holds := F_OneOf_holds.binds (ps := ["self", "values"]) fun _ _ _ _ _ _ us hl => match us, hl with | [_, _], _ => rfl
  have F_is_name := fun_mk (st := s_is_name) hl_is_name hc_is_name hk_is_name
  have b_is_name := F_is_name.binds (ps := ["word"]) fun _ _ _ _ _ _ us hl => match us, hl with | [_], _ => rfl
  have F_figures_of := fun_mk (st := s_figures_of) hl_figures_of hc_figures_of hk_figures_of
  have b_figures_of := F_figures_of.binds (ps := ["word"]) fun _ _ _ _ _ _ us hl => match us, hl with | [_], _ => rfl
  have F_words_of := fun_mk (st := s_words_of) hl_words_of hc_words_of hk_words_of
  have b_words_of := F_words_of.binds (ps := ["text"]) fun _ _ _ _ _ _ us hl => match us, hl with | [_], _ => rfl
  have F_Reader___init__ := fun_mk (st := s_Reader___init__) hl_Reader___init__ hc_Reader___init__ hk_Reader___init__
  have b_Reader___init__ := F_Reader___init__.binds (ps := ["self", "text"]) fun _ _ _ _ _ _ us hl => match us, hl with | [_, _], _ => rfl
  have F_Reader_word_here := fun_mk (st := s_Reader_word_here) hl_Reader_word_here hc_Reader_word_here hk_Reader_word_here
  have b_Reader_word_here := F_Reader_word_here.binds (ps := ["self"]) fun _ _ _ _ _ _ us hl => match us, hl with | [_], _ => rfl
  have F_Reader_place_here := fun_mk (st := s_Reader_place_here) hl_Reader_place_here hc_Reader_place_here hk_Reader_place_here
  have b_Reader_place_here := F_Reader_place_here.binds (ps := ["self"]) fun _ _ _ _ _ _ us hl => match us, hl with | [_], _ => rfl
  have F_Reader_past := fun_mk (st := s_Reader_past) hl_Reader_past hc_Reader_past hk_Reader_past
  have b_Reader_past := F_Reader_past.binds (ps := ["self", "word"]) fun _ _ _ _ _ _ us hl => match us, hl with | [_, _], _ => rfl
  have F_Reader_whole_number := fun_mk (st := s_Reader_whole_number) hl_Reader_whole_number hc_Reader_whole_number hk_Reader_whole_number
  have b_Reader_whole_number := F_Reader_whole_number.binds (ps := ["self"]) fun _ _ _ _ _ _ us hl => match us, hl with | [_], _ => rfl
  have F_Reader_question := fun_mk (st := s_Reader_question) hl_Reader_question hc_Reader_question hk_Reader_question
  have b_Reader_question := F_Reader_question.binds (ps := ["self", "deep"]) fun _ _ _ _ _ _ us hl => match us, hl with | [_, _], _ => rfl
  have F_Reader_chain := fun_mk (st := s_Reader_chain) hl_Reader_chain hc_Reader_chain hk_Reader_chain
  have b_Reader_chain := F_Reader_chain.binds (ps := ["self", "deep"]) fun _ _ _ _ _ _ us hl => match us, hl with | [_, _], _ => rfl
  have F_Reader_piece := fun_mk (st := s_Reader_piece) hl_Reader_piece hc_Reader_piece hk_Reader_piece
  have b_Reader_piece := F_Reader_piece.binds (ps := ["self", "deep"]) fun _ _ _ _ _ _ us hl => match us, hl with | [_, _], _ => rfl
  have F_Reader_inner := fun_mk (st := s_Reader_inner) hl_Reader_inner hc_Reader_inner hk_Reader_inner
  have b_Reader_inner := F_Reader_inner.binds (ps := ["self", "word", "deep"]) fun _ _ _ _ _ _ us hl => match us, hl with | [_, _, _], _ => rfl
  have F_Reader_range_of := fun_mk (st := s_Reader_range_of) hl_Reader_range_of hc_Reader_range_of hk_Reader_range_of
  have b_Reader_range_of := F_Reader_range_of.binds (ps := ["self", "name"]) fun _ _ _ _ _ _ us hl => match us, hl with | [_, _], _ => rfl
  have F_read_question := fun_mk (st := s_read_question) hl_read_question hc_read_question hk_read_question
  have b_read_question := F_read_question.binds (ps := ["text"]) fun _ _ _ _ _ _ us hl => match us, hl with | [_], _ => rfl
  have F__law_cell_at := fun_mk (st := s__law_cell_at) hl__law_cell_at hc__law_cell_at hk__law_cell_at
  have b__law_cell_at := F__law_cell_at.binds (ps := ["script", "k"]) fun _ _ _ _ _ _ us hl => match us, hl with | [_, _], _ => rfl
  have F__law_whole := fun_mk (st := s__law_whole) hl__law_whole hc__law_whole hk__law_whole
  have b__law_whole := F__law_whole.binds (ps := ["found"]) fun _ _ _ _ _ _ us hl => match us, hl with | [_], _ => rfl
  have F__law_mixed := fun_mk (st := s__law_mixed) hl__law_mixed hc__law_mixed hk__law_mixed
  have b__law_mixed := F__law_mixed.binds (ps := ["cell", "k"]) fun _ _ _ _ _ _ us hl => match us, hl with | [_, _], _ => rfl
  have F__law_name_of := fun_mk (st := s__law_name_of) hl__law_name_of hc__law_name_of hk__law_name_of
  have b__law_name_of := F__law_name_of.binds (ps := ["letters"]) fun _ _ _ _ _ _ us hl => match us, hl with | [_], _ => rfl
  have F__law_names := fun_mk (st := s__law_names) hl__law_names hc__law_names hk__law_names
  have b__law_names := F__law_names.binds (ps := ["script", "most"]) fun _ _ _ _ _ _ us hl => match us, hl with | [_, _], _ => rfl
  have F__law_value := fun_mk (st := s__law_value) hl__law_value hc__law_value hk__law_value
  have b__law_value := F__law_value.binds (ps := ["x", "wide"]) fun _ _ _ _ _ _ us hl => match us, hl with | [_, _], _ => rfl
  have F__law_leaf := fun_mk (st := s__law_leaf) hl__law_leaf hc__law_leaf hk__law_leaf
  have b__law_leaf := F__law_leaf.binds (ps := ["cell", "names", "wide"]) fun _ _ _ _ _ _ us hl => match us, hl with | [_, _, _], _ => rfl
  have F__law_built := fun_mk (st := s__law_built) hl__law_built hc__law_built hk__law_built
  have b__law_built := F__law_built.binds (ps := ["script", "most"]) fun _ _ _ _ _ _ us hl => match us, hl with | [_, _], _ => rfl
  have F__law_wrapped := fun_mk (st := s__law_wrapped) hl__law_wrapped hc__law_wrapped hk__law_wrapped
  have b__law_wrapped := F__law_wrapped.binds (ps := ["tree", "must", "loose"]) fun _ _ _ _ _ _ us hl => match us, hl with | [_, _, _], _ => rfl
  have F__law_words := fun_mk (st := s__law_words) hl__law_words hc__law_words hk__law_words
  have b__law_words := F__law_words.binds (ps := ["tree", "loose"]) fun _ _ _ _ _ _ us hl => match us, hl with | [_, _], _ => rfl
  have F__law_spaced := fun_mk (st := s__law_spaced) hl__law_spaced hc__law_spaced hk__law_spaced
  have b__law_spaced := F__law_spaced.binds (ps := ["words", "cell"]) fun _ _ _ _ _ _ us hl => match us, hl with | [_, _], _ => rfl
  have F__law_split := fun_mk (st := s__law_split) hl__law_split hc__law_split hk__law_split
  have b__law_split := F__law_split.binds (ps := ["text"]) fun _ _ _ _ _ _ us hl => match us, hl with | [_], _ => rfl
  have F__law_is_name := fun_mk (st := s__law_is_name) hl__law_is_name hc__law_is_name hk__law_is_name
  have b__law_is_name := F__law_is_name.binds (ps := ["word"]) fun _ _ _ _ _ _ us hl => match us, hl with | [_], _ => rfl
  have F__law_are_figures := fun_mk (st := s__law_are_figures) hl__law_are_figures hc__law_are_figures hk__law_are_figures
  have b__law_are_figures := F__law_are_figures.binds (ps := ["word"]) fun _ _ _ _ _ _ us hl => match us, hl with | [_], _ => rfl
  have F__law_begun := fun_mk (st := s__law_begun) hl__law_begun hc__law_begun hk__law_begun
  have b__law_begun := F__law_begun.binds (ps := ["word", "open_ones"]) fun _ _ _ _ _ _ us hl => match us, hl with | [_, _], _ => rfl
  have F__law_ended := fun_mk (st := s__law_ended) hl__law_ended hc__law_ended hk__law_ended
  have b__law_ended := F__law_ended.binds (ps := ["open_ones"]) fun _ _ _ _ _ _ us hl => match us, hl with | [_], _ => rfl
  have F__law_next := fun_mk (st := s__law_next) hl__law_next hc__law_next hk__law_next
  have b__law_next := F__law_next.binds (ps := ["state", "word", "open_ones"]) fun _ _ _ _ _ _ us hl => match us, hl with | [_, _, _], _ => rfl
  have F__law_fault := fun_mk (st := s__law_fault) hl__law_fault hc__law_fault hk__law_fault
  have b__law_fault := F__law_fault.binds (ps := ["text"]) fun _ _ _ _ _ _ us hl => match us, hl with | [_], _ => rfl
  have F__law_odd_word := fun_mk (st := s__law_odd_word) hl__law_odd_word hc__law_odd_word hk__law_odd_word
  have b__law_odd_word := F__law_odd_word.binds (ps := ["x"]) fun _ _ _ _ _ _ us hl => match us, hl with | [_], _ => rfl
  have F__law_spoilt := fun_mk (st := s__law_spoilt) hl__law_spoilt hc__law_spoilt hk__law_spoilt
  have b__law_spoilt := F__law_spoilt.binds (ps := ["words", "script"]) fun _ _ _ _ _ _ us hl => match us, hl with | [_, _], _ => rfl
  have F__law_cut := fun_mk (st := s__law_cut) hl__law_cut hc__law_cut hk__law_cut
  have b__law_cut := F__law_cut.binds (ps := ["text", "script"]) fun _ _ _ _ _ _ us hl => match us, hl with | [_, _], _ => rfl
  have F__law_refused := fun_mk (st := s__law_refused) hl__law_refused hc__law_refused hk__law_refused
  have b__law_refused := F__law_refused.binds (ps := ["text"]) fun _ _ _ _ _ _ us hl => match us, hl with | [_], _ => rfl
  have F_law := fun_mk (st := s_law) hl_law hc_law hk_law
  have b_law := F_law.binds (ps := ["script"]) fun _ _ _ _ _ _ us hl => match us, hl with | [_], _ => rfl
  let ct : String → Option Addr := fun c => if c = "Question" then some C_Question else if c = "Every" then some C_Every else if c = "Nobody" then some C_Nobody else if c = "Within" then some C_Within else if c = "Opposite" then some C_Opposite else if c = "Chain" then some C_Chain else if c = "AllOf" then some C_AllOf else if c = "OneOf" then some C_OneOf else if c = "Reader" then some C_Reader else if c = "BadText" then some C_BadText else if c = "MarksError" then some C_MarksError else if c = "NoNumber" then some C_NoNumber else none
  have t_Question : ct "Question" = some C_Question := by simp [ct]
  have t_Every : ct "Every" = some C_Every := by simp [ct]
  have t_Nobody : ct "Nobody" = some C_Nobody := by simp [ct]
  have t_Within : ct "Within" = some C_Within := by simp [ct]
  have t_Opposite : ct "Opposite" = some C_Opposite := by simp [ct]
  have t_Chain : ct "Chain" = some C_Chain := by simp [ct]
  have t_AllOf : ct "AllOf" = some C_AllOf := by simp [ct]
  have t_OneOf : ct "OneOf" = some C_OneOf := by simp [ct]
  have t_Reader : ct "Reader" = some C_Reader := by simp [ct]
  have t_BadText : ct "BadText" = some C_BadText := by simp [ct]
  have t_MarksError : ct "MarksError" = some C_MarksError := by simp [ct]
  have t_NoNumber : ct "NoNumber" = some C_NoNumber := by simp [ct]
  have F_xBadText := fun_mk (st := s_xBadText) hl_xBadText hc_xBadText hk_xBadText
  have b_xBadText := F_xBadText.binds (ps := ["self", "place"]) fun _ _ _ _ _ _ us hl => match us, hl with | [_, _], _ => rfl
  have v_BadText : ExcC K C_BadText := ⟨xg_BadText, xh_BadText, xs_BadText, xd_BadText, xq_BadText, cw_n, cw_k, xm_BadText⟩
  have w_Every : CWho K C_Every := ⟨⟨p1_Every, p2_Every, p3_Every, p4_Every⟩, cw_a_Every, cw_n, cw_k, cw_m_Every⟩
  have w_Nobody : CWho K C_Nobody := ⟨⟨p1_Nobody, p2_Nobody, p3_Nobody, p4_Nobody⟩, cw_a_Nobody, cw_n, cw_k, cw_m_Nobody⟩
  have w_Within : CWho K C_Within := ⟨⟨p1_Within, p2_Within, p3_Within, p4_Within⟩, cw_a_Within, cw_n, cw_k, cw_m_Within⟩
  have w_Opposite : CWho K C_Opposite := ⟨⟨p1_Opposite, p2_Opposite, p3_Opposite, p4_Opposite⟩, cw_a_Opposite, cw_n, cw_k, cw_m_Opposite⟩
  have w_AllOf : CWho K C_AllOf := ⟨⟨p1_AllOf, p2_AllOf, p3_AllOf, p4_AllOf⟩, cw_a_AllOf, cw_n, cw_k, cw_m_AllOf⟩
  have w_OneOf : CWho K C_OneOf := ⟨⟨p1_OneOf, p2_OneOf, p3_OneOf, p4_OneOf⟩, cw_a_OneOf, cw_n, cw_k, cw_m_OneOf⟩
  have w_Reader : CWho K C_Reader := ⟨⟨p1_Reader, p2_Reader, p3_Reader, p4_Reader⟩, cw_a_Reader, cw_n, cw_k, cw_m_Reader⟩
  have ES : Es K mg ct := ⟨(), C_BadText, ⟨t_BadText, PySem.W.mg_of X G hC_BadText, ⟨⟨_, _, _, _, _, _, _, _, _, _, _, _, _, _, _, xl_BadText, xb_BadText⟩, xa_BadText, xs_BadText, xt_BadText, xk_BadText⟩, ⟨xg_BadText, xh_BadText, xs_BadText, xd_BadText⟩, xf_BadText⟩, I_BadText, _, F_xBadText, xi_BadText, xj_BadText, b_xBadText, C_MarksError, ⟨y1_MarksError, y2_MarksError, y3_MarksError⟩, PySem.W.mg_of X G hC_MarksError, C_MarksError, PySem.W.mg_of X G hC_MarksError, sub_all (all_cons (fun _ => ⟨C_BadText, t_BadText, ex_BadText_MarksError⟩)
      (all_cons (fun q => absurd q (by decide))
      (all_cons (fun q => absurd q (by decide))
      (all_cons (fun q => absurd q (by decide))
      all_nil)))), PySem.W.mg_of X G hC_BadText, sub_all (all_cons (fun q => absurd q (by decide))
      (all_cons (fun _ => ⟨C_BadText, t_BadText, ex_BadText_BadText⟩)
      (all_cons (fun q => absurd q (by decide))
      (all_cons (fun q => absurd q (by decide))
      all_nil)))), C_BadText, PySem.W.mg_of X G hC_BadText, ⟨sub_all (all_cons (fun q => absurd q (by decide))
      (all_cons (fun _ => ⟨C_BadText, t_BadText, v_BadText, ck_BadText_BadText⟩)
      (all_cons (fun q => absurd q (by decide))
      (all_cons (fun q => absurd q (by decide))
      all_nil))))⟩, ⟨sub_all (all_cons (fun q => absurd q (by decide))
      (all_cons (fun q => absurd q (by decide))
      (all_cons (fun _ => ⟨C_BadText, t_BadText, v_BadText, ck_BadText_ValueError⟩)
      (all_cons (fun q => absurd q (by decide))
      all_nil))))⟩, C_NoNumber, PySem.W.mg_of X G hC_NoNumber, ⟨sub_all (all_cons (fun q => absurd q (by decide))
      (all_cons (fun q => absurd q (by decide))
      (all_cons (fun q => absurd q (by decide))
      (all_cons (fun _ => ⟨C_BadText, t_BadText, v_BadText, ck_BadText_NoNumber⟩)
      all_nil))))⟩, ⟨C_Question, PySem.W.mg_of X G hC_Question, sub_all (all_cons (fun _ => ⟨C_Every, t_Every, w_Every, ci_Every_Question⟩)
      (all_cons (fun _ => ⟨C_Nobody, t_Nobody, w_Nobody, ci_Nobody_Question⟩)
      (all_cons (fun _ => ⟨C_Within, t_Within, w_Within, ci_Within_Question⟩)
      (all_cons (fun _ => ⟨C_Opposite, t_Opposite, w_Opposite, ci_Opposite_Question⟩)
      (all_cons (fun _ => ⟨C_AllOf, t_AllOf, w_AllOf, ci_AllOf_Question⟩)
      (all_cons (fun _ => ⟨C_OneOf, t_OneOf, w_OneOf, ci_OneOf_Question⟩)
      (all_cons (fun _ => ⟨C_Reader, t_Reader, w_Reader, ci_Reader_Question⟩)
      all_nil))))))), all_nil⟩⟩
  have Z : Fs K mg ct := ⟨ES, a_Question_holds, _, F_Question_holds, b_Question_holds, a_Every_holds, _, F_Every_holds, b_Every_holds, a_Within___init__, _, F_Within___init__, b_Within___init__, a_Within_holds, _, F_Within_holds, b_Within_holds, a_Opposite___init__, _, F_Opposite___init__, b_Opposite___init__, a_Opposite_holds, _, F_Opposite_holds, b_Opposite_holds, a_Chain___init__, _, F_Chain___init__, b_Chain___init__, a_AllOf_holds, _, F_AllOf_holds, b_AllOf_holds, a_OneOf_holds, _, F_OneOf_holds, b_OneOf_holds, a_is_name, _, F_is_name, b_is_name, PySem.W.mg_of X G ha_is_name, a_figures_of, _, F_figures_of, b_figures_of, PySem.W.mg_of X G ha_figures_of, a_words_of, _, F_words_of, b_words_of, PySem.W.mg_of X G ha_words_of, a_Reader___init__, _, F_Reader___init__, b_Reader___init__, a_Reader_word_here, _, F_Reader_word_here, b_Reader_word_here, a_Reader_place_here, _, F_Reader_place_here, b_Reader_place_here, a_Reader_past, _, F_Reader_past, b_Reader_past, a_Reader_whole_number, _, F_Reader_whole_number, b_Reader_whole_number, a_Reader_question, _, F_Reader_question, b_Reader_question, a_Reader_chain, _, F_Reader_chain, b_Reader_chain, a_Reader_piece, _, F_Reader_piece, b_Reader_piece, a_Reader_inner, _, F_Reader_inner, b_Reader_inner, a_Reader_range_of, _, F_Reader_range_of, b_Reader_range_of, a_read_question, _, F_read_question, b_read_question, PySem.W.mg_of X G ha_read_question, a__law_cell_at, _, F__law_cell_at, b__law_cell_at, PySem.W.mg_of X G ha__law_cell_at, a__law_whole, _, F__law_whole, b__law_whole, PySem.W.mg_of X G ha__law_whole, a__law_mixed, _, F__law_mixed, b__law_mixed, PySem.W.mg_of X G ha__law_mixed, a__law_name_of, _, F__law_name_of, b__law_name_of, PySem.W.mg_of X G ha__law_name_of, a__law_names, _, F__law_names, b__law_names, PySem.W.mg_of X G ha__law_names, a__law_value, _, F__law_value, b__law_value, PySem.W.mg_of X G ha__law_value, a__law_leaf, _, F__law_leaf, b__law_leaf, PySem.W.mg_of X G ha__law_leaf, a__law_built, _, F__law_built, b__law_built, PySem.W.mg_of X G ha__law_built, a__law_wrapped, _, F__law_wrapped, b__law_wrapped, PySem.W.mg_of X G ha__law_wrapped, a__law_words, _, F__law_words, b__law_words, PySem.W.mg_of X G ha__law_words, a__law_spaced, _, F__law_spaced, b__law_spaced, PySem.W.mg_of X G ha__law_spaced, a__law_split, _, F__law_split, b__law_split, PySem.W.mg_of X G ha__law_split, a__law_is_name, _, F__law_is_name, b__law_is_name, PySem.W.mg_of X G ha__law_is_name, a__law_are_figures, _, F__law_are_figures, b__law_are_figures, PySem.W.mg_of X G ha__law_are_figures, a__law_begun, _, F__law_begun, b__law_begun, PySem.W.mg_of X G ha__law_begun, a__law_ended, _, F__law_ended, b__law_ended, PySem.W.mg_of X G ha__law_ended, a__law_next, _, F__law_next, b__law_next, PySem.W.mg_of X G ha__law_next, a__law_fault, _, F__law_fault, b__law_fault, PySem.W.mg_of X G ha__law_fault, a__law_odd_word, _, F__law_odd_word, b__law_odd_word, PySem.W.mg_of X G ha__law_odd_word, a__law_spoilt, _, F__law_spoilt, b__law_spoilt, PySem.W.mg_of X G ha__law_spoilt, a__law_cut, _, F__law_cut, b__law_cut, PySem.W.mg_of X G ha__law_cut, a__law_refused, _, F__law_refused, b__law_refused, PySem.W.mg_of X G ha__law_refused, a_law, _, F_law, b_law, PySem.W.mg_of X G ha_law, C_Question, t_Question, ⟨p1_Question, p2_Question, p3_Question, p4_Question⟩, C_Every, t_Every, ⟨p1_Every, p2_Every, p3_Every, p4_Every⟩, C_Nobody, t_Nobody, ⟨p1_Nobody, p2_Nobody, p3_Nobody, p4_Nobody⟩, C_Within, t_Within, ⟨p1_Within, p2_Within, p3_Within, p4_Within⟩, C_Opposite, t_Opposite, ⟨p1_Opposite, p2_Opposite, p3_Opposite, p4_Opposite⟩, C_Chain, t_Chain, ⟨p1_Chain, p2_Chain, p3_Chain, p4_Chain⟩, C_AllOf, t_AllOf, ⟨p1_AllOf, p2_AllOf, p3_AllOf, p4_AllOf⟩, C_OneOf, t_OneOf, ⟨p1_OneOf, p2_OneOf, p3_OneOf, p4_OneOf⟩, C_Reader, t_Reader, ⟨p1_Reader, p2_Reader, p3_Reader, p4_Reader⟩, ⟨hm_Question_holds, hi_Question_holds, hk_Question_holds⟩, ⟨hm_Every_holds, hi_Every_holds, hk_Every_holds⟩, ⟨hm_Nobody_holds, hi_Question_holds, hk_Question_holds⟩, ⟨hm_Within_holds, hi_Within_holds, hk_Within_holds⟩, ⟨hm_Opposite_holds, hi_Opposite_holds, hk_Opposite_holds⟩, ⟨hm_Chain_holds, hi_Question_holds, hk_Question_holds⟩, ⟨hm_AllOf_holds, hi_AllOf_holds, hk_AllOf_holds⟩, ⟨hm_OneOf_holds, hi_OneOf_holds, hk_OneOf_holds⟩, ⟨hm_Reader_word_here, hi_Reader_word_here, hk_Reader_word_here⟩, ⟨hm_Reader_place_here, hi_Reader_place_here, hk_Reader_place_here⟩, ⟨hm_Reader_past, hi_Reader_past, hk_Reader_past⟩, ⟨hm_Reader_whole_number, hi_Reader_whole_number, hk_Reader_whole_number⟩, ⟨hm_Reader_question, hi_Reader_question, hk_Reader_question⟩, ⟨hm_Reader_chain, hi_Reader_chain, hk_Reader_chain⟩, ⟨hm_Reader_piece, hi_Reader_piece, hk_Reader_piece⟩, ⟨hm_Reader_inner, hi_Reader_inner, hk_Reader_inner⟩, ⟨hm_Reader_range_of, hi_Reader_range_of, hk_Reader_range_of⟩, PySem.W.mg_of X G hC_Every, ⟨q1_Every, q2_Every, q3_Every, q4_Every⟩, PySem.W.mg_of X G hC_Nobody, ⟨q1_Nobody, q2_Nobody, q3_Nobody, q4_Nobody⟩, PySem.W.mg_of X G hC_Within, ⟨q1_Within, q2_Within, hi_Within___init__, q3_Within⟩, PySem.W.mg_of X G hC_Opposite, ⟨q1_Opposite, q2_Opposite, hi_Opposite___init__, q3_Opposite⟩, PySem.W.mg_of X G hC_AllOf, ⟨q1_AllOf, q2_AllOf, hi_Chain___init__, q3_AllOf⟩, PySem.W.mg_of X G hC_OneOf, ⟨q1_OneOf, q2_OneOf, hi_Chain___init__, q3_OneOf⟩, PySem.W.mg_of X G hC_Reader, ⟨q1_Reader, q2_Reader, hi_Reader___init__, q3_Reader⟩, n_Within_name, n_Within_low, n_Within_high, n_Opposite_one, n_Chain_parts, n_AllOf_parts, n_OneOf_parts, n_Reader_words, n_Reader_finish, n_Reader_at⟩
  refine ⟨_, fun s v => (.of_eq rfl : BindsTo s (PySem.W.fnOf "law" "law" (defArgs s_law) (defBody s_law) (defScope s_law) .none kV_law dc_law pm_law an_law cd_law ty_law) ⟨[v], []⟩ [("script", v)]), fun base _ _ => ?_⟩
  have G2 : PF K ct l.prog w mg base (2 * 113 + 2) (call 113) T fns := pf B Z 113
  have FO := f_law F_law B Z.es G2
  rw [← c_law 113] at FO
  exact FO.imp fun vs H Q E ⟨a, ns, e1, e2, e3, e4⟩ => by subst e1; exact law_sp (law ns e3) e2 e4
end Wk

open PySem PySem.W PyProof.Rows
set_option maxRecDepth 100000 in
set_option maxHeartbeats 0 in
theorem PySem.Challenge.cw_runmarks_k64_refused_by_place_holds : PySem.Challenge.rw_runmarks_k64_refused_by_place.Holds := by
  w_on; o_law; k_head; (case hw => w_witness2)
  k_fill
  refine L2.walk_of (n := 63) (k := 230) (l := PySem.Challenge.rw_runmarks_k64_refused_by_place) (x := "script") (CX := fun w => L2.CX PySem.Challenge.rw_runmarks_k64_refused_by_place.prog w) (sp := fun w => Wk.spLaw _) rfl (by decide) rfl ⟨rfl, by decide, by decide⟩ (fun w h Y => PySem.W.kIn_of Y) ?F (fun _ _ a ns hl _ hS => ⟨a, ns, rfl, hS, hl, fun _ => rfl⟩) So.cx_none
  case F =>
    intro w mg fa h KX G hmg
    refine' Wk.all_mk Lw.law_true KX G hmg ?hC_Question ?hC_Every ?hC_Nobody ?hC_Within ?hC_Opposite ?hC_Chain ?hC_AllOf ?hC_OneOf ?hC_Reader ?ha_Question_holds ?hl_Question_holds ?hc_Question_holds ?hk_Question_holds ?hi_Question_holds ?ha_Every_holds ?hl_Every_holds ?hc_Every_holds ?hk_Every_holds ?hi_Every_holds ?ha_Within___init__ ?hl_Within___init__ ?hc_Within___init__ ?hk_Within___init__ ?hi_Within___init__ ?ha_Within_holds ?hl_Within_holds ?hc_Within_holds ?hk_Within_holds ?hi_Within_holds ?ha_Opposite___init__ ?hl_Opposite___init__ ?hc_Opposite___init__ ?hk_Opposite___init__ ?hi_Opposite___init__ ?ha_Opposite_holds ?hl_Opposite_holds ?hc_Opposite_holds ?hk_Opposite_holds ?hi_Opposite_holds ?ha_Chain___init__ ?hl_Chain___init__ ?hc_Chain___init__ ?hk_Chain___init__ ?hi_Chain___init__ ?ha_AllOf_holds ?hl_AllOf_holds ?hc_AllOf_holds ?hk_AllOf_holds ?hi_AllOf_holds ?ha_OneOf_holds ?hl_OneOf_holds ?hc_OneOf_holds ?hk_OneOf_holds ?hi_OneOf_holds ?ha_is_name ?hl_is_name ?hc_is_name ?hk_is_name ?hi_is_name ?ha_figures_of ?hl_figures_of ?hc_figures_of ?hk_figures_of ?hi_figures_of ?ha_words_of ?hl_words_of ?hc_words_of ?hk_words_of ?hi_words_of ?ha_Reader___init__ ?hl_Reader___init__ ?hc_Reader___init__ ?hk_Reader___init__ ?hi_Reader___init__ ?ha_Reader_word_here ?hl_Reader_word_here ?hc_Reader_word_here ?hk_Reader_word_here ?hi_Reader_word_here ?ha_Reader_place_here ?hl_Reader_place_here ?hc_Reader_place_here ?hk_Reader_place_here ?hi_Reader_place_here ?ha_Reader_past ?hl_Reader_past ?hc_Reader_past ?hk_Reader_past ?hi_Reader_past ?ha_Reader_whole_number ?hl_Reader_whole_number ?hc_Reader_whole_number ?hk_Reader_whole_number ?hi_Reader_whole_number ?ha_Reader_question ?hl_Reader_question ?hc_Reader_question ?hk_Reader_question ?hi_Reader_question ?ha_Reader_chain ?hl_Reader_chain ?hc_Reader_chain ?hk_Reader_chain ?hi_Reader_chain ?ha_Reader_piece ?hl_Reader_piece ?hc_Reader_piece ?hk_Reader_piece ?hi_Reader_piece ?ha_Reader_inner ?hl_Reader_inner ?hc_Reader_inner ?hk_Reader_inner ?hi_Reader_inner ?ha_Reader_range_of ?hl_Reader_range_of ?hc_Reader_range_of ?hk_Reader_range_of ?hi_Reader_range_of ?ha_read_question ?hl_read_question ?hc_read_question ?hk_read_question ?hi_read_question ?ha__law_cell_at ?hl__law_cell_at ?hc__law_cell_at ?hk__law_cell_at ?hi__law_cell_at ?ha__law_whole ?hl__law_whole ?hc__law_whole ?hk__law_whole ?hi__law_whole ?ha__law_mixed ?hl__law_mixed ?hc__law_mixed ?hk__law_mixed ?hi__law_mixed ?ha__law_name_of ?hl__law_name_of ?hc__law_name_of ?hk__law_name_of ?hi__law_name_of ?ha__law_names ?hl__law_names ?hc__law_names ?hk__law_names ?hi__law_names ?ha__law_value ?hl__law_value ?hc__law_value ?hk__law_value ?hi__law_value ?ha__law_leaf ?hl__law_leaf ?hc__law_leaf ?hk__law_leaf ?hi__law_leaf ?ha__law_built ?hl__law_built ?hc__law_built ?hk__law_built ?hi__law_built ?ha__law_wrapped ?hl__law_wrapped ?hc__law_wrapped ?hk__law_wrapped ?hi__law_wrapped ?ha__law_words ?hl__law_words ?hc__law_words ?hk__law_words ?hi__law_words ?ha__law_spaced ?hl__law_spaced ?hc__law_spaced ?hk__law_spaced ?hi__law_spaced ?ha__law_split ?hl__law_split ?hc__law_split ?hk__law_split ?hi__law_split ?ha__law_is_name ?hl__law_is_name ?hc__law_is_name ?hk__law_is_name ?hi__law_is_name ?ha__law_are_figures ?hl__law_are_figures ?hc__law_are_figures ?hk__law_are_figures ?hi__law_are_figures ?ha__law_begun ?hl__law_begun ?hc__law_begun ?hk__law_begun ?hi__law_begun ?ha__law_ended ?hl__law_ended ?hc__law_ended ?hk__law_ended ?hi__law_ended ?ha__law_next ?hl__law_next ?hc__law_next ?hk__law_next ?hi__law_next ?ha__law_fault ?hl__law_fault ?hc__law_fault ?hk__law_fault ?hi__law_fault ?ha__law_odd_word ?hl__law_odd_word ?hc__law_odd_word ?hk__law_odd_word ?hi__law_odd_word ?ha__law_spoilt ?hl__law_spoilt ?hc__law_spoilt ?hk__law_spoilt ?hi__law_spoilt ?ha__law_cut ?hl__law_cut ?hc__law_cut ?hk__law_cut ?hi__law_cut ?ha__law_refused ?hl__law_refused ?hc__law_refused ?hk__law_refused ?hi__law_refused ?ha_law ?hl_law ?hc_law ?hk_law ?hi_law ?p1_Question ?p2_Question ?p3_Question ?p4_Question ?p1_Every ?p2_Every ?p3_Every ?p4_Every ?p1_Nobody ?p2_Nobody ?p3_Nobody ?p4_Nobody ?p1_Within ?p2_Within ?p3_Within ?p4_Within ?p1_Opposite ?p2_Opposite ?p3_Opposite ?p4_Opposite ?p1_Chain ?p2_Chain ?p3_Chain ?p4_Chain ?p1_AllOf ?p2_AllOf ?p3_AllOf ?p4_AllOf ?p1_OneOf ?p2_OneOf ?p3_OneOf ?p4_OneOf ?p1_Reader ?p2_Reader ?p3_Reader ?p4_Reader ?hm_Question_holds ?hm_Every_holds ?hm_Nobody_holds ?hm_Within_holds ?hm_Opposite_holds ?hm_Chain_holds ?hm_AllOf_holds ?hm_OneOf_holds ?hm_Reader_word_here ?hm_Reader_place_here ?hm_Reader_past ?hm_Reader_whole_number ?hm_Reader_question ?hm_Reader_chain ?hm_Reader_piece ?hm_Reader_inner ?hm_Reader_range_of ?q1_Every ?q2_Every ?q3_Every ?q4_Every ?q1_Nobody ?q2_Nobody ?q3_Nobody ?q4_Nobody ?q1_Within ?q2_Within ?q3_Within ?q1_Opposite ?q2_Opposite ?q3_Opposite ?q1_AllOf ?q2_AllOf ?q3_AllOf ?q1_OneOf ?q2_OneOf ?q3_OneOf ?q1_Reader ?q2_Reader ?q3_Reader ?n_Within_name ?n_Within_low ?n_Within_high ?n_Opposite_one ?n_Chain_parts ?n_AllOf_parts ?n_OneOf_parts ?n_Reader_words ?n_Reader_finish ?n_Reader_at ?hC_BadText ?hC_MarksError ?hC_NoNumber ?xs_BadText ?xt_BadText ?xk_BadText ?xq_BadText ?xm_BadText ?xl_BadText ?xb_BadText ?xa_BadText ?xg_BadText ?xh_BadText ?xd_BadText ?xf_BadText ?xi_BadText ?xj_BadText ?hl_xBadText ?hc_xBadText ?hk_xBadText ?y1_MarksError ?y2_MarksError ?y3_MarksError ?ex_BadText_MarksError ?ex_BadText_BadText ?ck_BadText_BadText ?ck_BadText_ValueError ?ck_BadText_NoNumber ?cw_n ?cw_k ?cw_a_Every ?cw_m_Every ?cw_a_Nobody ?cw_m_Nobody ?cw_a_Within ?cw_m_Within ?cw_a_Opposite ?cw_m_Opposite ?cw_a_AllOf ?cw_m_AllOf ?cw_a_OneOf ?cw_m_OneOf ?cw_a_Reader ?cw_m_Reader ?ci_Every_Question ?ci_Nobody_Question ?ci_Within_Question ?ci_Opposite_Question ?ci_AllOf_Question ?ci_OneOf_Question ?ci_Reader_Question ?z_list ?z_all ?z_any ?z_len ?z_int ?z_enumerate ?z_isinstance ?z_bool ?z_range ?z_min ?z_max ?z_str ?z_ValueError
    (case hC_Question => k_is)
    (case hC_Every => k_is)
    (case hC_Nobody => k_is)
    (case hC_Within => k_is)
    (case hC_Opposite => k_is)
    (case hC_Chain => k_is)
    (case hC_AllOf => k_is)
    (case hC_OneOf => k_is)
    (case hC_Reader => k_is)
    (case ha_Question_holds => k_is)
    (case hl_Question_holds => k_is)
    (case hc_Question_holds => k_is)
    (case hk_Question_holds => k_is)
    (case hi_Question_holds => k_is)
    (case ha_Every_holds => k_is)
    (case hl_Every_holds => k_is)
    (case hc_Every_holds => k_is)
    (case hk_Every_holds => k_is)
    (case hi_Every_holds => k_is)
    (case ha_Within___init__ => k_is)
    (case hl_Within___init__ => k_is)
    (case hc_Within___init__ => k_is)
    (case hk_Within___init__ => k_is)
    (case hi_Within___init__ => k_is)
    (case ha_Within_holds => k_is)
    (case hl_Within_holds => k_is)
    (case hc_Within_holds => k_is)
    (case hk_Within_holds => k_is)
    (case hi_Within_holds => k_is)
    (case ha_Opposite___init__ => k_is)
    (case hl_Opposite___init__ => k_is)
    (case hc_Opposite___init__ => k_is)
    (case hk_Opposite___init__ => k_is)
    (case hi_Opposite___init__ => k_is)
    (case ha_Opposite_holds => k_is)
    (case hl_Opposite_holds => k_is)
    (case hc_Opposite_holds => k_is)
    (case hk_Opposite_holds => k_is)
    (case hi_Opposite_holds => k_is)
    (case ha_Chain___init__ => k_is)
    (case hl_Chain___init__ => k_is)
    (case hc_Chain___init__ => k_is)
    (case hk_Chain___init__ => k_is)
    (case hi_Chain___init__ => k_is)
    (case ha_AllOf_holds => k_is)
    (case hl_AllOf_holds => k_is)
    (case hc_AllOf_holds => k_is)
    (case hk_AllOf_holds => k_is)
    (case hi_AllOf_holds => k_is)
    (case ha_OneOf_holds => k_is)
    (case hl_OneOf_holds => k_is)
    (case hc_OneOf_holds => k_is)
    (case hk_OneOf_holds => k_is)
    (case hi_OneOf_holds => k_is)
    (case ha_is_name => k_is)
    (case hl_is_name => k_is)
    (case hc_is_name => k_is)
    (case hk_is_name => k_is)
    (case hi_is_name => k_is)
    (case ha_figures_of => k_is)
    (case hl_figures_of => k_is)
    (case hc_figures_of => k_is)
    (case hk_figures_of => k_is)
    (case hi_figures_of => k_is)
    (case ha_words_of => k_is)
    (case hl_words_of => k_is)
    (case hc_words_of => k_is)
    (case hk_words_of => k_is)
    (case hi_words_of => k_is)
    (case ha_Reader___init__ => k_is)
    (case hl_Reader___init__ => k_is)
    (case hc_Reader___init__ => k_is)
    (case hk_Reader___init__ => k_is)
    (case hi_Reader___init__ => k_is)
    (case ha_Reader_word_here => k_is)
    (case hl_Reader_word_here => k_is)
    (case hc_Reader_word_here => k_is)
    (case hk_Reader_word_here => k_is)
    (case hi_Reader_word_here => k_is)
    (case ha_Reader_place_here => k_is)
    (case hl_Reader_place_here => k_is)
    (case hc_Reader_place_here => k_is)
    (case hk_Reader_place_here => k_is)
    (case hi_Reader_place_here => k_is)
    (case ha_Reader_past => k_is)
    (case hl_Reader_past => k_is)
    (case hc_Reader_past => k_is)
    (case hk_Reader_past => k_is)
    (case hi_Reader_past => k_is)
    (case ha_Reader_whole_number => k_is)
    (case hl_Reader_whole_number => k_is)
    (case hc_Reader_whole_number => k_is)
    (case hk_Reader_whole_number => k_is)
    (case hi_Reader_whole_number => k_is)
    (case ha_Reader_question => k_is)
    (case hl_Reader_question => k_is)
    (case hc_Reader_question => k_is)
    (case hk_Reader_question => k_is)
    (case hi_Reader_question => k_is)
    (case ha_Reader_chain => k_is)
    (case hl_Reader_chain => k_is)
    (case hc_Reader_chain => k_is)
    (case hk_Reader_chain => k_is)
    (case hi_Reader_chain => k_is)
    (case ha_Reader_piece => k_is)
    (case hl_Reader_piece => k_is)
    (case hc_Reader_piece => k_is)
    (case hk_Reader_piece => k_is)
    (case hi_Reader_piece => k_is)
    (case ha_Reader_inner => k_is)
    (case hl_Reader_inner => k_is)
    (case hc_Reader_inner => k_is)
    (case hk_Reader_inner => k_is)
    (case hi_Reader_inner => k_is)
    (case ha_Reader_range_of => k_is)
    (case hl_Reader_range_of => k_is)
    (case hc_Reader_range_of => k_is)
    (case hk_Reader_range_of => k_is)
    (case hi_Reader_range_of => k_is)
    (case ha_read_question => k_is)
    (case hl_read_question => k_is)
    (case hc_read_question => k_is)
    (case hk_read_question => k_is)
    (case hi_read_question => k_is)
    (case ha__law_cell_at => k_is)
    (case hl__law_cell_at => k_is)
    (case hc__law_cell_at => k_is)
    (case hk__law_cell_at => k_is)
    (case hi__law_cell_at => k_is)
    (case ha__law_whole => k_is)
    (case hl__law_whole => k_is)
    (case hc__law_whole => k_is)
    (case hk__law_whole => k_is)
    (case hi__law_whole => k_is)
    (case ha__law_mixed => k_is)
    (case hl__law_mixed => k_is)
    (case hc__law_mixed => k_is)
    (case hk__law_mixed => k_is)
    (case hi__law_mixed => k_is)
    (case ha__law_name_of => k_is)
    (case hl__law_name_of => k_is)
    (case hc__law_name_of => k_is)
    (case hk__law_name_of => k_is)
    (case hi__law_name_of => k_is)
    (case ha__law_names => k_is)
    (case hl__law_names => k_is)
    (case hc__law_names => k_is)
    (case hk__law_names => k_is)
    (case hi__law_names => k_is)
    (case ha__law_value => k_is)
    (case hl__law_value => k_is)
    (case hc__law_value => k_is)
    (case hk__law_value => k_is)
    (case hi__law_value => k_is)
    (case ha__law_leaf => k_is)
    (case hl__law_leaf => k_is)
    (case hc__law_leaf => k_is)
    (case hk__law_leaf => k_is)
    (case hi__law_leaf => k_is)
    (case ha__law_built => k_is)
    (case hl__law_built => k_is)
    (case hc__law_built => k_is)
    (case hk__law_built => k_is)
    (case hi__law_built => k_is)
    (case ha__law_wrapped => k_is)
    (case hl__law_wrapped => k_is)
    (case hc__law_wrapped => k_is)
    (case hk__law_wrapped => k_is)
    (case hi__law_wrapped => k_is)
    (case ha__law_words => k_is)
    (case hl__law_words => k_is)
    (case hc__law_words => k_is)
    (case hk__law_words => k_is)
    (case hi__law_words => k_is)
    (case ha__law_spaced => k_is)
    (case hl__law_spaced => k_is)
    (case hc__law_spaced => k_is)
    (case hk__law_spaced => k_is)
    (case hi__law_spaced => k_is)
    (case ha__law_split => k_is)
    (case hl__law_split => k_is)
    (case hc__law_split => k_is)
    (case hk__law_split => k_is)
    (case hi__law_split => k_is)
    (case ha__law_is_name => k_is)
    (case hl__law_is_name => k_is)
    (case hc__law_is_name => k_is)
    (case hk__law_is_name => k_is)
    (case hi__law_is_name => k_is)
    (case ha__law_are_figures => k_is)
    (case hl__law_are_figures => k_is)
    (case hc__law_are_figures => k_is)
    (case hk__law_are_figures => k_is)
    (case hi__law_are_figures => k_is)
    (case ha__law_begun => k_is)
    (case hl__law_begun => k_is)
    (case hc__law_begun => k_is)
    (case hk__law_begun => k_is)
    (case hi__law_begun => k_is)
    (case ha__law_ended => k_is)
    (case hl__law_ended => k_is)
    (case hc__law_ended => k_is)
    (case hk__law_ended => k_is)
    (case hi__law_ended => k_is)
    (case ha__law_next => k_is)
    (case hl__law_next => k_is)
    (case hc__law_next => k_is)
    (case hk__law_next => k_is)
    (case hi__law_next => k_is)
    (case ha__law_fault => k_is)
    (case hl__law_fault => k_is)
    (case hc__law_fault => k_is)
    (case hk__law_fault => k_is)
    (case hi__law_fault => k_is)
    (case ha__law_odd_word => k_is)
    (case hl__law_odd_word => k_is)
    (case hc__law_odd_word => k_is)
    (case hk__law_odd_word => k_is)
    (case hi__law_odd_word => k_is)
    (case ha__law_spoilt => k_is)
    (case hl__law_spoilt => k_is)
    (case hc__law_spoilt => k_is)
    (case hk__law_spoilt => k_is)
    (case hi__law_spoilt => k_is)
    (case ha__law_cut => k_is)
    (case hl__law_cut => k_is)
    (case hc__law_cut => k_is)
    (case hk__law_cut => k_is)
    (case hi__law_cut => k_is)
    (case ha__law_refused => k_is)
    (case hl__law_refused => k_is)
    (case hc__law_refused => k_is)
    (case hk__law_refused => k_is)
    (case hi__law_refused => k_is)
    (case ha_law => k_is)
    (case hl_law => k_is)
    (case hc_law => k_is)
    (case hk_law => k_is)
    (case hi_law => k_is)
    (case p1_Question => k_is)
    (case p2_Question => k_is)
    (case p3_Question => k_is)
    (case p4_Question => k_is)
    (case p1_Every => k_is)
    (case p2_Every => k_is)
    (case p3_Every => k_is)
    (case p4_Every => k_is)
    (case p1_Nobody => k_is)
    (case p2_Nobody => k_is)
    (case p3_Nobody => k_is)
    (case p4_Nobody => k_is)
    (case p1_Within => k_is)
    (case p2_Within => k_is)
    (case p3_Within => k_is)
    (case p4_Within => k_is)
    (case p1_Opposite => k_is)
    (case p2_Opposite => k_is)
    (case p3_Opposite => k_is)
    (case p4_Opposite => k_is)
    (case p1_Chain => k_is)
    (case p2_Chain => k_is)
    (case p3_Chain => k_is)
    (case p4_Chain => k_is)
    (case p1_AllOf => k_is)
    (case p2_AllOf => k_is)
    (case p3_AllOf => k_is)
    (case p4_AllOf => k_is)
    (case p1_OneOf => k_is)
    (case p2_OneOf => k_is)
    (case p3_OneOf => k_is)
    (case p4_OneOf => k_is)
    (case p1_Reader => k_is)
    (case p2_Reader => k_is)
    (case p3_Reader => k_is)
    (case p4_Reader => k_is)
    (case hm_Question_holds => k_is)
    (case hm_Every_holds => k_is)
    (case hm_Nobody_holds => k_is)
    (case hm_Within_holds => k_is)
    (case hm_Opposite_holds => k_is)
    (case hm_Chain_holds => k_is)
    (case hm_AllOf_holds => k_is)
    (case hm_OneOf_holds => k_is)
    (case hm_Reader_word_here => k_is)
    (case hm_Reader_place_here => k_is)
    (case hm_Reader_past => k_is)
    (case hm_Reader_whole_number => k_is)
    (case hm_Reader_question => k_is)
    (case hm_Reader_chain => k_is)
    (case hm_Reader_piece => k_is)
    (case hm_Reader_inner => k_is)
    (case hm_Reader_range_of => k_is)
    (case q1_Every => k_is)
    (case q2_Every => k_is)
    (case q3_Every => k_is)
    (case q4_Every => k_is)
    (case q1_Nobody => k_is)
    (case q2_Nobody => k_is)
    (case q3_Nobody => k_is)
    (case q4_Nobody => k_is)
    (case q1_Within => k_is)
    (case q2_Within => k_is)
    (case q3_Within => k_is)
    (case q1_Opposite => k_is)
    (case q2_Opposite => k_is)
    (case q3_Opposite => k_is)
    (case q1_AllOf => k_is)
    (case q2_AllOf => k_is)
    (case q3_AllOf => k_is)
    (case q1_OneOf => k_is)
    (case q2_OneOf => k_is)
    (case q3_OneOf => k_is)
    (case q1_Reader => k_is)
    (case q2_Reader => k_is)
    (case q3_Reader => k_is)
    (case n_Within_name => k_is)
    (case n_Within_low => k_is)
    (case n_Within_high => k_is)
    (case n_Opposite_one => k_is)
    (case n_Chain_parts => k_is)
    (case n_AllOf_parts => k_is)
    (case n_OneOf_parts => k_is)
    (case n_Reader_words => k_is)
    (case n_Reader_finish => k_is)
    (case n_Reader_at => k_is)
    (case hC_BadText => k_is)
    (case hC_MarksError => k_is)
    (case hC_NoNumber => k_is)
    (case xs_BadText => k_is)
    (case xt_BadText => k_is)
    (case xk_BadText => k_is)
    (case xq_BadText => k_is)
    (case xm_BadText => k_is)
    (case xl_BadText => k_is)
    (case xb_BadText => decide +kernel)
    (case xa_BadText => k_is)
    (case xg_BadText => k_is)
    (case xh_BadText => k_is)
    (case xd_BadText => k_is)
    (case xf_BadText => k_is)
    (case xi_BadText => k_is)
    (case xj_BadText => k_is)
    (case hl_xBadText => k_is)
    (case hc_xBadText => k_is)
    (case hk_xBadText => k_is)
    (case y1_MarksError => k_is)
    (case y2_MarksError => k_is)
    (case y3_MarksError => k_is)
    (case ex_BadText_MarksError => kts_exm)
    (case ex_BadText_BadText => kts_exm)
    (case ck_BadText_BadText => kit_is)
    (case ck_BadText_ValueError => kit_is)
    (case ck_BadText_NoNumber => kit_is)
    (case cw_n => k_is)
    (case cw_k => k_is)
    (case cw_a_Every => k_is)
    (case cw_m_Every => k_is)
    (case cw_a_Nobody => k_is)
    (case cw_m_Nobody => k_is)
    (case cw_a_Within => k_is)
    (case cw_m_Within => k_is)
    (case cw_a_Opposite => k_is)
    (case cw_m_Opposite => k_is)
    (case cw_a_AllOf => k_is)
    (case cw_m_AllOf => k_is)
    (case cw_a_OneOf => k_is)
    (case cw_m_OneOf => k_is)
    (case cw_a_Reader => k_is)
    (case cw_m_Reader => k_is)
    (case ci_Every_Question => kit_is)
    (case ci_Nobody_Question => kit_is)
    (case ci_Within_Question => kit_is)
    (case ci_Opposite_Question => kit_is)
    (case ci_AllOf_Question => kit_is)
    (case ci_OneOf_Question => kit_is)
    (case ci_Reader_Question => kit_is)
    (case z_list => k_is)
    (case z_all => k_is)
    (case z_any => k_is)
    (case z_len => k_is)
    (case z_int => k_is)
    (case z_enumerate => k_is)
    (case z_isinstance => k_is)
    (case z_bool => k_is)
    (case z_range => k_is)
    (case z_min => k_is)
    (case z_max => k_is)
    (case z_str => k_is)
    (case z_ValueError => k_is)

