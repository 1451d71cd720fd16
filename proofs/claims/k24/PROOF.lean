import PyProof.Rows.All
import Wide.All
import OpenK.AllK
import Wide.FinOn
import KE.KStateDown
import Lean
import HandS.Head0
import HandS.Head1
import HandS.Head2
import HandS.ForMost
import HandS.Deep
import HandS.Wide
import HandS.IsInst
import HandS.WideBits
import HandS.WordsExc
import HandS.Words
import HandS.TupAny
import HandS.Conv
import HandS.RaiseMore
import HandS.SortInts
import HandS.More
import HandS.Small
import HandS.Text
import HandS.Comp
import HandS.Defaults
import HandS.HeadHook2
import HandS.HeadEnd
import KE.KDictPairs
import HandS.Zip
import HandS.Rev
import KE.GoesMore
import HandS.Replace
import HandS.Flt
import KE.GoesEnum
import KE.GoesZip
import PyProof.StrLawsIn
import HandS.NoneIn
import HandS.Codes
import HandS.Exc
import HandS.ExcOwn
import HandS.TryOnly
import HandS.ExcIs
import HandS.ExcField
import HandS.HeadHook1
import KE.KExcIs
import PyProof.CollectIter
import HandS.RevRange
import KE.KDictList
import PySem.Challenge.RW_bundlehouse_k24_names_given_on
set_option Elab.async false
set_option linter.all false
set_option maxRecDepth 100000
set_option maxHeartbeats 4000000
/-! B: a small language of plain data: what a body computes, with no heap in sight. -/
namespace B

/-- data that never changes -/
inductive D where
  | non | bl (b : Bool) | int (i : Int) | str (s : List Nat) | tup (l : List D) | lst (l : List D) | dct (t : Bool) (l : List (D × D)) | inp (l : List D) | inq (l : List D)
/-- a value: data, or a place of the store, or a tuple of such -/
inductive W where
  | d (x : D) | loc (n : Nat) | tw (l : List W)
/-- what a place of the store holds -/
inductive C where
  | l (xs : List D) | w (xs : List W) | m (t : Bool) (kvs : List (D × D)) | mw (t : Bool) (kvs : List (D × W)) | o (c : Nat) (fs : List (List Nat × W))
structure Exc where
  cls : Nat
  fs : List (List Nat × D)
abbrev Env := List (Option W)
abbrev Sto := List C
inductive R (α : Type) where
  | stuck | ok (a : α) | ex (x : Exc) (s : Sto)
abbrev VS := R (W × Sto)
abbrev Ev := Env → Sto → VS
abbrev Fn := List W → Sto → VS
inductive O where
  | nx (e : Env) (s : Sto) | rt (w : W) (s : Sto) | bk (e : Env) (s : Sto) | ct (e : Env) (s : Sto) | xx (x : Exc) (e : Env) (s : Sto)
abbrev Sx := Env → Sto → R O
abbrev Tx := Env → Sto → R (Bool × Sto)

def R.bind {α β : Type} (r : R α) (f : α → R β) : R β := match r with
  | .stuck => .stuck | .ok a => f a | .ex x s => .ex x s
/-- an expression within a statement -/
def R.bd {α : Type} (r : R α) (e : Env) (f : α → R O) : R O := match r with
  | .stuck => .stuck | .ok a => f a | .ex x s => .ok (.xx x e s)
@[simp] theorem R.bd_ok {α : Type} (a : α) (e : Env) (f : α → R O) : (R.ok a).bd e f = f a := rfl
@[simp] theorem R.bd_stuck {α : Type} (e : Env) (f : α → R O) : (R.stuck).bd e f = .stuck := rfl
@[simp] theorem R.bd_ex {α : Type} (x : Exc) (s : Sto) (e : Env) (f : α → R O) : (R.ex x s).bd e f = .ok (.xx x e s) := rfl
@[simp] theorem R.bind_ok {α β : Type} (a : α) (f : α → R β) : (R.ok a).bind f = f a := rfl
@[simp] theorem R.bind_stuck {α β : Type} (f : α → R β) : (R.stuck).bind f = .stuck := rfl
@[simp] theorem R.bind_ex {α β : Type} (x : Exc) (s : Sto) (f : α → R β) : (R.ex x s).bind f = .ex x s := rfl
/-- a fact that a step asks for -/
def need (b : Bool) {α : Type} (r : R α) : R α := if b = true then r else .stuck
@[simp] theorem need_true {α : Type} (r : R α) : need true r = r := rfl
theorem need_of {α : Type} {b : Bool} (h : b = true) (r : R α) : need b r = r := by subst h; rfl
def ofO {α : Type} : Option α → R α
  | some a => .ok a | none => .stuck
@[simp] theorem ofO_some {α : Type} (a : α) : ofO (some a) = .ok a := rfl

/-! ### data -/
mutual
def eqv : D → D → Bool
  | .non, .non => true
  | .bl a, .bl b => a == b
  | .bl a, .int j => (if a then 1 else 0) == j
  | .int i, .bl b => i == (if b then 1 else 0)
  | .int i, .int j => i == j
  | .str x, .str y => x == y
  | .lst xs, .lst ys => eqvL xs ys
  | .tup xs, .tup ys => eqvL xs ys
  | _, _ => false
def eqvL : List D → List D → Bool
  | [], [] => true
  | x :: xs, y :: ys => eqv x y && eqvL xs ys
  | _, _ => false
end
mutual
/-- data that == takes: texts of signs, not too deep, no dicts -/
def okD : Nat → D → Bool
  | _, .non => true
  | _, .bl _ => true
  | _, .int _ => true
  | _, .str s => s.all (· < 0x110000)
  | n + 1, .tup l => okL n l
  | n + 1, .lst l => okL n l
  | _, _ => false
def okL : Nat → List D → Bool
  | _, [] => true
  | n, x :: xs => okD n x && okL n xs
end
/-- None, boolsD, intsD, texts -/
def flat : D → Bool
  | .non => true | .bl _ => true | .int _ => true | .str _ => true | _ => false
mutual
/-- no list, no dict in it -/
def noL : D → Bool
  | .tup l => noLL l
  | .lst _ => false
  | .dct _ _ => false
  | .inp _ => false
  | .inq _ => false
  | _ => true
def noLL : List D → Bool
  | [] => true
  | x :: xs => noL x && noLL xs
end
def sizeL : Nat := 16777216

/-! ### from a value to data -/
mutual
/-- the data that a value tells in a store; p: the places that may be looked into -/
def toD : Nat → (Nat → Bool) → Sto → W → Option D
  | _, _, _, .d x => some x
  | n + 1, p, s, .loc k => if p k then (match s[k]? with
      | some (.l xs) => some (.lst xs)
      | some (.w ws) => (toDs n p s ws).map .lst
      | some (.m t kvs) => some (.dct t kvs)
      | _ => none) else none
  | n + 1, p, s, .tw ws => (toDs n p s ws).map .tup
  | 0, _, _, _ => none
def toDs : Nat → (Nat → Bool) → Sto → List W → Option (List D)
  | _, _, _, [] => some []
  | n, p, s, w :: ws => match toD n p s w with
    | some x => (toDs n p s ws).map (x :: ·)
    | none => none
end
def FU : Nat := 12
def dat (s : Sto) (w : W) : R D := match w with
  | .d x => .ok x
  | w => ofO (toD FU (fun _ => true) s w)
@[simp] theorem dat_d (s : Sto) (x : D) : dat s (.d x) = .ok x := rfl
def ws (l : List D) : List W := l.map .d
/-- the items of a list, as they lie -/
def items (s : Sto) : W → R (List W)
  | .d (.lst l) => .ok (ws l)
  | .d (.tup l) => .ok (ws l)
  | .d (.inp l) => .ok (ws l)
  | .d (.inq l) => .ok (ws l)
  | .tw l => .ok l
  | .loc k => match s[k]? with
    | some (.l l) => .ok (ws l)
    | some (.w l) => .ok l
    | _ => .stuck
  | _ => .stuck
def asD : W → R D
  | .d x => .ok x | _ => .stuck
def asDs : List W → Option (List D)
  | [] => some []
  | .d x :: r => (asDs r).map (x :: ·)
  | _ :: _ => none
/-- a new list in the store -/
def newL (xs : List W) (s : Sto) : VS := match asDs xs with
  | some l => .ok (.loc s.length, s ++ [.l l])
  | none => .ok (.loc s.length, s ++ [.w xs])

/-! ### closed under a line -/
mutual
def cl (n : Nat) : W → Bool
  | .d _ => true
  | .loc k => k < n
  | .tw l => cls n l
def cls (n : Nat) : List W → Bool
  | [] => true
  | w :: r => cl n w && cls n r
end
def clC (n : Nat) : C → Bool
  | .l _ => true
  | .m _ _ => true
  | .w xs => cls n xs
  | .mw _ kvs => cls n (kvs.map (·.2))
  | .o _ fs => cls n (fs.map (·.2))
def clS (n : Nat) (s : Sto) : Bool := s.all (clC n)
/-- a result behind which the places from n on are gone -/
def frz (n : Nat) (s : Sto) (w : W) : Option W := match w with
  | .d x => some (.d x)
  | w => if cl n w then some w else (toD FU (fun k => n ≤ k) s w).map .d
def fin (n : Nat) (r : VS) : VS := match r with
  | .ok (w, s) => (match frz n s w with
    | some w' => if clS n (s.take n) then .ok (w', s.take n) else .stuck
    | none => .stuck)
  | .ex x s => if clS n (s.take n) then .ex x (s.take n) else .stuck
  | .stuck => .stuck
def outOf (r : R O) : VS := match r with
  | .ok (.rt w s) => .ok (w, s)
  | .ok (.nx _ s) => .ok (.d .non, s)
  | .ok (.xx x _ s) => .ex x s
  | _ => .stuck
def start (n : Nat) (a : List W) : Env := a.map some ++ List.replicate (n - a.length) none
/-- a def: what it makes in the store is gone behind it -/
def mkF (n : Nat) (b : Sx) : Fn := fun a s => fin s.length (outOf (b (start n a) s))
/-- a def: what it makes in the store stays -/
def mkK (n : Nat) (b : Sx) : Fn := fun a s => outOf (b (start n a) s)

/-! ### expressions -/
def eV (i : Nat) : Ev := fun e s => match e[i]? with
  | some (some w) => .ok (w, s)
  | _ => .stuck
def eK (x : D) : Ev := fun _ s => .ok (.d x, s)
def e1 (f : W → Sto → VS) (a : Ev) : Ev := fun e s => (a e s).bind fun p => f p.1 p.2
def e2 (f : W → W → Sto → VS) (a b : Ev) : Ev := fun e s => (a e s).bind fun p => (b e p.2).bind fun q => f p.1 q.1 q.2
def e3 (f : W → W → W → Sto → VS) (a b c : Ev) : Ev := fun e s => (a e s).bind fun p => (b e p.2).bind fun q => (c e q.2).bind fun r => f p.1 q.1 r.1 r.2
def eAs : List Ev → Env → Sto → R (List W × Sto)
  | [], _, s => .ok ([], s)
  | a :: r, e, s => (a e s).bind fun p => (eAs r e p.2).bind fun q => .ok (p.1 :: q.1, q.2)
def eN (f : Fn) (as : List Ev) : Ev := fun e s => (eAs as e s).bind fun p => f p.1 p.2
/-- a step upon data -/
def d1 (f : D → R D) : W → Sto → VS := fun x s => (dat s x).bind fun a => (f a).bind fun r => .ok (.d r, s)
def d2 (f : D → D → R D) : W → W → Sto → VS := fun x y s => (dat s x).bind fun a => (dat s y).bind fun b => (f a b).bind fun r => .ok (.d r, s)

/-! tests -/
def tB (a : Ev) : Tx := fun e s => (a e s).bind fun p => match p.1 with
  | .d (.bl b) => .ok (b, p.2)
  | _ => .stuck
def tAnd (a b : Tx) : Tx := fun e s => (a e s).bind fun p => if p.1 then b e p.2 else .ok (false, p.2)
def tOr (a b : Tx) : Tx := fun e s => (a e s).bind fun p => if p.1 then .ok (true, p.2) else b e p.2
def tNot (a : Tx) : Tx := fun e s => (a e s).bind fun p => .ok (!p.1, p.2)
def eAnd (a b : Ev) : Ev := fun e s => (a e s).bind fun p => match p.1 with
  | .d (.bl true) => b e p.2
  | .d (.bl false) => .ok (.d (.bl false), p.2)
  | _ => .stuck
def eOr (a b : Ev) : Ev := fun e s => (a e s).bind fun p => match p.1 with
  | .d (.bl true) => .ok (.d (.bl true), p.2)
  | .d (.bl false) => b e p.2
  | _ => .stuck
def eNot (a : Ev) : Ev := fun e s => (a e s).bind fun p => match p.1 with
  | .d (.bl b) => .ok (.d (.bl (!b)), p.2)
  | _ => .stuck
def eIf (t : Tx) (a b : Ev) : Ev := fun e s => (t e s).bind fun p => if p.1 then a e p.2 else b e p.2

/-! operators on data -/
def I2 (f : Int → Int → R D) : D → D → R D
  | .int i, .int j => f i j
  | _, _ => .stuck
def small (i : Int) : Bool := decide (-(2 ^ 64) < i) && decide (i < 2 ^ 64)
def mulOk (i j : Int) : Bool := small i || small j || decide (i.natAbs.log2 + j.natAbs.log2 < 1000000)
def divOk (j : Int) : Bool := decide (0 < j) && decide (j.natAbs.log2 < 9000)
/-- the items of a list that the program has made -/
def lstOf (s : Sto) : W → R (List W)
  | .d (.lst l) => .ok (ws l)
  | .loc k => match s[k]? with
    | some (.l l) => .ok (ws l)
    | some (.w l) => .ok l
    | _ => .stuck
  | _ => .stuck
/-- lists and tuples joined: a new one, data -/
def oCat : W → W → Sto → VS := fun x y s => match x, y with
  | .d (.tup l), .d (.tup m) => need (decide (l.length + m.length ≤ sizeL) && decide (0 < l.length)) (.ok (.d (.tup (l ++ m)), s))
  | x, y => (lstOf s x).bind fun l => (lstOf s y).bind fun m => (ofO (asDs (l ++ m))).bind fun r => need (decide (r.length ≤ sizeL)) (.ok (.d (.lst r), s))
def oAdd : W → W → Sto → VS := fun x y s => match x, y with
  | .d (.int i), .d (.int j) => .ok (.d (.int (i + j)), s)
  | .d (.str x), .d (.str y) => need (decide (x.length + y.length ≤ sizeL)) (.ok (.d (.str (x ++ y)), s))
  | x, y => oCat x y s
def oAddI : D → D → R D := I2 fun i j => .ok (.int (i + j))
def oSub : D → D → R D := I2 fun i j => .ok (.int (i - j))
def oMul : D → D → R D
  | .int i, .int j => need (mulOk i j) (.ok (.int (i * j)))
  | .str z, .int j => need (decide (0 ≤ j) && decide (j ≤ 1000) && decide (z.length ≤ 1000)) (.ok (.str (List.replicate j.toNat z).flatten))
  | _, _ => .stuck
def oDiv : D → D → R D := I2 fun i j => need (divOk j) (.ok (.int (i / j)))
def oMod : D → D → R D := I2 fun i j => need (decide (0 < j)) (.ok (.int (i % j)))
def oPow : D → D → R D := I2 fun i j => need (decide (0 ≤ j) && decide (j ≤ 1000000) && decide (i.natAbs < 2 ^ 64)) (.ok (.int (i ^ j.toNat)))
def oNeg : D → R D
  | .int i => .ok (.int (-i)) | _ => .stuck
def cLt : D → D → R D := I2 fun i j => .ok (.bl (decide (i < j)))
def cLe : D → D → R D := I2 fun i j => .ok (.bl (decide (i ≤ j)))
def cGt : D → D → R D := I2 fun i j => .ok (.bl (decide (j < i)))
def cGe : D → D → R D := I2 fun i j => .ok (.bl (decide (j ≤ i)))
/-- None, intsD, boolsD, texts of one kind: == tells them apart as data does -/
def scalD : D → D → Bool
  | .non, .non => true | .non, .int _ => true | .int _, .non => true | .non, .bl _ => true | .bl _, .non => true | .non, .str _ => true | .str _, .non => true
  | .int _, .int _ => true | .bl _, .bl _ => true | .str _, .str _ => true
  | .int _, .str _ => true | .str _, .int _ => true | .bl _, .str _ => true | .str _, .bl _ => true
  | _, _ => false
def cEq : D → D → R D := fun a b => need (scalD a b || (okD 60 a && okD 60 b)) (.ok (.bl (eqv a b)))
def cNe : D → D → R D := fun a b => need (scalD a b || (okD 60 a && okD 60 b)) (.ok (.bl (!eqv a b)))
def isN : D → Bool
  | .non => true | _ => false
def cIsN : W → Sto → VS := fun x s => match x with
  | .d x => .ok (.d (.bl (isN x)), s)
  | _ => .ok (.d (.bl false), s)
def cNotN : W → Sto → VS := fun x s => match x with
  | .d x => .ok (.d (.bl (!isN x)), s)
  | _ => .ok (.d (.bl true), s)
/-- keys: intsD and texts; tuples of these -/
def key1 : D → Bool
  | .int _ => true | .str _ => true | _ => false
def keyOk (t : Bool) (x : D) : Bool := match x with
  | .tup l => t && l.all key1
  | x => !t && key1 x
def lookD {α : Type} (l : List (D × α)) (x : D) : Option α := (l.find? fun p => eqv p.1 x).map (·.2)
def putD {α : Type} (l : List (D × α)) (x : D) (v : α) : List (D × α) := if (l.any fun p => eqv p.1 x) = true then l.map (fun p => if eqv p.1 x = true then (p.1, v) else p) else l ++ [(x, v)]
/-- x in a list or a tuple -/
def inL (x : D) (l : List D) : Bool := l.any fun y => eqv y x
def seqOf : D → R (List D)
  | .lst l => .ok l | .tup l => .ok l | _ => .stuck
def oneOf (x : D) : D → R Bool
  | .lst l => need ((flat x && l.all flat) || (okD 60 x && okL 59 l)) (.ok (inL x l))
  | .tup l => need ((flat x && l.all flat) || (okD 60 x && okL 59 l)) (.ok (inL x l))
  | .dct t l => need (keyOk t x) (.ok (lookD l x).isSome)
  | .str z => (match x with
    | .str [c] => .ok (z.contains c)
    | _ => .stuck)
  | _ => .stuck
def cIn : D → D → R D := fun x y => (oneOf x y).bind fun b => .ok (.bl b)
def cNin : D → D → R D := fun x y => (oneOf x y).bind fun b => .ok (.bl (!b))
def ixN (n : Nat) (i : Int) : Option Nat := if 0 ≤ i then (if i < n then some i.toNat else none) else if -(n : Int) ≤ i then some (i + n).toNat else none
def atI {α : Type} (xs : List α) (i : Int) : Option α := (ixN xs.length i).bind fun j => xs[j]?
def ixW (l : List W) (y : W) (s : Sto) : VS := match y with
  | .d (.int i) => (ofO (atI l i)).bind fun w => .ok (w, s)
  | _ => .stuck
def ixM (t : Bool) (l : List (D × D)) (y : W) (s : Sto) : VS := (dat s y).bind fun k => need (keyOk t k) ((ofO (lookD l k)).bind fun v => .ok (.d v, s))
def ixMW (t : Bool) (l : List (D × W)) (y : W) (s : Sto) : VS := (dat s y).bind fun k => need (keyOk t k) ((ofO (lookD l k)).bind fun v => .ok (v, s))
def ixS (z : List Nat) (y : W) (s : Sto) : VS := match y with
  | .d (.int i) => need (decide (z.length ≤ sizeL)) ((ofO (atI z i)).bind fun c => .ok (.d (.str [c]), s))
  | _ => .stuck
/-- x[y] -/
def oIx : W → W → Sto → VS := fun x y s => match x with
  | .d (.str z) => ixS z y s
  | .d (.lst l) => ixW (ws l) y s
  | .d (.tup l) => ixW (ws l) y s
  | .d (.inp l) => ixW (ws l) y s
  | .d (.inq l) => ixW (ws l) y s
  | .d (.dct t l) => ixM t l y s
  | .tw l => ixW l y s
  | .loc n => (match s[n]? with
    | some (.l l) => ixW (ws l) y s
    | some (.w l) => ixW l y s
    | some (.m t l) => ixM t l y s
    | some (.mw t l) => ixMW t l y s
    | _ => .stuck)
  | _ => .stuck
def sIx (n d : Nat) : Option Int → Nat
  | none => d
  | some i => if i < 0 then (i + n).toNat else min i.toNat n
def cut {α : Type} (xs : List α) (lo hi : Option Int) : List α := (xs.drop (sIx xs.length 0 lo)).take (sIx xs.length xs.length hi - sIx xs.length 0 lo)
def asI : W → R (Option Int)
  | .d (.int i) => .ok (some i) | _ => .stuck
/-- x[lo:hi]; of a list a new one (data), of a text a text -/
def slice (lo hi : Option Int) (x : W) (s : Sto) : VS := match x with
  | .d (.str z) => need (decide (z.length ≤ sizeL)) (.ok (.d (.str (cut z lo hi)), s))
  | .d (.tup l) => .ok (.d (.tup (cut l lo hi)), s)
  | .d (.inp l) => .ok (.d (.lst (cut l lo hi)), s)
  | x => (lstOf s x).bind fun l => (ofO (asDs (cut l lo hi))).bind fun l => .ok (.d (.lst l), s)
def pt (o : Option Ev) (e : Env) (s : Sto) : R (Option Int × Sto) := match o with
  | none => .ok (none, s)
  | some b => (b e s).bind fun q => (asI q.1).bind fun i => .ok (i, q.2)
def eSl (a : Ev) (lo hi : Option Ev) : Ev := fun e s => (a e s).bind fun p => (pt lo e p.2).bind fun l => (pt hi e l.2).bind fun h => slice l.1 h.1 p.1 h.2
/-! displays -/
def tupW (l : List W) : W := match asDs l with
  | some l => .d (.tup l) | none => .tw l
def fTup : Fn := fun l s => need (decide (l.length ≤ sizeL)) (.ok (tupW l, s))
def fLst : Fn := fun l s => need (decide (l.length ≤ sizeL)) ((ofO (asDs l)).bind fun l => .ok (.d (.lst l), s))
def fLstC : Fn := fun l s => need (decide (l.length ≤ sizeL)) (newL l s)
/-! built-ins -/
def bLen : W → Sto → VS := fun x s => match x with
  | .d (.str z) => need (decide (z.length ≤ sizeL)) (.ok (.d (.int z.length), s))
  | .loc k => (match s[k]? with
    | some (.l l) => .ok (.d (.int l.length), s)
    | some (.w l) => .ok (.d (.int l.length), s)
    | _ => .stuck)
  | x => (items s x).bind fun l => .ok (.d (.int l.length), s)
/-- tuple(x) -/
def bTup : W → Sto → VS := fun x s => match x with
  | .d (.tup l) => .ok (.d (.tup l), s)
  | .tw l => .ok (.tw l, s)
  | .d (.inp l) => .ok (.d (.tup l), s)
  | x => (lstOf s x).bind fun l => .ok (tupW l, s)
/-- list(x): data; in the store -/
def bLst : W → Sto → VS := fun x s => (items s x).bind fun l => (ofO (asDs l)).bind fun l => .ok (.d (.lst l), s)
def bLstC : W → Sto → VS := fun x s => (items s x).bind fun l => newL l s
def intsD : List D → Option (List Int)
  | [] => some []
  | .int i :: r => (intsD r).map (i :: ·)
  | _ :: _ => none
def strsD : List D → Option (List (List Nat))
  | [] => some []
  | .str i :: r => (strsD r).map (i :: ·)
  | _ :: _ => none
def boolsD : List D → Option (List Bool)
  | [] => some []
  | .bl i :: r => (boolsD r).map (i :: ·)
  | _ :: _ => none
def listD : D → R (List D)
  | .lst l => .ok l | .inp l => .ok l | _ => .stuck
def bSum : D → R D := fun x => (listD x).bind fun l => (ofO (intsD l)).bind fun l => .ok (.int l.sum)
def bAny : D → R D := fun x => (listD x).bind fun l => (ofO (boolsD l)).bind fun l => .ok (.bl (l.any id))
/-- sorted(x), intsD -/
def bSortI : D → R D := fun x => (seqOf x).bind fun l => (ofO (intsD l)).bind fun l => .ok (.lst ((l.mergeSort (fun a b => decide (a ≤ b))).map .int))
def numL (n : Nat) : List Nat := (Nat.toDigits 10 n).map Char.toNat
def bStr : D → R D
  | .int i => need (decide (0 ≤ i) && decide (i.natAbs.log2 < 1920)) (.ok (.str (numL i.toNat)))
  | .str s => .ok (.str s)
  | _ => .stuck
/-- int(x) of an int, a bool -/
def bInt : D → R D
  | .int i => .ok (.int i)
  | .bl b => .ok (.int (if b then 1 else 0))
  | _ => .stuck
/-- isinstance(x, T) -/
inductive Ty where
  | str | int | bool | tuple | list
def tyD : Ty → D → Bool
  | .str, .str _ => true
  | .int, .int _ => true
  | .int, .bl _ => true
  | .bool, .bl _ => true
  | .tuple, .tup _ => true
  | .tuple, .inq _ => true
  | .list, .lst _ => true
  | .list, .inp _ => true
  | _, _ => false
def isTt : Ty → Bool
  | .tuple => true | _ => false
def isLt : Ty → Bool
  | .list => true | _ => false
def noDct : D → Bool
  | .dct _ _ => false | _ => true
def isI (t : Ty) : W → Sto → VS := fun x s => match x with
  | .d x => need (noDct x) (.ok (.d (.bl (tyD t x)), s))
  | .tw _ => .ok (.d (.bl (isTt t)), s)
  | .loc k => (match s[k]? with
    | some (.l _) => .ok (.d (.bl (isLt t)), s)
    | some (.w _) => .ok (.d (.bl (isLt t)), s)
    | _ => .stuck)
def bMax2 : D → D → R D := I2 fun i j => .ok (.int (if j > i then j else i))
def bMin2 : D → D → R D := I2 fun i j => .ok (.int (if j < i then j else i))
def bAbs : D → R D
  | .int i => .ok (.int (if i < 0 then -i else i)) | _ => .stuck
def bDivmod : W → W → Sto → VS := fun x y s => match x, y with
  | .d (.int i), .d (.int j) => need (divOk j) (.ok (.d (.tup [.int (i / j), .int (i % j)]), s))
  | _, _ => .stuck
def joinL (s : List Nat) : List (List Nat) → List Nat
  | [] => []
  | [x] => x
  | x :: y :: r => x ++ s ++ joinL s (y :: r)
def bJoin : D → D → R D
  | .str s, x => (seqOf x).bind fun l => (ofO (strsD l)).bind fun l => need (decide ((l.map List.length).sum + s.length * l.length ≤ sizeL)) (.ok (.str (joinL s l)))
  | _, _ => .stuck
def rngD (lo : Int) : Nat → List D
  | 0 => []
  | n + 1 => .int lo :: rngD (lo + 1) n
def small24 (i : Int) : Bool := decide (0 ≤ i) && decide (i ≤ 16777216)
/-- tuple(range(n)), list(range(n)) -/
def bTupR : W → Sto → VS := fun x s => match x with
  | .d (.int i) => need (small24 i) (.ok (.d (.tup (rngD 0 i.toNat)), s))
  | _ => .stuck
def bLstR : W → Sto → VS := fun x s => match x with
  | .d (.int i) => need (small24 i) (.ok (.d (.lst (rngD 0 i.toNat)), s))
  | _ => .stuck
def bLstRC : W → Sto → VS := fun x s => match x with
  | .d (.int i) => need (small24 i) (.ok (.loc s.length, s ++ [.l (rngD 0 i.toNat)]))
  | _ => .stuck
def oAnd : D → D → R D := I2 fun i j => need (decide (0 ≤ i) && decide (0 ≤ j)) (.ok (.int ((i.toNat &&& j.toNat : Nat) : Int)))
def oOr : D → D → R D := I2 fun i j => need (decide (0 ≤ i) && decide (0 ≤ j)) (.ok (.int ((i.toNat ||| j.toNat : Nat) : Int)))
def oXor : D → D → R D := I2 fun i j => need (decide (0 ≤ i) && decide (0 ≤ j)) (.ok (.int ((i.toNat ^^^ j.toNat : Nat) : Int)))
def oShl : D → D → R D := I2 fun i j => need (decide (0 ≤ j) && decide (j ≤ 1000000) && decide (i.natAbs < 2 ^ 64)) (.ok (.int (i * 2 ^ j.toNat)))

/-! calls -/
def allD : List W → Bool
  | [] => true
  | .d _ :: r => allD r
  | _ :: _ => false
/-- the call of a def upon data, in a store of its own -/
def callD (f : Fn) (ds : List D) (s : Sto) : VS := match f (ws ds) [] with
  | .ok (.d x, []) => .ok (.d x, s)
  | .ex x _ => .ex x s
  | _ => .stuck
/-- the same of a def that no exception leaves -/
def noX (r : VS) : VS := match r with
  | .ex _ _ => .stuck
  | r => r
def callP (f : Fn) : Fn := fun l s => match asDs l with
  | some ds => callD f ds s
  | none => match toDs FU (fun _ => true) s l with
    | some ds => (match callD f ds s with
      | .ok (.d x, s') => if noL x then .ok (.d x, s') else .stuck
      | _ => .stuck)
    | none => .stuck
def callP0 (f : Fn) : Fn := fun l s => noX (callP f l s)
/-- the call of a def that makes a list or a dict of data; this lies in the store -/
def callF (f : Fn) : Fn := fun l s => match asDs l with
  | some ds => (match f (ws ds) [] with
    | .ok (.loc k, t) => (match t[k]? with
      | some (.l xs) => .ok (.loc s.length, s ++ [.l xs])
      | some (.m b xs) => .ok (.loc s.length, s ++ [.m b xs])
      | _ => .stuck)
    | .ex x _ => .ex x s
    | _ => .stuck)
  | none => .stuck
/-- the call of a def that changes what it is handed -/
def callM (f : Fn) : Fn := f
def callM0 (f : Fn) : Fn := fun l s => noX (f l s)

/-! targets and statements -/
abbrev Tg := W → Env → Sto → R (Env × Sto)
def gN (i : Nat) : Tg := fun w e s => .ok (e.set i (some w), s)
def gTs : List Tg → List W → Env → Sto → R (Env × Sto)
  | [], [], e, s => .ok (e, s)
  | g :: gs, w :: ws, e, s => (g w e s).bind fun p => gTs gs ws p.1 p.2
  | _, _, _, _ => .stuck
def tupItems : W → R (List W)
  | .d (.tup l) => .ok (ws l)
  | .tw l => .ok l
  | _ => .stuck
def gT (gs : List Tg) : Tg := fun w e s => (tupItems w).bind fun l => gTs gs l e s
def sSkip : Sx := fun e s => .ok (.nx e s)
def sNever : Sx := fun _ _ => .stuck
def sSeq (a b : Sx) : Sx := fun e s => (a e s).bind fun o => match o with
  | .nx e s => b e s
  | o => .ok o
def sAsg (g : Tg) (a : Ev) : Sx := fun e s => (a e s).bd e fun p => (g p.1 e p.2).bd e fun q => .ok (.nx q.1 q.2)
def sX (a : Ev) : Sx := fun e s => (a e s).bd e fun p => .ok (.nx e p.2)
def sRet (a : Ev) : Sx := fun e s => (a e s).bd e fun p => .ok (.rt p.1 p.2)
def sRetN : Sx := fun _ s => .ok (.rt (.d .non) s)
def sIf (t : Tx) (a b : Sx) : Sx := fun e s => (t e s).bd e fun p => if p.1 then a e p.2 else b e p.2
def sBrk : Sx := fun e s => .ok (.bk e s)
def sCnt : Sx := fun e s => .ok (.ct e s)
/-- names forgotten -/
def kill : List Nat → Env → Env
  | [], e => e
  | i :: r, e => kill r (e.set i none)
def sKill (ks : List Nat) (a : Sx) : Sx := fun e s => (a e s).bind fun o => match o with
  | .nx e s => .ok (.nx (kill ks e) s)
  | .ct e s => .ok (.ct (kill ks e) s)
  | .bk e s => .ok (.bk (kill ks e) s)
  | o => .ok o
/-- the places that a turn makes are gone behind it -/
def clE (n : Nat) (e : Env) : Bool := e.all fun o => match o with | some w => cl n w | none => true
def cutO (n : Nat) (o : O) : R O := match o with
  | .nx e s => need (clE n e && clS n (s.take n)) (.ok (.nx e (s.take n)))
  | .ct e s => need (clE n e && clS n (s.take n)) (.ok (.ct e (s.take n)))
  | .bk e s => need (clE n e && clS n (s.take n)) (.ok (.bk e (s.take n)))
  | o => .ok o
def sCut (a : Sx) : Sx := fun e s => (a e s).bind (cutO s.length)
/-- behind a turn -/
def turn (o : O) (k : Env → Sto → R O) : R O := match o with
  | .nx e s => k e s
  | .ct e s => k e s
  | .bk e s => .ok (.nx e s)
  | .rt w s => .ok (.rt w s)
  | .xx x e s => .ok (.xx x e s)
/-- the turns of a for -/
def loop (g : Tg) (b : Sx) : List W → Env → Sto → R O
  | [], e, s => .ok (.nx e s)
  | x :: xs, e, s => (g x e s).bd e fun p => (b p.1 p.2).bind fun o => turn o (loop g b xs)
def rng (lo : Int) : Nat → List W
  | 0 => []
  | n + 1 => .d (.int lo) :: rng (lo + 1) n
abbrev Wk := Env → Sto → R (List W × Sto)
def iSeq (a : Ev) : Wk := fun e s => (a e s).bind fun p => match p.1 with
  | .d (.lst l) => .ok (ws l, p.2)
  | .d (.tup l) => .ok (ws l, p.2)
  | .d (.inp l) => .ok (ws l, p.2)
  | .d (.inq l) => .ok (ws l, p.2)
  | .tw l => .ok (l, p.2)
  | _ => .stuck
def small62 (i : Int) : Bool := decide (-(2 ^ 62) ≤ i) && decide (i < 2 ^ 62)
def iR1 (a : Ev) : Wk := fun e s => (a e s).bind fun p => match p.1 with
  | .d (.int i) => need (small62 i) (.ok (rng 0 i.toNat, p.2))
  | _ => .stuck
def rng2 : W → W → Sto → R (List W × Sto)
  | .d (.int i), .d (.int j), s => need (small62 i && small62 j) (.ok (rng i (j - i).toNat, s))
  | _, _, _ => .stuck
def iR2 (a b : Ev) : Wk := fun e s => (a e s).bind fun p => (b e p.2).bind fun q => rng2 p.1 q.1 q.2
def iStr (a : Ev) : Wk := fun e s => (a e s).bind fun p => match p.1 with
  | .d (.str z) => .ok (z.map (fun c => .d (.str [c])), p.2)
  | _ => .stuck
def sFor (i : Wk) (g : Tg) (b : Sx) : Sx := fun e s => (i e s).bd e fun p => loop g b p.1 e p.2
/-- the turns of a while -/
def whl (t : Tx) (b : Sx) : Nat → Env → Sto → R O
  | 0, _, _ => .stuck
  | n + 1, e, s => (t e s).bd e fun p => if p.1 then (b e p.2).bind fun o => turn o (whl t b n) else .ok (.nx e p.2)
def TURNS : Nat := 1000000
def sWhl (t : Tx) (b : Sx) : Sx := fun e s => whl t b TURNS e s
def qt {α : Type} : R α → R α
  | .ex _ _ => .stuck | r => r
/-- a list comprehension: its items -/
def comp (g : Tg) (t : Tx) (a : Ev) (own : List Nat) (e0 : Env) : List W → Sto → R (List W × Sto)
  | [], s => .ok ([], s)
  | x :: xs, s => (qt (g x (kill own e0) s)).bind fun p => (qt (t p.1 p.2)).bind fun q => if q.1 then
      (qt (a p.1 q.2)).bind fun r => (comp g t a own e0 xs r.2).bind fun z => .ok (r.1 :: z.1, z.2)
    else comp g t a own e0 xs q.2
def tYes : Tx := fun _ s => .ok (true, s)
/-- [a for ..]: data -/
def eComp (i : Wk) (g : Tg) (t : Tx) (a : Ev) (own : List Nat) : Ev := fun e s => (i e s).bind fun p => need (decide (p.1.length ≤ sizeL)) ((comp g t a own e p.1 p.2).bind fun q =>
  (ofO (asDs q.1)).bind fun l => .ok (.d (.lst l), q.2))
/-- [a for ..]: in the store -/
def eCompC (i : Wk) (g : Tg) (t : Tx) (a : Ev) (own : List Nat) : Ev := fun e s => (i e s).bind fun p => need (decide (p.1.length ≤ sizeL)) ((comp g t a own e p.1 p.2).bind fun q => newL q.1 q.2)
/-! lists in the store -/
def isL : W → Sto → Bool
  | .loc k, s => (match s[k]? with
    | some (.l _) => true
    | some (.w _) => true
    | _ => false)
  | .d (.lst _), _ => true
  | .d (.inp _), _ => true
  | _, _ => false
def isM : W → Sto → Bool
  | .loc k, s => (match s[k]? with
    | some (.m _ _) => true
    | some (.mw _ _) => true
    | _ => false)
  | .d (.dct _ _), _ => true
  | _, _ => false
def isS : W → Sto → Bool
  | .d (.str _), _ => true
  | _, _ => false
/-- o.m(), o.m(a), o.m(a, b): the kind of o is asked first -/
def m0 (p : W → Sto → Bool) (f : W → Sto → VS) (a : Ev) : Ev := fun e s => (a e s).bind fun q => need (p q.1 q.2) (f q.1 q.2)
def m1 (p : W → Sto → Bool) (f : W → W → Sto → VS) (a b : Ev) : Ev := fun e s => (a e s).bind fun q => need (p q.1 q.2) ((b e q.2).bind fun r => f q.1 r.1 r.2)
def m2 (p : W → Sto → Bool) (f : W → W → W → Sto → VS) (a b c : Ev) : Ev := fun e s => (a e s).bind fun q => need (p q.1 q.2) ((b e q.2).bind fun r => (c e r.2).bind fun t => f q.1 r.1 t.1 t.2)
def wl (l : List D) (y : W) : C := match y with
  | .d v => .l (l ++ [v]) | y => .w (ws l ++ [y])
def lAppend : W → W → Sto → VS := fun x y s => match x with
  | .loc k => (match s[k]? with
    | some (.l l) => need (decide (l.length < sizeL)) (.ok (.d .non, s.set k (wl l y)))
    | some (.w l) => need (decide (l.length < sizeL)) (.ok (.d .non, s.set k (.w (l ++ [y]))))
    | _ => .stuck)
  | _ => .stuck
/-- list or tuple, but no dict -/
def seqW (s : Sto) : W → R (List W)
  | .d (.lst l) => .ok (ws l)
  | .d (.tup l) => .ok (ws l)
  | .tw l => .ok l
  | .loc k => match s[k]? with
    | some (.l l) => .ok (ws l)
    | some (.w l) => .ok l
    | _ => .stuck
  | _ => .stuck
def mkC (l : List W) : C := match asDs l with
  | some d => .l d | none => .w l
def lExtend : W → W → Sto → VS := fun x y s => match x with
  | .loc k => (lstOf s x).bind fun l => (seqW s y).bind fun m => need (decide (l.length + m.length ≤ sizeL)) (.ok (.d .non, s.set k (mkC (l ++ m))))
  | _ => .stuck
def lPop : W → Sto → VS := fun x s => match x with
  | .loc k => (match s[k]? with
    | some (.l l) => (ofO l.getLast?).bind fun v => .ok (.d v, s.set k (.l l.dropLast))
    | some (.w l) => (ofO l.getLast?).bind fun v => .ok (v, s.set k (.w l.dropLast))
    | _ => .stuck)
  | _ => .stuck
def lPopAt : W → W → Sto → VS := fun x y s => match x, y with
  | .loc k, .d (.int i) => need (small62 i) (match s[k]? with
    | some (.l l) => (ofO (ixN l.length i)).bind fun j => (ofO l[j]?).bind fun v => .ok (.d v, s.set k (.l (l.eraseIdx j)))
    | some (.w l) => (ofO (ixN l.length i)).bind fun j => (ofO l[j]?).bind fun v => .ok (v, s.set k (.w (l.eraseIdx j)))
    | _ => .stuck)
  | _, _ => .stuck
def ins {α : Type} (l : List α) (i : Nat) (y : α) : List α := l.take i ++ [y] ++ l.drop i
def lInsert : W → W → W → Sto → VS := fun x i y s => match x, i with
  | .loc k, .d (.int i) => need (small62 i && decide (0 ≤ i)) (match s[k]? with
    | some (.l l) => need (decide (l.length < sizeL)) (.ok (.d .non, s.set k (match y with
      | .d v => .l (ins l i.toNat v) | y => .w (ins (ws l) i.toNat y))))
    | some (.w l) => need (decide (l.length < sizeL)) (.ok (.d .non, s.set k (.w (ins l i.toNat y))))
    | _ => .stuck)
  | _, _ => .stuck
def lReverse : W → Sto → VS := fun x s => match x with
  | .loc k => (match s[k]? with
    | some (.l l) => .ok (.d .non, s.set k (.l l.reverse))
    | some (.w l) => .ok (.d .non, s.set k (.w l.reverse))
    | _ => .stuck)
  | _ => .stuck
def mapD (l : List (D × D)) : List (D × W) := l.map fun p => (p.1, .d p.2)
/-- o[i] = v -/
def setAny : W → W → W → Sto → R Sto := fun o i v s => match o with
  | .loc k => (match s[k]? with
    | some (.l l) => (match i with
      | .d (.int i) => (ofO (ixN l.length i)).bind fun j => .ok (s.set k (match v with
        | .d x => .l (l.set j x) | v => .w ((ws l).set j v)))
      | _ => .stuck)
    | some (.w l) => (match i with
      | .d (.int i) => (ofO (ixN l.length i)).bind fun j => .ok (s.set k (.w (l.set j v)))
      | _ => .stuck)
    | some (.m t l) => (dat s i).bind fun x => need (keyOk t x && decide (l.length < sizeL)) (.ok (s.set k (match v with
        | .d y => .m t (putD l x y) | v => .mw t (putD (mapD l) x v))))
    | some (.mw t l) => (dat s i).bind fun x => need (keyOk t x && decide (l.length < sizeL)) (.ok (s.set k (.mw t (putD l x v))))
    | _ => .stuck)
  | _ => .stuck
/-- the target o[i] -/
def gSb (o i : Ev) : Tg := fun w e s => qt ((o e s).bind fun p => (i e p.2).bind fun q => (setAny p.1 q.1 w q.2).bind fun s' => .ok (e, s'))
/-- {} -/
def eDct (t : Bool) : Ev := fun _ s => .ok (.loc s.length, s ++ [.m t []])
end B
/-! B over the layer: what the plain evaluators say is what the readings ask. -/
namespace B
open PySem L2

/-- what the top gives: the written part, the classes of exceptions and of objects -/
structure Bx where
  K : PySem.W.Frag
  xc : Nat → Value
  oc : Nat → Addr
  pin : Option (Nat × V × Option Hp) := none
def sof (l : List Nat) : Str := ⟨l.toArray⟩
theorem sof_inj {a b : List Nat} (h : sof a = sof b) : a = b := by
  have := congrArg (fun s : Str => s.cps.toList) h
  simpa [sof] using this
theorem sof_len (l : List Nat) : (sof l).length = l.length := by simp [sof, Str.length]
theorem sof_cps (l : List Nat) : (sof l).cps.toList = l := by simp [sof]

/-! ### data in a heap -/
def keyK : D → Option Key
  | .int i => some (.inl i) | .str s => some (.inr (sof s)) | _ => none
def keyKs : List D → Option (List Key)
  | [] => some []
  | d :: r => match keyK d with | some k => (keyKs r).map (k :: ·) | none => none
def keyT : D → Option (List Key)
  | .tup l => keyKs l | _ => none
/-- a tuple that is known to the object -/
theorem sqq {K : PySem.W.Frag} {G : Hp} {a : Addr} {o : Obj} {vs : List V} (h : G a = some (.frz o (.tup vs)) ∧ o.dict = none) : SqT K G a vs := .inl (.inr ⟨o, h.1⟩)
mutual
inductive Rep (K : PySem.W.Frag) (G : Hp) : D → V → Prop
  | non : Rep K G .non .non
  | bl (b : Bool) : Rep K G (.bl b) (.bl b)
  | int (i : Int) : Rep K G (.int i) (.int i)
  | str (s : List Nat) : Rep K G (.str s) (.str (sof s))
  | tup {a : Addr} {vs : List V} {l : List D} : G a = some (.tup vs) → RepL K G l vs → Rep K G (.tup l) (.ref a)
  | lst {a : Addr} {vs : List V} {l : List D} : G a = some (.lst vs) → RepL K G l vs → Rep K G (.lst l) (.ref a)
  | inp {a : Addr} {vs : List V} {l : List D} : SqL K G a vs → RepL K G l vs → Rep K G (.inp l) (.ref a)
  | inq {a : Addr} {o : Obj} {vs : List V} {l : List D} : G a = some (.frz o (.tup vs)) ∧ o.dict = none → RepL K G l vs → Rep K G (.inq l) (.ref a)
  | dk {a : Addr} {kv : List (Key × V)} {l : List (D × D)} : Rd G a (.dK kv) → l.map (fun p => keyK p.1) = kv.map (fun p => some p.1) → RepL K G (l.map (·.2)) (kv.map (·.2)) → Rep K G (.dct false l) (.ref a)
  | dt {a : Addr} {kv : List (List Key × V)} {l : List (D × D)} : Rd G a (.dT kv) → l.map (fun p => keyT p.1) = kv.map (fun p => some p.1) → RepL K G (l.map (·.2)) (kv.map (·.2)) → Rep K G (.dct true l) (.ref a)
inductive RepL (K : PySem.W.Frag) (G : Hp) : List D → List V → Prop
  | nil : RepL K G [] []
  | cons {d : D} {v : V} {l : List D} {vs : List V} : Rep K G d v → RepL K G l vs → RepL K G (d :: l) (v :: vs)
end
theorem Same.rd {H H' : Hp} (e : Same H H') {a : Addr} {u : HO} (h : Rd H a u) : Rd H' a u := by
  rcases h with h | ⟨o, h⟩
  · exact .inl (e _ _ h)
  · exact .inr ⟨o, e _ _ h⟩
theorem Same.sqt {K : PySem.W.Frag} {H H' : Hp} (e : Same H H') {a : Addr} {xs : List V} (h : SqT K H a xs) : SqT K H' a xs := by
  rcases h with h | h
  · exact .inl (Same.rd e h)
  · exact .inr h
section
variable {K : PySem.W.Frag} {G G' : Hp}
mutual
theorem Rep.mono (e : Same G G') : ∀ {d : D} {v : V}, Rep K G d v → Rep K G' d v
  | _, _, .non => .non
  | _, _, .bl b => .bl b
  | _, _, .int i => .int i
  | _, _, .str s => .str s
  | _, _, .tup h r => .tup (e _ _ h) (RepL.mono e r)
  | _, _, .lst h r => .lst (e _ _ h) (RepL.mono e r)
  | _, _, .inp h r => .inp (e.seq h) (RepL.mono e r)
  | _, _, .inq h r => .inq ⟨e _ _ h.1, h.2⟩ (RepL.mono e r)
  | _, _, .dk h k r => .dk (Same.rd e h) k (RepL.mono e r)
  | _, _, .dt h k r => .dt (Same.rd e h) k (RepL.mono e r)
theorem RepL.mono (e : Same G G') : ∀ {l : List D} {vs : List V}, RepL K G l vs → RepL K G' l vs
  | _, _, .nil => .nil
  | _, _, .cons h r => .cons (Rep.mono e h) (RepL.mono e r)
end
theorem RepL.length : ∀ {l : List D} {vs : List V}, RepL K G l vs → l.length = vs.length
  | _, _, .nil => rfl
  | _, _, .cons _ r => congrArg (· + 1) (RepL.length r)
theorem RepL.append : ∀ {l l' : List D} {vs vs' : List V}, RepL K G l vs → RepL K G l' vs' → RepL K G (l ++ l') (vs ++ vs')
  | _, _, _, _, .nil, s => s
  | _, _, _, _, .cons h r, s => .cons h (RepL.append r s)
end

/-! ### values over a store -/
mutual
inductive RepW (K : PySem.W.Frag) (ρ : List Addr) (G : Hp) : W → V → Prop
  | d {x : D} {v : V} : Rep K G x v → RepW K ρ G (.d x) v
  | loc {n : Nat} {a : Addr} : ρ[n]? = some a → RepW K ρ G (.loc n) (.ref a)
  | tw {a : Addr} {vs : List V} {l : List W} : G a = some (.tup vs) → RepWs K ρ G l vs → RepW K ρ G (.tw l) (.ref a)
inductive RepWs (K : PySem.W.Frag) (ρ : List Addr) (G : Hp) : List W → List V → Prop
  | nil : RepWs K ρ G [] []
  | cons {w : W} {v : V} {l : List W} {vs : List V} : RepW K ρ G w v → RepWs K ρ G l vs → RepWs K ρ G (w :: l) (v :: vs)
end
section
variable {K : PySem.W.Frag} {ρ ρ' : List Addr} {G G' : Hp}
mutual
theorem RepW.mono (p : ∀ (n : Nat) (a : Addr), ρ[n]? = some a → ρ'[n]? = some a) (e : Same G G') : ∀ {w : W} {v : V}, RepW K ρ G w v → RepW K ρ' G' w v
  | _, _, .d h => .d (Rep.mono e h)
  | _, _, .loc h => .loc (p _ _ h)
  | _, _, .tw h r => .tw (e _ _ h) (RepWs.mono p e r)
theorem RepWs.mono (p : ∀ (n : Nat) (a : Addr), ρ[n]? = some a → ρ'[n]? = some a) (e : Same G G') : ∀ {l : List W} {vs : List V}, RepWs K ρ G l vs → RepWs K ρ' G' l vs
  | _, _, .nil => .nil
  | _, _, .cons h r => .cons (RepW.mono p e h) (RepWs.mono p e r)
end
theorem RepWs.length : ∀ {l : List W} {vs : List V}, RepWs K ρ G l vs → l.length = vs.length
  | _, _, .nil => rfl
  | _, _, .cons _ r => congrArg (· + 1) (RepWs.length r)
theorem RepWs.append : ∀ {l l' : List W} {vs vs' : List V}, RepWs K ρ G l vs → RepWs K ρ G l' vs' → RepWs K ρ G (l ++ l') (vs ++ vs')
  | _, _, _, _, .nil, s => s
  | _, _, _, _, .cons h r, s => .cons h (RepWs.append r s)
theorem RepWs.get : ∀ {l : List W} {vs : List V} {i : Nat} {w : W}, RepWs K ρ G l vs → l[i]? = some w → ∃ v, vs[i]? = some v ∧ RepW K ρ G w v
  | _, _, _, _, .nil, e => by simp at e
  | _, _, 0, _, .cons h _, e => by
    simp at e; subst e; exact ⟨_, rfl, h⟩
  | _, _, i + 1, _, .cons _ r, e => by
    obtain ⟨v, h1, h2⟩ := RepWs.get (i := i) r (by simpa using e)
    exact ⟨v, by simpa using h1, h2⟩
theorem RepWs.getV : ∀ {l : List W} {vs : List V} {i : Nat} {v : V}, RepWs K ρ G l vs → vs[i]? = some v → ∃ w, l[i]? = some w ∧ RepW K ρ G w v
  | _, _, _, _, .nil, e => by simp at e
  | _, _, 0, _, .cons h _, e => by
    simp at e; subst e; exact ⟨_, rfl, h⟩
  | _, _, i + 1, _, .cons _ r, e => by
    obtain ⟨v, h1, h2⟩ := RepWs.getV (i := i) r (by simpa using e)
    exact ⟨v, by simpa using h1, h2⟩
theorem RepWs.set {w : W} {v : V} (h : RepW K ρ G w v) : ∀ {l : List W} {vs : List V} (i : Nat), RepWs K ρ G l vs → RepWs K ρ G (l.set i w) (vs.set i v)
  | _, _, _, .nil => .nil
  | _, _, 0, .cons _ r => .cons h r
  | _, _, i + 1, .cons q r => .cons q (RepWs.set h i r)
theorem RepWs.take : ∀ {l : List W} {vs : List V} (n : Nat), RepWs K ρ G l vs → RepWs K ρ G (l.take n) (vs.take n)
  | _, _, 0, _ => .nil
  | _, _, _ + 1, .nil => .nil
  | _, _, n + 1, .cons h r => .cons h (RepWs.take n r)
theorem RepWs.drop : ∀ {l : List W} {vs : List V} (n : Nat), RepWs K ρ G l vs → RepWs K ρ G (l.drop n) (vs.drop n)
  | _, _, 0, r => r
  | _, _, _ + 1, .nil => .nil
  | _, _, n + 1, .cons _ r => RepWs.drop n r
theorem RepL.ws : ∀ {l : List D} {vs : List V}, RepL K G l vs → RepWs K ρ G (ws l) vs
  | _, _, .nil => .nil
  | _, _, .cons h r => .cons (.d h) (RepL.ws r)
theorem RepWs.asDs : ∀ {l : List W} {vs : List V} {ds : List D}, RepWs K ρ G l vs → asDs l = some ds → RepL K G ds vs
  | _, _, _, .nil, e => by
    cases (Option.some.inj (show some [] = some _ from e)); exact .nil
  | _, _, _, .cons (.d h) r, e => by
    obtain ⟨x, e1, e2⟩ := Option.map_eq_some_iff.mp (show (B.asDs _).map _ = some _ from e)
    subst e2
    exact .cons h (RepWs.asDs r e1)
  | _, _, _, .cons (.loc _) _, e => by cases (show none = some _ from e)
  | _, _, _, .cons (.tw _ _) _, e => by cases (show none = some _ from e)
theorem ws_asDs : ∀ l : List D, asDs (ws l) = some l
  | [] => rfl
  | d :: l => by
    show (asDs (ws l)).map _ = _
    rw [ws_asDs l]; rfl
theorem asDs_ws : ∀ {l : List W} {ds : List D}, asDs l = some ds → l = ws ds
  | [], _, e => by cases (Option.some.inj (show some [] = some _ from e)); rfl
  | .d x :: r, _, e => by
    obtain ⟨y, e1, e2⟩ := Option.map_eq_some_iff.mp (show (asDs _).map _ = some _ from e)
    subst e2
    rw [asDs_ws e1]; rfl
  | .loc _ :: _, _, e => by cases (show none = some _ from e)
  | .tw _ :: _, _, e => by cases (show none = some _ from e)
end

/-! ### the store -/
section
variable (B : Bx)
/-- what lies at an address -/
def CellR (ρ : List Addr) (G H : Hp) (a : Addr) : C → Prop
  | .l ds => ∃ vs, H a = some (.lst vs) ∧ RepL B.K G ds vs
  | .w l => ∃ vs, H a = some (.lst vs) ∧ RepWs B.K ρ G l vs
  | .m false kvs => ∃ kv, H a = some (.dK kv) ∧ kvs.map (fun p => keyK p.1) = kv.map (fun p => some p.1) ∧ RepL B.K G (kvs.map (·.2)) (kv.map (·.2))
  | .m true kvs => ∃ kv, H a = some (.dT kv) ∧ kvs.map (fun p => keyT p.1) = kv.map (fun p => some p.1) ∧ RepL B.K G (kvs.map (·.2)) (kv.map (·.2))
  | .mw false kvs => ∃ kv, H a = some (.dK kv) ∧ kvs.map (fun p => keyK p.1) = kv.map (fun p => some p.1) ∧ RepWs B.K ρ G (kvs.map (·.2)) (kv.map (·.2))
  | .mw true kvs => ∃ kv, H a = some (.dT kv) ∧ kvs.map (fun p => keyT p.1) = kv.map (fun p => some p.1) ∧ RepWs B.K ρ G (kvs.map (·.2)) (kv.map (·.2))
  | .o c fs => ∃ dx vs, H a = some (.ins (B.oc c) dx vs) ∧ fs.map (fun p => sof p.1) = vs.map (·.1) ∧ RepWs B.K ρ G (fs.map (·.2)) (vs.map (·.2))
structure Rel (ρ : List Addr) (G : Hp) (S : Sto) (H : Hp) : Prop where
  ex : Same G H
  len : ρ.length = S.length
  nd : ρ.Nodup
  off : ∀ a ∈ ρ, G a = none
  cell : ∀ (n : Nat) (c : C), S[n]? = some c → ∃ a, ρ[n]? = some a ∧ CellR B ρ G H a c
/-- a slot whose value is known beside -/
def Pinned (G : Hp) (σ : St) : Prop := ∀ p, B.pin = some p → σ[p.1]? = some (some p.2.1) ∧ ∀ q, p.2.2 = some q → Same q G
def EnvR (ρ : List Addr) (G : Hp) (env : Env) (σ : St) : Prop := env.length = σ.length ∧ (∀ (i : Nat) (w : W), env[i]? = some (some w) → ∃ v, σ[i]? = some (some v) ∧ RepW B.K ρ G w v) ∧ Pinned B G σ
def RepX (G : Hp) (x : Exc) (c : Value) (d : Option Addr) (H : Hp) : Prop := c = B.xc x.cls ∧ ((x.fs = [] ∧ d = none) ∨ ∃ ad vs, d = some ad ∧ H ad = some (.xd vs) ∧ x.fs.map (fun p => sof p.1) = vs.map (·.1) ∧ RepL B.K G (x.fs.map (·.2)) (vs.map (·.2)))
end
/-- nothing that may come to what never changes -/
def NTX (o : Option HO) : Prop := (∀ vs, o ≠ some (.tup vs)) ∧ ∀ fs, o ≠ some (.xd fs)
structure Le (ρ : List Addr) (G H : Hp) (ρ' : List Addr) (G' H' : Hp) : Prop where
  pre : ∃ t, ρ' = ρ ++ t ∧ ∀ a ∈ t, H a = none
  ex : Same G G'
  fr : ∀ a, G a = none → H a ≠ none → (a ∈ ρ ∨ NTX (H a)) → G' a = none
  dom : ∀ a, H a ≠ none → H' a ≠ none
  keep : ∀ a, a ∉ ρ → ∀ o, H a = some o → H' a = some o
theorem Le.refl (ρ : List Addr) (G H : Hp) : Le ρ G H ρ G H := ⟨⟨[], by simp, by simp⟩, fun _ _ h => h, fun _ h _ _ => h, fun _ h => h, fun _ _ _ h => h⟩
theorem Le.trans {ρ ρ1 ρ2 : List Addr} {G G1 G2 H H1 H2 : Hp} (a : Le ρ G H ρ1 G1 H1) (b : Le ρ1 G1 H1 ρ2 G2 H2) : Le ρ G H ρ2 G2 H2 := by
  obtain ⟨t, e, f⟩ := a.pre
  obtain ⟨t', e', f'⟩ := b.pre
  refine ⟨⟨t ++ t', by rw [e', e, List.append_assoc], fun x hx => ?_⟩, a.ex.trans b.ex, fun x h1 h2 h3 => b.fr x (a.fr x h1 h2 h3) (a.dom x h2) (by
    by_cases hx : x ∈ ρ
    · exact .inl (by rw [e]; exact List.mem_append_left _ hx)
    · have e : H1 x = H x := by
        cases q : H x with
        | none => exact absurd q h2
        | some o => exact a.keep x hx o q
      rw [e]; exact .inr (h3.resolve_left hx)), fun x h => b.dom x (a.dom x h), fun x hx o ho => b.keep x ?_ o (a.keep x hx o ho)⟩
  rotate_left
  · rw [e]
    intro hm
    rcases List.mem_append.mp hm with h | h
    · exact hx h
    · rw [f x h] at ho; cases ho
  rcases List.mem_append.mp hx with h | h
  · exact f x h
  · have := f' x h
    cases q : H x with
    | none => rfl
    | some o => exact absurd this (a.dom x (by rw [q]; simp))
theorem Le.ix {ρ ρ' : List Addr} {G G' H H' : Hp} (a : Le ρ G H ρ' G' H') : ∀ (n : Nat) (x : Addr), ρ[n]? = some x → ρ'[n]? = some x := by
  obtain ⟨t, e, _⟩ := a.pre
  intro n x h
  obtain ⟨h1, _⟩ := List.getElem?_eq_some_iff.mp h
  rw [e, List.getElem?_append_left h1]
  exact h
theorem Le.w {K : PySem.W.Frag} {ρ ρ' : List Addr} {G G' H H' : Hp} (a : Le ρ G H ρ' G' H') {w : W} {v : V} (h : RepW K ρ G w v) : RepW K ρ' G' w v := RepW.mono a.ix a.ex h
theorem Le.ws {K : PySem.W.Frag} {ρ ρ' : List Addr} {G G' H H' : Hp} (a : Le ρ G H ρ' G' H') {w : List W} {v : List V} (h : RepWs K ρ G w v) : RepWs K ρ' G' w v := RepWs.mono a.ix a.ex h
theorem Le.env {B : Bx} {ρ ρ' : List Addr} {G G' H H' : Hp} (a : Le ρ G H ρ' G' H') {env : Env} {σ : St} (h : EnvR B ρ G env σ) : EnvR B ρ' G' env σ :=
  ⟨h.1, fun i w e => let ⟨v, h1, h2⟩ := h.2.1 i w e; ⟨v, h1, a.w h2⟩, fun p q => ⟨(h.2.2 p q).1, fun r t => ((h.2.2 p q).2 r t).trans a.ex⟩⟩
section
variable {B : Bx} {ρ ρ' : List Addr} {G G' H H' : Hp} {S : Sto} {a p : Addr}
theorem CellR.mono (q : ∀ (n : Nat) (x : Addr), ρ[n]? = some x → ρ'[n]? = some x) (e : Same G G') (hh : H' a = H a) : ∀ {c : C}, CellR B ρ G H a c → CellR B ρ' G' H' a c
  | .l _, ⟨vs, h, r⟩ => ⟨vs, hh.trans h, RepL.mono e r⟩
  | .w _, ⟨vs, h, r⟩ => ⟨vs, hh.trans h, RepWs.mono q e r⟩
  | .m false _, ⟨vs, h, k, r⟩ => ⟨vs, hh.trans h, k, RepL.mono e r⟩
  | .m true _, ⟨vs, h, k, r⟩ => ⟨vs, hh.trans h, k, RepL.mono e r⟩
  | .mw false _, ⟨vs, h, k, r⟩ => ⟨vs, hh.trans h, k, RepWs.mono q e r⟩
  | .mw true _, ⟨vs, h, k, r⟩ => ⟨vs, hh.trans h, k, RepWs.mono q e r⟩
  | .o _ _, ⟨dx, vs, h, k, r⟩ => ⟨dx, vs, hh.trans h, k, RepWs.mono q e r⟩
theorem CellR.there : ∀ {c : C}, CellR B ρ G H a c → H a ≠ none
  | .l _, ⟨vs, h, r⟩ => by rw [h]; simp
  | .w _, ⟨vs, h, r⟩ => by rw [h]; simp
  | .m false _, ⟨vs, h, k, r⟩ => by rw [h]; simp
  | .m true _, ⟨vs, h, k, r⟩ => by rw [h]; simp
  | .mw false _, ⟨vs, h, k, r⟩ => by rw [h]; simp
  | .mw true _, ⟨vs, h, k, r⟩ => by rw [h]; simp
  | .o _ _, ⟨dx, vs, h, k, r⟩ => by rw [h]; simp
theorem Rel.at_ (R : Rel B ρ G S H) {n : Nat} (h : ρ[n]? = some a) : ∃ c, S[n]? = some c ∧ CellR B ρ G H a c := by
  obtain ⟨h1, _⟩ := List.getElem?_eq_some_iff.mp h
  have h2 : n < S.length := by rw [← R.len]; exact h1
  obtain ⟨b, e1, e2⟩ := R.cell n S[n] (List.getElem?_eq_getElem h2)
  rw [h] at e1
  cases e1
  exact ⟨_, List.getElem?_eq_getElem h2, e2⟩
theorem Rel.mem (R : Rel B ρ G S H) (h : a ∈ ρ) : H a ≠ none := by
  obtain ⟨n, hn⟩ := List.getElem?_of_mem h
  obtain ⟨c, _, r⟩ := R.at_ hn
  exact r.there
/-- a new thing that never changes -/
theorem Rel.froz (R : Rel B ρ G S H) (o : HO) (hp : H p = none) : Rel B ρ (upd G p o) S (upd H p o) ∧ Le ρ G H ρ (upd G p o) (upd H p o) := by
  have gp : G p = none := R.ex.free hp
  have sg : Same G (upd G p o) := fun b x e => by rw [upd_ne (ne_of_none e gp)]; exact e
  have npr : ∀ b ∈ ρ, b ≠ p := fun b hb e => R.mem hb (by rw [e]; exact hp)
  refine ⟨⟨fun b x e => ?_, R.len, R.nd, fun b hb => by rw [upd_ne (npr b hb)]; exact R.off b hb, fun n c hc => ?_⟩, ⟨⟨[], by simp, by simp⟩, sg, fun b h1 h2 _ => ?_, fun b h => ?_, fun b _ o ho => by rw [upd_ne (ne_of_none ho hp)]; exact ho⟩⟩
  · by_cases hb : b = p
    · subst hb; rw [upd_same] at e ⊢; exact e
    · rw [upd_ne hb] at e ⊢; exact R.ex b x e
  · obtain ⟨b, h1, h2⟩ := R.cell n c hc
    exact ⟨b, h1, CellR.mono (fun _ _ h => h) sg (upd_ne (npr b (List.mem_of_getElem? h1))) h2⟩
  · have hb : b ≠ p := fun e => h2 (by rw [e]; exact hp)
    rw [upd_ne hb]; exact h1
  · by_cases hb : b = p
    · subst hb; rw [upd_same]; simp
    · rw [upd_ne hb]; exact h
/-- the heap grows, nothing of ours is touched -/
theorem Rel.grow (R : Rel B ρ G S H) (o : HO) (hp : H p = none) : Rel B ρ G S (upd H p o) ∧ Le ρ G H ρ G (upd H p o) := by
  have npr : ∀ b ∈ ρ, b ≠ p := fun b hb e => R.mem hb (by rw [e]; exact hp)
  have sh : ∀ b x, H b = some x → upd H p o b = some x := fun b x e => by rw [upd_ne (ne_of_none e hp)]; exact e
  refine ⟨⟨fun b x e => sh _ _ (R.ex b x e), R.len, R.nd, R.off, fun n c hc => ?_⟩, ⟨⟨[], by simp, by simp⟩, fun _ _ h => h, fun b h1 _ _ => h1, fun b h => ?_, fun b _ o ho => by rw [upd_ne (ne_of_none ho hp)]; exact ho⟩⟩
  · obtain ⟨b, h1, h2⟩ := R.cell n c hc
    exact ⟨b, h1, CellR.mono (fun _ _ h => h) (fun _ _ h => h) (upd_ne (npr b (List.mem_of_getElem? h1))) h2⟩
  · by_cases hb : b = p
    · subst hb; rw [upd_same]; simp
    · rw [upd_ne hb]; exact h
theorem ix_app {ρ : List Addr} {p : Addr} (n : Nat) (x : Addr) (h : ρ[n]? = some x) : (ρ ++ [p])[n]? = some x := by
  obtain ⟨h1, _⟩ := List.getElem?_eq_some_iff.mp h
  rw [List.getElem?_append_left h1]; exact h
/-- a new place of the store -/
theorem Rel.cellNew (R : Rel B ρ G S H) {o : HO} (hp : H p = none) {c : C} (hc : CellR B (ρ ++ [p]) G (upd H p o) p c) : Rel B (ρ ++ [p]) G (S ++ [c]) (upd H p o) ∧ Le ρ G H (ρ ++ [p]) G (upd H p o) := by
  have npr : ∀ b ∈ ρ, b ≠ p := fun b hb e => R.mem hb (by rw [e]; exact hp)
  refine ⟨⟨fun b x e => ?_, by simp [R.len], ?_, fun b hb => ?_, fun n d hd => ?_⟩, ⟨⟨[p], rfl, fun b hb => ?_⟩, fun _ _ h => h, fun b h1 _ _ => h1, fun b h => ?_, fun b _ o ho => by rw [upd_ne (ne_of_none ho hp)]; exact ho⟩⟩
  · rw [upd_ne (ne_of_none (R.ex b x e) hp)]; exact R.ex b x e
  · rw [List.nodup_append]
    refine ⟨R.nd, by simp, fun x hx y hy => ?_⟩
    have : y = p := by simpa using hy
    subst this
    exact npr x hx
  · rcases List.mem_append.mp hb with h | h
    · exact R.off b h
    · have : b = p := by simpa using h
      subst this
      exact R.ex.free hp
  · by_cases hn : n < S.length
    · rw [List.getElem?_append_left hn] at hd
      obtain ⟨b, h1, h2⟩ := R.cell n d hd
      exact ⟨b, ix_app _ _ h1, CellR.mono ix_app (fun _ _ h => h) (upd_ne (npr b (List.mem_of_getElem? h1))) h2⟩
    · have hl : n = S.length := by
        obtain ⟨h1, _⟩ := List.getElem?_eq_some_iff.mp hd
        simp at h1; omega
      subst hl
      simp at hd
      subst hd
      exact ⟨p, by rw [← R.len]; simp, hc⟩
  · have : b = p := by simpa using hb
    subst this; exact hp
  · by_cases hb : b = p
    · subst hb; rw [upd_same]; simp
    · rw [upd_ne hb]; exact h
/-- a place of the store changes -/
theorem Rel.cellSet (R : Rel B ρ G S H) {n : Nat} (ha : ρ[n]? = some a) {o : HO} {c : C} (hc : CellR B ρ G (upd H a o) a c) : Rel B ρ G (S.set n c) (upd H a o) ∧ Le ρ G H ρ G (upd H a o) := by
  have gp : G a = none := R.off a (List.mem_of_getElem? ha)
  refine ⟨⟨fun b x e => ?_, by simp [R.len], R.nd, R.off, fun k d hd => ?_⟩, ⟨⟨[], by simp, by simp⟩, fun _ _ h => h, fun b h1 _ _ => h1, fun b h => ?_, fun b hb o ho => by rw [upd_ne (fun e => hb (by rw [e]; exact List.mem_of_getElem? ha))]; exact ho⟩⟩
  · rw [upd_ne (ne_of_none e gp)]; exact R.ex b x e
  · by_cases hk : n = k
    · subst hk
      obtain ⟨h1, _⟩ := List.getElem?_eq_some_iff.mp hd
      rw [List.getElem?_set_self (by simpa using h1)] at hd
      cases hd
      exact ⟨a, ha, hc⟩
    · rw [List.getElem?_set_ne hk] at hd
      obtain ⟨b, h1, h2⟩ := R.cell k d hd
      refine ⟨b, h1, CellR.mono (fun _ _ h => h) (fun _ _ h => h) (upd_ne ?_) h2⟩
      intro e
      subst e
      obtain ⟨l2, e2⟩ := List.getElem?_eq_some_iff.mp ha
      exact hk ((List.getElem?_inj l2 R.nd).mp (ha.trans h1.symm))
  · by_cases hb : b = a
    · subst hb; rw [upd_same]; simp
    · rw [upd_ne hb]; exact h
end

/-! ### what is simulated -/
section
variable (B : Bx)
def Post (Wi : XK) (ρ : List Addr) (G H : Hp) (r : VS) (Q : VK) : Prop := match r with
  | .ok (w, S') => ∀ ρ' G' H' v, Le ρ G H ρ' G' H' → Rel B ρ' G' S' H' → RepW B.K ρ' G' w v → Q v H'
  | .ex x S' => ∀ ρ' G' H' c d, Le ρ G H ρ' G' H' → Rel B ρ' G' S' H' → RepX B G' x c d H' → Wi c d H'
  | .stuck => False
abbrev WX := Value → Option Addr → St → Hp → Prop
def atS (Wi : WX) (σ : St) : XK := fun c d H => Wi c d σ H
def SimE (Wi : WX) (t : TE) (m : Ev) : Prop := ∀ ρ G S H env σ Q, Rel B ρ G S H → EnvR B ρ G env σ → Post B (atS Wi σ) ρ G H (m env S) Q → t σ H Q
def PostT (Wi : XK) (ρ : List Addr) (G H : Hp) (r : R (Bool × Sto)) (Q : Bool → Hp → Prop) : Prop := match r with
  | .ok (b, S') => ∀ ρ' G' H', Le ρ G H ρ' G' H' → Rel B ρ' G' S' H' → Q b H'
  | .ex x S' => ∀ ρ' G' H' c d, Le ρ G H ρ' G' H' → Rel B ρ' G' S' H' → RepX B G' x c d H' → Wi c d H'
  | .stuck => False
def SimT (Wi : WX) (t : TT) (m : Tx) : Prop := ∀ ρ G S H env σ Q, Rel B ρ G S H → EnvR B ρ G env σ → PostT B (atS Wi σ) ρ G H (m env S) Q → t σ H Q
def PostA (Wi : XK) (ρ : List Addr) (G H : Hp) (r : R (List W × Sto)) (Q : List V → Hp → Prop) : Prop := match r with
  | .ok (w, S') => ∀ ρ' G' H' v, Le ρ G H ρ' G' H' → Rel B ρ' G' S' H' → RepWs B.K ρ' G' w v → Q v H'
  | .ex x S' => ∀ ρ' G' H' c d, Le ρ G H ρ' G' H' → Rel B ρ' G' S' H' → RepX B G' x c d H' → Wi c d H'
  | .stuck => False
def SimA (Wi : WX) (t : TA) (m : List Ev) : Prop := ∀ ρ G S H env σ Q, Rel B ρ G S H → EnvR B ρ G env σ → PostA B (atS Wi σ) ρ G H (eAs m env S) Q → t σ H Q
def PostG (ρ : List Addr) (G H : Hp) (r : R (Env × Sto)) (Q : St → Hp → Prop) : Prop := match r with
  | .ok (env', S') => ∀ ρ' G' H' σ', Le ρ G H ρ' G' H' → Rel B ρ' G' S' H' → EnvR B ρ' G' env' σ' → Q σ' H'
  | _ => False
def SimG (g : TG) (m : Tg) : Prop := ∀ ρ G S H env σ w v Q, Rel B ρ G S H → EnvR B ρ G env σ → RepW B.K ρ G w v → PostG B ρ G H (m w env S) Q → g v σ H Q
def PostS (Wi : WX) (ρ : List Addr) (G H : Hp) (r : R O) (D : Ends) : Prop := match r with
  | .ok (.nx env' S') => ∀ ρ' G' H' σ', Le ρ G H ρ' G' H' → Rel B ρ' G' S' H' → EnvR B ρ' G' env' σ' → D.nx σ' H'
  | .ok (.bk env' S') => ∀ ρ' G' H' σ', Le ρ G H ρ' G' H' → Rel B ρ' G' S' H' → EnvR B ρ' G' env' σ' → D.bk σ' H'
  | .ok (.ct env' S') => ∀ ρ' G' H' σ', Le ρ G H ρ' G' H' → Rel B ρ' G' S' H' → EnvR B ρ' G' env' σ' → D.ct σ' H'
  | .ok (.rt w S') => ∀ ρ' G' H' v, Le ρ G H ρ' G' H' → Rel B ρ' G' S' H' → RepW B.K ρ' G' w v → D.rt v H'
  | .ok (.xx x env' S') => ∀ ρ' G' H' σ' c d, Le ρ G H ρ' G' H' → Rel B ρ' G' S' H' → EnvR B ρ' G' env' σ' → RepX B G' x c d H' → Wi c d σ' H'
  | _ => False
def SimS (Wi : WX) (t : TS) (m : Sx) : Prop := ∀ ρ G S H env σ D, Rel B ρ G S H → EnvR B ρ G env σ → PostS B Wi ρ G H (m env S) D → t D σ H
end
end B
namespace B
open PySem L2
section
variable {B : Bx} {Wi : WX}

/-! ### from a value to data -/
mutual
theorem toD_rep {ρ : List Addr} {G H Gs : Hp} {S : Sto} {p : Nat → Bool} (R : Rel B ρ G S H) (sub : Same G Gs) (ag : ∀ k a, p k = true → ρ[k]? = some a → Gs a = H a) :
    ∀ (n : Nat) (w : W) (v : V) (x : D), toD n p S w = some x → RepW B.K ρ G w v → Rep B.K Gs x v
  | _, .d y, v, x, e, h => by
    have e' : y = x := by cases ‹Nat› <;> (simp only [toD] at e; exact Option.some.inj e)
    subst e'
    cases h with
    | d h => exact h.mono sub
  | 0, .loc k, v, x, e, h => by simp [toD] at e
  | 0, .tw l, v, x, e, h => by simp [toD] at e
  | n + 1, .loc k, v, x, e, h => by
    cases h with
    | loc ha =>
      simp only [toD] at e
      split at e
      · rename_i hp
        obtain ⟨c, hc, hr⟩ := R.at_ ha
        have g := ag _ _ hp ha
        rw [hc] at e
        cases c with
        | l xs =>
          obtain ⟨vs, h1, h2⟩ := hr
          cases e
          exact .lst (g.trans h1) (h2.mono sub)
        | w xs =>
          obtain ⟨vs, h1, h2⟩ := hr
          obtain ⟨ys, e1, e2⟩ := Option.map_eq_some_iff.mp e
          subst e2
          exact .lst (g.trans h1) (toDs_rep R sub ag n xs vs ys e1 h2)
        | m t xs =>
          cases e
          cases t with
          | false =>
            obtain ⟨kv, h1, h2, h3⟩ := hr
            exact .dk (.inl (g.trans h1)) h2 (h3.mono sub)
          | true =>
            obtain ⟨kv, h1, h2, h3⟩ := hr
            exact .dt (.inl (g.trans h1)) h2 (h3.mono sub)
        | mw _ _ => cases e
        | o _ _ => cases e
      · cases e
  | n + 1, .tw l, v, x, e, h => by
    cases h with
    | tw ha hr =>
      simp only [toD] at e
      obtain ⟨ys, e1, e2⟩ := Option.map_eq_some_iff.mp e
      subst e2
      exact .tup (sub _ _ ha) (toDs_rep R sub ag n l _ ys e1 hr)
theorem toDs_rep {ρ : List Addr} {G H Gs : Hp} {S : Sto} {p : Nat → Bool} (R : Rel B ρ G S H) (sub : Same G Gs) (ag : ∀ k a, p k = true → ρ[k]? = some a → Gs a = H a) :
    ∀ (n : Nat) (l : List W) (vs : List V) (xs : List D), toDs n p S l = some xs → RepWs B.K ρ G l vs → RepL B.K Gs xs vs
  | n, [], vs, xs, e, h => by
    have e' : ([] : List D) = xs := by cases n <;> (simp only [toDs] at e; exact Option.some.inj e)
    subst e'
    cases h
    exact .nil
  | n, w :: l, vs, xs, e, h => by
    cases h with
    | cons h1 h2 =>
      have e' : (match toD n p S w with | some x => (toDs n p S l).map (x :: ·) | none => none) = some xs := by
        cases n <;> (rw [toDs] at e; exact e)
      split at e'
      · rename_i y hy
        obtain ⟨ys, e1, e2⟩ := Option.map_eq_some_iff.mp e'
        subst e2
        exact .cons (toD_rep R sub ag n w _ y hy h1) (toDs_rep R sub ag n l _ ys e1 h2)
      · cases e'
end
theorem dat_rep {ρ : List Addr} {G H : Hp} {S : Sto} (R : Rel B ρ G S H) {w : W} {v : V} {x : D} (e : dat S w = .ok x) (h : RepW B.K ρ G w v) : Rep B.K H x v := by
  cases w with
  | d y =>
    cases e
    cases h with
    | d h => exact h.mono R.ex
  | loc k =>
    simp only [dat] at e
    cases q : toD FU (fun _ => true) S (.loc k) with
    | none => rw [q] at e; cases e
    | some y =>
      rw [q] at e
      cases e
      exact toD_rep (Gs := H) R R.ex (fun _ _ _ _ => rfl) _ _ _ _ q h
  | tw l =>
    simp only [dat] at e
    cases q : toD FU (fun _ => true) S (.tw l) with
    | none => rw [q] at e; cases e
    | some y =>
      rw [q] at e
      cases e
      exact toD_rep (Gs := H) R R.ex (fun _ _ _ _ => rfl) _ _ _ _ q h
theorem dat_cases (S : Sto) (w : W) : (∃ x, dat S w = .ok x) ∨ dat S w = .stuck := by
  have go : ∀ o : Option D, (∃ x, ofO o = .ok x) ∨ ofO o = .stuck := fun o => by
    cases o with
    | none => exact .inr rfl
    | some x => exact .inl ⟨x, rfl⟩
  cases w with
  | d x => exact .inl ⟨x, rfl⟩
  | loc k => exact go _
  | tw l => exact go _
theorem items_cases (S : Sto) (w : W) : (∃ x, items S w = .ok x) ∨ items S w = .stuck := by
  unfold items
  split <;> first | exact .inl ⟨_, rfl⟩ | exact .inr rfl | (split <;> first | exact .inl ⟨_, rfl⟩ | exact .inr rfl)
/-- a list or tuple that is read -/
theorem items_rep {ρ : List Addr} {G H : Hp} {S : Sto} (R : Rel B ρ G S H) {w : W} {v : V} {l : List W} (e : items S w = .ok l) (h : RepW B.K ρ G w v) : ∃ a vs, v = .ref a ∧ (SqL B.K H a vs ∨ SqT B.K H a vs) ∧ RepWs B.K ρ G l vs := by
  unfold items at e
  split at e
  · cases e
    cases h with
    | d h =>
      cases h with
      | lst q r => exact ⟨_, _, rfl, .inl (.inl (.inl (R.ex _ _ q))), r.ws⟩
  · cases e
    cases h with
    | d h =>
      cases h with
      | tup q r => exact ⟨_, _, rfl, .inr (.inl (.inl (R.ex _ _ q))), r.ws⟩
  · cases e
    cases h with
    | d h =>
      cases h with
      | inp q r => exact ⟨_, _, rfl, .inl (R.ex.seq q), r.ws⟩
  · cases e
    cases h with
    | d h =>
      cases h with
      | inq q r => exact ⟨_, _, rfl, .inr (Same.sqt R.ex (sqq q)), r.ws⟩
  · cases e
    cases h with
    | tw q r => exact ⟨_, _, rfl, .inr (.inl (.inl (R.ex _ _ q))), r⟩
  · cases h with
    | loc ha =>
      obtain ⟨c, hc, hr⟩ := R.at_ ha
      rw [hc] at e
      cases c with
      | l xs =>
        obtain ⟨vs, h1, h2⟩ := hr
        cases e
        exact ⟨_, _, rfl, .inl (.inl (.inl h1)), h2.ws⟩
      | w xs =>
        obtain ⟨vs, h1, h2⟩ := hr
        cases e
        exact ⟨_, _, rfl, .inl (.inl (.inl h1)), h2⟩
      | _ => cases e
  · cases e

/-! ### expressions -/
theorem post_ex {Wi : XK} {ρ ρ1 : List Addr} {G H G1 H1 : Hp} {x : Exc} {S : Sto} {Q Q' : VK} (le : Le ρ G H ρ1 G1 H1) (h : Post B Wi ρ G H (.ex x S) Q) : Post B Wi ρ1 G1 H1 (.ex x S) Q' :=
  fun ρ' G' H' c d l r q => h ρ' G' H' c d (le.trans l) r q
theorem post_le {Wi : XK} {ρ ρ1 : List Addr} {G H G1 H1 : Hp} {r : VS} {Q : VK} (le : Le ρ G H ρ1 G1 H1) (h : Post B Wi ρ G H r Q) : Post B Wi ρ1 G1 H1 r Q := by
  cases r with
  | stuck => exact h
  | ok p => exact fun ρ' G' H' v l r q => h ρ' G' H' v (le.trans l) r q
  | ex x S => exact post_ex le h
/-- two steps in a row -/
theorem post_bind {Wi : XK} {ρ : List Addr} {G H : Hp} {r : VS} {f : W × Sto → VS} {Q Q' : VK} (h : Post B Wi ρ G H (r.bind f) Q)
    (k : ∀ w S' ρ' G' H' v, Le ρ G H ρ' G' H' → Rel B ρ' G' S' H' → RepW B.K ρ' G' w v → Post B Wi ρ' G' H' (f (w, S')) Q → Q' v H') : Post B Wi ρ G H r Q' := by
  cases r with
  | stuck => exact h
  | ex x S => exact h
  | ok p => exact fun ρ' G' H' v l r q => k p.1 p.2 ρ' G' H' v l r q (post_le l h)
theorem se_var {i : Nat} : SimE B Wi (tVar i) (eV i) := by
  intro ρ G S H env σ Q R E h
  unfold eV at h
  split at h
  · rename_i w e
    obtain ⟨v, h1, h2⟩ := E.2.1 i w e
    exact ⟨v, h1, h _ _ _ _ (Le.refl _ _ _) R h2⟩
  · exact False.elim h
theorem se_c {x : D} {v : V} (h : ∀ K G, Rep K G x v) : SimE B Wi (tC v) (eK x) := by
  intro ρ G S H env σ Q R E q
  exact q _ _ _ _ (Le.refl _ _ _) R (.d (h _ _))
theorem se_int {i : Int} : SimE B Wi (tC (.int i)) (eK (.int i)) := se_c fun _ _ => .int i
theorem se_bl {i : Bool} : SimE B Wi (tC (.bl i)) (eK (.bl i)) := se_c fun _ _ => .bl i
theorem se_non : SimE B Wi (tC .non) (eK .non) := se_c fun _ _ => .non
theorem se_str {x : Str} (l : List Nat) (h : x = sof l) : SimE B Wi (tC (.str x)) (eK (.str l)) := by
  subst h
  exact se_c fun _ _ => .str l

def SimR (B : Bx) (r : R2) (f : W → W → Sto → VS) : Prop := ∀ Wi ρ G S H x y v u Q, Rel B ρ G S H → RepW B.K ρ G x v → RepW B.K ρ G y u → Post B Wi ρ G H (f x y S) Q → r v u H Q
def SimU (B : Bx) (r : V → Hp → VK → Prop) (f : W → Sto → VS) : Prop := ∀ Wi ρ G S H x v Q, Rel B ρ G S H → RepW B.K ρ G x v → Post B Wi ρ G H (f x S) Q → r v H Q
theorem se_op {ta tb : TE} {ma mb : Ev} {r : R2} {f : W → W → Sto → VS} (hr : SimR B r f) (ha : SimE B Wi ta ma) (hb : SimE B Wi tb mb) : SimE B Wi (tOp r ta tb) (e2 f ma mb) := by
  intro ρ G S H env σ Q R E h
  refine ha ρ G S H env σ _ R E (post_bind h fun w S1 ρ1 G1 H1 v l1 R1 r1 h1 => ?_)
  refine hb ρ1 G1 S1 H1 env σ _ R1 (l1.env E) (post_bind h1 fun w2 S2 ρ2 G2 H2 v2 l2 R2 r2 h2 => ?_)
  exact hr _ ρ2 G2 S2 H2 w w2 v v2 Q R2 (l2.w r1) r2 h2
theorem se_un {ta : TE} {ma : Ev} {r : V → Hp → VK → Prop} {f : W → Sto → VS} (hr : SimU B r f) (ha : SimE B Wi ta ma) : SimE B Wi (tUn r ta) (e1 f ma) := by
  intro ρ G S H env σ Q R E h
  refine ha ρ G S H env σ _ R E (post_bind h fun w S1 ρ1 G1 H1 v l1 R1 r1 h1 => ?_)
  exact hr _ ρ1 G1 S1 H1 w v Q R1 r1 h1

/-! arguments -/
theorem postA_ex {Wi : XK} {ρ : List Addr} {G H : Hp} {x : Exc} {S : Sto} {Q : VK} {Q' : List V → Hp → Prop} (h : Post B Wi ρ G H (.ex x S) Q) : PostA B Wi ρ G H (.ex x S) Q' := h
theorem sa_nil : SimA B Wi tNil [] := by
  intro ρ G S H env σ Q R E h
  exact h _ _ _ _ (Le.refl _ _ _) R .nil
theorem sa_cons {te : TE} {ta : TA} {m : Ev} {ms : List Ev} (he : SimE B Wi te m) (ha : SimA B Wi ta ms) : SimA B Wi (tCons te ta) (m :: ms) := by
  intro ρ G S H env σ Q R E h
  refine he ρ G S H env σ _ R E ?_
  have h' : PostA B (atS Wi σ) ρ G H ((m env S).bind fun p => (eAs ms env p.2).bind fun q => .ok (p.1 :: q.1, q.2)) Q := h
  cases e1 : m env S with
  | stuck => rw [e1] at h'; exact h'
  | ex x S1 => rw [e1] at h'; exact h'
  | ok p =>
    rw [e1] at h'
    intro ρ1 G1 H1 v l1 R1 r1
    refine ha ρ1 G1 p.2 H1 env σ _ R1 (l1.env E) ?_
    cases e2 : eAs ms env p.2 with
    | stuck => rw [_root_.B.R.bind_ok, e2] at h'; exact h'
    | ex x S2 =>
      rw [_root_.B.R.bind_ok, e2] at h'
      exact fun ρ' G' H' c d l r q => h' ρ' G' H' c d (l1.trans l) r q
    | ok q =>
      rw [_root_.B.R.bind_ok, e2, _root_.B.R.bind_ok] at h'
      exact fun ρ2 G2 H2 vs l2 R2 r2 => h' ρ2 G2 H2 (v :: vs) (l1.trans l2) R2 (.cons (l2.w r1) r2)
def SimN (B : Bx) (Wi : XK) (r : List V → Hp → VK → Prop) (f : Fn) : Prop := ∀ ρ G S H l vs Q, Rel B ρ G S H → RepWs B.K ρ G l vs → Post B Wi ρ G H (f l S) Q → r vs H Q
theorem sa_run {ta : TA} {ms : List Ev} {f : Fn} (ha : SimA B Wi ta ms) {ρ : List Addr} {G : Hp} {S : Sto} {H : Hp} {env : Env} {σ : St} {Q : VK} {Q' : List V → Hp → Prop} (R : Rel B ρ G S H) (E : EnvR B ρ G env σ)
    (h : Post B (atS Wi σ) ρ G H (eN f ms env S) Q) (k : ∀ l S' ρ' G' H' vs, Le ρ G H ρ' G' H' → Rel B ρ' G' S' H' → RepWs B.K ρ' G' l vs → Post B (atS Wi σ) ρ' G' H' (f l S') Q → Q' vs H') : ta σ H Q' := by
  refine ha ρ G S H env σ _ R E ?_
  have h' : Post B (atS Wi σ) ρ G H ((eAs ms env S).bind fun p => f p.1 p.2) Q := h
  cases e1 : eAs ms env S with
  | stuck => rw [e1] at h'; exact h'
  | ex x S1 => rw [e1] at h'; exact h'
  | ok p =>
    rw [e1] at h'
    exact fun ρ1 G1 H1 vs l1 R1 r1 => k p.1 p.2 ρ1 G1 H1 vs l1 R1 r1 (post_le l1 h')
theorem sa_one {te : TE} {m : Ev} {f : W → Sto → VS} (he : SimE B Wi te m) {ρ : List Addr} {G : Hp} {S : Sto} {H : Hp} {env : Env} {σ : St} {Q : VK} {Q' : List V → Hp → Prop} (R : Rel B ρ G S H) (E : EnvR B ρ G env σ)
    (h : Post B (atS Wi σ) ρ G H (e1 f m env S) Q) (k : ∀ w S' ρ' G' H' v, Le ρ G H ρ' G' H' → Rel B ρ' G' S' H' → RepW B.K ρ' G' w v → Post B (atS Wi σ) ρ' G' H' (f w S') Q → Q' [v] H') : tCons te tNil σ H Q' := by
  refine he ρ G S H env σ _ R E (post_bind h fun w S1 ρ1 G1 H1 v l1 R1 r1 h1 => ?_)
  exact k w S1 ρ1 G1 H1 v l1 R1 r1 h1
theorem sa_two {te tf : TE} {m m2 : Ev} {f : W → W → Sto → VS} (he : SimE B Wi te m) (hf : SimE B Wi tf m2) {ρ : List Addr} {G : Hp} {S : Sto} {H : Hp} {env : Env} {σ : St} {Q : VK} {Q' : List V → Hp → Prop} (R : Rel B ρ G S H) (E : EnvR B ρ G env σ)
    (h : Post B (atS Wi σ) ρ G H (e2 f m m2 env S) Q) (k : ∀ w w2 S' ρ' G' H' v v2, Le ρ G H ρ' G' H' → Rel B ρ' G' S' H' → RepW B.K ρ' G' w v → RepW B.K ρ' G' w2 v2 → Post B (atS Wi σ) ρ' G' H' (f w w2 S') Q → Q' [v, v2] H') : tCons te (tCons tf tNil) σ H Q' := by
  refine he ρ G S H env σ _ R E (post_bind h fun w S1 ρ1 G1 H1 v l1 R1 r1 h1 => ?_)
  refine hf ρ1 G1 S1 H1 env σ _ R1 (l1.env E) (post_bind h1 fun w2 S2 ρ2 G2 H2 v2 l2 R2 r2 h2 => ?_)
  exact k w w2 S2 ρ2 G2 H2 v v2 (l1.trans l2) R2 (l2.w r1) r2 h2
/-- f(e), f(e, e2), f(..) of a built-in -/
def SimC1 (B : Bx) (r : List V → Hp → VK → Prop) (f : W → Sto → VS) : Prop := ∀ Wi ρ G S H x v Q, Rel B ρ G S H → RepW B.K ρ G x v → Post B Wi ρ G H (f x S) Q → r [v] H Q
def SimC2 (B : Bx) (r : List V → Hp → VK → Prop) (f : W → W → Sto → VS) : Prop := ∀ Wi ρ G S H x y v u Q, Rel B ρ G S H → RepW B.K ρ G x v → RepW B.K ρ G y u → Post B Wi ρ G H (f x y S) Q → r [v, u] H Q
theorem se_cb1 {te : TE} {m : Ev} {r : List V → Hp → VK → Prop} {f : W → Sto → VS} (hr : SimC1 B r f) (he : SimE B Wi te m) : SimE B Wi (tCB r (tCons te tNil)) (e1 f m) := fun ρ G S H env σ Q R E h =>
  sa_one he R E h fun w S1 ρ1 G1 H1 v l1 R1 r1 h1 => hr _ ρ1 G1 S1 H1 w v Q R1 r1 h1
theorem se_cb2 {te tf : TE} {m m2 : Ev} {r : List V → Hp → VK → Prop} {f : W → W → Sto → VS} (hr : SimC2 B r f) (he : SimE B Wi te m) (hf : SimE B Wi tf m2) : SimE B Wi (tCB r (tCons te (tCons tf tNil))) (e2 f m m2) := fun ρ G S H env σ Q R E h =>
  sa_two he hf R E h fun w w2 S1 ρ1 G1 H1 v v2 l1 R1 r1 r2 h1 => hr _ ρ1 G1 S1 H1 w w2 v v2 Q R1 r1 r2 h1

/-! ### tests -/
theorem postT_le {Wi : XK} {ρ ρ1 : List Addr} {G H G1 H1 : Hp} {r : R (Bool × Sto)} {Q : Bool → Hp → Prop} (le : Le ρ G H ρ1 G1 H1) (h : PostT B Wi ρ G H r Q) : PostT B Wi ρ1 G1 H1 r Q := by
  cases r with
  | stuck => exact h
  | ok p => exact fun ρ' G' H' l r => h ρ' G' H' (le.trans l) r
  | ex x S => exact fun ρ' G' H' c d l r q => h ρ' G' H' c d (le.trans l) r q
theorem postT_bind {Wi : XK} {ρ : List Addr} {G H : Hp} {r : VS} {f : W × Sto → R (Bool × Sto)} {Q : Bool → Hp → Prop} {Q' : VK} (h : PostT B Wi ρ G H (r.bind f) Q)
    (k : ∀ w S' ρ' G' H' v, Le ρ G H ρ' G' H' → Rel B ρ' G' S' H' → RepW B.K ρ' G' w v → PostT B Wi ρ' G' H' (f (w, S')) Q → Q' v H') : Post B Wi ρ G H r Q' := by
  cases r with
  | stuck => exact h
  | ex x S => exact h
  | ok p => exact fun ρ' G' H' v l r q => k p.1 p.2 ρ' G' H' v l r q (postT_le l h)
theorem postTT_bind {Wi : XK} {ρ : List Addr} {G H : Hp} {r : R (Bool × Sto)} {f : Bool × Sto → R (Bool × Sto)} {Q Q' : Bool → Hp → Prop} (h : PostT B Wi ρ G H (r.bind f) Q)
    (k : ∀ b S' ρ' G' H', Le ρ G H ρ' G' H' → Rel B ρ' G' S' H' → PostT B Wi ρ' G' H' (f (b, S')) Q → Q' b H') : PostT B Wi ρ G H r Q' := by
  cases r with
  | stuck => exact h
  | ex x S => exact h
  | ok p => exact fun ρ' G' H' l r => k p.1 p.2 ρ' G' H' l r (postT_le l h)
theorem postV_bind {Wi : XK} {ρ : List Addr} {G H : Hp} {r : R (Bool × Sto)} {f : Bool × Sto → VS} {Q : VK} {Q' : Bool → Hp → Prop} (h : Post B Wi ρ G H (r.bind f) Q)
    (k : ∀ b S' ρ' G' H', Le ρ G H ρ' G' H' → Rel B ρ' G' S' H' → Post B Wi ρ' G' H' (f (b, S')) Q → Q' b H') : PostT B Wi ρ G H r Q' := by
  cases r with
  | stuck => exact h
  | ex x S => exact h
  | ok p => exact fun ρ' G' H' l r => k p.1 p.2 ρ' G' H' l r (post_le l h)
theorem rep_bl {K : PySem.W.Frag} {ρ : List Addr} {G : Hp} {b : Bool} {v : V} (h : RepW K ρ G (.d (.bl b)) v) : v = .bl b := by
  cases h with
  | d h => cases h; rfl
theorem st_B0 {te : TE} {m : Ev} (he : SimE B Wi te m) {ρ : List Addr} {G : Hp} {S : Sto} {H : Hp} {env : Env} {σ : St} {Q : Bool → Hp → Prop} (R : Rel B ρ G S H) (E : EnvR B ρ G env σ) (h : PostT B (atS Wi σ) ρ G H (tB m env S) Q) :
    te σ H fun x H1 => ∃ c, x = .bl c ∧ Q c H1 := by
  refine he ρ G S H env σ _ R E (postT_bind (f := fun p => match p.1 with | .d (.bl b) => .ok (b, p.2) | _ => .stuck) h fun w S1 ρ1 G1 H1 v l1 R1 r1 h1 => ?_)
  simp only at h1
  split at h1
  · rename_i b
    exact ⟨b, rep_bl r1, h1 _ _ _ (Le.refl _ _ _) R1⟩
  · exact False.elim h1
theorem st_test {te : TE} {m : Ev} (he : SimE B Wi te m) : SimT B Wi (tTest te) (tB m) := fun ρ G S H env σ Q R E h => st_B0 he R E h
theorem st_B {te : TE} {m : Ev} (he : SimE B Wi te m) : SimT B Wi (L2.tB te) (tB m) := fun ρ G S H env σ Q R E h => st_B0 he R E h
theorem st_and {t u : TT} {a b : Tx} (h1 : SimT B Wi t a) (h2 : SimT B Wi u b) : SimT B Wi (L2.tAnd t u) (tAnd a b) := by
  intro ρ G S H env σ Q R E h
  refine h1 ρ G S H env σ _ R E (postTT_bind h fun c S1 ρ1 G1 H1 l1 R1 q => ?_)
  cases c with
  | true => exact (if_pos rfl).mpr (h2 ρ1 G1 S1 H1 env σ Q R1 (l1.env E) q)
  | false => exact (if_neg Bool.false_ne_true).mpr (q _ _ _ (Le.refl _ _ _) R1)
theorem st_or {t u : TT} {a b : Tx} (h1 : SimT B Wi t a) (h2 : SimT B Wi u b) : SimT B Wi (L2.tOr t u) (tOr a b) := by
  intro ρ G S H env σ Q R E h
  refine h1 ρ G S H env σ _ R E (postTT_bind h fun c S1 ρ1 G1 H1 l1 R1 q => ?_)
  cases c with
  | true => exact (if_pos rfl).mpr (q _ _ _ (Le.refl _ _ _) R1)
  | false => exact (if_neg Bool.false_ne_true).mpr (h2 ρ1 G1 S1 H1 env σ Q R1 (l1.env E) q)
theorem st_not {t : TT} {a : Tx} (h1 : SimT B Wi t a) : SimT B Wi (L2.tNot t) (tNot a) := by
  intro ρ G S H env σ Q R E h
  exact h1 ρ G S H env σ _ R E (postTT_bind h fun c S1 ρ1 G1 H1 l1 R1 q => q _ _ _ (Le.refl _ _ _) R1)
theorem st_yes : SimT B Wi L2.tYes tYes := fun ρ G S H env σ Q R E h => h _ _ _ (Le.refl _ _ _) R
theorem se_if {t : TT} {a : Tx} {ta tb : TE} {ma mb : Ev} (h1 : SimT B Wi t a) (ha : SimE B Wi ta ma) (hb : SimE B Wi tb mb) : SimE B Wi (tIf t ta tb) (eIf a ma mb) := by
  intro ρ G S H env σ Q R E h
  refine h1 ρ G S H env σ _ R E (postV_bind h fun c S1 ρ1 G1 H1 l1 R1 q => ?_)
  cases c with
  | true => exact (if_pos rfl).mpr (ha ρ1 G1 S1 H1 env σ Q R1 (l1.env E) q)
  | false => exact (if_neg Bool.false_ne_true).mpr (hb ρ1 G1 S1 H1 env σ Q R1 (l1.env E) q)
theorem post_bl {Wi : XK} {ρ : List Addr} {G H : Hp} {S : Sto} {b : Bool} {Q : VK} (R : Rel B ρ G S H) (h : Post B Wi ρ G H (.ok (.d (.bl b), S)) Q) : Q (.bl b) H := h _ _ _ _ (Le.refl _ _ _) R (.d (.bl b))
theorem se_and {ta tb : TE} {ma mb : Ev} (ha : SimE B Wi ta ma) (hb : SimE B Wi tb mb) : SimE B Wi (tAndV ta tb) (eAnd ma mb) := by
  intro ρ G S H env σ Q R E h
  refine ha ρ G S H env σ _ R E (post_bind (f := fun p => match p.1 with | .d (.bl true) => mb env p.2 | .d (.bl false) => .ok (.d (.bl false), p.2) | _ => .stuck) h fun w S1 ρ1 G1 H1 v l1 R1 r1 h1 => ?_)
  simp only at h1
  split at h1
  · exact ⟨true, rep_bl r1, (if_pos rfl).mpr (hb ρ1 G1 S1 H1 env σ Q R1 (l1.env E) h1)⟩
  · exact ⟨false, rep_bl r1, (if_neg Bool.false_ne_true).mpr (post_bl R1 h1)⟩
  · exact False.elim h1
theorem se_or {ta tb : TE} {ma mb : Ev} (ha : SimE B Wi ta ma) (hb : SimE B Wi tb mb) : SimE B Wi (tOrV ta tb) (eOr ma mb) := by
  intro ρ G S H env σ Q R E h
  refine ha ρ G S H env σ _ R E (post_bind (f := fun p => match p.1 with | .d (.bl true) => .ok (.d (.bl true), p.2) | .d (.bl false) => mb env p.2 | _ => .stuck) h fun w S1 ρ1 G1 H1 v l1 R1 r1 h1 => ?_)
  simp only at h1
  split at h1
  · exact ⟨true, rep_bl r1, (if_pos rfl).mpr (post_bl R1 h1)⟩
  · exact ⟨false, rep_bl r1, (if_neg Bool.false_ne_true).mpr (hb ρ1 G1 S1 H1 env σ Q R1 (l1.env E) h1)⟩
  · exact False.elim h1
theorem se_not {ta : TE} {ma : Ev} (ha : SimE B Wi ta ma) : SimE B Wi (tNotV ta) (eNot ma) := by
  intro ρ G S H env σ Q R E h
  refine ha ρ G S H env σ _ R E (post_bind (f := fun p => match p.1 with | .d (.bl b) => .ok (.d (.bl (!b)), p.2) | _ => .stuck) h fun w S1 ρ1 G1 H1 v l1 R1 r1 h1 => ?_)
  simp only at h1
  split at h1
  · rename_i b
    exact ⟨b, rep_bl r1, post_bl R1 h1⟩
  · exact False.elim h1
end
end B
namespace B
open PySem L2
section
variable {B : Bx} {Wi : WX}

/-! ### targets -/
/-- a slot that is not pinned -/
def PinFree (B : Bx) (i : Nat) : Prop := ∀ p, B.pin = some p → p.1 ≠ i
theorem pin_none {i : Nat} (h : B.pin = none) : PinFree B i := fun p q => by rw [h] at q; cases q
theorem envSet {ρ : List Addr} {G : Hp} {env : Env} {σ : St} {i : Nat} {w : W} {v : V} (hp : PinFree B i) (E : EnvR B ρ G env σ) (r : RepW B.K ρ G w v) : EnvR B ρ G (env.set i (some w)) (σ.set i (some v)) := by
  refine ⟨by simp [E.1], fun j u e => ?_, fun p h => ⟨by rw [List.getElem?_set_ne (fun e => hp p h e.symm)]; exact (E.2.2 p h).1, (E.2.2 p h).2⟩⟩
  by_cases hj : i = j
  · subst hj
    obtain ⟨h1, _⟩ := List.getElem?_eq_some_iff.mp e
    have h1' : i < env.length := by simpa using h1
    rw [List.getElem?_set_self h1'] at e
    cases e
    exact ⟨v, List.getElem?_set_self (by rw [← E.1]; exact h1'), r⟩
  · rw [List.getElem?_set_ne hj] at e ⊢
    exact E.2.1 j u e
theorem sg_name {i : Nat} (hp : PinFree B i) : SimG B (gName i) (gN i) := by
  intro ρ G S H env σ w v Q R E r h
  exact h _ _ _ _ (Le.refl _ _ _) R (envSet hp E r)
def SimGs (B : Bx) (g : TGs) (m : List Tg) : Prop := ∀ ρ G S H env σ l vs Q, Rel B ρ G S H → EnvR B ρ G env σ → RepWs B.K ρ G l vs → PostG B ρ G H (gTs m l env S) Q → g vs σ H Q
theorem postG_le {ρ ρ1 : List Addr} {G H G1 H1 : Hp} {r : R (Env × Sto)} {Q : St → Hp → Prop} (le : Le ρ G H ρ1 G1 H1) (h : PostG B ρ G H r Q) : PostG B ρ1 G1 H1 r Q := by
  cases r with
  | stuck => exact h
  | ok p => exact fun ρ' G' H' σ' l r => h ρ' G' H' σ' (le.trans l) r
  | ex x S => exact h
theorem sg_nil : SimGs B gNil [] := by
  intro ρ G S H env σ l vs Q R E r h
  cases r with
  | nil => exact ⟨rfl, h _ _ _ _ (Le.refl _ _ _) R E⟩
  | cons _ _ => exact False.elim h
theorem sg_cons {g : TG} {m : Tg} {gs : TGs} {ms : List Tg} (h1 : SimG B g m) (h2 : SimGs B gs ms) : SimGs B (gCons g gs) (m :: ms) := by
  intro ρ G S H env σ l vs Q R E r h
  cases r with
  | nil => exact False.elim h
  | cons r1 r2 =>
    rename_i w v l' vs'
    refine ⟨v, vs', rfl, h1 ρ G S H env σ w v _ R E r1 ?_⟩
    have h' : PostG B ρ G H ((m w env S).bind fun p => gTs ms l' p.1 p.2) Q := h
    cases e : m w env S with
    | stuck => rw [e] at h'; exact h'
    | ex x S1 => rw [e] at h'; exact h'
    | ok p =>
      rw [e] at h'
      exact fun ρ1 G1 H1 σ1 l1 R1 E1 => h2 ρ1 G1 p.2 H1 p.1 σ1 l' vs' Q R1 E1 (l1.ws r2) (postG_le l1 h')
theorem tupItems_rep {ρ : List Addr} {G : Hp} {w : W} {v : V} {l : List W} (e : tupItems w = .ok l) (h : RepW B.K ρ G w v) : ∃ a vs, v = .ref a ∧ G a = some (.tup vs) ∧ RepWs B.K ρ G l vs := by
  unfold tupItems at e
  split at e
  · cases e
    cases h with
    | d h =>
      cases h with
      | tup q r => exact ⟨_, _, rfl, q, r.ws⟩
  · cases e
    cases h with
    | tw q r => exact ⟨_, _, rfl, q, r⟩
  · cases e
theorem tupItems_ex (w : W) (x : Exc) (S : Sto) : tupItems w ≠ .ex x S := by
  unfold tupItems
  split <;> intro h <;> cases h
theorem gTs_len {ρ : List Addr} {G H : Hp} {Q : St → Hp → Prop} : ∀ (ms : List Tg) (l : List W) (env : Env) (S : Sto), PostG B ρ G H (gTs ms l env S) Q → l.length = ms.length
  | [], [], _, _, _ => rfl
  | [], _ :: _, _, _, h => False.elim h
  | _ :: _, [], _, _, h => False.elim h
  | m :: ms, w :: l, env, S, h => by
    have h' : PostG B ρ G H ((m w env S).bind fun p => gTs ms l p.1 p.2) Q := h
    cases e : m w env S with
    | stuck => rw [e] at h'; exact False.elim h'
    | ex x S1 => rw [e] at h'; exact False.elim h'
    | ok p =>
      rw [e] at h'
      exact congrArg (· + 1) (gTs_len ms l p.1 p.2 h')
theorem sg_tup {gs : TGs} {ms : List Tg} {n : Nat} (hn : ms.length = n) (h1 : SimGs B gs ms) : SimG B (gTup B.K n gs) (gT ms) := by
  intro ρ G S H env σ w v Q R E r h
  have h' : PostG B ρ G H ((tupItems w).bind fun l => gTs ms l env S) Q := h
  cases e : tupItems w with
  | stuck => rw [e] at h'; exact False.elim h'
  | ex x S1 => rw [e] at h'; exact False.elim h'
  | ok l =>
    rw [e] at h'
    obtain ⟨a, vs, rfl, q, rs⟩ := tupItems_rep e r
    exact ⟨a, vs, rfl, .inl (.inl (R.ex _ _ q)), by rw [← rs.length, ← hn]; exact gTs_len ms l env S h', h1 ρ G S H env σ l vs Q R E rs h'⟩

/-! ### statements -/
theorem postS_le {ρ ρ1 : List Addr} {G H G1 H1 : Hp} {r : R O} {D : Ends} (le : Le ρ G H ρ1 G1 H1) (h : PostS B Wi ρ G H r D) : PostS B Wi ρ1 G1 H1 r D := by
  cases r with
  | stuck => exact h
  | ex x S => exact h
  | ok o =>
    cases o with
    | nx e s => exact fun ρ' G' H' σ' l r => h ρ' G' H' σ' (le.trans l) r
    | rt w s => exact fun ρ' G' H' v l r => h ρ' G' H' v (le.trans l) r
    | bk e s => exact fun ρ' G' H' σ' l r => h ρ' G' H' σ' (le.trans l) r
    | ct e s => exact fun ρ' G' H' σ' l r => h ρ' G' H' σ' (le.trans l) r
    | xx x e s => exact fun ρ' G' H' σ' c d l r => h ρ' G' H' σ' c d (le.trans l) r
/-- an expression at the head of a statement -/
theorem postS_bd {ρ : List Addr} {G H : Hp} {r : VS} {env : Env} {σ : St} {f : W × Sto → R O} {D : Ends} {Q : VK} (E : EnvR B ρ G env σ) (h : PostS B Wi ρ G H (r.bd env f) D)
    (k : ∀ w S' ρ' G' H' v, Le ρ G H ρ' G' H' → Rel B ρ' G' S' H' → RepW B.K ρ' G' w v → PostS B Wi ρ' G' H' (f (w, S')) D → Q v H') : Post B (atS Wi σ) ρ G H r Q := by
  cases r with
  | stuck => exact h
  | ex x S => exact fun ρ' G' H' c d l r q => h ρ' G' H' σ c d l r (l.env E) q
  | ok p => exact fun ρ' G' H' v l r q => k p.1 p.2 ρ' G' H' v l r q (postS_le l h)
theorem postST_bd {ρ : List Addr} {G H : Hp} {r : R (Bool × Sto)} {env : Env} {σ : St} {f : Bool × Sto → R O} {D : Ends} {Q : Bool → Hp → Prop} (E : EnvR B ρ G env σ) (h : PostS B Wi ρ G H (r.bd env f) D)
    (k : ∀ w S' ρ' G' H', Le ρ G H ρ' G' H' → Rel B ρ' G' S' H' → PostS B Wi ρ' G' H' (f (w, S')) D → Q w H') : PostT B (atS Wi σ) ρ G H r Q := by
  cases r with
  | stuck => exact h
  | ex x S => exact fun ρ' G' H' c d l r q => h ρ' G' H' σ c d l r (l.env E) q
  | ok p => exact fun ρ' G' H' l r => k p.1 p.2 ρ' G' H' l r (postS_le l h)
theorem postSG_bd {ρ : List Addr} {G H : Hp} {r : R (Env × Sto)} {env : Env} {f : Env × Sto → R O} {D : Ends} {Q : St → Hp → Prop} (hx : ∀ x S, r ≠ .ex x S) (h : PostS B Wi ρ G H (r.bd env f) D)
    (k : ∀ e' S' ρ' G' H' σ', Le ρ G H ρ' G' H' → Rel B ρ' G' S' H' → EnvR B ρ' G' e' σ' → PostS B Wi ρ' G' H' (f (e', S')) D → Q σ' H') : PostG B ρ G H r Q := by
  cases r with
  | stuck => exact h
  | ex x S => exact absurd rfl (hx x S)
  | ok p => exact fun ρ' G' H' σ' l r q => k p.1 p.2 ρ' G' H' σ' l r q (postS_le l h)
/-- a target that raises nothing -/
def Quiet (m : Tg) : Prop := ∀ w e s x S, m w e s ≠ .ex x S
theorem quiet_N {i : Nat} : Quiet (gN i) := fun w e s x S h => by cases h
theorem quiet_Ts : ∀ {ms : List Tg}, (∀ m ∈ ms, Quiet m) → ∀ l e s x S, gTs ms l e s ≠ .ex x S
  | [], _, [], e, s, x, S => fun h => by cases h
  | [], _, _ :: _, e, s, x, S => fun h => by cases h
  | _ :: _, _, [], e, s, x, S => fun h => by cases h
  | m :: ms, q, w :: l, e, s, x, S => fun h => by
    have h' : (m w e s).bind (fun p => gTs ms l p.1 p.2) = .ex x S := h
    cases e1 : m w e s with
    | stuck => rw [e1] at h'; cases h'
    | ex x1 S1 => exact q m List.mem_cons_self _ _ _ _ _ e1
    | ok p =>
      rw [e1] at h'
      exact quiet_Ts (fun m hm => q m (List.mem_cons_of_mem _ hm)) l p.1 p.2 x S h'
theorem quiet_T {ms : List Tg} (q : ∀ m ∈ ms, Quiet m) : Quiet (gT ms) := fun w e s x S h => by
  have h' : (tupItems w).bind (fun l => gTs ms l e s) = .ex x S := h
  cases e1 : tupItems w with
  | stuck => rw [e1] at h'; cases h'
  | ex x1 S1 => exact tupItems_ex _ _ _ e1
  | ok l => rw [e1] at h'; exact quiet_Ts q l e s x S h'
theorem ss_skip : SimS B Wi tNext sSkip := fun ρ G S H env σ D R E h => h _ _ _ _ (Le.refl _ _ _) R E
theorem ss_brk : SimS B Wi tBreak sBrk := fun ρ G S H env σ D R E h => h _ _ _ _ (Le.refl _ _ _) R E
theorem ss_cnt : SimS B Wi tCont sCnt := fun ρ G S H env σ D R E h => h _ _ _ _ (Le.refl _ _ _) R E
theorem ss_seq {t u : TS} {a b : Sx} (h1 : SimS B Wi t a) (h2 : SimS B Wi u b) : SimS B Wi (tSeq t u) (sSeq a b) := by
  intro ρ G S H env σ D R E h
  refine h1 ρ G S H env σ _ R E ?_
  have h' : PostS B Wi ρ G H ((a env S).bind fun o => match o with | .nx e s => b e s | o => .ok o) D := h
  cases e : a env S with
  | stuck => rw [e] at h'; exact h'
  | ex x S1 => rw [e] at h'; exact h'
  | ok o =>
    rw [e] at h'
    cases o with
    | nx e1 s1 => exact fun ρ1 G1 H1 σ1 l1 R1 E1 => h2 ρ1 G1 s1 H1 e1 σ1 D R1 E1 (postS_le l1 h')
    | _ => exact h'
theorem ss_asg {te : TE} {g : TG} {m : Ev} {mg : Tg} (hq : Quiet mg) (he : SimE B Wi te m) (hg : SimG B g mg) : SimS B Wi (tAsg te g) (sAsg mg m) := by
  intro ρ G S H env σ D R E h
  refine he ρ G S H env σ _ R E (postS_bd E h fun w S1 ρ1 G1 H1 v l1 R1 r1 h1 => ?_)
  exact hg ρ1 G1 S1 H1 env σ w v _ R1 (l1.env E) r1 (postSG_bd (fun x S => hq _ _ _ _ _) h1 fun e2 S2 ρ2 G2 H2 σ2 l2 R2 E2 h2 => h2 _ _ _ _ (Le.refl _ _ _) R2 E2)
theorem ss_set {te : TE} {m : Ev} {i : Nat} (hp : PinFree B i) (he : SimE B Wi te m) : SimS B Wi (tAsg te (gName i)) (sAsg (gN i) m) := ss_asg quiet_N he (sg_name hp)
theorem ss_x {te : TE} {m : Ev} (he : SimE B Wi te m) : SimS B Wi (tDrop te) (sX m) := by
  intro ρ G S H env σ D R E h
  exact he ρ G S H env σ _ R E (postS_bd E h fun w S1 ρ1 G1 H1 v l1 R1 r1 h1 => h1 _ _ _ _ (Le.refl _ _ _) R1 (l1.env E))
theorem ss_ret {te : TE} {m : Ev} (he : SimE B Wi te m) : SimS B Wi (tRet te) (sRet m) := by
  intro ρ G S H env σ D R E h
  exact he ρ G S H env σ _ R E (postS_bd E h fun w S1 ρ1 G1 H1 v l1 R1 r1 h1 => h1 _ _ _ _ (Le.refl _ _ _) R1 r1)
theorem ss_retN : SimS B Wi tRetN sRetN := fun ρ G S H env σ D R E h => h _ _ _ _ (Le.refl _ _ _) R (.d .non)
theorem ss_if {c : TT} {m : Tx} {t u : TS} {a b : Sx} (hc : SimT B Wi c m) (h1 : SimS B Wi t a) (h2 : SimS B Wi u b) : SimS B Wi (tIfS c t u) (sIf m a b) := by
  intro ρ G S H env σ D R E h
  refine hc ρ G S H env σ _ R E (postST_bd E h fun w S1 ρ1 G1 H1 l1 R1 q => ?_)
  cases w with
  | true => exact (if_pos rfl).mpr (h1 ρ1 G1 S1 H1 env σ D R1 (l1.env E) q)
  | false => exact (if_neg Bool.false_ne_true).mpr (h2 ρ1 G1 S1 H1 env σ D R1 (l1.env E) q)
theorem envKill {ρ : List Addr} {G : Hp} {σ : St} : ∀ (ks : List Nat) {env : Env}, EnvR B ρ G env σ → EnvR B ρ G (kill ks env) σ
  | [], _, E => E
  | i :: r, env, E => envKill r ⟨by simp [E.1], (fun j u e => by
      by_cases hj : i = j
      · subst hj
        obtain ⟨h1, _⟩ := List.getElem?_eq_some_iff.mp e
        rw [List.getElem?_set_self (by simpa using h1)] at e
        cases e
      · rw [List.getElem?_set_ne hj] at e
        exact E.2.1 j u e), E.2.2⟩
theorem ss_kill {t : TS} {a : Sx} (ks : List Nat) (h1 : SimS B Wi t a) : SimS B Wi t (sKill ks a) := by
  intro ρ G S H env σ D R E h
  refine h1 ρ G S H env σ D R E ?_
  have h' : PostS B Wi ρ G H ((a env S).bind fun o => match o with | .nx e s => .ok (.nx (kill ks e) s) | .ct e s => .ok (.ct (kill ks e) s) | .bk e s => .ok (.bk (kill ks e) s) | o => .ok o) D := h
  cases e : a env S with
  | stuck => rw [e] at h'; exact h'
  | ex x S1 => rw [e] at h'; exact h'
  | ok o =>
    rw [e] at h'
    cases o with
    | nx e1 s1 => exact fun ρ1 G1 H1 σ1 l1 R1 E1 => h' ρ1 G1 H1 σ1 l1 R1 (envKill ks E1)
    | bk e1 s1 => exact fun ρ1 G1 H1 σ1 l1 R1 E1 => h' ρ1 G1 H1 σ1 l1 R1 (envKill ks E1)
    | ct e1 s1 => exact fun ρ1 G1 H1 σ1 l1 R1 E1 => h' ρ1 G1 H1 σ1 l1 R1 (envKill ks E1)
    | _ => exact h'

/-! ### the places from n on are gone -/
mutual
theorem cl_rep {K : PySem.W.Frag} {ρ : List Addr} {G : Hp} {n : Nat} : ∀ {w : W} {v : V}, cl n w = true → RepW K ρ G w v → RepW K (ρ.take n) G w v
  | _, _, _, .d h => .d h
  | .loc k, _, c, .loc h => .loc (by rw [List.getElem?_take_of_lt (of_decide_eq_true (by simpa [cl] using c))]; exact h)
  | .tw l, _, c, .tw h r => .tw h (cls_rep (by simpa [cl] using c) r)
theorem cls_rep {K : PySem.W.Frag} {ρ : List Addr} {G : Hp} {n : Nat} : ∀ {l : List W} {vs : List V}, cls n l = true → RepWs K ρ G l vs → RepWs K (ρ.take n) G l vs
  | _, _, _, .nil => .nil
  | _, _, c, .cons h r => by
    rw [cls, Bool.and_eq_true] at c
    exact .cons (cl_rep c.1 h) (cls_rep c.2 r)
end
theorem clC_rep {ρ : List Addr} {G H : Hp} {n : Nat} {a : Addr} : ∀ {c : C}, clC n c = true → CellR B ρ G H a c → CellR B (ρ.take n) G H a c
  | .l _, _, h => h
  | .m false _, _, h => h
  | .m true _, _, h => h
  | .w _, c, ⟨vs, h, r⟩ => ⟨vs, h, cls_rep c r⟩
  | .mw false _, c, ⟨vs, h, k, r⟩ => ⟨vs, h, k, cls_rep c r⟩
  | .mw true _, c, ⟨vs, h, k, r⟩ => ⟨vs, h, k, cls_rep c r⟩
  | .o _ _, c, ⟨dx, vs, h, k, r⟩ => ⟨dx, vs, h, k, cls_rep c r⟩
theorem Rel.cut {ρ : List Addr} {G H : Hp} {S : Sto} {n : Nat} (R : Rel B ρ G S H) (c : clS n (S.take n) = true) : Rel B (ρ.take n) G (S.take n) H := by
  refine ⟨R.ex, by simp [R.len], R.nd.sublist (List.take_sublist _ _), fun a ha => R.off a ((List.take_sublist _ _).subset ha), fun k d hd => ?_⟩
  have hk : k < n := by
    obtain ⟨h1, _⟩ := List.getElem?_eq_some_iff.mp hd
    simp at h1; omega
  have hd' := hd
  rw [List.getElem?_take_of_lt hk] at hd'
  obtain ⟨a, h1, h2⟩ := R.cell k d hd'
  refine ⟨a, by rw [List.getElem?_take_of_lt hk]; exact h1, clC_rep ?_ h2⟩
  exact List.all_eq_true.mp c d (List.mem_of_getElem? hd)
theorem Le.cut {ρ ρ' : List Addr} {G H G' H' : Hp} {n : Nat} (l : Le ρ G H ρ' G' H') (hn : n = ρ.length) : ρ'.take n = ρ ∧ Le ρ G H ρ G' H' := by
  obtain ⟨t, e, f⟩ := l.pre
  refine ⟨by rw [e, hn]; simp, ⟨⟨[], by simp, by simp⟩, l.ex, l.fr, l.dom, l.keep⟩⟩
theorem clE_rep {ρ : List Addr} {G : Hp} {n : Nat} {env : Env} {σ : St} (c : clE n env = true) (E : EnvR B ρ G env σ) : EnvR B (ρ.take n) G env σ := by
  refine ⟨E.1, fun i w e => ?_, E.2.2⟩
  obtain ⟨v, h1, h2⟩ := E.2.1 i w e
  exact ⟨v, h1, cl_rep (List.all_eq_true.mp c _ (List.mem_of_getElem? e)) h2⟩
theorem ss_cut {t : TS} {a : Sx} (h1 : SimS B Wi t a) : SimS B Wi t (sCut a) := by
  intro ρ G S H env σ D R E h
  refine h1 ρ G S H env σ D R E ?_
  have h' : PostS B Wi ρ G H ((a env S).bind (cutO S.length)) D := h
  cases e : a env S with
  | stuck => rw [e] at h'; exact h'
  | ex x S1 => rw [e] at h'; exact h'
  | ok o =>
    rw [e] at h'
    have one : ∀ {e1 : Env} {s1 : Sto} {k : Env → Sto → O} {P : St → Hp → Prop}, (∀ e s, PostS B Wi ρ G H (.ok (k e s)) D ↔ ∀ ρ' G' H' σ', Le ρ G H ρ' G' H' → Rel B ρ' G' s H' → EnvR B ρ' G' e σ' → P σ' H') →
        PostS B Wi ρ G H (need (clE S.length e1 && clS S.length (s1.take S.length)) (.ok (k e1 (s1.take S.length)))) D → PostS B Wi ρ G H (.ok (k e1 s1)) D := fun {e1 s1 k P} hp hq => by
      cases c : clE S.length e1 && clS S.length (s1.take S.length) with
      | false => rw [c] at hq; exact False.elim hq
      | true =>
        rw [c, need_true] at hq
        rw [Bool.and_eq_true] at c
        refine (hp _ _).mpr fun ρ' G' H' σ' l R' E' => ?_
        obtain ⟨q1, q2⟩ := l.cut R.len.symm
        have R2 := R'.cut c.2
        have E2 := clE_rep c.1 E'
        rw [q1] at R2 E2
        exact (hp _ _).mp hq ρ G' H' σ' q2 R2 E2
    cases o with
    | nx e1 s1 => exact one (k := .nx) (P := D.nx) (fun _ _ => Iff.rfl) h'
    | bk e1 s1 => exact one (k := .bk) (P := D.bk) (fun _ _ => Iff.rfl) h'
    | ct e1 s1 => exact one (k := .ct) (P := D.ct) (fun _ _ => Iff.rfl) h'
    | _ => exact h'

/-! ### loops -/
/-- what an iterator gives, whatever else the heap does -/
def Walks (B : Bx) (ρ : List Addr) (G : Hp) (J : L2.It) (xs : List W) : Prop := ∀ i ρ2 G2 S2 H2, (∀ (n : Nat) (a : Addr), ρ[n]? = some a → ρ2[n]? = some a) → Same G G2 → Rel B ρ2 G2 S2 H2 →
  (xs.length ≤ i → J.stop i H2) ∧ ∀ w, xs[i]? = some w → J.go i H2 ∧ ∀ x H3, J.yld i H2 x H3 → ∃ G3, Rel B ρ2 G3 S2 H3 ∧ Le ρ2 G2 H2 ρ2 G3 H3 ∧ RepW B.K ρ2 G3 w x
def PostI (B : Bx) (Wi : XK) (ρ : List Addr) (G H : Hp) (r : R (List W × Sto)) (Q : L2.It → Hp → Prop) : Prop := match r with
  | .ok (xs, S') => ∀ ρ' G' H' J, Le ρ G H ρ' G' H' → Rel B ρ' G' S' H' → Walks B ρ' G' J xs → Q J H'
  | .ex x S' => ∀ ρ' G' H' c d, Le ρ G H ρ' G' H' → Rel B ρ' G' S' H' → RepX B G' x c d H' → Wi c d H'
  | .stuck => False
def SimI (B : Bx) (Wi : WX) (wi : TI) (m : Wk) : Prop := ∀ ρ G S H env σ Q, Rel B ρ G S H → EnvR B ρ G env σ → PostI B (atS Wi σ) ρ G H (m env S) Q → wi σ H Q
theorem postI_le {Wi : XK} {ρ ρ1 : List Addr} {G H G1 H1 : Hp} {r : R (List W × Sto)} {Q : L2.It → Hp → Prop} (le : Le ρ G H ρ1 G1 H1) (h : PostI B Wi ρ G H r Q) : PostI B Wi ρ1 G1 H1 r Q := by
  cases r with
  | stuck => exact h
  | ok p => exact fun ρ' G' H' J l r => h ρ' G' H' J (le.trans l) r
  | ex x S => exact fun ρ' G' H' c d l r q => h ρ' G' H' c d (le.trans l) r q
theorem postI_bind {Wi : XK} {ρ : List Addr} {G H : Hp} {r : VS} {f : W × Sto → R (List W × Sto)} {Q : L2.It → Hp → Prop} {Q' : VK} (h : PostI B Wi ρ G H (r.bind f) Q)
    (k : ∀ w S' ρ' G' H' v, Le ρ G H ρ' G' H' → Rel B ρ' G' S' H' → RepW B.K ρ' G' w v → PostI B Wi ρ' G' H' (f (w, S')) Q → Q' v H') : Post B Wi ρ G H r Q' := by
  cases r with
  | stuck => exact h
  | ex x S => exact h
  | ok p => exact fun ρ' G' H' v l r q => k p.1 p.2 ρ' G' H' v l r q (postI_le l h)
/-- a list or a tuple that is walked -/
def iSeqT (K : PySem.W.Frag) (tl : TE) : TI := fun σ H R => tl σ H fun x H1 => ∃ a, x = .ref a ∧ (((∃ xs, SqL K H1 a xs) ∧ R (Itl K a) H1) ∨ ((∃ xs, SqT K H1 a xs) ∧ R (Itt K a) H1))
theorem pi_seq {X : Cx} {tg l : Expr} {tl : TE} (hl : PE X l tl) : PI X tg l (iSeqT X.K tl) := by
  refine ⟨fun pins s σ H R I h => ?_⟩
  refine thn (hl.run pins s σ H _ I h) fun v s1 ⟨x, H1, I1, r1, q1⟩ => ?_
  obtain ⟨a, e, q1⟩ := q1
  subst e
  cases r1
  rcases q1 with ⟨⟨xs, hq⟩, q⟩ | ⟨⟨xs, hq⟩, q⟩
  · obtain ⟨its, rv, p, hz⟩ := I1.list hq
    refine wpAny_pyIter_list p.isList ?_
    refine ⟨s1.heap.objs.size, [s1.heap.objs.size], _, _, H1, rfl, I1.kept (t' := s1.toks) fun b o e => Heap.get?_push_of_some _ e, turn_list a _, ⟨_, Heap.get?_push_size _ rfl, rfl, rfl⟩, fun b hb => ?_, q⟩
    have e : b = s1.heap.objs.size := by simpa using hb
    subst e
    exact I1.fpOk (Nat.le_refl _) (I1.hok.fresh (Nat.le_refl _))
  · obtain ⟨its, rv, p, hz⟩ := I1.tuple hq
    refine wpAny_pyIter_tuple (show s1.heap.IsTuple a its.toArray from p) ?_
    refine ⟨s1.heap.objs.size, [s1.heap.objs.size], _, _, H1, rfl, I1.kept (t' := s1.toks) fun b o e => Heap.get?_push_of_some _ e, turn_tuple a _, ⟨_, Heap.get?_push_size _ rfl, rfl, rfl⟩, fun b hb => ?_, q⟩
    have e : b = s1.heap.objs.size := by simpa using hb
    subst e
    exact I1.fpOk (Nat.le_refl _) (I1.hok.fresh (Nat.le_refl _))
theorem walks_list {ρ : List Addr} {G : Hp} {a : Addr} {vs : List V} {l : List W} (q : SqL B.K G a vs) (r : RepWs B.K ρ G l vs) : Walks B ρ G (Itl B.K a) l := by
  intro i ρ2 G2 S2 H2 p e R
  have q2 : SqL B.K H2 a vs := R.ex.seq (e.seq q)
  refine ⟨fun h => ⟨vs, q2, by rw [← r.length]; exact h⟩, fun w hw => ?_⟩
  obtain ⟨v, hv, rv⟩ := r.get hw
  refine ⟨⟨vs, v, q2, hv⟩, fun x H3 y => ?_⟩
  obtain ⟨rfl, y⟩ := y
  have := (y vs q2).symm.trans hv
  cases this
  exact ⟨G2, R, Le.refl _ _ _, RepW.mono p e rv⟩
theorem walks_tup {ρ : List Addr} {G : Hp} {a : Addr} {vs : List V} {l : List W} (q : SqT B.K G a vs) (r : RepWs B.K ρ G l vs) : Walks B ρ G (Itt B.K a) l := by
  intro i ρ2 G2 S2 H2 p e R
  have q2 : SqT B.K H2 a vs := Same.sqt R.ex (Same.sqt e q)
  refine ⟨fun h => ⟨vs, q2, by rw [← r.length]; exact h⟩, fun w hw => ?_⟩
  obtain ⟨v, hv, rv⟩ := r.get hw
  refine ⟨⟨vs, v, q2, hv⟩, fun x H3 y => ?_⟩
  obtain ⟨rfl, y⟩ := y
  have := (y vs q2).symm.trans hv
  cases this
  exact ⟨G2, R, Le.refl _ _ _, RepW.mono p e rv⟩
theorem si_seq {te : TE} {m : Ev} (he : SimE B Wi te m) : SimI B Wi (iSeqT B.K te) (iSeq m) := by
  intro ρ G S H env σ Q R E h
  refine he ρ G S H env σ _ R E (postI_bind (f := fun p => match p.1 with | .d (.lst l) => .ok (ws l, p.2) | .d (.tup l) => .ok (ws l, p.2) | .d (.inp l) => .ok (ws l, p.2) | .d (.inq l) => .ok (ws l, p.2) | .tw l => .ok (l, p.2) | _ => .stuck) h fun w S1 ρ1 G1 H1 v l1 R1 r1 h1 => ?_)
  simp only at h1
  split at h1
  · cases r1 with
    | d r1 =>
      cases r1 with
      | lst q r => exact ⟨_, rfl, .inl ⟨⟨_, .inl (.inl (R1.ex _ _ q))⟩, h1 _ _ _ _ (Le.refl _ _ _) R1 (walks_list (.inl (.inl q)) r.ws)⟩⟩
  · cases r1 with
    | d r1 =>
      cases r1 with
      | tup q r => exact ⟨_, rfl, .inr ⟨⟨_, .inl (.inl (R1.ex _ _ q))⟩, h1 _ _ _ _ (Le.refl _ _ _) R1 (walks_tup (.inl (.inl q)) r.ws)⟩⟩
  · cases r1 with
    | d r1 =>
      cases r1 with
      | inp q r => exact ⟨_, rfl, .inl ⟨⟨_, R1.ex.seq q⟩, h1 _ _ _ _ (Le.refl _ _ _) R1 (walks_list q r.ws)⟩⟩
  · cases r1 with
    | d r1 =>
      cases r1 with
      | inq q r => exact ⟨_, rfl, .inr ⟨⟨_, Same.sqt R1.ex (sqq q)⟩, h1 _ _ _ _ (Le.refl _ _ _) R1 (walks_tup (sqq q) r.ws)⟩⟩
  · cases r1 with
    | tw q r => exact ⟨_, rfl, .inr ⟨⟨_, .inl (.inl (R1.ex _ _ q))⟩, h1 _ _ _ _ (Le.refl _ _ _) R1 (walks_tup (.inl (.inl q)) r)⟩⟩
  · exact False.elim h1
theorem rng_get : ∀ (n : Nat) (lo : Int) (i : Nat) (w : W), (rng lo n)[i]? = some w → i < n ∧ w = .d (.int (lo + i))
  | 0, _, _, _, h => by simp [rng] at h
  | n + 1, lo, 0, w, h => by
    simp [rng] at h; subst h; exact ⟨Nat.succ_pos _, by simp⟩
  | n + 1, lo, i + 1, w, h => by
    obtain ⟨h1, h2⟩ := rng_get n (lo + 1) i w (by simpa [rng] using h)
    exact ⟨Nat.succ_lt_succ h1, by rw [h2]; congr 2; omega⟩
theorem rng_len : ∀ (n : Nat) (lo : Int), (rng lo n).length = n
  | 0, _ => rfl
  | n + 1, lo => congrArg (· + 1) (rng_len n (lo + 1))
theorem walks_rng {ρ : List Addr} {G : Hp} {lo : Int} {n : Nat} : Walks B ρ G (Itr lo n) (rng lo n) := by
  intro i ρ2 G2 S2 H2 p e R
  rw [rng_len]
  refine ⟨fun h => h, fun w hw => ?_⟩
  obtain ⟨h1, h2⟩ := rng_get _ _ _ _ hw
  subst h2
  refine ⟨h1, fun x H3 y => ?_⟩
  obtain ⟨rfl, rfl⟩ := y
  exact ⟨G2, R, Le.refl _ _ _, .d (.int _)⟩
theorem rep_int {K : PySem.W.Frag} {ρ : List Addr} {G : Hp} {i : Int} {v : V} (h : RepW K ρ G (.d (.int i)) v) : v = .int i := by
  cases h with
  | d h => cases h; rfl
theorem rep_str {K : PySem.W.Frag} {ρ : List Addr} {G : Hp} {i : List Nat} {v : V} (h : RepW K ρ G (.d (.str i)) v) : v = .str (sof i) := by
  cases h with
  | d h => cases h; rfl
theorem si_r1 {te : TE} {m : Ev} (he : SimE B Wi te m) : SimI B Wi (iRng1 (tCons te tNil)) (iR1 m) := by
  intro ρ G S H env σ Q R E h
  refine he ρ G S H env σ _ R E (postI_bind (f := fun p => match p.1 with | .d (.int i) => need (small62 i) (.ok (rng 0 i.toNat, p.2)) | _ => .stuck) h fun w S1 ρ1 G1 H1 v l1 R1 r1 h1 => ?_)
  simp only at h1
  split at h1
  · rename_i i
    cases c : small62 i with
    | false => rw [c] at h1; exact False.elim h1
    | true =>
      rw [c, need_true] at h1
      rw [small62, Bool.and_eq_true] at c
      exact ⟨i, by rw [rep_int r1], of_decide_eq_true c.1, of_decide_eq_true c.2, h1 _ _ _ _ (Le.refl _ _ _) R1 walks_rng⟩
  · exact False.elim h1
theorem si_r2 {te tf : TE} {m m2 : Ev} (he : SimE B Wi te m) (hf : SimE B Wi tf m2) : SimI B Wi (iRng2 (tCons te (tCons tf tNil))) (iR2 m m2) := by
  intro ρ G S H env σ Q R E h
  refine he ρ G S H env σ _ R E (postI_bind h fun w S1 ρ1 G1 H1 v l1 R1 r1 h1 => ?_)
  refine hf ρ1 G1 S1 H1 env σ _ R1 (l1.env E) (postI_bind h1 fun w2 S2 ρ2 G2 H2 v2 l2 R2 r2 h0 => ?_)
  have h2 : PostI B (atS Wi σ) ρ2 G2 H2 (rng2 w w2 S2) Q := h0
  clear h0
  unfold rng2 at h2
  revert r1 r2 h2
  split <;> intro r1 r2 h2
  · rename_i i j
    cases c : small62 i && small62 j with
    | false => rw [c] at h2; exact False.elim h2
    | true =>
      rw [c, need_true] at h2
      rw [small62, small62, Bool.and_eq_true, Bool.and_eq_true, Bool.and_eq_true] at c
      exact ⟨i, j, by rw [rep_int r1, rep_int r2], ⟨of_decide_eq_true c.1.1, of_decide_eq_true c.1.2, of_decide_eq_true c.2.1, of_decide_eq_true c.2.2⟩, h2 _ _ _ _ (Le.refl _ _ _) R2 walks_rng⟩
  · exact False.elim h2
theorem si_str {te : TE} {m : Ev} (he : SimE B Wi te m) : SimI B Wi (L2.iStr te) (iStr m) := by
  intro ρ G S H env σ Q R E h
  refine he ρ G S H env σ _ R E (postI_bind (f := fun p => match p.1 with | .d (.str z) => .ok (z.map (fun c => .d (.str [c])), p.2) | _ => .stuck) h fun w S1 ρ1 G1 H1 v l1 R1 r1 h1 => ?_)
  simp only at h1
  split at h1
  · rename_i z
    refine ⟨sof z, rep_str r1, h1 _ _ _ _ (Le.refl _ _ _) R1 fun i ρ2 G2 S2 H2 p e R2 => ?_⟩
    refine ⟨fun hl => by show (sof z).cps.size ≤ i; simpa [sof] using hl, fun w hw => ?_⟩
    rw [List.getElem?_map] at hw
    obtain ⟨c, e1, e2⟩ := Option.map_eq_some_iff.mp hw
    subst e2
    obtain ⟨hi, _⟩ := List.getElem?_eq_some_iff.mp e1
    refine ⟨by show i < (sof z).cps.size; simpa [sof] using hi, fun x H3 y => ?_⟩
    obtain ⟨rfl, c', e3, rfl⟩ := y
    have e4 : z[i]? = some c' := by simpa [sof] using e3
    rw [e1] at e4
    cases e4
    exact ⟨G2, R2, Le.refl _ _ _, .d (.str [c])⟩
  · exact False.elim h1
theorem postSI_bd {ρ : List Addr} {G H : Hp} {r : R (List W × Sto)} {env : Env} {σ : St} {f : List W × Sto → R O} {D : Ends} {Q : L2.It → Hp → Prop} (E : EnvR B ρ G env σ) (h : PostS B Wi ρ G H (r.bd env f) D)
    (k : ∀ xs S' ρ' G' H' J, Le ρ G H ρ' G' H' → Rel B ρ' G' S' H' → Walks B ρ' G' J xs → PostS B Wi ρ' G' H' (f (xs, S')) D → Q J H') : PostI B (atS Wi σ) ρ G H r Q := by
  cases r with
  | stuck => exact h
  | ex x S => exact fun ρ' G' H' c d l r q => h ρ' G' H' σ c d l r (l.env E) q
  | ok p => exact fun ρ' G' H' J l r q => k p.1 p.2 ρ' G' H' J l r q (postS_le l h)
/-- a turn's end -/
theorem turn_end {t : TS} {b : Sx} (hb : SimS B Wi t b) {ρ : List Addr} {G H : Hp} {S : Sto} {env : Env} {σ : St} {D : Ends} {N : St → Hp → Prop} {k : Env → Sto → R O} (R : Rel B ρ G S H) (E : EnvR B ρ G env σ) (h : PostS B Wi ρ G H ((b env S).bind fun o => turn o k) D)
    (hN : ∀ e s ρ' G' H' σ', Le ρ G H ρ' G' H' → Rel B ρ' G' s H' → EnvR B ρ' G' e σ' → PostS B Wi ρ' G' H' (k e s) D → N σ' H') : t { D with nx := N, ct := N, bk := D.nx } σ H := by
  refine hb ρ G S H env σ _ R E ?_
  cases e : b env S with
  | stuck => rw [e] at h; exact h
  | ex x S1 => rw [e] at h; exact h
  | ok o =>
    rw [e] at h
    cases o with
    | nx e1 s1 => exact fun ρ' G' H' σ' l R' E' => hN e1 s1 ρ' G' H' σ' l R' E' (postS_le l h)
    | ct e1 s1 => exact fun ρ' G' H' σ' l R' E' => hN e1 s1 ρ' G' H' σ' l R' E' (postS_le l h)
    | bk e1 s1 => exact h
    | rt w s1 => exact h
    | xx x e1 s1 => exact h
theorem ss_for {wi : TI} {it : Wk} {g : TG} {mg : Tg} {t : TS} {b : Sx} (hi : SimI B Wi wi it) (hq : Quiet mg) (hg : SimG B g mg) (hb : SimS B Wi t b) : SimS B Wi (tFor wi g t) (sFor it mg b) := by
  intro ρ G S H env σ D R E h
  refine hi ρ G S H env σ _ R E (postSI_bd E h fun xs S1 ρ1 G1 H1 J l1 R1 w1 h1 => ?_)
  refine ⟨fun i m σ H => m = xs.length - i ∧ i ≤ xs.length ∧ ∃ ρ2 G2 S2 env2, Le ρ1 G1 H1 ρ2 G2 H ∧ Rel B ρ2 G2 S2 H ∧ EnvR B ρ2 G2 env2 σ ∧ PostS B Wi ρ2 G2 H (loop mg b (xs.drop i) env2 S2) D,
    ⟨xs.length, by simp, Nat.zero_le _, ρ1, G1, S1, env, Le.refl _ _ _, R1, l1.env E, h1⟩, ?_⟩
  rintro i m σ2 H2 ⟨rfl, hle, ρ2, G2, S2, env2, l2, R2, E2, h2⟩
  obtain ⟨hstop, hgo⟩ := w1 i ρ2 G2 S2 H2 l2.ix l2.ex R2
  by_cases hlt : i < xs.length
  · obtain ⟨go, step⟩ := hgo _ (List.getElem?_eq_getElem hlt)
    refine .inr ⟨go, fun σ' H' => ∃ ρ3 G3 S3 env3, Le ρ1 G1 H1 ρ3 G3 H' ∧ Rel B ρ3 G3 S3 H' ∧ EnvR B ρ3 G3 env3 σ' ∧ PostS B Wi ρ3 G3 H' (loop mg b (xs.drop (i + 1)) env3 S3) D,
      fun σ' H' q => ⟨xs.length - (i + 1), by omega, rfl, hlt, q⟩, fun x H3 y => ?_⟩
    obtain ⟨G3, R3, l3, r3⟩ := step x H3 y
    rw [List.drop_eq_getElem_cons hlt] at h2
    have h3 : PostS B Wi ρ2 G3 H3 ((mg xs[i] env2 S2).bd env2 fun p => (b p.1 p.2).bind fun o => turn o (loop mg b (xs.drop (i + 1)))) D := postS_le l3 h2
    refine hg ρ2 G3 S2 H3 env2 σ2 _ x _ R3 (l3.env E2) r3 (postSG_bd (fun _ _ => hq _ _ _ _ _) h3 fun e4 S4 ρ4 G4 H4 σ4 l4 R4 E4 h4 => ?_)
    exact turn_end hb R4 E4 h4 fun e s ρ' G' H' σ' l' R' E' h' => ⟨ρ', G', s, e, (l2.trans (l3.trans l4)).trans l', R', E', h'⟩
  · have e : xs.drop i = [] := List.drop_eq_nil_of_le (by omega)
    rw [e] at h2
    exact .inl ⟨hstop (by omega), h2 _ _ _ _ (Le.refl _ _ _) R2 E2⟩
theorem ss_whl0 {c : TT} {t : TS} {a : Tx} {b : Sx} {n : Nat} (hc : SimT B Wi c a) (hb : SimS B Wi t b) : SimS B Wi (tWhile c t) (whl a b n) := by
  intro ρ G S H env σ D R E h
  refine ⟨fun m σ H => ∃ ρ2 G2 S2 env2, Rel B ρ2 G2 S2 H ∧ EnvR B ρ2 G2 env2 σ ∧ PostS B Wi ρ2 G2 H (whl a b m env2 S2) D, ⟨n, ρ, G, S, env, R, E, h⟩, ?_⟩
  rintro m σ2 H2 ⟨ρ2, G2, S2, env2, R2, E2, h2⟩
  cases m with
  | zero => exact False.elim h2
  | succ m =>
    refine hc ρ2 G2 S2 H2 env2 σ2 _ R2 E2 (postST_bd E2 h2 fun w S3 ρ3 G3 H3 l3 R3 h3 => ?_)
    cases w with
    | true =>
      refine (if_pos rfl).mpr ⟨fun σ' H' => ∃ ρ4 G4 S4 env4, Rel B ρ4 G4 S4 H' ∧ EnvR B ρ4 G4 env4 σ' ∧ PostS B Wi ρ4 G4 H' (whl a b m env4 S4) D, fun σ' H' q => ⟨m, Nat.lt_succ_self m, q⟩, ?_⟩
      exact turn_end hb R3 (l3.env E2) h3 fun e s ρ' G' H' σ' l' R' E' h' => ⟨ρ', G', s, e, R', E', h'⟩
    | false => exact (if_neg Bool.false_ne_true).mpr (h3 _ _ _ _ (Le.refl _ _ _) R3 (l3.env E2))
theorem ss_whl {c : TT} {t : TS} {a : Tx} {b : Sx} (hc : SimT B Wi c a) (hb : SimS B Wi t b) : SimS B Wi (tWhile c t) (sWhl a b) := ss_whl0 hc hb

/-! ### defs and their calls -/
def spM (B : Bx) (n : Nat) (m : Fn) : Sp := fun vs H Q E => vs.length = n ∧ ∃ ρ G S l, Rel B ρ G S H ∧ RepWs B.K ρ G l vs ∧ Post B E ρ G H (m l S) Q
theorem frz_at {ρ : List Addr} {n k : Nat} {a : Addr} (nd : ρ.Nodup) (h : ρ[k]? = some a) : a ∈ ρ.drop n ↔ n ≤ k := by
  obtain ⟨hk, _⟩ := List.getElem?_eq_some_iff.mp h
  constructor
  · intro hm
    obtain ⟨j, hj⟩ := List.getElem?_of_mem hm
    rw [List.getElem?_drop] at hj
    have : k = n + j := (List.getElem?_inj hk nd).mp (h.trans hj.symm)
    omega
  · intro hn
    refine List.mem_of_getElem? (i := k - n) ?_
    rw [List.getElem?_drop, Nat.add_sub_cancel' hn]
    exact h
open Classical in
/-- the places from n on are data from now on -/
noncomputable def frzG (n : Nat) (ρ : List Addr) (G H : Hp) : Hp := fun a => if a ∈ ρ.drop n then H a else G a
theorem Rel.frz {ρ : List Addr} {G H : Hp} {S : Sto} {n : Nat} (R : Rel B ρ G S H) (c : clS n (S.take n) = true) : Rel B (ρ.take n) (frzG n ρ G H) (S.take n) H ∧ Same G (frzG n ρ G H) := by
  have R1 := R.cut c
  have sg : Same G (frzG n ρ G H) := fun a o e => by
    unfold frzG
    by_cases h : a ∈ ρ.drop n
    · rw [if_pos h]; exact R.ex a o e
    · rw [if_neg h]; exact e
  refine ⟨⟨fun a o e => ?_, R1.len, R1.nd, fun a ha => ?_, fun k d hd => ?_⟩, sg⟩
  · unfold frzG at e
    by_cases h : a ∈ ρ.drop n
    · rw [if_pos h] at e; exact e
    · rw [if_neg h] at e; exact R.ex a o e
  · unfold frzG
    have hn : a ∉ ρ.drop n := fun h => by
      have nd := R.nd
      rw [← List.take_append_drop n ρ] at nd
      rw [List.nodup_append] at nd
      exact nd.2.2 a ha a h rfl
    rw [if_neg hn]
    exact R1.off a ha
  · obtain ⟨a, h1, h2⟩ := R1.cell k d hd
    exact ⟨a, h1, h2.mono (fun _ _ h => h) sg rfl⟩
/-- a body is a def -/
theorem spM_body {t : TS} {b : Sx} {N : List Str} {n : Nat} {vs : List V} {H : Hp} {Q : VK} {E : XK} (hs : SimS B (fun c d _ H => E c d H) t b) (hpn : B.pin = none) (hn : n ≤ N.length) (h : spM B n (mkF N.length b) vs H Q E) :
    t { nx := fun _ H' => Q .non H', rt := Q } (L2.start N vs) H := by
  obtain ⟨hl, ρ, G, S, l, R, rs, h⟩ := h
  have hll : l.length = vs.length := rs.length
  have E0 : EnvR B ρ G (_root_.B.start N.length l) (L2.start N vs) := by
    refine ⟨by simp [_root_.B.start, L2.start, hll], fun i w e => ?_, fun p hp => by rw [hpn] at hp; cases hp⟩
    have hi : i < l.length := by
      by_cases hi : i < l.length
      · exact hi
      · unfold _root_.B.start at e
        rw [List.getElem?_append_right (by simpa using hi), List.getElem?_replicate] at e
        split at e <;> cases e
    have e' : l[i]? = some w := by
      unfold _root_.B.start at e
      rw [List.getElem?_append_left (by simpa using hi), List.getElem?_map] at e
      cases q : l[i]? with
      | none => rw [q] at e; cases e
      | some a => rw [q] at e; cases e; rfl
    obtain ⟨v, h1, h2⟩ := rs.get e'
    refine ⟨v, ?_, h2⟩
    unfold L2.start
    rw [List.getElem?_append_left (by rw [List.length_map, ← hll]; exact hi), List.getElem?_map, h1]
    rfl
  refine hs ρ G S H _ _ _ R E0 ?_
  have h' : Post B E ρ G H (fin S.length (outOf (b (_root_.B.start N.length l) S))) Q := h
  -- a value comes out
  have val : ∀ (w : W) (s : Sto), Post B E ρ G H (fin S.length (.ok (w, s))) Q → ∀ ρ' G' H' v, Le ρ G H ρ' G' H' → Rel B ρ' G' s H' → RepW B.K ρ' G' w v → Q v H' := fun w s q ρ' G' H' v le R' r => by
    have q' : Post B E ρ G H (match frz S.length s w with | some w' => if clS S.length (s.take S.length) then .ok (w', s.take S.length) else .stuck | none => .stuck) Q := q
    cases e1 : frz S.length s w with
    | none => rw [e1] at q'; exact False.elim q'
    | some w' =>
      rw [e1] at q'
      simp only at q'
      cases c : clS S.length (s.take S.length) with
      | false => rw [c] at q'; exact False.elim q'
      | true =>
        rw [c, if_pos rfl] at q'
        obtain ⟨p1, p2⟩ := le.cut R.len.symm
        obtain ⟨R2, sg⟩ := R'.frz c
        rw [p1] at R2
        have le2 : Le ρ G H ρ (frzG S.length ρ' G' H') H' := by
          refine ⟨⟨[], by simp, by simp⟩, le.ex.trans sg, fun a h1 h2 h3 => ?_, le.dom, le.keep⟩
          unfold frzG
          by_cases hm : a ∈ ρ'.drop S.length
          · obtain ⟨t, e, f⟩ := le.pre
            rw [e, ← R.len, List.drop_left] at hm
            exact absurd (f a hm) h2
          · rw [if_neg hm]; exact le.fr a h1 h2 h3
        have low : cl S.length w = true → RepW B.K ρ (frzG S.length ρ' G' H') w v := fun hc => by
          have := cl_rep hc r
          rw [p1] at this
          exact RepW.mono (fun _ _ h => h) sg this
        refine q' ρ _ H' v le2 R2 ?_
        cases w with
        | d x =>
          cases (Option.some.inj (show some (W.d x) = some w' from e1))
          exact low rfl
        | loc k =>
          simp only [frz] at e1
          cases hc : cl S.length (.loc k) with
          | true => rw [hc, if_pos rfl] at e1; cases e1; exact low hc
          | false =>
            rw [hc, if_neg Bool.false_ne_true] at e1
            obtain ⟨x, e2, e3⟩ := Option.map_eq_some_iff.mp e1
            subst e3
            refine .d (toD_rep R' sg (fun k a hk ha => ?_) _ _ _ _ e2 r)
            unfold frzG
            rw [if_pos ((frz_at R'.nd ha).mpr (of_decide_eq_true hk))]
        | tw l =>
          simp only [frz] at e1
          cases hc : cl S.length (.tw l) with
          | true => rw [hc, if_pos rfl] at e1; cases e1; exact low hc
          | false =>
            rw [hc, if_neg Bool.false_ne_true] at e1
            obtain ⟨x, e2, e3⟩ := Option.map_eq_some_iff.mp e1
            subst e3
            refine .d (toD_rep R' sg (fun k a hk ha => ?_) _ _ _ _ e2 r)
            unfold frzG
            rw [if_pos ((frz_at R'.nd ha).mpr (of_decide_eq_true hk))]
  cases e : b (_root_.B.start N.length l) S with
  | stuck => rw [e] at h'; exact h'
  | ex x s => rw [e] at h'; exact False.elim h'
  | ok o =>
    rw [e] at h'
    cases o with
    | nx e1 s1 => exact fun ρ' G' H' σ' le R' E' => val _ _ h' ρ' G' H' .non le R' (.d .non)
    | rt w s1 => exact fun ρ' G' H' v le R' r => val w s1 h' ρ' G' H' v le R' r
    | bk e1 s1 => exact False.elim h'
    | ct e1 s1 => exact False.elim h'
    | xx x e1 s1 =>
      have q' : Post B E ρ G H (if clS S.length (s1.take S.length) then .ex x (s1.take S.length) else .stuck) Q := h'
      cases c : clS S.length (s1.take S.length) with
      | false => rw [c] at q'; exact False.elim q'
      | true =>
        rw [c, if_pos rfl] at q'
        intro ρ' G' H' σ' cc d le R' E' rx
        obtain ⟨p1, p2⟩ := le.cut R.len.symm
        have R2 := R'.cut c
        rw [p1] at R2
        exact q' ρ G' H' cc d p2 R2 rx
/-- .. whose makings stay -/
theorem spM_bodyK {t : TS} {b : Sx} {N : List Str} {n : Nat} {vs : List V} {H : Hp} {Q : VK} {E : XK} (hs : SimS B (fun c d _ H => E c d H) t b) (hpn : B.pin = none) (hn : n ≤ N.length) (h : spM B n (mkK N.length b) vs H Q E) :
    t { nx := fun _ H' => Q .non H', rt := Q } (L2.start N vs) H := by
  obtain ⟨hl, ρ, G, S, l, R, rs, h⟩ := h
  have hll : l.length = vs.length := rs.length
  have E0 : EnvR B ρ G (_root_.B.start N.length l) (L2.start N vs) := by
    refine ⟨by simp [_root_.B.start, L2.start, hll], fun i w e => ?_, fun p hp => by rw [hpn] at hp; cases hp⟩
    have hi : i < l.length := by
      by_cases hi : i < l.length
      · exact hi
      · unfold _root_.B.start at e
        rw [List.getElem?_append_right (by simpa using hi), List.getElem?_replicate] at e
        split at e <;> cases e
    have e' : l[i]? = some w := by
      unfold _root_.B.start at e
      rw [List.getElem?_append_left (by simpa using hi), List.getElem?_map] at e
      cases q : l[i]? with
      | none => rw [q] at e; cases e
      | some a => rw [q] at e; cases e; rfl
    obtain ⟨v, h1, h2⟩ := rs.get e'
    refine ⟨v, ?_, h2⟩
    unfold L2.start
    rw [List.getElem?_append_left (by rw [List.length_map, ← hll]; exact hi), List.getElem?_map, h1]
    rfl
  refine hs ρ G S H _ _ _ R E0 ?_
  have h' : Post B E ρ G H (outOf (b (_root_.B.start N.length l) S)) Q := h
  cases e : b (_root_.B.start N.length l) S with
  | stuck => rw [e] at h'; exact h'
  | ex x s => rw [e] at h'; exact False.elim h'
  | ok o =>
    rw [e] at h'
    cases o with
    | nx e1 s1 => exact fun ρ' G' H' σ' le R' E' => h' ρ' G' H' .non le R' (.d .non)
    | rt w s1 => exact h'
    | bk e1 s1 => exact False.elim h'
    | ct e1 s1 => exact False.elim h'
    | xx x e1 s1 => exact fun ρ' G' H' σ' cc d le R' E' rx => h' ρ' G' H' cc d le R' rx
theorem spM_len {n : Nat} {m : Fn} {ps : List Str} (hn : n = ps.length) : ∀ vs H Q E, spM B n m vs H Q E → vs.length = ps.length := fun vs H Q E h => h.1.trans hn

mutual
theorem noL_rep {K : PySem.W.Frag} {G G' : Hp} (ag : ∀ a o, G a = some o → (∀ vs, o ≠ .tup vs) ∧ (∀ z vs, o ≠ .frz z (.tup vs)) ∨ G' a = some o) : ∀ {d : D} {v : V}, Rep K G d v → noL d = true → Rep K G' d v
  | _, _, .non, _ => .non
  | _, _, .bl b, _ => .bl b
  | _, _, .int i, _ => .int i
  | _, _, .str s, _ => .str s
  | _, _, .tup h r, c => .tup (by
      rcases ag _ _ h with ⟨q, _⟩ | q
      · exact absurd rfl (q _)
      · exact q) (noLL_rep ag r (by simpa [noL] using c))
  | _, _, .lst _ _, c => by simp [noL] at c
  | _, _, .inp _ _, c => by simp [noL] at c
  | _, _, .inq _ _, c => by simp [noL] at c
  | _, _, .dk _ _ _, c => by simp [noL] at c
  | _, _, .dt _ _ _, c => by simp [noL] at c
theorem noLL_rep {K : PySem.W.Frag} {G G' : Hp} (ag : ∀ a o, G a = some o → (∀ vs, o ≠ .tup vs) ∧ (∀ z vs, o ≠ .frz z (.tup vs)) ∨ G' a = some o) : ∀ {d : List D} {v : List V}, RepL K G d v → noLL d = true → RepL K G' d v
  | _, _, .nil, _ => .nil
  | _, _, .cons h r, c => by
    rw [noLL, Bool.and_eq_true] at c
    exact .cons (noL_rep ag h c.1) (noLL_rep ag r c.2)
end
theorem CellR.notTup {ρ : List Addr} {G H : Hp} {a : Addr} {o : HO} (h : H a = some o) : ∀ {c : C}, CellR B ρ G H a c → (∀ vs, o ≠ .tup vs) ∧ ∀ z vs, o ≠ .frz z (.tup vs)
  | .l _, ⟨vs, h', _⟩ => by rw [h] at h'; cases h'; exact ⟨fun _ e => (nomatch e), fun _ _ e => (nomatch e)⟩
  | .w _, ⟨vs, h', _⟩ => by rw [h] at h'; cases h'; exact ⟨fun _ e => (nomatch e), fun _ _ e => (nomatch e)⟩
  | .m false _, ⟨vs, h', _⟩ => by rw [h] at h'; cases h'; exact ⟨fun _ e => (nomatch e), fun _ _ e => (nomatch e)⟩
  | .m true _, ⟨vs, h', _⟩ => by rw [h] at h'; cases h'; exact ⟨fun _ e => (nomatch e), fun _ _ e => (nomatch e)⟩
  | .mw false _, ⟨vs, h', _⟩ => by rw [h] at h'; cases h'; exact ⟨fun _ e => (nomatch e), fun _ _ e => (nomatch e)⟩
  | .mw true _, ⟨vs, h', _⟩ => by rw [h] at h'; cases h'; exact ⟨fun _ e => (nomatch e), fun _ _ e => (nomatch e)⟩
  | .o _ _, ⟨dx, vs, h', _⟩ => by rw [h] at h'; cases h'; exact ⟨fun _ e => (nomatch e), fun _ _ e => (nomatch e)⟩
theorem Rel.noTup {ρ : List Addr} {G H : Hp} {S : Sto} (R : Rel B ρ G S H) {a : Addr} (h : a ∈ ρ) : ∀ vs, H a ≠ some (.tup vs) := fun vs hv => by
  obtain ⟨n, hn⟩ := List.getElem?_of_mem h
  obtain ⟨c, _, r⟩ := R.at_ hn
  exact (CellR.notTup hv r).1 vs rfl
theorem CellR.notXd {ρ : List Addr} {G H : Hp} {a : Addr} {o : HO} (h : H a = some o) : ∀ {c : C}, CellR B ρ G H a c → ∀ fs, o ≠ .xd fs
  | .l _, ⟨vs, h', _⟩ => by rw [h] at h'; cases h'; exact fun _ e => (nomatch e)
  | .w _, ⟨vs, h', _⟩ => by rw [h] at h'; cases h'; exact fun _ e => (nomatch e)
  | .m false _, ⟨vs, h', _⟩ => by rw [h] at h'; cases h'; exact fun _ e => (nomatch e)
  | .m true _, ⟨vs, h', _⟩ => by rw [h] at h'; cases h'; exact fun _ e => (nomatch e)
  | .mw false _, ⟨vs, h', _⟩ => by rw [h] at h'; cases h'; exact fun _ e => (nomatch e)
  | .mw true _, ⟨vs, h', _⟩ => by rw [h] at h'; cases h'; exact fun _ e => (nomatch e)
  | .o _ _, ⟨dx, vs, h', _⟩ => by rw [h] at h'; cases h'; exact fun _ e => (nomatch e)
theorem Rel.noTX {ρ : List Addr} {G H : Hp} {S : Sto} (R : Rel B ρ G S H) {a : Addr} (h : a ∈ ρ) : NTX (H a) := ⟨R.noTup h, fun fs hv => by
  obtain ⟨n, hn⟩ := List.getElem?_of_mem h
  obtain ⟨c, _, r⟩ := R.at_ hn
  exact CellR.notXd hv r fs rfl⟩
theorem fr_all {ρ ρ0 : List Addr} {G H G' : Hp} {S : Sto} (R : Rel B ρ G S H) (fr : ∀ a, G a = none → H a ≠ none → (a ∈ ρ0 ∨ NTX (H a)) → G' a = none) : ∀ a, G a = none → H a ≠ none → (a ∈ ρ ∨ NTX (H a)) → G' a = none :=
  fun a h1 h2 h3 => fr a h1 h2 (.inr (h3.elim (fun hm => R.noTX hm) id))
/-- what a callee upon data leaves, seen by the caller -/
theorem after_call {ρ : List Addr} {G H G' H' : Hp} {ρ' : List Addr} {S : Sto} (R : Rel B ρ G S H) (R' : Rel B ρ' G' [] H') (le : Le [] G H ρ' G' H') : Rel B ρ G' S H' ∧ Le ρ G H ρ G' H' := by
  refine ⟨⟨R'.ex, R.len, R.nd, fun a ha => le.fr a (R.off a ha) (R.mem ha) (.inr (R.noTX ha)), fun n c hc => ?_⟩, ⟨⟨[], by simp, by simp⟩, le.ex, fr_all R le.fr, le.dom, fun a _ o h => le.keep a (by simp) o h⟩⟩
  obtain ⟨a, h1, h2⟩ := R.cell n c hc
  refine ⟨a, h1, h2.mono (fun _ _ h => h) le.ex ?_⟩
  cases e : H a with
  | none => exact absurd e h2.there
  | some o => exact le.keep a (by simp) o e
theorem rel_nil {G H : Hp} (h : Same G H) : Rel B [] G [] H := ⟨h, rfl, List.nodup_nil, fun _ h => (nomatch h), fun n c h => by simp at h⟩
theorem callD_post {f : Fn} {n : Nat} {ρ : List Addr} {G H : Hp} {S : Sto} {ds : List D} {vs : List V} {Q : VK} {E : XK} (R : Rel B ρ G S H) (r : RepL B.K G ds vs) (hn : vs.length = n) (h : Post B E ρ G H (callD f ds S) Q) : spM B n f vs H Q E := by
  refine ⟨hn, [], G, [], ws ds, rel_nil R.ex, r.ws, ?_⟩
  unfold callD at h
  cases e : f (ws ds) [] with
  | stuck => rw [e] at h; exact h
  | ex x t =>
    rw [e] at h
    intro ρ' G' H' c d le R' rx
    cases t with
    | nil =>
      obtain ⟨q1, q2⟩ := after_call R R' le
      exact h ρ G' H' c d q2 q1 rx
    | cons c0 t0 =>
      have R2 : Rel B ρ' G' [] H' → True := fun _ => trivial
      have q1 : Rel B ρ G' S H' ∧ Le ρ G H ρ G' H' := by
        refine ⟨⟨R'.ex, R.len, R.nd, fun a ha => le.fr a (R.off a ha) (R.mem ha) (.inr (R.noTX ha)), fun n c hc => ?_⟩, ⟨⟨[], by simp, by simp⟩, le.ex, fr_all R le.fr, le.dom, fun a _ o h => le.keep a (by simp) o h⟩⟩
        obtain ⟨a, h1, h2⟩ := R.cell n c hc
        refine ⟨a, h1, h2.mono (fun _ _ h => h) le.ex ?_⟩
        cases e : H a with
        | none => exact absurd e h2.there
        | some o => exact le.keep a (by simp) o e
      exact h ρ G' H' c d q1.2 q1.1 rx
  | ok p =>
    rw [e] at h
    obtain ⟨w, t⟩ := p
    cases w with
    | d x =>
      cases t with
      | nil =>
        intro ρ' G' H' v le R' rx
        obtain ⟨q1, q2⟩ := after_call R R' le
        refine h ρ G' H' v q2 q1 ?_
        cases rx with
        | d rx => exact .d rx
      | cons _ _ => exact False.elim h
    | loc k => exact False.elim h
    | tw l => exact False.elim h
open Classical in
noncomputable def borG (ρ : List Addr) (G H : Hp) : Hp := fun a => if a ∈ ρ then H a else G a
open Classical in
noncomputable def offG (ρ : List Addr) (G : Hp) : Hp := fun a => if a ∈ ρ then none else G a
theorem callP_post {f : Fn} {n : Nat} {ρ : List Addr} {G H : Hp} {S : Sto} {l : List W} {vs : List V} {Q : VK} {E : XK} (R : Rel B ρ G S H) (r : RepWs B.K ρ G l vs) (hn : vs.length = n) (h : Post B E ρ G H (callP f l S) Q) : spM B n f vs H Q E := by
  unfold callP at h
  cases e : asDs l with
  | some ds =>
    rw [e] at h
    exact callD_post R (r.asDs e) hn h
  | none =>
    rw [e] at h
    simp only at h
    cases e2 : toDs FU (fun _ => true) S l with
    | none => rw [e2] at h; exact False.elim h
    | some ds =>
      rw [e2] at h
      simp only at h
      -- the places are lent as data
      have sg : Same G (borG ρ G H) := fun a o ea => by
        unfold borG
        by_cases hm : a ∈ ρ
        · rw [if_pos hm]; exact R.ex a o ea
        · rw [if_neg hm]; exact ea
      have sh : Same (borG ρ G H) H := fun a o ea => by
        unfold borG at ea
        by_cases hm : a ∈ ρ
        · rw [if_pos hm] at ea; exact ea
        · rw [if_neg hm] at ea; exact R.ex a o ea
      have rd : RepL B.K (borG ρ G H) ds vs := toDs_rep R sg (fun k a _ ha => by unfold borG; rw [if_pos (List.mem_of_getElem? ha)]) _ _ _ _ e2 r
      refine ⟨hn, [], borG ρ G H, [], ws ds, rel_nil sh, rd.ws, ?_⟩
      -- behind it
      have back : ∀ {ρ' : List Addr} {G' H' : Hp} {t : Sto}, Le [] (borG ρ G H) H ρ' G' H' → Rel B ρ' G' t H' → Rel B ρ (offG ρ G') S H' ∧ Le ρ G H ρ (offG ρ G') H' := fun {ρ' G' H' t} le R' => by
        have le1 : Same G (offG ρ G') := fun a o ea => by
          unfold offG
          have hm : a ∉ ρ := fun hm => by rw [R.off a hm] at ea; cases ea
          rw [if_neg hm]
          exact le.ex a o (sg a o ea)
        refine ⟨⟨fun a o ea => ?_, R.len, R.nd, fun a ha => by unfold offG; rw [if_pos ha], fun n c hc => ?_⟩, ⟨⟨[], by simp, by simp⟩, le1, fun a h1 h2 h3 => ?_, le.dom, fun a _ o h => le.keep a (by simp) o h⟩⟩
        · unfold offG at ea
          by_cases hm : a ∈ ρ
          · rw [if_pos hm] at ea; cases ea
          · rw [if_neg hm] at ea; exact R'.ex a o ea
        · obtain ⟨a, h1, h2⟩ := R.cell n c hc
          refine ⟨a, h1, h2.mono (fun _ _ h => h) le1 ?_⟩
          cases ea : H a with
          | none => exact absurd ea h2.there
          | some o => exact le.keep a (by simp) o ea
        · unfold offG
          by_cases hm : a ∈ ρ
          · rw [if_pos hm]
          · rw [if_neg hm]
            exact le.fr a (by unfold borG; rw [if_neg hm]; exact h1) h2 (.inr (h3.resolve_left hm))
      unfold callD at h
      cases e3 : f (ws ds) [] with
      | stuck => rw [e3] at h; exact h
      | ex x t => rw [e3] at h; exact False.elim h
      | ok p =>
        rw [e3] at h
        obtain ⟨w, t⟩ := p
        cases w with
        | d x =>
          cases t with
          | nil =>
            simp only at h
            cases hx : noL x with
            | false => rw [hx] at h; exact False.elim h
            | true =>
              rw [hx, if_pos rfl] at h
              intro ρ' G' H' v le R' rx
              obtain ⟨q1, q2⟩ := back le R'
              refine h ρ (offG ρ G') H' v q2 q1 (.d ?_)
              cases rx with
              | d rx =>
                refine noL_rep (fun a o ea => ?_) rx hx
                by_cases hm : a ∈ ρ
                · left
                  obtain ⟨k, hk⟩ := List.getElem?_of_mem hm
                  obtain ⟨c, hc, hr⟩ := R.at_ hk
                  cases eh : H a with
                  | none => exact absurd eh hr.there
                  | some o' =>
                    have : G' a = some o' := le.ex a o' (by unfold borG; rw [if_pos hm]; exact eh)
                    rw [ea] at this
                    cases this
                    exact hr.notTup eh
                · right
                  unfold offG
                  rw [if_neg hm]; exact ea
          | cons _ _ => exact False.elim h
        | loc k => exact False.elim h
        | tw l => exact False.elim h
end
end B
namespace B
open PySem L2
/-! ### one rule or another -/
theorem opR_or {X : Cx} {f : Value → Value → Sem Value} {r r' : R2} (h : OpR X f r) (h' : OpR X f r') : OpR X f (fun x y H Q => r x y H Q ∨ r' x y H Q) := by
  intro pins s σ H x y v u Q I rx ry q
  rcases q with q | q
  · exact h pins s σ H x y v u Q I rx ry q
  · exact h' pins s σ H x y v u Q I rx ry q
theorem callR_or {X : Cx} {f : Value} {r r' : List V → Hp → VK → Prop} (h : CallR X f r) (h' : CallR X f r') : CallR X f (fun x H Q => r x H Q ∨ r' x H Q) := by
  intro pins s σ H xs us Q I r1 q
  rcases q with q | q
  · exact h pins s σ H xs us Q I r1 q
  · exact h' pins s σ H xs us Q I r1 q
section
variable {B : Bx} {Wi : WX}
theorem sizeL_le {n : Nat} (h : n ≤ sizeL) : n ≤ sizeLine := by rw [sizeLine_eq]; exact h
theorem sizeL_lt {n : Nat} (h : n < sizeL) : n < sizeLine := by rw [sizeLine_eq]; exact h
theorem postN {Wi : XK} {ρ : List Addr} {G H : Hp} {b : Bool} {r : VS} {Q : VK} (h : Post B Wi ρ G H (need b r) Q) : b = true ∧ Post B Wi ρ G H r Q := by
  cases b with
  | true => exact ⟨rfl, h⟩
  | false => exact False.elim h
theorem post_d {Wi : XK} {ρ : List Addr} {G H : Hp} {S : Sto} {x : D} {v : V} {Q : VK} (R : Rel B ρ G S H) (r : Rep B.K G x v) (h : Post B Wi ρ G H (.ok (.d x, S)) Q) : Q v H := h _ _ _ _ (Le.refl _ _ _) R (.d r)
theorem simR_d2 {r : R2} {g : D → D → R D} (hx : ∀ a b x s, g a b ≠ .ex x s) (h : ∀ H a b c v u Q, Rep B.K H a v → Rep B.K H b u → g a b = .ok c → (∀ z, (∀ G, Rep B.K G c z) → Q z H) → r v u H Q) : SimR B r (d2 g) := by
  intro Wi ρ G S H x y v u Q R rx ry q
  have q' : Post B Wi ρ G H ((dat S x).bind fun a => (dat S y).bind fun b => (g a b).bind fun r => .ok (.d r, S)) Q := q
  rcases dat_cases S x with ⟨a, e1⟩ | e1
  · rcases dat_cases S y with ⟨b, e2⟩ | e2
    · rw [e1, _root_.B.R.bind_ok, e2, _root_.B.R.bind_ok] at q'
      cases e3 : g a b with
      | stuck => rw [e3] at q'; exact False.elim q'
      | ex z s => exact absurd e3 (hx _ _ _ _)
      | ok c =>
        rw [e3] at q'
        exact h H a b c v u Q (dat_rep R e1 rx) (dat_rep R e2 ry) e3 fun z hz => post_d R (hz G) q'
    · rw [e1, _root_.B.R.bind_ok, e2] at q'; exact False.elim q'
  · rw [e1] at q'; exact False.elim q'
theorem simU_d1 {r : V → Hp → VK → Prop} {g : D → R D} (hx : ∀ a x s, g a ≠ .ex x s) (h : ∀ H a c v Q, Rep B.K H a v → g a = .ok c → (∀ z, (∀ G, Rep B.K G c z) → Q z H) → r v H Q) : SimU B r (d1 g) := by
  intro Wi ρ G S H x v Q R rx q
  have q' : Post B Wi ρ G H ((dat S x).bind fun a => (g a).bind fun r => .ok (.d r, S)) Q := q
  rcases dat_cases S x with ⟨a, e1⟩ | e1
  · rw [e1, _root_.B.R.bind_ok] at q'
    cases e3 : g a with
    | stuck => rw [e3] at q'; exact False.elim q'
    | ex z s => exact absurd e3 (hx _ _ _)
    | ok c =>
      rw [e3] at q'
      exact h H a c v Q (dat_rep R e1 rx) e3 fun z hz => post_d R (hz G) q'
  · rw [e1] at q'; exact False.elim q'
theorem need_ex {α : Type} {b : Bool} {a : α} {x : Exc} {s : Sto} : need b (R.ok a) ≠ .ex x s := by
  cases b <;> intro h <;> cases h
theorem need_ok {α : Type} {b : Bool} {a c : α} (h : need b (R.ok a) = .ok c) : b = true ∧ a = c := by
  cases b with
  | true => exact ⟨rfl, by cases h; rfl⟩
  | false => cases h
theorem I2_ex {f : Int → Int → R D} (hx : ∀ a b x s, f a b ≠ .ex x s) : ∀ a b x s, I2 f a b ≠ .ex x s := by
  intro a b x s
  unfold I2
  split
  · exact hx _ _ _ _
  · intro h; cases h
theorem I2_ok {f : Int → Int → R D} {a b c : D} (h : I2 f a b = .ok c) : ∃ i j, a = .int i ∧ b = .int j ∧ f i j = .ok c := by
  unfold I2 at h
  split at h
  · exact ⟨_, _, rfl, rfl, h⟩
  · cases h
/-- an operator upon two ints -/
theorem simR_I {C : Int → Int → Prop} {k : Int → Int → V} {f : Int → Int → R D} (hx : ∀ a b x s, f a b ≠ .ex x s) (h : ∀ i j c, f i j = .ok c → C i j ∧ ∀ K G, Rep K G c (k i j)) : SimR B (rI C k) (d2 (I2 f)) := by
  refine simR_d2 (I2_ex hx) fun H a b c v u Q ra rb e q => ?_
  obtain ⟨i, j, rfl, rfl, e2⟩ := I2_ok e
  obtain ⟨hc, hr⟩ := h i j c e2
  cases ra; cases rb
  exact ⟨i, j, rfl, rfl, hc, q _ fun G => hr _ G⟩
theorem simR_I0 {k : Int → Int → V} {f : Int → Int → R D} (hx : ∀ a b x s, f a b ≠ .ex x s) (h : ∀ i j c, f i j = .ok c → ∀ K G, Rep K G c (k i j)) : SimR B (rI0 k) (d2 (I2 f)) := by
  refine simR_d2 (I2_ex hx) fun H a b c v u Q ra rb e q => ?_
  obtain ⟨i, j, rfl, rfl, e2⟩ := I2_ok e
  have hr := h i j c e2
  cases ra; cases rb
  exact ⟨i, j, rfl, rfl, q _ fun G => hr _ G⟩
theorem so_sub : SimR B (rI0 fun i j => .int (i - j)) (d2 oSub) := simR_I0 (fun _ _ _ _ h => by cases h) fun i j c h K G => by cases h; exact .int _
theorem so_lt : SimR B (rI0 fun i j => .bl (decide (i < j))) (d2 cLt) := simR_I0 (fun _ _ _ _ h => by cases h) fun i j c h K G => by cases h; exact .bl _
theorem so_le : SimR B (rI0 fun i j => .bl (decide (i ≤ j))) (d2 cLe) := simR_I0 (fun _ _ _ _ h => by cases h) fun i j c h K G => by cases h; exact .bl _
theorem so_gt : SimR B (rI0 fun i j => .bl (decide (j < i))) (d2 cGt) := simR_I0 (fun _ _ _ _ h => by cases h) fun i j c h K G => by cases h; exact .bl _
theorem so_ge : SimR B (rI0 fun i j => .bl (decide (j ≤ i))) (d2 cGe) := simR_I0 (fun _ _ _ _ h => by cases h) fun i j c h K G => by cases h; exact .bl _
theorem so_mod : SimR B (rI (fun _ j => 0 < j) fun i j => .int (i % j)) (d2 oMod) := simR_I (fun _ _ _ _ => need_ex) fun i j c h => by
  obtain ⟨h1, rfl⟩ := need_ok h
  exact ⟨of_decide_eq_true h1, fun K G => .int _⟩
theorem divOk_of {j : Int} (h : divOk j = true) : 0 < j ∧ j.natAbs.log2 < 9000 := by
  rw [divOk, Bool.and_eq_true] at h
  exact ⟨of_decide_eq_true h.1, of_decide_eq_true h.2⟩
theorem so_div : SimR B (rI CDivW fun i j => .int (i / j)) (d2 oDiv) := simR_I (fun _ _ _ _ => need_ex) fun i j c h => by
  obtain ⟨h1, rfl⟩ := need_ok h
  exact ⟨divOk_of h1, fun K G => .int _⟩
theorem so_pow : SimR B (rI CPow fun i j => .int (i ^ j.toNat)) (d2 oPow) := simR_I (fun _ _ _ _ => need_ex) fun i j c h => by
  obtain ⟨h1, rfl⟩ := need_ok h
  rw [Bool.and_eq_true, Bool.and_eq_true] at h1
  exact ⟨⟨of_decide_eq_true h1.1.1, of_decide_eq_true h1.1.2, of_decide_eq_true h1.2⟩, fun K G => .int _⟩
theorem so_neg : SimU B (rU fun i => .int (-i)) (d1 oNeg) := by
  refine simU_d1 (fun a x s h => ?_) fun H a c v Q ra e q => ?_
  · unfold oNeg at h; split at h <;> cases h
  · unfold oNeg at e
    split at e
    · cases e; cases ra
      exact ⟨_, rfl, q _ fun G => .int _⟩
    · cases e
/-! + -/
def rPlus : R2 := fun x y H Q => (rI0 (fun i j => .int (i + j)) x y H Q ∨ (∃ i j, x = .str i ∧ y = .str j ∧ i.length + j.length ≤ sizeLine ∧ Q (.str (i ++ j)) H)) ∨ rCat x y H Q
def rPlusT (K : PySem.W.Frag) : R2 := fun x y H Q => rPlus x y H Q ∨ rCatT K x y H Q
theorem op_plus {X : Cx} : OpR X (binaryOp .Add) (rPlusT X.K) := opR_or (opR_or (opR_or op_add op_add_str) op_cat) op_catT
theorem sof_app (a b : List Nat) : sof a ++ sof b = sof (a ++ b) := by
  show (⟨(sof a).cps ++ (sof b).cps⟩ : Str) = _
  simp [sof]
theorem lstOf_cases (S : Sto) (w : W) : (∃ x, lstOf S w = .ok x) ∨ lstOf S w = .stuck := by
  unfold lstOf
  split <;> first | exact .inl ⟨_, rfl⟩ | exact .inr rfl | (split <;> first | exact .inl ⟨_, rfl⟩ | exact .inr rfl)
theorem lstOf_rep {ρ : List Addr} {G : Hp} {S : Sto} {H : Hp} {w : W} {v : V} {l : List W} (R : Rel B ρ G S H) (e : lstOf S w = .ok l) (r : RepW B.K ρ G w v) : ∃ a vs, v = .ref a ∧ H a = some (.lst vs) ∧ RepWs B.K ρ G l vs := by
  unfold lstOf at e
  split at e
  · cases e
    cases r with
    | d r =>
      cases r with
      | lst q r => exact ⟨_, _, rfl, R.ex _ _ q, r.ws⟩
  · cases r with
    | loc ha =>
      obtain ⟨c, hc, hr⟩ := R.at_ ha
      rw [hc] at e
      cases c with
      | l xs =>
        obtain ⟨vs, h1, h2⟩ := hr
        cases e
        exact ⟨_, vs, rfl, h1, h2.ws⟩
      | w xs =>
        obtain ⟨vs, h1, h2⟩ := hr
        cases e
        exact ⟨_, vs, rfl, h1, h2⟩
      | _ => cases e
  · cases e
theorem so_cat {Wi : XK} {ρ : List Addr} {G : Hp} {S : Sto} {H : Hp} {x y : W} {v u : V} {Q : VK} (R : Rel B ρ G S H) (rx : RepW B.K ρ G x v) (ry : RepW B.K ρ G y u) (h : Post B Wi ρ G H (oCat x y S) Q) : rCat v u H Q ∨ rCatT B.K v u H Q := by
  unfold oCat at h
  split at h
  · obtain ⟨h1, h2⟩ := postN h
    rw [Bool.and_eq_true] at h1
    have c1 := of_decide_eq_true h1.1
    have c2 := of_decide_eq_true h1.2
    cases rx with
    | d rx =>
      cases ry with
      | d ry =>
        cases rx with
        | tup q1 r1 =>
          cases ry with
          | tup q2 r2 =>
            rename_i a vs b us
            have l1 := r1.length
            have l2 := r2.length
            refine .inr ⟨a, b, vs, us, rfl, rfl, .inl (.inl (R.ex _ _ q1)), .inl (.inl (R.ex _ _ q2)), fun e => by rw [e] at l1; simp at l1; rw [l1] at c2; simp at c2, sizeL_le (by rw [← l1, ← l2]; exact c1), ?_⟩
            refine ⟨fun e => ?_, fun _ p hp => ?_⟩
            · subst e
              have e2 := List.eq_nil_of_length_eq_zero l2
              rw [e2, List.append_nil] at h2
              exact post_d R (.tup q1 r1) h2
            · obtain ⟨R2, le2⟩ := R.froz (.tup (vs ++ us)) hp
              exact h2 _ _ _ _ le2 R2 (.d (.tup upd_same ((r1.append r2).mono le2.ex)))
  · left
    rcases lstOf_cases S x with ⟨l, e1⟩ | e1
    · rcases lstOf_cases S y with ⟨m, e2⟩ | e2
      · rw [e1, _root_.B.R.bind_ok, e2, _root_.B.R.bind_ok] at h
        cases e3 : asDs (l ++ m) with
        | none => rw [e3] at h; exact False.elim h
        | some r =>
          rw [e3, ofO_some, _root_.B.R.bind_ok] at h
          obtain ⟨h1, h2⟩ := postN h
          obtain ⟨a, vs, rfl, ha, r1⟩ := lstOf_rep R e1 rx
          obtain ⟨b, us, rfl, hb, r2⟩ := lstOf_rep R e2 ry
          have rr := (r1.append r2).asDs e3
          have hl : vs.length + us.length ≤ sizeLine := by
            have := rr.length
            rw [List.length_append] at this
            rw [← this]
            exact sizeL_le (of_decide_eq_true h1)
          refine ⟨a, b, vs, us, rfl, rfl, ha, hb, hl, fun p hp => ?_⟩
          obtain ⟨R2, l2⟩ := R.froz (.lst (vs ++ us)) hp
          exact h2 _ _ _ _ l2 R2 (.d (.lst upd_same (rr.mono l2.ex)))
      · rw [e1, _root_.B.R.bind_ok, e2] at h; exact False.elim h
    · rw [e1] at h; exact False.elim h
theorem so_add : SimR B (rPlusT B.K) oAdd := by
  intro Wi ρ G S H x y v u Q R rx ry q
  unfold oAdd at q
  split at q
  · refine .inl (.inl (.inl ⟨_, _, rep_int rx, rep_int ry, post_d R (.int _) q⟩))
  · rename_i a b
    obtain ⟨h1, h2⟩ := postN q
    refine .inl (.inl (.inr ⟨_, _, rep_str rx, rep_str ry, ?_, ?_⟩))
    · rw [sof_len, sof_len]; exact sizeL_le (of_decide_eq_true h1)
    · rw [sof_app]; exact post_d R (.str _) h2
  · rcases so_cat R rx ry q with h | h
    · exact .inl (.inr h)
    · exact .inr h
/-! * -/
def CMulA (i j : Int) : Prop := CMul i j ∨ CMulW i j
theorem op_mulA {X : Cx} : OpR X (binaryOp .Mult) (rI CMulA fun i j => .int (i * j)) := opI fun _ _ _ _ _ _ _ hc q => PyProof.Rows.mul_int q (by
  rcases hc with hc | hc
  · exact hc.ok
  · exact hc.ok)
theorem mulOk_of {i j : Int} (h : mulOk i j = true) : CMulA i j := by
  rw [mulOk, Bool.or_eq_true, Bool.or_eq_true] at h
  rcases h with (h | h) | h
  · rw [small, Bool.and_eq_true] at h
    exact .inl (.inl ⟨of_decide_eq_true h.1, of_decide_eq_true h.2⟩)
  · rw [small, Bool.and_eq_true] at h
    exact .inl (.inr ⟨of_decide_eq_true h.1, of_decide_eq_true h.2⟩)
  · exact .inr (show i.natAbs.log2 + j.natAbs.log2 < 1000000 from of_decide_eq_true h)
/-- a text, so many times -/
theorem fold_rep (z : Array Nat) : ∀ (n : Nat) (acc : Array Nat), (List.foldl (· ++ ·) acc (List.replicate n z)).toList = acc.toList ++ (List.replicate n z.toList).flatten
  | 0, acc => by simp
  | n + 1, acc => by
    rw [List.replicate_succ, List.foldl_cons, fold_rep z n, List.replicate_succ, List.flatten_cons, Array.toList_append, List.append_assoc]
theorem op_mulS {X : Cx} : OpR X (binaryOp .Mult) (fun x y H Q => ∃ (z : List Nat) (j : Int), x = .str (sof z) ∧ y = .int j ∧ 0 ≤ j ∧ j ≤ 1000 ∧ z.length ≤ 1000 ∧ Q (.str (sof (List.replicate j.toNat z).flatten)) H) := by
  intro pins s σ H x y v u Q I rx ry h
  obtain ⟨z, j, rfl, rfl, h0, h1, hz, q⟩ := h
  obtain ⟨t, rfl⟩ := rx
  obtain ⟨t', rfl⟩ := ry
  have fin : ∀ (y : Str) (t : Tok) (k : Nat), y = sof (List.replicate j.toNat z).flatten → EP X pins σ Q (.str y t) { s with toks := k } := fun y t k e => ⟨.str y, H, I.tok k, ⟨_, rfl⟩, by rw [e]; exact q⟩
  have hl : (sof z).length = z.length := sof_len z
  have hm : (sof z).length * j.toNat ≤ 1000 * 1000 := Nat.mul_le_mul (by omega) (by omega)
  refine PySem.P.mul_str (by rw [decide_eq_false (by omega), decide_eq_false (by omega)]; rfl) (fun c1 c2 c3 => ?_) (fun c1 c2 => ?_) ?_
  · have h2 : ((2 : Int) ^ 63 - 1) / j ≥ 1000 := by
      have hj : 0 < j := by omega
      exact (Int.le_ediv_iff_mul_le hj).mpr (by
        have : 1000 * j ≤ 1000 * 1000 := by omega
        omega)
    omega
  · unfold Builtin.Str.tooLong
    rw [sizeLine_eq]
    exact decide_eq_false (by omega)
  · by_cases c : j < 1
    · have : j = 0 := by omega
      subst this
      rw [if_pos (by decide)]
      exact ⟨by decide, fin _ _ _ rfl⟩
    · rw [if_neg c]
      by_cases c2 : (j == 1 || (sof z).length == 0) = true
      · rw [if_pos c2]
        refine fin _ _ s.toks ?_
        rw [Bool.or_eq_true] at c2
        rcases c2 with c2 | c2
        · have : j = 1 := by simpa using c2
          subst this
          simp
        · have : z.length = 0 := by rw [← hl]; simpa using c2
          have : z = [] := List.eq_nil_of_length_eq_zero this
          subst this
          simp
      · rw [if_neg c2]
        have e : (⟨(List.replicate j.toNat (sof z).cps).foldl (· ++ ·) #[]⟩ : Str) = sof (List.replicate j.toNat z).flatten := by
          have := fold_rep z.toArray j.toNat #[]
          unfold sof
          congr 1
          apply Array.toList_inj.mp
          rw [this]
          simp
        rw [e]
        refine ⟨?_, fin _ _ _ rfl⟩
        first
          | (rw [sof_len]; simp; rw [sizeLine_eq]; rw [hl] at hm; rw [Nat.mul_comm]; omega)
          | (simp [sof_len]; omega)
def rMulA : R2 := fun x y H Q => rI CMulA (fun i j => .int (i * j)) x y H Q ∨ ∃ (z : List Nat) (j : Int), x = .str (sof z) ∧ y = .int j ∧ 0 ≤ j ∧ j ≤ 1000 ∧ z.length ≤ 1000 ∧ Q (.str (sof (List.replicate j.toNat z).flatten)) H
theorem op_mulAll {X : Cx} : OpR X (binaryOp .Mult) rMulA := opR_or op_mulA op_mulS
theorem so_mul : SimR B rMulA (d2 oMul) := by
  refine simR_d2 (fun a b x s h => ?_) fun H a b c v u Q ra rb e q => ?_
  · unfold oMul at h
    split at h
    · exact need_ex h
    · exact need_ex h
    · cases h
  · unfold oMul at e
    split at e
    · obtain ⟨h1, rfl⟩ := need_ok e
      cases ra; cases rb
      exact .inl ⟨_, _, rfl, rfl, mulOk_of h1, q _ fun G => .int _⟩
    · obtain ⟨h1, rfl⟩ := need_ok e
      rw [Bool.and_eq_true, Bool.and_eq_true] at h1
      cases ra; cases rb
      exact .inr ⟨_, _, rfl, rfl, of_decide_eq_true h1.1.1, of_decide_eq_true h1.1.2, of_decide_eq_true h1.2, q _ fun G => .str _⟩
    · cases e
end
end B
namespace B
open PySem L2
/-! ### == -/
mutual
def toP : D → PyData
  | .non => .none
  | .bl b => .bool b
  | .int i => .int i
  | .str s => .str (sof s)
  | .tup l => .tuple (toPs l)
  | .lst l => .list (toPs l)
  | .dct _ _ => .none
  | .inp l => .list (toPs l)
  | .inq l => .list (toPs l)
def toPs : List D → List PyData
  | [] => []
  | x :: r => toP x :: toPs r
end
section
variable {K : PySem.W.Frag} {H : Hp}
mutual
theorem dp_of : ∀ {n : Nat} {d : D} {v : V}, okD n d = true → Rep K H d v → Dp K H v (toP d)
  | _, _, _, _, .non => by rw [toP]; exact .non
  | _, _, _, _, .bl b => by rw [toP]; exact .bl b
  | _, _, _, _, .int i => by rw [toP]; exact .int i
  | _, _, _, _, .str s => by rw [toP]; exact .str _
  | 0, _, _, c, .tup _ _ => by simp [okD] at c
  | n + 1, _, _, c, .tup q r => by rw [toP]; exact .tup (.inl (.inl q)) (dps_of (n := n) (by simpa [okD] using c) r)
  | 0, _, _, c, .lst _ _ => by simp [okD] at c
  | n + 1, _, _, c, .lst q r => by rw [toP]; exact .lst (.inl (.inl q)) (dps_of (n := n) (by simpa [okD] using c) r)
  | 0, _, _, c, .inp _ _ => by simp [okD] at c
  | 0, _, _, c, .inq _ _ => by simp [okD] at c
  | n + 1, _, _, c, .inp _ _ => by simp [okD] at c
  | n + 1, _, _, c, .inq _ _ => by simp [okD] at c
  | 0, _, _, c, .dk _ _ _ => by simp [okD] at c
  | n + 1, _, _, c, .dk _ _ _ => by simp [okD] at c
  | 0, _, _, c, .dt _ _ _ => by simp [okD] at c
  | n + 1, _, _, c, .dt _ _ _ => by simp [okD] at c
theorem dps_of : ∀ {n : Nat} {l : List D} {vs : List V}, okL n l = true → RepL K H l vs → DpAll K H vs (toPs l)
  | _, _, _, _, .nil => by rw [toPs]; exact .nil
  | n, d :: l, _, c, .cons h r => by
    have c' : okD n d = true ∧ okL n l = true := by cases n <;> (rw [okL, Bool.and_eq_true] at c; exact c)
    rw [toPs]
    exact .cons (dp_of c'.1 h) (dps_of c'.2 r)
end
end
theorem strOk_sof (s : List Nat) : PyData.strOk (sof s) = s.all (· < 0x110000) := by
  simp [PyData.strOk, sof]
mutual
theorem lay_of : ∀ {n : Nat} {d : D}, okD n d = true → (toP d).canLay0 = true ∧ (toP d).depth ≤ n
  | n, .non, _ => by rw [toP]; exact ⟨by simp [PyData.canLay0], by simp [PyData.depth]⟩
  | n, .bl b, _ => by rw [toP]; exact ⟨by simp [PyData.canLay0], by simp [PyData.depth]⟩
  | n, .int b, _ => by rw [toP]; exact ⟨by simp [PyData.canLay0], by simp [PyData.depth]⟩
  | n, .str s, c => by
    rw [toP]
    have c' : s.all (· < 0x110000) = true := by cases n <;> (rw [okD] at c; exact c)
    exact ⟨by rw [PyData.canLay0, strOk_sof]; exact c', by simp [PyData.depth]⟩
  | 0, .tup l, c => by simp [okD] at c
  | n + 1, .tup l, c => by
    rw [toP]
    obtain ⟨h1, h2⟩ := lays_of (n := n) (l := l) (by simpa [okD] using c)
    exact ⟨by rw [PyData.canLay0]; exact h1, by rw [PyData.depth]; omega⟩
  | 0, .lst l, c => by simp [okD] at c
  | n + 1, .lst l, c => by
    rw [toP]
    obtain ⟨h1, h2⟩ := lays_of (n := n) (l := l) (by simpa [okD] using c)
    exact ⟨by rw [PyData.canLay0]; exact h1, by rw [PyData.depth]; omega⟩
  | 0, .inp l, c => by simp [okD] at c
  | 0, .inq l, c => by simp [okD] at c
  | n + 1, .inp l, c => by simp [okD] at c
  | n + 1, .inq l, c => by simp [okD] at c
  | 0, .dct _ l, c => by simp [okD] at c
  | n + 1, .dct _ l, c => by simp [okD] at c
theorem lays_of : ∀ {n : Nat} {l : List D}, okL n l = true → PyData.canLayAll0 (toPs l) = true ∧ PyData.depthAll (toPs l) ≤ n
  | n, [], _ => by rw [toPs]; exact ⟨by simp [PyData.canLayAll0], by simp [PyData.depthAll]⟩
  | n, x :: r, c => by
    have c' : okD n x = true ∧ okL n r = true := by cases n <;> (rw [okL, Bool.and_eq_true] at c; exact c)
    obtain ⟨h1, h2⟩ := lay_of c'.1
    obtain ⟨h3, h4⟩ := lays_of c'.2
    rw [toPs]
    exact ⟨by rw [PyData.canLayAll0, h1, h3]; rfl, by rw [PyData.depthAll]; omega⟩
end
theorem shaped_of {n : Nat} {d : D} (c : okD n d = true) (hn : n ≤ 64) : SeqAt.shaped (toP d) = true := by
  obtain ⟨h1, h2⟩ := lay_of c
  unfold SeqAt.shaped
  rw [h1, Bool.true_and]
  exact decide_eq_true (Nat.le_trans h2 hn)
theorem sof_beq (x y : List Nat) : (sof x == sof y) = (x == y) := by
  rw [Bool.eq_iff_iff]
  simp only [beq_iff_eq]
  exact ⟨sof_inj, fun h => by rw [h]⟩
mutual
theorem eqv_of : ∀ {n m : Nat} {a b : D}, okD n a = true → okD m b = true → PyData.eqv (toP a) (toP b) = eqv a b
  | n, m, .non, b, _, c => by
    cases b <;> first
      | (simp only [toP, PyData.eqv, eqv]; done)
      | (exfalso; cases m <;> simp [okD] at c)
  | n, m, .bl x, b, _, c => by
    cases b <;> first
      | (simp only [toP, PyData.eqv, eqv]; done)
      | (exfalso; cases m <;> simp [okD] at c)
  | n, m, .int x, b, _, c => by
    cases b <;> first
      | (simp only [toP, PyData.eqv, eqv]; done)
      | (exfalso; cases m <;> simp [okD] at c)
  | n, m, .str x, b, _, c => by
    cases b <;> first
      | (simp only [toP, PyData.eqv, eqv, sof_beq]; done)
      | (exfalso; cases m <;> simp [okD] at c)
  | 0, m, .tup x, b, d, c => by simp [okD] at d
  | n + 1, m, .tup x, b, d, c => by
    cases b <;> first
      | (simp only [toP, PyData.eqv, eqv]; done)
      | (exfalso; cases m <;> simp [okD] at c; done)
      | skip
    cases m with
    | zero => simp [okD] at c
    | succ m =>
      simp only [toP, PyData.eqv, eqv]
      exact eqvs_of (n := n) (m := m) (by simpa [okD] using d) (by simpa [okD] using c)
  | 0, m, .lst x, b, d, c => by simp [okD] at d
  | n + 1, m, .lst x, b, d, c => by
    cases b <;> first
      | (simp only [toP, PyData.eqv, eqv]; done)
      | (exfalso; cases m <;> simp [okD] at c; done)
      | skip
    cases m with
    | zero => simp [okD] at c
    | succ m =>
      simp only [toP, PyData.eqv, eqv]
      exact eqvs_of (n := n) (m := m) (by simpa [okD] using d) (by simpa [okD] using c)
  | 0, m, .inp x, b, d, c => by simp [okD] at d
  | 0, m, .inq x, b, d, c => by simp [okD] at d
  | n + 1, m, .inp x, b, d, c => by simp [okD] at d
  | n + 1, m, .inq x, b, d, c => by simp [okD] at d
  | 0, m, .dct _ x, b, d, c => by simp [okD] at d
  | n + 1, m, .dct _ x, b, d, c => by simp [okD] at d
theorem eqvs_of : ∀ {n m : Nat} {a b : List D}, okL n a = true → okL m b = true → PyData.eqvAll (toPs a) (toPs b) = eqvL a b
  | n, m, [], [], _, _ => by simp only [toPs, PyData.eqvAll, eqvL]
  | n, m, [], _ :: _, _, _ => by simp only [toPs, PyData.eqvAll, eqvL]
  | n, m, _ :: _, [], _, _ => by simp only [toPs, PyData.eqvAll, eqvL]
  | n, m, x :: r, y :: q, d, c => by
    have d' : okD n x = true ∧ okL n r = true := by cases n <;> (rw [okL, Bool.and_eq_true] at d; exact d)
    have c' : okD m y = true ∧ okL m q = true := by cases m <;> (rw [okL, Bool.and_eq_true] at c; exact c)
    simp only [toPs, PyData.eqvAll, eqvL]
    rw [eqv_of d'.1 c'.1, eqvs_of d'.2 c'.2]
end
section
variable {B : Bx} {Wi : WX}
def rEqA (K : PySem.W.Frag) : R2 := fun x y H Q => rEq x y H Q ∨ rEqD K x y H Q
def rNeA (K : PySem.W.Frag) : R2 := fun x y H Q => rNe x y H Q ∨ rNeD K x y H Q
theorem op_eqA {X : Cx} (hu : X.A.units + 64 < cLine) : OpR X (compareOp .Eq) (rEqA X.K) := opR_or op_eq (op_eqD hu)
theorem op_neA {X : Cx} (hu : X.A.units + 64 < cLine) : OpR X (compareOp .NotEq) (rNeA X.K) := opR_or op_ne (op_neD hu)
theorem scal_of {K : PySem.W.Frag} {H : Hp} {a b : D} {v u : V} (c : scalD a b = true) (ra : Rep K H a v) (rb : Rep K H b u) : L2.scal v u = true ∧ decide (v = u) = eqv a b := by
  cases ra <;> cases rb <;> simp only [scalD, Bool.false_eq_true] at c <;> refine ⟨rfl, ?_⟩ <;> simp [eqv, sof, Bool.beq_eq_decide_eq]
theorem so_eq : SimR B (rEqA B.K) (d2 cEq) := by
  refine simR_d2 (fun _ _ _ _ => need_ex) fun H a b c v u Q ra rb e q => ?_
  obtain ⟨h1, rfl⟩ := need_ok e
  rw [Bool.or_eq_true] at h1
  rcases h1 with h1 | h1
  · obtain ⟨s1, s2⟩ := scal_of h1 ra rb
    exact .inl ⟨s1, by rw [s2]; exact q _ fun G => .bl _⟩
  · rw [Bool.and_eq_true] at h1
    refine .inr ⟨_, _, dp_of h1.1 ra, dp_of h1.2 rb, shaped_of h1.1 (by decide), shaped_of h1.2 (by decide), ?_⟩
    rw [eqv_of h1.1 h1.2]
    exact q _ fun G => .bl _
theorem so_ne : SimR B (rNeA B.K) (d2 cNe) := by
  refine simR_d2 (fun _ _ _ _ => need_ex) fun H a b c v u Q ra rb e q => ?_
  obtain ⟨h1, rfl⟩ := need_ok e
  rw [Bool.or_eq_true] at h1
  rcases h1 with h1 | h1
  · obtain ⟨s1, s2⟩ := scal_of h1 ra rb
    exact .inl ⟨s1, by rw [s2]; exact q _ fun G => .bl _⟩
  · rw [Bool.and_eq_true] at h1
    refine .inr ⟨_, _, dp_of h1.1 ra, dp_of h1.2 rb, shaped_of h1.1 (by decide), shaped_of h1.2 (by decide), ?_⟩
    rw [eqv_of h1.1 h1.2]
    exact q _ fun G => .bl _
/-! is None -/
theorem isN_of {K : PySem.W.Frag} {ρ : List Addr} {G : Hp} {w : W} {v : V} (r : RepW K ρ G w v) : decide (v = .non) = (match w with | .d x => isN x | _ => false) := by
  cases r with
  | d r => cases r <;> rfl
  | loc _ => rfl
  | tw _ _ => rfl
theorem se_isN {ta : TE} {m : Ev} (ha : SimE B Wi ta m) : SimE B Wi (tIsN ta) (e1 cIsN m) := by
  intro ρ G S H env σ Q R E h
  refine ha ρ G S H env σ _ R E (post_bind h fun w S1 ρ1 G1 H1 v l1 R1 r1 h1 => ?_)
  rw [isN_of r1]
  cases w with
  | d x => exact post_d R1 (.bl _) h1
  | loc _ => exact post_d R1 (.bl _) h1
  | tw _ => exact post_d R1 (.bl _) h1
theorem se_notN {ta : TE} {m : Ev} (ha : SimE B Wi ta m) : SimE B Wi (tNotN ta) (e1 cNotN m) := by
  intro ρ G S H env σ Q R E h
  refine ha ρ G S H env σ _ R E (post_bind h fun w S1 ρ1 G1 H1 v l1 R1 r1 h1 => ?_)
  rw [isN_of r1]
  cases w with
  | d x => exact post_d R1 (.bl _) h1
  | loc _ => exact post_d R1 (.bl _) h1
  | tw _ => exact post_d R1 (.bl _) h1
/-! ### in -/
theorem flat_of {K : PySem.W.Frag} {H : Hp} {a : D} {v : V} (c : flat a = true) (r : Rep K H a v) : flatV v = true := by
  cases r <;> first | rfl | (simp [flat] at c)
theorem eqV_of {K : PySem.W.Frag} {H : Hp} {a b : D} {v u : V} (ra : Rep K H a v) (rb : Rep K H b u) (c : flat a = true) (d : flat b = true) : eqV v u = eqv a b := by
  cases ra <;> first | (simp [flat] at c; done) | (cases rb <;> first | (simp [flat] at d; done) | simp [eqV, eqv, sof_beq])
theorem inV_of {K : PySem.W.Frag} {H : Hp} {x : D} {v : V} (rx : Rep K H x v) (c : flat x = true) : ∀ {l : List D} {vs : List V}, RepL K H l vs → l.all flat = true → vs.all flatV = true ∧ inV v vs = inL x l
  | _, _, .nil, _ => ⟨rfl, rfl⟩
  | _, _, .cons h r, d => by
    rw [List.all_cons, Bool.and_eq_true] at d
    obtain ⟨h1, h2⟩ := inV_of rx c r d.2
    refine ⟨by rw [List.all_cons, flat_of d.1 h, h1]; rfl, ?_⟩
    unfold inV inL at *
    rw [List.any_cons, List.any_cons, eqV_of h rx d.1 c, h2]
theorem anyP_of {n m : Nat} {x : D} (c : okD n x = true) : ∀ {l : List D}, okL m l = true → ((toPs l).any fun z => PyData.eqv z (toP x)) = inL x l
  | [], _ => rfl
  | y :: l, d => by
    have d' : okD m y = true ∧ okL m l = true := by cases m <;> (rw [okL, Bool.and_eq_true] at d; exact d)
    have ih := anyP_of c d'.2
    unfold inL at *
    rw [toPs, List.any_cons, List.any_cons, ih, eqv_of d'.1 c]
def rInDT (K : PySem.W.Frag) : R2 := fun x y H Q => ∃ d ds, Dp K H x d ∧ Dp K H y (.tuple ds) ∧ SeqAt.shaped d = true ∧ SeqAt.shaped (.tuple ds) = true ∧ Q (.bl (ds.any fun z => PyData.eqv z d)) H
def rNinDT (K : PySem.W.Frag) : R2 := fun x y H Q => ∃ d ds, Dp K H x d ∧ Dp K H y (.tuple ds) ∧ SeqAt.shaped d = true ∧ SeqAt.shaped (.tuple ds) = true ∧ Q (.bl (!ds.any fun z => PyData.eqv z d)) H
theorem op_inDT {X : Cx} (hu : X.A.units + 65 < cLine) : OpR X (compareOp .In) (rInDT X.K) := by
  intro pins s σ H x y v u Q I rx ry h
  obtain ⟨d, ds, hd, he, sd, se, q⟩ := h
  obtain ⟨as, r1⟩ := Dp.reads I d x v hd rx
  obtain ⟨bs, r2⟩ := Dp.reads I (.tuple ds) y u he ry
  exact SeqAt.in_tuple_reads r2 r1 (SeqAt.canLay_of_shaped se) (SeqAt.canLay_of_shaped sd) (PyProof.Rows.room_in_shaped sd hu) ⟨.bl _, H, I, rfl, q⟩
theorem op_notInDT {X : Cx} (hu : X.A.units + 65 < cLine) : OpR X (compareOp .NotIn) (rNinDT X.K) := by
  intro pins s σ H x y v u Q I rx ry h
  obtain ⟨d, ds, hd, he, sd, se, q⟩ := h
  obtain ⟨as, r1⟩ := Dp.reads I d x v hd rx
  obtain ⟨bs, r2⟩ := Dp.reads I (.tuple ds) y u he ry
  exact SeqAt.notIn_tuple_reads r2 r1 (SeqAt.canLay_of_shaped se) (SeqAt.canLay_of_shaped sd) (PyProof.Rows.room_in_shaped sd hu) ⟨.bl _, H, I, rfl, q⟩
def rInA (K : PySem.W.Frag) : R2 := fun x y H Q => (rIn K false x y H Q ∨ rInD K x y H Q) ∨ ((∃ (c : Nat) (z : Str), x = .str ⟨#[c]⟩ ∧ y = .str z ∧ Q (.bl (decide (c ∈ z.cps.toList))) H) ∨ ((∃ a o, y = .ref a ∧ DGet H a x o ∧ Q (.bl o.isSome) H) ∨ rInDT K x y H Q))
def rNinA (K : PySem.W.Frag) : R2 := fun x y H Q => (rIn K true x y H Q ∨ rNotInD K x y H Q) ∨ ((∃ (c : Nat) (z : Str), x = .str ⟨#[c]⟩ ∧ y = .str z ∧ Q (.bl (!decide (c ∈ z.cps.toList))) H) ∨ ((∃ a o, y = .ref a ∧ DGet H a x o ∧ Q (.bl (!o.isSome)) H) ∨ rNinDT K x y H Q))
theorem op_inDct {X : Cx} (hu : X.A.units + 1 < cLine) : OpR X (compareOp .In) (fun x y H Q => ∃ a o, y = .ref a ∧ DGet H a x o ∧ Q (.bl o.isSome) H) := by
  intro pins s σ H x y v u Q I rx ry h
  obtain ⟨a, o, rfl, g, q⟩ := h
  cases ry
  exact d_in hu I g rx fun s' I' => ⟨.bl _, H, I', rfl, q⟩
theorem op_ninDct {X : Cx} (hu : X.A.units + 1 < cLine) : OpR X (compareOp .NotIn) (fun x y H Q => ∃ a o, y = .ref a ∧ DGet H a x o ∧ Q (.bl (!o.isSome)) H) := by
  intro pins s σ H x y v u Q I rx ry h
  obtain ⟨a, o, rfl, g, q⟩ := h
  cases ry
  exact d_notIn hu I g rx fun s' I' => ⟨.bl _, H, I', rfl, q⟩
theorem op_inA {X : Cx} (hu : X.A.units + 65 < cLine) : OpR X (compareOp .In) (rInA X.K) := opR_or (opR_or op_in_seq (op_inD hu)) (opR_or op_in_sign (opR_or (op_inDct (by omega)) (op_inDT hu)))
theorem op_ninA {X : Cx} (hu : X.A.units + 65 < cLine) : OpR X (compareOp .NotIn) (rNinA X.K) := opR_or (opR_or op_notIn_seq (op_notInD hu)) (opR_or op_notIn_sign (opR_or (op_ninDct (by omega)) (op_notInDT hu)))
end
end B
namespace B
open PySem L2
/-! ### dicts -/
inductive Al {α : Type} (P : α → V → Prop) : List α → List V → Prop
  | nil : Al P [] []
  | cons {x : α} {v : V} {l : List α} {vs : List V} : P x v → Al P l vs → Al P (x :: l) (v :: vs)
theorem RepL.al {K : PySem.W.Frag} {G : Hp} : ∀ {l : List D} {vs : List V}, RepL K G l vs → Al (Rep K G) l vs
  | _, _, .nil => .nil
  | _, _, .cons h r => .cons h (RepL.al r)
theorem RepL.of_al {K : PySem.W.Frag} {G : Hp} : ∀ {l : List D} {vs : List V}, Al (Rep K G) l vs → RepL K G l vs
  | _, _, .nil => .nil
  | _, _, .cons h r => .cons h (RepL.of_al r)
theorem RepWs.al {K : PySem.W.Frag} {ρ : List Addr} {G : Hp} : ∀ {l : List W} {vs : List V}, RepWs K ρ G l vs → Al (RepW K ρ G) l vs
  | _, _, .nil => .nil
  | _, _, .cons h r => .cons h (RepWs.al r)
theorem RepWs.of_al {K : PySem.W.Frag} {ρ : List Addr} {G : Hp} : ∀ {l : List W} {vs : List V}, Al (RepW K ρ G) l vs → RepWs K ρ G l vs
  | _, _, .nil => .nil
  | _, _, .cons h r => .cons h (RepWs.of_al r)
theorem keyK_eqv {a b : D} {k j : Key} (h : keyK a = some k) (h' : keyK b = some j) : eqv a b = decide (k = j) := by
  cases a <;> simp only [keyK, reduceCtorEq] at h <;> cases b <;> simp only [keyK, reduceCtorEq] at h' <;> cases h <;> cases h'
  · simp [eqv, Bool.beq_eq_decide_eq]
  · simp [eqv]
  · simp [eqv]
  · rename_i x y
    show (x == y) = _
    rw [← sof_beq, Bool.beq_eq_decide_eq]
    simp
theorem keyKs_eqv : ∀ {a b : List D} {k j : List Key}, keyKs a = some k → keyKs b = some j → eqvL a b = decide (k = j)
  | [], [], _, _, h, h' => by cases h; cases h'; rfl
  | [], b :: bs, _, _, h, h' => by
    cases h
    simp only [keyKs] at h'
    split at h'
    · obtain ⟨z, e1, e2⟩ := Option.map_eq_some_iff.mp h'
      subst e2; simp [eqvL]
    · cases h'
  | a :: as, [], _, _, h, h' => by
    cases h'
    simp only [keyKs] at h
    split at h
    · obtain ⟨z, e1, e2⟩ := Option.map_eq_some_iff.mp h
      subst e2; simp [eqvL]
    · cases h
  | a :: as, b :: bs, _, _, h, h' => by
    simp only [keyKs] at h h'
    cases q1 : keyK a with
    | none => rw [q1] at h; cases h
    | some k =>
      cases q2 : keyK b with
      | none => rw [q2] at h'; cases h'
      | some j =>
        rw [q1] at h
        rw [q2] at h'
        obtain ⟨z, e1, e2⟩ := Option.map_eq_some_iff.mp h
        obtain ⟨z', e1', e2'⟩ := Option.map_eq_some_iff.mp h'
        subst e2; subst e2'
        rw [eqvL, keyK_eqv q1 q2, keyKs_eqv e1 e1']
        simp
theorem keyT_eqv {a b : D} {k j : List Key} (h : keyT a = some k) (h' : keyT b = some j) : eqv a b = decide (k = j) := by
  cases a <;> simp only [keyT, reduceCtorEq] at h <;> cases b <;> simp only [keyT, reduceCtorEq] at h'
  simp only [eqv]
  exact keyKs_eqv h h'
theorem key1_some {x : D} (h : key1 x = true) : ∃ k, keyK x = some k := by
  cases x <;> simp [key1] at h <;> exact ⟨_, rfl⟩
theorem keyKs_some : ∀ {l : List D}, l.all key1 = true → ∃ k, keyKs l = some k
  | [], _ => ⟨[], rfl⟩
  | x :: l, h => by
    rw [List.all_cons, Bool.and_eq_true] at h
    obtain ⟨k, e⟩ := key1_some h.1
    obtain ⟨ks, e2⟩ := keyKs_some h.2
    exact ⟨k :: ks, by simp only [keyKs, e, e2]; rfl⟩
theorem keyOk_f {x : D} (h : keyOk false x = true) : ∃ k, keyK x = some k := by
  cases x <;> simp only [keyOk, Bool.false_and, Bool.not_false, Bool.true_and, Bool.false_eq_true] at h <;> exact key1_some h
theorem keyOk_t {x : D} (h : keyOk true x = true) : ∃ k, keyT x = some k := by
  cases x <;> simp only [keyOk, Bool.true_and, Bool.not_true, Bool.false_and, Bool.false_eq_true] at h
  exact keyKs_some h
theorem kV_of {K : PySem.W.Frag} {H : Hp} {x : D} {v : V} {k : Key} (r : Rep K H x v) (h : keyK x = some k) : v = kV k := by
  cases r <;> simp only [keyK, reduceCtorEq] at h <;> cases h <;> rfl
theorem kVs_of {K : PySem.W.Frag} {H : Hp} : ∀ {l : List D} {vs : List V} {k : List Key}, RepL K H l vs → keyKs l = some k → vs = k.map kV
  | _, _, _, .nil, h => by cases h; rfl
  | _, _, _, .cons h r, e => by
    simp only [keyKs] at e
    split at e
    · rename_i k hk
      obtain ⟨z, e1, e2⟩ := Option.map_eq_some_iff.mp e
      subst e2
      rw [List.map_cons, kV_of h hk, kVs_of r e1]
    · cases e
/-- a look-up -/
def OptR {α : Type} (P : α → V → Prop) : Option α → Option V → Prop
  | some x, some v => P x v
  | none, none => True
  | _, _ => False
theorem look_rel {α κ : Type} [DecidableEq κ] {P : α → V → Prop} (key : D → Option κ) (heq : ∀ a b k j, key a = some k → key b = some j → eqv a b = decide (k = j)) {x : D} {k : κ} (hx : key x = some k) :
    ∀ (l : List (D × α)) (kv : List (κ × V)), l.map (fun p => key p.1) = kv.map (fun p => some p.1) → Al P (l.map (·.2)) (kv.map (·.2)) → OptR P (lookD l x) (valV kv k)
  | [], [], _, _ => trivial
  | [], _ :: _, h, _ => by simp at h
  | _ :: _, [], h, _ => by simp at h
  | p :: l, q :: kv, h, r => by
    rw [List.map_cons, List.map_cons, List.cons.injEq] at h
    rw [List.map_cons, List.map_cons] at r
    cases r with
    | cons r1 r2 =>
      have e := heq p.1 x q.1 k h.1 hx
      have ih := look_rel key heq hx l kv h.2 r2
      unfold lookD at *
      rw [List.find?_cons, e]
      by_cases c : q.1 = k
      · rw [valV_pos c, decide_eq_true c]
        exact r1
      · rw [valV_neg c, decide_eq_false c]
        exact ih
theorem any_rel {α κ : Type} [DecidableEq κ] (key : D → Option κ) (heq : ∀ a b k j, key a = some k → key b = some j → eqv a b = decide (k = j)) {x : D} {k : κ} (hx : key x = some k) :
    ∀ (l : List (D × α)) (kv : List (κ × V)), l.map (fun p => key p.1) = kv.map (fun p => some p.1) → (l.any fun p => eqv p.1 x) = (kv.any fun p => decide (p.1 = k))
  | [], [], _ => rfl
  | [], _ :: _, h => by simp at h
  | _ :: _, [], h => by simp at h
  | p :: l, q :: kv, h => by
    rw [List.map_cons, List.map_cons, List.cons.injEq] at h
    rw [List.any_cons, List.any_cons, heq p.1 x q.1 k h.1 hx, any_rel key heq hx l kv h.2]
theorem put_rel {α κ : Type} [DecidableEq κ] {P : α → V → Prop} (key : D → Option κ) (heq : ∀ a b k j, key a = some k → key b = some j → eqv a b = decide (k = j)) {x : D} {k : κ} (hx : key x = some k) {y : α} {v : V} (hy : P y v)
    (l : List (D × α)) (kv : List (κ × V)) (h : l.map (fun p => key p.1) = kv.map (fun p => some p.1)) (r : Al P (l.map (·.2)) (kv.map (·.2))) :
    (putD l x y).map (fun p => key p.1) = (putK kv k v).map (fun p => some p.1) ∧ Al P ((putD l x y).map (·.2)) ((putK kv k v).map (·.2)) := by
  unfold putD putK
  rw [any_rel key heq hx l kv h]
  by_cases c : (kv.any fun p => decide (p.1 = k)) = true
  · rw [if_pos c, if_pos c]
    clear c
    induction l generalizing kv with
    | nil =>
      cases kv with
      | nil => exact ⟨rfl, .nil⟩
      | cons q kv => simp at h
    | cons p l ih =>
      cases kv with
      | nil => simp at h
      | cons q kv =>
        rw [List.map_cons, List.map_cons, List.cons.injEq] at h
        rw [List.map_cons, List.map_cons] at r
        cases r with
        | cons r1 r2 =>
          obtain ⟨h1, h2⟩ := ih kv h.2 r2
          have e := heq p.1 x q.1 k h.1 hx
          by_cases c : q.1 = k
          · rw [decide_eq_true c] at e
            refine ⟨?_, ?_⟩
            · simp only [List.map_cons]
              rw [if_pos e, if_pos c, h1]
              simp only [h.1]
            · simp only [List.map_cons]
              rw [if_pos e, if_pos c]
              exact .cons hy h2
          · rw [decide_eq_false c] at e
            have e' : ¬ eqv p.1 x = true := by rw [e]; exact Bool.false_ne_true
            refine ⟨?_, ?_⟩
            · simp only [List.map_cons]
              rw [if_neg e', if_neg c, h1]
              simp only [h.1]
            · simp only [List.map_cons]
              rw [if_neg e', if_neg c]
              exact .cons r1 h2
  · rw [if_neg c, if_neg c]
    clear c
    refine ⟨by rw [List.map_append, List.map_append, h]; simp [hx], ?_⟩
    rw [List.map_append, List.map_append]
    have app : ∀ {a : List α} {b : List V}, Al P a b → Al P (a ++ [y]) (b ++ [v]) := fun {a b} q => by
      induction q with
      | nil => exact .cons hy .nil
      | cons h _ ih => exact .cons h ih
    exact app r
theorem dget_d {K : PySem.W.Frag} {H : Hp} {t : Bool} {l : List (D × D)} {x : D} {a : Addr} {v : V} (h : Rep K H (.dct t l) (.ref a)) (rx : Rep K H x v) (hk : keyOk t x = true) : ∃ o, DGet H a v o ∧ OptR (Rep K H) (lookD l x) o := by
  cases h with
  | dk q k r =>
    obtain ⟨j, hj⟩ := keyOk_f hk
    exact ⟨_, .inl ⟨_, j, q, kV_of rx hj, rfl⟩, look_rel keyK (fun _ _ _ _ => keyK_eqv) hj l _ k r.al⟩
  | dt q k r =>
    obtain ⟨j, hj⟩ := keyOk_t hk
    cases x <;> simp only [keyT, reduceCtorEq] at hj
    cases rx with
    | tup q1 r1 =>
      rw [kVs_of r1 hj] at q1
      exact ⟨_, .inr ⟨_, j, _, q, rfl, q1, rfl⟩, look_rel keyT (fun _ _ _ _ => keyT_eqv) (x := .tup _) hj l _ k r.al⟩
end B
/-! A piece of Python is as a B term says: one lemma a construct. -/
namespace B
open PySem L2
/-- where one stands: the context, the classes, the wish of exceptions -/
structure Zx where
  X : Cx
  xc : Nat → Value
  oc : Nat → Addr
  Wi : L2.WX
  pin : Option (Nat × V × Option Hp) := none
abbrev Zx.B (z : Zx) : Bx := ⟨z.X.K, z.xc, z.oc, z.pin⟩
section canon
variable (B : Bx) (Wi : WX)
def tOf (m : Ev) : TE := fun σ H Q => ∃ ρ G S env, Rel B ρ G S H ∧ EnvR B ρ G env σ ∧ Post B (atS Wi σ) ρ G H (m env S) Q
def ttOf (m : Tx) : TT := fun σ H Q => ∃ ρ G S env, Rel B ρ G S H ∧ EnvR B ρ G env σ ∧ PostT B (atS Wi σ) ρ G H (m env S) Q
def taOf (m : List Ev) : TA := fun σ H Q => ∃ ρ G S env, Rel B ρ G S H ∧ EnvR B ρ G env σ ∧ PostA B (atS Wi σ) ρ G H (eAs m env S) Q
def tsOf (m : Sx) : TS := fun D σ H => ∃ ρ G S env, Rel B ρ G S H ∧ EnvR B ρ G env σ ∧ PostS B Wi ρ G H (m env S) D
def gOf (m : Tg) : TG := fun v σ H Q => ∃ ρ G S env w, Rel B ρ G S H ∧ EnvR B ρ G env σ ∧ RepW B.K ρ G w v ∧ PostG B ρ G H (m w env S) Q
def gsOf (m : List Tg) : TGs := fun vs σ H Q => ∃ ρ G S env l, Rel B ρ G S H ∧ EnvR B ρ G env σ ∧ RepWs B.K ρ G l vs ∧ PostG B ρ G H (gTs m l env S) Q
def wiOf (m : Wk) : TI := fun σ H Q => ∃ ρ G S env, Rel B ρ G S H ∧ EnvR B ρ G env σ ∧ PostI B (atS Wi σ) ρ G H (m env S) Q
end canon
section
variable {B : Bx} {Wi : WX}
theorem sim_e {m : Ev} : SimE B Wi (tOf B Wi m) m := fun ρ G S H env σ Q R E h => ⟨ρ, G, S, env, R, E, h⟩
theorem sim_t {m : Tx} : SimT B Wi (ttOf B Wi m) m := fun ρ G S H env σ Q R E h => ⟨ρ, G, S, env, R, E, h⟩
theorem sim_a {m : List Ev} : SimA B Wi (taOf B Wi m) m := fun ρ G S H env σ Q R E h => ⟨ρ, G, S, env, R, E, h⟩
theorem sim_s {m : Sx} : SimS B Wi (tsOf B Wi m) m := fun ρ G S H env σ D R E h => ⟨ρ, G, S, env, R, E, h⟩
theorem sim_g {m : Tg} : SimG B (gOf B m) m := fun ρ G S H env σ w v Q R E r h => ⟨ρ, G, S, env, w, R, E, r, h⟩
theorem sim_gs {m : List Tg} : SimGs B (gsOf B m) m := fun ρ G S H env σ l vs Q R E r h => ⟨ρ, G, S, env, l, R, E, r, h⟩
theorem sim_i {m : Wk} : SimI B Wi (wiOf B Wi m) m := fun ρ G S H env σ Q R E h => ⟨ρ, G, S, env, R, E, h⟩
end
def OkE (z : Zx) (e : Expr) (m : Ev) : Prop := PE z.X e (tOf z.B z.Wi m)
def OkT (z : Zx) (e : Expr) (m : Tx) : Prop := PT z.X e (ttOf z.B z.Wi m)
def OkW (z : Zx) (e : Expr) (m : Tx) : Prop := PW z.X e (ttOf z.B z.Wi m)
def OkA (z : Zx) (es : List Expr) (m : List Ev) : Prop := PA z.X es (taOf z.B z.Wi m)
def OkS (z : Zx) (st : Stmt) (m : Sx) : Prop := PS z.X st (tsOf z.B z.Wi m)
def OkSs (z : Zx) (st : List Stmt) (m : Sx) : Prop := PSs z.X st (tsOf z.B z.Wi m)
def OkG (z : Zx) (e : Expr) (m : Tg) : Prop := PG z.X e (gOf z.B m) ∧ Quiet m
def OkGs (z : Zx) (es : List Expr) (m : List Tg) : Prop := PGs z.X es (gsOf z.B m) ∧ ∀ g ∈ m, Quiet g
def OkI (z : Zx) (tg e : Expr) (m : Wk) : Prop := PI z.X tg e (wiOf z.B z.Wi m)
/-- what stands at a def's body -/
structure Ctx (k : Nat) (z : Zx) : Prop where
  hr : Room k z.X.A
  tk : L2.Takes z.X z.Wi
  calm : z.X.calm = true
  nd : z.X.N.Nodup
  po : PassesOwn (model z.X.prog z.X.w) z.X.A z.X.env z.X.xe
section
variable {z : Zx} {k : Nat}
theorem ok_e {e : Expr} {t : TE} {m : Ev} (h : PE z.X e t) (s : SimE z.B z.Wi t m) : OkE z e m := ⟨fun pins st σ H Q I ⟨ρ, G, S, env, R, E, q⟩ => h.run pins st σ H Q I (s ρ G S H env σ Q R E q)⟩
theorem ok_t {e : Expr} {t : TT} {m : Tx} (h : PT z.X e t) (s : SimT z.B z.Wi t m) : OkT z e m := ⟨fun pins st σ H Q I ⟨ρ, G, S, env, R, E, q⟩ => h.run pins st σ H Q I (s ρ G S H env σ Q R E q)⟩
theorem ok_w {e : Expr} {t : TT} {m : Tx} (h : PW z.X e t) (s : SimT z.B z.Wi t m) : OkW z e m := ⟨fun w pins st σ H Q I ⟨ρ, G, S, env, R, E, q⟩ => h.run w pins st σ H Q I (s ρ G S H env σ Q R E q)⟩
theorem ok_a {e : List Expr} {t : TA} {m : List Ev} (h : PA z.X e t) (s : SimA z.B z.Wi t m) : OkA z e m := ⟨fun p pins st σ H Q I ⟨ρ, G, S, env, R, E, q⟩ => h.run p pins st σ H Q I (s ρ G S H env σ Q R E q)⟩
theorem ok_s {e : Stmt} {t : TS} {m : Sx} (h : PS z.X e t) (s : SimS z.B z.Wi t m) : OkS z e m := ⟨fun pins st σ H D I ⟨ρ, G, S, env, R, E, q⟩ => h.run pins st σ H D I (s ρ G S H env σ D R E q)⟩
theorem ok_ss {e : List Stmt} {t : TS} {m : Sx} (h : PSs z.X e t) (s : SimS z.B z.Wi t m) : OkSs z e m := ⟨fun pins st σ H D I ⟨ρ, G, S, env, R, E, q⟩ => h.run pins st σ H D I (s ρ G S H env σ D R E q)⟩
theorem ok_g {e : Expr} {t : TG} {m : Tg} (h : PG z.X e t) (s : SimG z.B t m) (q : Quiet m) : OkG z e m := ⟨⟨fun pins st σ H v u Q I r hh => by
  obtain ⟨ρ, G, S, env, w, R, E, r', q⟩ := hh
  exact h.run pins st σ H v u Q I r (s ρ G S H env σ w v Q R E r' q)⟩, q⟩
end
end B
namespace B
open PySem L2
section
variable {z : Zx} {k : Nat} {a b e : Expr} {es : List Expr} {ma mb m : Ev} {ms : List Ev} {pos : Pos}

/-! ### names, constants -/
theorem kVar (i : Nat) {x : Str} (hN : z.X.N[i]? = some x) (hv : Vis z.X.env.scope x) (hd : (x == ("__debug__" : Str)) = false := by decide) (hcd : (x == ("__classdict__" : Str)) = false := by decide) (pos : Pos) : OkE z (.Name x pos) (eV i) := ok_e (pe_var hN hv hd hcd) se_var
theorem kInt {i : Int} {j : Nat} : OkE z (.Constant (.int i) j pos) (eK (.int i)) := ok_e pe_int se_int
theorem kBl {i : Bool} {j : Nat} : OkE z (.Constant (.bool i) j pos) (eK (.bl i)) := ok_e pe_bl se_bl
theorem kNon {j : Nat} : OkE z (.Constant .none j pos) (eK .non) := ok_e pe_non se_non
theorem kStr {x : Str} {j : Nat} (l : List Nat) (h : x = sof l := by rfl) : OkE z (.Constant (.str x) j pos) (eK (.str l)) := ok_e pe_str (se_str l h)
/-- a constant of the module -/
theorem kGStr {x y : Str} {t : Tok} (l : List Nat) (hg : Gl z.X x) (hm : z.X.mg x = some (.str y t)) (h : y = sof l) (hd : (x == ("__debug__" : Str)) = false := by decide) (pos : Pos) : OkE z (.Name x pos) (eK (.str l)) := ok_e (pe_glob (v := .str y) hg hm ⟨_, rfl⟩ hd) (se_str l h)
theorem kGInt {x : Str} {i : Int} {t : Tok} (hg : Gl z.X x) (hm : z.X.mg x = some (.int i t)) (hd : (x == ("__debug__" : Str)) = false := by decide) (pos : Pos) : OkE z (.Name x pos) (eK (.int i)) := ok_e (pe_glob (v := .int i) hg hm ⟨_, rfl⟩ hd) se_int

/-! ### operators -/
theorem kOp {op : Operator} {r : R2} {f : W → W → Sto → VS} (ho : OpR z.X (binaryOp op) r) (hr : SimR z.B r f) (ha : OkE z a ma) (hb : OkE z b mb) : OkE z (.BinOp a op b pos) (e2 f ma mb) := ok_e (pe_op ho ha hb) (se_op hr sim_e sim_e)
theorem kSub (ha : OkE z a ma) (hb : OkE z b mb) : OkE z (.BinOp a .Sub b pos) (e2 (d2 oSub) ma mb) := kOp op_sub so_sub ha hb
theorem kAdd (ha : OkE z a ma) (hb : OkE z b mb) : OkE z (.BinOp a .Add b pos) (e2 oAdd ma mb) := kOp op_plus so_add ha hb
theorem kDiv (ha : OkE z a ma) (hb : OkE z b mb) : OkE z (.BinOp a .FloorDiv b pos) (e2 (d2 oDiv) ma mb) := kOp op_fdivW so_div ha hb
theorem kMod (ha : OkE z a ma) (hb : OkE z b mb) : OkE z (.BinOp a .Mod b pos) (e2 (d2 oMod) ma mb) := kOp op_mod so_mod ha hb
theorem kPow (ha : OkE z a ma) (hb : OkE z b mb) : OkE z (.BinOp a .Pow b pos) (e2 (d2 oPow) ma mb) := kOp op_pow so_pow ha hb
theorem kUn {op : UnaryOp} {r : V → Hp → VK → Prop} {f : W → Sto → VS} (ho : UnR z.X (unaryOp op) r) (hr : SimU z.B r f) (ha : OkE z a ma) : OkE z (.UnaryOp op a pos) (e1 f ma) := ok_e (pe_un ho ha) (se_un hr sim_e)
theorem kNeg (ha : OkE z a ma) : OkE z (.UnaryOp .USub a pos) (e1 (d1 oNeg) ma) := kUn un_neg so_neg ha

/-! ### comparisons, as values and as tests -/
theorem kCmp {op : CmpOp} {r : R2} {f : W → W → Sto → VS} (ho : OpR z.X (compareOp op) r) (hr : SimR z.B r f) (ha : OkE z a ma) (hb : OkE z b mb) (hm : behindInMarks op b = false) : OkE z (.Compare a [op] [b] pos) (e2 f ma mb) := ok_e (pe_cmpR ho ha hb hm) (se_op hr sim_e sim_e)
theorem tCmp {op : CmpOp} {r : R2} {f : W → W → Sto → VS} (ho : OpR z.X (compareOp op) r) (hr : SimR z.B r f) (ha : OkE z a ma) (hb : OkE z b mb) (hm : behindInMarks op b = false) : OkT z (.Compare a [op] [b] pos) (tB (e2 f ma mb)) := ok_t (pt_cmpR ho ha hb hm) (st_test (se_op hr sim_e sim_e))
theorem kLt (ha : OkE z a ma) (hb : OkE z b mb) : OkE z (.Compare a [.Lt] [b] pos) (e2 (d2 cLt) ma mb) := kCmp op_lt so_lt ha hb (nomark _)
theorem kLe (ha : OkE z a ma) (hb : OkE z b mb) : OkE z (.Compare a [.LtE] [b] pos) (e2 (d2 cLe) ma mb) := kCmp op_le so_le ha hb (nomark _)
theorem kGt (ha : OkE z a ma) (hb : OkE z b mb) : OkE z (.Compare a [.Gt] [b] pos) (e2 (d2 cGt) ma mb) := kCmp op_gt so_gt ha hb (nomark _)
theorem kGe (ha : OkE z a ma) (hb : OkE z b mb) : OkE z (.Compare a [.GtE] [b] pos) (e2 (d2 cGe) ma mb) := kCmp op_ge so_ge ha hb (nomark _)
theorem kEq (c : Ctx k z) (ha : OkE z a ma) (hb : OkE z b mb) : OkE z (.Compare a [.Eq] [b] pos) (e2 (d2 cEq) ma mb) := kCmp (op_eqA c.hr.units) so_eq ha hb (nomark _)
theorem kNe (c : Ctx k z) (ha : OkE z a ma) (hb : OkE z b mb) : OkE z (.Compare a [.NotEq] [b] pos) (e2 (d2 cNe) ma mb) := kCmp (op_neA c.hr.units) so_ne ha hb (nomark _)
theorem tLt (ha : OkE z a ma) (hb : OkE z b mb) : OkT z (.Compare a [.Lt] [b] pos) (tB (e2 (d2 cLt) ma mb)) := tCmp op_lt so_lt ha hb (nomark _)
theorem tLe (ha : OkE z a ma) (hb : OkE z b mb) : OkT z (.Compare a [.LtE] [b] pos) (tB (e2 (d2 cLe) ma mb)) := tCmp op_le so_le ha hb (nomark _)
theorem tGt (ha : OkE z a ma) (hb : OkE z b mb) : OkT z (.Compare a [.Gt] [b] pos) (tB (e2 (d2 cGt) ma mb)) := tCmp op_gt so_gt ha hb (nomark _)
theorem tGe (ha : OkE z a ma) (hb : OkE z b mb) : OkT z (.Compare a [.GtE] [b] pos) (tB (e2 (d2 cGe) ma mb)) := tCmp op_ge so_ge ha hb (nomark _)
theorem tEq (c : Ctx k z) (ha : OkE z a ma) (hb : OkE z b mb) : OkT z (.Compare a [.Eq] [b] pos) (tB (e2 (d2 cEq) ma mb)) := tCmp (op_eqA c.hr.units) so_eq ha hb (nomark _)
theorem tNe (c : Ctx k z) (ha : OkE z a ma) (hb : OkE z b mb) : OkT z (.Compare a [.NotEq] [b] pos) (tB (e2 (d2 cNe) ma mb)) := tCmp (op_neA c.hr.units) so_ne ha hb (nomark _)
/-! in -/
theorem oneOf_ex (x y : D) (e : Exc) (s : Sto) : oneOf x y ≠ .ex e s := by
  unfold oneOf
  intro h
  split at h <;> first | exact need_ex h | cases h | (split at h <;> first | cases h | exact need_ex h)
theorem dctGet {K : PySem.W.Frag} {H : Hp} {t : Bool} {l : List (D × D)} {x : D} {u v : V} (h : Rep K H (.dct t l) u) (rx : Rep K H x v) (hk : keyOk t x = true) : ∃ a o, u = .ref a ∧ DGet H a v o ∧ OptR (Rep K H) (lookD l x) o := by
  have hu : ∃ a, u = .ref a := by cases h <;> exact ⟨_, rfl⟩
  obtain ⟨a, rfl⟩ := hu
  obtain ⟨o, h1, h2⟩ := dget_d h rx hk
  exact ⟨a, o, rfl, h1, h2⟩
theorem optR_some {α : Type} {P : α → V → Prop} {x : Option α} {o : Option V} (h : OptR P x o) : o.isSome = x.isSome := by
  cases x <;> cases o <;> simp_all [OptR]
theorem sof_one (c : Nat) : sof [c] = ⟨#[c]⟩ := rfl
theorem in_core {H : Hp} {x y : D} {v u : V} {r : Bool} (rx : Rep z.X.K H x v) (ry : Rep z.X.K H y u) (e : oneOf x y = .ok r) {Q : VK} :
    (Q (.bl r) H → rInA z.X.K v u H Q) ∧ (Q (.bl (!r)) H → rNinA z.X.K v u H Q) := by
  unfold oneOf at e
  split at e
  · obtain ⟨h1, rfl⟩ := need_ok e
    cases ry with
    | lst q r =>
      rw [Bool.or_eq_true, Bool.and_eq_true, Bool.and_eq_true] at h1
      rcases h1 with h1 | h1
      · obtain ⟨i1, i2⟩ := inV_of rx h1.1 r h1.2
        exact ⟨fun h => .inl (.inl ⟨_, _, rfl, .inl (.inl (.inl q)), flat_of h1.1 rx, i1, by rw [i2]; exact h⟩), fun h => .inl (.inl ⟨_, _, rfl, .inl (.inl (.inl q)), flat_of h1.1 rx, i1, by rw [i2]; exact h⟩)⟩
      · have dl : okD 60 (.lst _) = true := h1.2
        have rl : Rep z.X.K H (.lst _) _ := .lst q r
        have e2 := anyP_of (x := x) (n := 60) h1.1 h1.2
        have s2 := shaped_of dl (by decide)
        have d2' := dp_of dl rl
        rw [toP] at s2 d2'
        exact ⟨fun h => .inl (.inr ⟨_, _, dp_of h1.1 rx, d2', shaped_of h1.1 (by decide), s2, by rw [e2]; exact h⟩), fun h => .inl (.inr ⟨_, _, dp_of h1.1 rx, d2', shaped_of h1.1 (by decide), s2, by rw [e2]; exact h⟩)⟩
  · obtain ⟨h1, rfl⟩ := need_ok e
    cases ry with
    | tup q r =>
      rw [Bool.or_eq_true, Bool.and_eq_true, Bool.and_eq_true] at h1
      rcases h1 with h1 | h1
      · obtain ⟨i1, i2⟩ := inV_of rx h1.1 r h1.2
        exact ⟨fun h => .inl (.inl ⟨_, _, rfl, .inr (.inl (.inl q)), flat_of h1.1 rx, i1, by rw [i2]; exact h⟩), fun h => .inl (.inl ⟨_, _, rfl, .inr (.inl (.inl q)), flat_of h1.1 rx, i1, by rw [i2]; exact h⟩)⟩
      · have dl : okD 60 (.tup _) = true := h1.2
        have rl : Rep z.X.K H (.tup _) _ := .tup q r
        have e2 := anyP_of (x := x) (n := 60) h1.1 h1.2
        have s2 := shaped_of dl (by decide)
        have d2' := dp_of dl rl
        rw [toP] at s2 d2'
        exact ⟨fun h => .inr (.inr (.inr ⟨_, _, dp_of h1.1 rx, d2', shaped_of h1.1 (by decide), s2, by rw [e2]; exact h⟩)), fun h => .inr (.inr (.inr ⟨_, _, dp_of h1.1 rx, d2', shaped_of h1.1 (by decide), s2, by rw [e2]; exact h⟩))⟩
  · obtain ⟨h1, rfl⟩ := need_ok e
    obtain ⟨a, o, rfl, g, oo⟩ := dctGet ry rx h1
    have := optR_some oo
    exact ⟨fun h => .inr (.inr (.inl ⟨a, o, rfl, g, by rw [this]; exact h⟩)), fun h => .inr (.inr (.inl ⟨a, o, rfl, g, by rw [this]; exact h⟩))⟩
  · rename_i zz
    split at e
    · rename_i c
      cases e
      cases rx; cases ry
      have hc : decide (c ∈ (sof zz).cps.toList) = zz.contains c := by rw [sof_cps, List.contains_eq_mem]
      exact ⟨fun h => .inr (.inl ⟨c, sof zz, rfl, rfl, by rw [hc]; exact h⟩), fun h => .inr (.inl ⟨c, sof zz, rfl, rfl, by rw [hc]; exact h⟩)⟩
    · cases e
  · cases e
theorem so_in : SimR z.B (rInA z.X.K) (d2 cIn) := by
  refine simR_d2 (fun a b e s h => ?_) fun H a b c v u Q ra rb e q => ?_
  · unfold cIn at h
    cases q : oneOf a b with
    | stuck => rw [q] at h; cases h
    | ok r => rw [q] at h; cases h
    | ex e2 s2 => exact oneOf_ex _ _ _ _ q
  · unfold cIn at e
    cases q1 : oneOf a b with
    | stuck => rw [q1] at e; cases e
    | ex e2 s2 => exact absurd q1 (oneOf_ex _ _ _ _)
    | ok r =>
      rw [q1] at e
      cases e
      exact (in_core (z := z) ra rb q1).1 (q _ fun G => .bl _)
theorem so_nin : SimR z.B (rNinA z.X.K) (d2 cNin) := by
  refine simR_d2 (fun a b e s h => ?_) fun H a b c v u Q ra rb e q => ?_
  · unfold cNin at h
    cases q : oneOf a b with
    | stuck => rw [q] at h; cases h
    | ok r => rw [q] at h; cases h
    | ex e2 s2 => exact oneOf_ex _ _ _ _ q
  · unfold cNin at e
    cases q1 : oneOf a b with
    | stuck => rw [q1] at e; cases e
    | ex e2 s2 => exact absurd q1 (oneOf_ex _ _ _ _)
    | ok r =>
      rw [q1] at e
      cases e
      exact (in_core (z := z) ra rb q1).2 (q _ fun G => .bl _)
theorem u65 {A : Around} (hr : Room k A) : A.units + 65 < cLine := by have := hr.un; omega
theorem kIn (c : Ctx k z) (ha : OkE z a ma) (hb : OkE z b mb) (hm : behindInMarks .In b = false := by rfl) : OkE z (.Compare a [.In] [b] pos) (e2 (d2 cIn) ma mb) := kCmp (op_inA (u65 c.hr)) so_in ha hb hm
theorem kNin (c : Ctx k z) (ha : OkE z a ma) (hb : OkE z b mb) (hm : behindInMarks .NotIn b = false := by rfl) : OkE z (.Compare a [.NotIn] [b] pos) (e2 (d2 cNin) ma mb) := kCmp (op_ninA (u65 c.hr)) so_nin ha hb hm
theorem tIn (c : Ctx k z) (ha : OkE z a ma) (hb : OkE z b mb) (hm : behindInMarks .In b = false := by rfl) : OkT z (.Compare a [.In] [b] pos) (tB (e2 (d2 cIn) ma mb)) := tCmp (op_inA (u65 c.hr)) so_in ha hb hm
theorem tNin (c : Ctx k z) (ha : OkE z a ma) (hb : OkE z b mb) (hm : behindInMarks .NotIn b = false := by rfl) : OkT z (.Compare a [.NotIn] [b] pos) (tB (e2 (d2 cNin) ma mb)) := tCmp (op_ninA (u65 c.hr)) so_nin ha hb hm
theorem kIsN {j : Nat} {p : Pos} (ha : OkE z a ma) : OkE z (.Compare a [.Is] [.Constant .none j p] pos) (e1 cIsN ma) := ok_e (pe_cmp (pc_isN ha) rfl) (se_isN sim_e)
theorem kNotN {j : Nat} {p : Pos} (ha : OkE z a ma) : OkE z (.Compare a [.IsNot] [.Constant .none j p] pos) (e1 cNotN ma) := ok_e (pe_cmp (pc_notN ha) rfl) (se_notN sim_e)
theorem tIsN {j : Nat} {p : Pos} (ha : OkE z a ma) : OkT z (.Compare a [.Is] [.Constant .none j p] pos) (tB (e1 cIsN ma)) := ok_t (pt_cmp (pc_isN ha)) (st_B (se_isN sim_e))
theorem tNotN {j : Nat} {p : Pos} (ha : OkE z a ma) : OkT z (.Compare a [.IsNot] [.Constant .none j p] pos) (tB (e1 cNotN ma)) := ok_t (pt_cmp (pc_notN ha)) (st_B (se_notN sim_e))
/-! tests -/
theorem tVal (ha : OkE z a ma) (he : ∀ whole, isTrue a z.X.env whole = (do let v ← whole; standAt a.pos; holding [v] (truthy v)) := by intro _; rfl) : OkT z a (tB ma) := ok_t (pt_val ha he) (st_B sim_e)
variable {ta tb tc : Tx} {rest : List Expr}
theorem wAnd1 (ha : OkT z a ta) : OkW z (.BoolOp .And [a] pos) ta := ok_w (pw_and1 ha) sim_t
theorem wOr1 (ha : OkT z a ta) : OkW z (.BoolOp .Or [a] pos) ta := ok_w (pw_or1 ha) sim_t
theorem wAnd (ha : OkT z a ta) (hb : OkW z (.BoolOp .And (b :: rest) pos) tb) : OkW z (.BoolOp .And (a :: b :: rest) pos) (tAnd ta tb) := ok_w (pw_and ha hb) (st_and sim_t sim_t)
theorem wOr (ha : OkT z a ta) (hb : OkW z (.BoolOp .Or (b :: rest) pos) tb) : OkW z (.BoolOp .Or (a :: b :: rest) pos) (tOr ta tb) := ok_w (pw_or ha hb) (st_or sim_t sim_t)
theorem tW (h : OkW z a ta) : OkT z a ta := PW.pt h
theorem tNotT (ha : OkT z a ta) : OkT z (.UnaryOp .Not a pos) (tNot ta) := ok_t (pt_not ha) (st_not sim_t)
theorem kOne {op : BoolOp} (ha : OkE z a ma) : OkE z (.BoolOp op [a] pos) ma := ok_e (pe_one ha) sim_e
theorem kAnd (ha : OkE z a ma) (hb : OkE z (.BoolOp .And (b :: rest) pos) mb) : OkE z (.BoolOp .And (a :: b :: rest) pos) (eAnd ma mb) := ok_e (pe_and ha hb) (se_and sim_e sim_e)
theorem kOr (ha : OkE z a ma) (hb : OkE z (.BoolOp .Or (b :: rest) pos) mb) : OkE z (.BoolOp .Or (a :: b :: rest) pos) (eOr ma mb) := ok_e (pe_or ha hb) (se_or sim_e sim_e)
theorem kNot (ha : OkE z a ma) : OkE z (.UnaryOp .Not a pos) (eNot ma) := ok_e (pe_not ha) (se_not sim_e)
theorem kIf {c : Expr} (hc : OkT z c tc) (ha : OkE z a ma) (hb : OkE z b mb) : OkE z (.IfExp c a b pos) (eIf tc ma mb) := ok_e (pe_ifExp hc ha hb) (se_if sim_t sim_e sim_e)
end
end B
namespace B
open PySem L2 PySem.Spec PyProof.Rows
/-! ### more rules by values -/
theorem ix_dct {X : Cx} (hu : X.A.units + 1 < cLine) : IxR X (fun x y H Q => ∃ a v, x = .ref a ∧ DGet H a y (some v) ∧ Q v H) := by
  intro value slice pins s σ H x y v u Q I rx ry h hs
  obtain ⟨a, r, rfl, g, q⟩ := h
  obtain rfl : v = Value.ref a := rx
  have ht : s.TypeIs (.ref a) "dict" := (isD_at I (by
    rcases g with ⟨kvs, k, e, _⟩ | ⟨kvs, k, b, e, _⟩
    · exact .inl ⟨kvs, e⟩
    · exact .inr ⟨kvs, e⟩)).1
  exact tail_any ht slot_dict_getitem.lookup (d_getItem hu I g ry fun w' s' I' r' => ⟨r, H, I', r', q⟩) hs
section
variable {z : Zx} {k : Nat} {a b e : Expr} {es : List Expr} {ma mb m : Ev} {ms : List Ev} {pos : Pos}
def rIxA (K : PySem.W.Frag) : R2 := fun x y H Q => rIx K x y H Q ∨ ∃ a v, x = .ref a ∧ DGet H a y (some v) ∧ Q v H
theorem atI_get' {α β : Type} {P : α → β → Prop} {l : List α} {vs : List β} (hl : l.length = vs.length) (hg : ∀ (i : Nat) (w : α), l[i]? = some w → ∃ v, vs[i]? = some v ∧ P w v) {i : Int} {w : α} (h : atI l i = some w) : ∃ v, L2.atI vs i = some v ∧ P w v := by
  unfold atI at h
  unfold L2.atI
  rw [hl] at h
  cases q : ixN vs.length i with
  | none => rw [q] at h; cases h
  | some j =>
    rw [q] at h
    obtain ⟨v, h1, h2⟩ := hg j w h
    exact ⟨v, by
      show (L2.ixN vs.length i).bind _ = _
      rw [show L2.ixN vs.length i = some j from q]; exact h1, h2⟩
theorem ixW_rep {B : Bx} {Wi : XK} {ρ : List Addr} {G H : Hp} {S : Sto} {l : List W} {vs : List V} {y : W} {u : V} {Q : VK} (R : Rel B ρ G S H) (r : RepWs B.K ρ G l vs) (ry : RepW B.K ρ G y u) (q : Post B Wi ρ G H (ixW l y S) Q) :
    ∃ i v, u = .int i ∧ L2.atI vs i = some v ∧ Q v H := by
  unfold ixW at q
  split at q
  · rename_i i
    cases e : atI l i with
    | none => rw [e] at q; exact False.elim q
    | some w =>
      rw [e] at q
      obtain ⟨v, h1, h2⟩ := atI_get' r.length (fun i w h => r.get h) e
      exact ⟨i, v, rep_int ry, h1, q _ _ _ _ (Le.refl _ _ _) R h2⟩
  · exact False.elim q
theorem dat_key {B : Bx} {ρ : List Addr} {G H : Hp} {S : Sto} (R : Rel B ρ G S H) {y : W} {u : V} (ry : RepW B.K ρ G y u) {Wi : XK} {f : D → VS} {Q : VK} (q : Post B Wi ρ G H ((dat S y).bind f) Q) : ∃ x, dat S y = .ok x ∧ Rep B.K H x u ∧ Post B Wi ρ G H (f x) Q := by
  rcases dat_cases S y with ⟨x, e⟩ | e
  · rw [e] at q; exact ⟨x, e, dat_rep R e ry, q⟩
  · rw [e] at q; exact False.elim q
theorem rep_cell {B : Bx} {G H : Hp} {t : Bool} {l : List (D × D)} {a : Addr} {ρ : List Addr} (h : Same G H) (c : CellR B ρ G H a (.m t l)) : Rep B.K H (.dct t l) (.ref a) := by
  cases t with
  | false =>
    obtain ⟨kv, h1, h2, h3⟩ := c
    exact .dk (.inl h1) h2 (h3.mono h)
  | true =>
    obtain ⟨kv, h1, h2, h3⟩ := c
    exact .dt (.inl h1) h2 (h3.mono h)
/-- a look-up in a dict of the store whose values are any -/
theorem dget_mw {B : Bx} {ρ : List Addr} {G H : Hp} {t : Bool} {l : List (D × W)} {x : D} {a : Addr} {v : V} (h : CellR B ρ G H a (.mw t l)) (rx : Rep B.K H x v) (hk : keyOk t x = true) : ∃ o, DGet H a v o ∧ OptR (RepW B.K ρ G) (lookD l x) o := by
  cases t with
  | false =>
    obtain ⟨kv, h1, h2, h3⟩ := h
    obtain ⟨j, hj⟩ := keyOk_f hk
    exact ⟨_, .inl ⟨_, j, .inl h1, kV_of rx hj, rfl⟩, look_rel keyK (fun _ _ _ _ => keyK_eqv) hj l _ h2 h3.al⟩
  | true =>
    obtain ⟨kv, h1, h2, h3⟩ := h
    obtain ⟨j, hj⟩ := keyOk_t hk
    cases x <;> simp only [keyT, reduceCtorEq] at hj
    cases rx with
    | tup q1 r1 =>
      rw [kVs_of r1 hj] at q1
      exact ⟨_, .inr ⟨_, j, _, .inl h1, rfl, q1, rfl⟩, look_rel keyT (fun _ _ _ _ => keyT_eqv) (x := .tup _) hj l _ h2 h3.al⟩
theorem ixM_rep {B : Bx} {Wi : XK} {ρ : List Addr} {G H : Hp} {S : Sto} {t : Bool} {l : List (D × D)} {y : W} {u : V} {Q : VK} {w : V} (R : Rel B ρ G S H) (r : Rep B.K G (.dct t l) w ∨ ∃ a, w = .ref a ∧ CellR B ρ G H a (.m t l)) (ry : RepW B.K ρ G y u) (q : Post B Wi ρ G H (ixM t l y S) Q) :
    ∃ a v, w = .ref a ∧ DGet H a u (some v) ∧ Q v H := by
  obtain ⟨x, _, rx, q⟩ := dat_key R ry q
  obtain ⟨hk, q⟩ := postN q
  -- where its values live: in G
  have go : ∃ a o, w = .ref a ∧ DGet H a u o ∧ OptR (Rep B.K G) (lookD l x) o := by
    have keys : ∀ {a : Addr}, (∃ kv, Rd H a (.dK kv) ∧ t = false ∧ l.map (fun p => keyK p.1) = kv.map (fun p => some p.1) ∧ RepL B.K G (l.map (·.2)) (kv.map (·.2))) ∨ (∃ kv, Rd H a (.dT kv) ∧ t = true ∧ l.map (fun p => keyT p.1) = kv.map (fun p => some p.1) ∧ RepL B.K G (l.map (·.2)) (kv.map (·.2))) →
        ∃ o, DGet H a u o ∧ OptR (Rep B.K G) (lookD l x) o := fun {a} h => by
      rcases h with ⟨kv, h1, rfl, h2, h3⟩ | ⟨kv, h1, rfl, h2, h3⟩
      · obtain ⟨j, hj⟩ := keyOk_f hk
        exact ⟨_, .inl ⟨_, j, h1, kV_of rx hj, rfl⟩, look_rel keyK (fun _ _ _ _ => keyK_eqv) hj l _ h2 h3.al⟩
      · obtain ⟨j, hj⟩ := keyOk_t hk
        cases x <;> simp only [keyT, reduceCtorEq] at hj
        cases rx with
        | tup q1 r1 =>
          rw [kVs_of r1 hj] at q1
          exact ⟨_, .inr ⟨_, j, _, h1, rfl, q1, rfl⟩, look_rel keyT (fun _ _ _ _ => keyT_eqv) (x := .tup _) hj l _ h2 h3.al⟩
    rcases r with r | ⟨a, rfl, c⟩
    · cases r with
      | dk h1 h2 h3 => obtain ⟨o, g1, g2⟩ := keys (.inl ⟨_, Same.rd R.ex h1, rfl, h2, h3⟩); exact ⟨_, o, rfl, g1, g2⟩
      | dt h1 h2 h3 => obtain ⟨o, g1, g2⟩ := keys (.inr ⟨_, Same.rd R.ex h1, rfl, h2, h3⟩); exact ⟨_, o, rfl, g1, g2⟩
    · cases t with
      | false => obtain ⟨kv, h1, h2, h3⟩ := c; obtain ⟨o, g1, g2⟩ := keys (.inl ⟨_, .inl h1, rfl, h2, h3⟩); exact ⟨_, o, rfl, g1, g2⟩
      | true => obtain ⟨kv, h1, h2, h3⟩ := c; obtain ⟨o, g1, g2⟩ := keys (.inr ⟨_, .inl h1, rfl, h2, h3⟩); exact ⟨_, o, rfl, g1, g2⟩
  obtain ⟨a, o, rfl, g, oo⟩ := go
  cases e : lookD l x with
  | none => rw [e] at q; exact False.elim q
  | some v0 =>
    rw [e] at q oo
    cases o with
    | none => exact False.elim oo
    | some v => exact ⟨a, v, rfl, g, post_d R oo q⟩
theorem so_ix : SimR z.B (rIxA z.X.K) oIx := by
  intro Wi ρ G S H x y v u Q R rx ry q
  have li : ∀ {l : List W} {vs : List V} {p : Addr}, v = .ref p → SqL z.X.K H p vs → RepWs z.X.K ρ G l vs → Post z.B Wi ρ G H (ixW l y S) Q → rIxA z.X.K v u H Q := fun {l vs p} e h r q => by
    obtain ⟨i, w, h1, h2, h3⟩ := ixW_rep R r ry q
    exact .inl (.inl ⟨p, vs, i, w, e, h1, h, h2, h3⟩)
  have ti : ∀ {l : List W} {vs : List V} {p : Addr}, v = .ref p → SqT z.X.K H p vs → RepWs z.X.K ρ G l vs → Post z.B Wi ρ G H (ixW l y S) Q → rIxA z.X.K v u H Q := fun {l vs p} e h r q => by
    obtain ⟨i, w, h1, h2, h3⟩ := ixW_rep R r ry q
    exact .inl (.inr (.inl ⟨p, vs, i, w, e, h1, h, h2, h3⟩))
  unfold oIx at q
  split at q
  · rename_i s0
    unfold ixS at q
    split at q
    · rename_i i
      obtain ⟨h1, q⟩ := postN q
      cases e : atI s0 i with
      | none => rw [e] at q; exact False.elim q
      | some c =>
        rw [e] at q
        have e2 : L2.atI (sof s0).cps.toList i = some c := by rw [sof_cps]; exact e
        exact .inl (.inr (.inr ⟨_, i, c, rep_str rx, rep_int ry, by rw [sof_len]; exact sizeL_le (of_decide_eq_true h1), e2, post_d R (.str [c]) q⟩))
    · exact False.elim q
  · cases rx with
    | d rx => cases rx with
      | lst h r => exact li rfl (.inl (.inl (R.ex _ _ h))) r.ws q
  · cases rx with
    | d rx => cases rx with
      | tup h r => exact ti rfl (.inl (.inl (R.ex _ _ h))) r.ws q
  · cases rx with
    | d rx => cases rx with
      | inp h r => exact li rfl (R.ex.seq h) r.ws q
  · cases rx with
    | d rx => cases rx with
      | inq h r => exact ti rfl (Same.sqt R.ex (sqq h)) r.ws q
  · cases rx with
    | d rx => exact .inr (ixM_rep R (.inl rx) ry q)
  · cases rx with
    | tw h r => exact ti rfl (.inl (.inl (R.ex _ _ h))) r q
  · cases rx with
    | loc ha =>
      obtain ⟨c, hc, hr⟩ := R.at_ ha
      rw [hc] at q
      cases c with
      | l xs =>
        obtain ⟨vs, h1, h2⟩ := hr
        exact li rfl (.inl (.inl h1)) h2.ws q
      | w xs =>
        obtain ⟨vs, h1, h2⟩ := hr
        exact li rfl (.inl (.inl h1)) h2 q
      | m t kv => exact .inr (ixM_rep R (.inr ⟨_, rfl, hr⟩) ry q)
      | mw t kv =>
        obtain ⟨x0, _, rx0, q⟩ := dat_key R ry q
        obtain ⟨hk, q⟩ := postN q
        obtain ⟨o, g, oo⟩ := dget_mw hr rx0 hk
        cases e : lookD kv x0 with
        | none => rw [e] at q; exact False.elim q
        | some w0 =>
          rw [e] at q oo
          cases o with
          | none => exact False.elim oo
          | some w1 => exact .inr ⟨_, w1, rfl, g, q _ _ _ _ (Le.refl _ _ _) R oo⟩
      | o _ _ => exact False.elim q
  · exact False.elim q
theorem kIx (c : Ctx k z) (ha : OkE z a ma) (hb : OkE z b mb) (hs : PlainIx b := by intro _ _; rfl) : OkE z (.Subscript a b pos) (e2 oIx ma mb) := ok_e (pe_ix (ix_seq.or (ix_dct (by have := c.hr.un; omega))) ha hb hs) (se_op so_ix sim_e sim_e)

/-! ### slices -/
theorem RepL.take' {K : PySem.W.Frag} {G : Hp} : ∀ {l : List D} {vs : List V} (n : Nat), RepL K G l vs → RepL K G (l.take n) (vs.take n)
  | _, _, 0, _ => .nil
  | _, _, _ + 1, .nil => .nil
  | _, _, n + 1, .cons h r => .cons h (RepL.take' n r)
theorem RepL.drop' {K : PySem.W.Frag} {G : Hp} : ∀ {l : List D} {vs : List V} (n : Nat), RepL K G l vs → RepL K G (l.drop n) (vs.drop n)
  | _, _, 0, r => r
  | _, _, _ + 1, .nil => .nil
  | _, _, n + 1, .cons _ r => RepL.drop' n r
theorem sIx_eq (n d : Nat) (i : Option Int) : sIx n d i = HT.sIx n d i := by cases i <;> rfl
theorem cut_eq {α : Type} (l : List α) (lo hi : Option Int) : cut l lo hi = (l.drop (HT.sIx l.length 0 lo)).take (HT.sIx l.length l.length hi - HT.sIx l.length 0 lo) := by
  unfold cut
  rw [sIx_eq, sIx_eq]
theorem cut_L {K : PySem.W.Frag} {G : Hp} {l : List D} {vs : List V} (r : RepL K G l vs) (lo hi : Option Int) : RepL K G (cut l lo hi) (cutV vs lo hi) := by
  rw [cut_eq, cutV, r.length]
  exact (r.drop' _).take' _
theorem cut_W {K : PySem.W.Frag} {ρ : List Addr} {G : Hp} {l : List W} {vs : List V} (r : RepWs K ρ G l vs) (lo hi : Option Int) : RepWs K ρ G (cut l lo hi) (cutV vs lo hi) := by
  rw [cut_eq, cutV, r.length]
  exact (r.drop _).take _
def rSlAll (K : PySem.W.Frag) : V → Option Int → Option Int → Hp → VK → Prop := fun x lo hi H Q => rSlL K x lo hi H Q ∨ rSlA K x lo hi H Q ∨ rSlS x lo hi H Q
theorem sl_all {X : Cx} : SlR X (rSlAll X.K) := sl_list.or (sl_tupA.or sl_str)
theorem whole_cut {α : Type} (l : List α) (lo hi : Option Int) (h : HT.sIx l.length 0 lo = 0 ∧ HT.sIx l.length l.length hi = l.length) : cut l lo hi = l := by
  rw [cut_eq, h.1, h.2]; simp
theorem so_slice {Wi : XK} {ρ : List Addr} {G H : Hp} {S : Sto} {x : W} {v : V} {Q : VK} (lo hi : Option Int) (R : Rel z.B ρ G S H) (rx : RepW z.X.K ρ G x v) (q : Post z.B Wi ρ G H (slice lo hi x S) Q) : rSlAll z.X.K v lo hi H Q := by
  have list : ∀ {l : List W} {vs : List V} {p : Addr}, v = .ref p → SqL z.X.K H p vs → RepWs z.X.K ρ G l vs → Post z.B Wi ρ G H ((ofO (asDs (cut l lo hi))).bind fun l => .ok (.d (.lst l), S)) Q → rSlAll z.X.K v lo hi H Q := fun {l vs p} e h r q => by
    cases e2 : asDs (cut l lo hi) with
    | none => rw [e2] at q; exact False.elim q
    | some ds =>
      rw [e2] at q
      refine .inl ⟨p, vs, e, h, fun t ht => ?_⟩
      obtain ⟨R2, l2⟩ := R.froz (.lst (cutV vs lo hi)) ht
      exact q _ _ _ _ l2 R2 (.d (.lst upd_same (((cut_W r lo hi).asDs e2).mono l2.ex)))
  unfold slice at q
  split at q
  · rename_i s0
    obtain ⟨h1, q⟩ := postN q
    refine .inr (.inr ⟨_, rep_str rx, by rw [sof_len]; exact sizeL_le (of_decide_eq_true h1), ?_⟩)
    have : cutS (sof s0) lo hi = sof (cut s0 lo hi) := by
      unfold cutS
      rw [cut_eq, sof_cps, sof_len]; rfl
    rw [this]
    exact post_d R (.str _) q
  · rename_i l
    cases rx with
    | d rx => cases rx with
      | tup h r =>
        rename_i a vs
        refine .inr (.inl ⟨_, vs, rfl, .inl (.inl (R.ex _ _ h)), fun w => ?_, fun _ p hp => ?_⟩)
        · rw [← r.length] at w
          rw [whole_cut l lo hi w] at q
          exact post_d R (.tup h r) q
        · obtain ⟨R2, l2⟩ := R.froz (.tup (cutV vs lo hi)) hp
          exact q _ _ _ _ l2 R2 (.d (.tup upd_same ((cut_L r lo hi).mono l2.ex)))
  · rename_i l
    cases rx with
    | d rx => cases rx with
      | inp h r =>
        rename_i a vs
        refine .inl ⟨a, vs, rfl, R.ex.seq h, fun t ht => ?_⟩
        obtain ⟨R2, l2⟩ := R.froz (.lst (cutV vs lo hi)) ht
        exact q _ _ _ _ l2 R2 (.d (.lst upd_same ((cut_L r lo hi).mono l2.ex)))
  · rcases lstOf_cases S x with ⟨l, e⟩ | e
    · rw [e, _root_.B.R.bind_ok] at q
      obtain ⟨p, vs, rfl, hs, r⟩ := lstOf_rep R e rx
      exact list rfl (.inl (.inl hs)) r q
    · rw [e] at q; exact False.elim q
/-! the ends of a slice -/
def SimO (B : Bx) (Wi : WX) (t : TO) (m : Option Ev) : Prop := ∀ ρ G S H env σ (Q : Option Int → Hp → Prop), Rel B ρ G S H → EnvR B ρ G env σ → (match pt m env S with
  | .ok (i, S') => ∀ ρ' G' H', Le ρ G H ρ' G' H' → Rel B ρ' G' S' H' → Q i H'
  | .ex x S' => ∀ ρ' G' H' c d, Le ρ G H ρ' G' H' → Rel B ρ' G' S' H' → RepX B G' x c d H' → Wi c d σ H'
  | .stuck => False) → t σ H Q
def OkO (z : Zx) (e : Option Expr) (m : Option Ev) : Prop := ∃ t, PO z.X e t ∧ SimO z.B z.Wi t m
theorem oNone : OkO z none none := ⟨_, po_none, fun ρ G S H env σ Q R E h => h _ _ _ (Le.refl _ _ _) R⟩
theorem oSome (ha : OkE z a ma) : OkO z (some a) (some ma) := ⟨_, po_some ha, fun ρ G S H env σ Q R E h => by
  refine sim_e ρ G S H env σ _ R E ?_
  simp only [pt] at h
  cases e : ma env S with
  | stuck => rw [e] at h; exact h
  | ex x S1 => rw [e] at h; exact h
  | ok p =>
    rw [e] at h
    intro ρ1 G1 H1 v l1 R1 r1
    rw [_root_.B.R.bind_ok] at h
    cases e2 : asI p.1 with
    | stuck => rw [e2] at h; exact False.elim h
    | ex x S1 => unfold asI at e2; split at e2 <;> cases e2
    | ok i =>
      rw [e2] at h
      unfold asI at e2
      split at e2
      · rename_i j e3
        cases e2
        rw [e3] at r1
        exact ⟨j, rep_int r1, h _ _ _ l1 R1⟩
      · cases e2⟩
theorem simO_ex {ρ : List Addr} {G H : Hp} {S : Sto} {env : Env} {σ : L2.St} {lo : Option Ev} {f : Option Int × Sto → VS} {Q : VK} {t : TO} {Wi : WX} {Q' : Option Int → Hp → Prop} (s : SimO z.B Wi t lo) (R : Rel z.B ρ G S H) (E : EnvR z.B ρ G env σ)
    (h : Post z.B (atS Wi σ) ρ G H ((pt lo env S).bind f) Q) (k : ∀ i S' ρ' G' H', Le ρ G H ρ' G' H' → Rel z.B ρ' G' S' H' → Post z.B (atS Wi σ) ρ' G' H' (f (i, S')) Q → Q' i H') : t σ H Q' := by
  refine s ρ G S H env σ Q' R E ?_
  cases e : pt lo env S with
  | stuck => rw [e] at h; exact h
  | ex x S1 => rw [e] at h; exact h
  | ok p => rw [e] at h; exact fun ρ1 G1 H1 l1 R1 => k p.1 p.2 ρ1 G1 H1 l1 R1 (post_le l1 h)
theorem kSl {lo hi : Option Expr} {ml mh : Option Ev} {p2 : Pos} (ha : OkE z a ma) (hl : OkO z lo ml) (hh : OkO z hi mh) : OkE z (.Subscript a (.Slice lo hi none p2) pos) (eSl ma ml mh) := by
  obtain ⟨tl, l1, l2⟩ := hl
  obtain ⟨th, h1, h2⟩ := hh
  refine ok_e (pe_slice sl_all ha l1 h1) ?_
  intro ρ G S H env σ Q R E h
  refine sim_e ρ G S H env σ _ R E (post_bind h fun w S1 ρ1 G1 H1 v le1 R1 r1 q1 => ?_)
  refine simO_ex l2 R1 (le1.env E) q1 fun i S2 ρ2 G2 H2 le2 R2 q2 => ?_
  refine simO_ex h2 R2 (le2.env (le1.env E)) q2 fun j S3 ρ3 G3 H3 le3 R3 q3 => ?_
  exact so_slice i j R3 (le3.w (le2.w r1)) q3
end
end B
/-! sorted of a tuple of ints -/
namespace PyProof.Rows
open PySem
section
variable {prog : Program} {w : World} {A : Around} {E : Value → Shared → Prop} {s : Shared}
theorem collect_tupB {l : Addr} {vs : List Value} {Q : List Value → Shared → Prop} (hl : IsTup s.heap l vs.toArray)
    (h : Q vs { s with heap := (s.heap.push (seqObj "list" #[] 0)).update s.heap.objs.size (Obj.mapSeq (· ++ vs.toArray)) }) (hsz : vs.length ≤ sizeLine) :
    wpAny (model prog w) A (collect (.ref l)) Q E s := by
  obtain ⟨o, ho, hc, n, hd⟩ := id hl
  unfold collect
  refine wpAny_bind (wpAny_runValue (codeAny_builtin entry_proto_collect' ?_))
  show wpAny _ _ (do again (.builtin "list.__iadd__" ⟨[← newList [], .ref l], []⟩)) _ _ s
  refine wpAny_bind (wpAny_newList (wpAny_pure ⟨Code.quiet_builtin _ (by decide +kernel), codeAny_builtin entry_list_iadd' ?_⟩))
  show wpAny _ _ (Builtin.List.listExtendWith (.ref s.heap.objs.size) (.ref l) (.ref s.heap.objs.size)) _ _ { s with heap := s.heap.push (seqObj "list" #[] 0) }
  unfold Builtin.List.listExtendWith
  have ho' : (s.heap.push (seqObj "list" #[] 0)).get? l = some o := Heap.get?_push_of_some _ ho
  refine wpAny_bind (wpAny_typeOf (T := "tuple") ⟨o, ho', hc⟩ ?_)
  have ht : (Value.type "tuple" == Value.type "tuple") = true := by rfl
  rw [if_pos (by rw [ht]; simp)]
  refine wpAny_bind (listItems_at ho' hd ?_)
  refine wpAny_bind (listItems_at (xs := #[]) (n := 0) (Heap.get?_push_size _ rfl) rfl ?_)
  rw [if_neg (by simp)]
  refine wpAny_bind (listUpdate_at (xs := #[]) (n := 0) (Heap.get?_push_size _ rfl) rfl ?_ (Nat.zero_le _) (by show (#[] ++ vs.toArray).size ≤ sizeLine + 1; simp only [Array.size_append, List.size_toArray, List.length_nil]; omega))
  refine wpAny_pure ?_
  show wpAny (model prog w) A (do
      let o ← load s.heap.objs.size
      match o.data with
      | .seq xs _ => pure xs.toList
      | _ => unsupported "internal:collect") Q E { s with heap := (s.heap.push (seqObj "list" #[] 0)).update s.heap.objs.size (Obj.mapSeq (· ++ vs.toArray)) }
  refine wpAny_bind (wpAny_load (get?_update_seq (Heap.get?_push_size _ rfl) _) ?_)
  show wpAny _ _ (pure ((#[] : Array Value) ++ vs.toArray).toList) Q E _
  rw [show ((#[] : Array Value) ++ vs.toArray).toList = vs by simp]
  exact wpAny_pure h
end
end PyProof.Rows
namespace SrtO
open PySem PyProof.Rows Srt
section
variable {prog : Program} {w : World} {A : Around} {E : Value → Shared → Prop} {s : Shared}
theorem sorted_ordT {l : Addr} {vs : List Value} {ltv : Value → Value → Bool} {Q : Value → Shared → Prop} (O : Swo ltv) (hl : IsTup s.heap l vs.toArray) (hz : vs.length ≤ sizeLine)
    (hS : 2 ≤ vs.length → ∀ (h₁ : Heap) (a : Addr), h₁.get? a = some (seqObj "list" vs.toArray 0) → (∀ b o, s.heap.get? b = some o → b ≠ a ∧ h₁.get? b = some o) → SortableO prog w A.in1.in1 { s with heap := h₁ } a vs ltv)
    (h : ∀ out : List Value, Srtd ltv out → Stb ltv out vs → Q (.ref (s.heap.objs.size + 1)) { s with heap := sortedAll s.heap vs out.toArray }) :
    wpAny (model prog w) A (call (.builtin "sorted") [.ref l]) Q E s := by
  refine Calls.call_function_entry kind_sorted plain_sorted entry_sorted (args_sorted1 _) ?_
  unfold Builtin.«sorted»
  refine wpAny_bind (m := checkCount "sorted" 1 1 _) (wpAny_pure ?_)
  refine wpAny_bind (collect_tupB hl ?_ hz)
  refine wpAny_bind (wpAny_newList ?_ hz)
  have hsz : ((s.heap.push (seqObj "list" #[] 0)).update s.heap.objs.size (Obj.mapSeq (· ++ vs.toArray))).objs.size = s.heap.objs.size + 1 := by
    rw [Heap.size_update, size_push']
  have hoL : (((s.heap.push (seqObj "list" #[] 0)).update s.heap.objs.size (Obj.mapSeq (· ++ vs.toArray))).push (seqObj "list" vs.toArray 0)).get? (s.heap.objs.size + 1) = some (seqObj "list" vs.toArray 0) := by
    rw [← hsz]; exact Heap.get?_push_size _ rfl
  have keep : ∀ b o, s.heap.get? b = some o → b ≠ s.heap.objs.size + 1 ∧ (((s.heap.push (seqObj "list" #[] 0)).update s.heap.objs.size (Obj.mapSeq (· ++ vs.toArray))).push (seqObj "list" vs.toArray 0)).get? b = some o := fun b o q => by
    have hlt : b < s.heap.objs.size := Heap.lt_size q
    refine ⟨Nat.ne_of_lt (Nat.lt_succ_of_lt hlt), Heap.get?_push_of_some _ ?_⟩
    rw [Heap.get?_update_ne _ _ _ _ (Nat.ne_of_lt hlt)]
    exact Heap.get?_push_of_some _ q
  show wpAny _ _ _ _ _ { s with heap := ((s.heap.push (seqObj "list" #[] 0)).update s.heap.objs.size (Obj.mapSeq (· ++ vs.toArray))).push (seqObj "list" vs.toArray 0) }
  rw [hsz]
  refine wpAny_bind (wpAny_holding (wpAny_call_entry slot_list_sort ⟨_, hoL, rfl⟩ entry_list_sort (list_sort_ord O hoL hz (fun h2 => hS h2 _ _ hoL keep) fun out hs hb => ⟨_, rfl, ?_⟩) (args_list_sort _)))
  exact wpAny_pure ⟨_, rfl, h out hs hb⟩
end
end SrtO
namespace L2
open PySem PySem.Spec PyProof.Rows
theorem cr_sortedIT {X : Cx} : CallR X (.builtin "sorted") (fun vs H Q => ∃ (a : Addr) (ns : List Int), vs = [V.ref a] ∧ SqT X.K H a (ns.map V.int) ∧
  ∀ (ns' : List Int) (p : Addr), ns'.Perm ns → ns'.Pairwise (· ≤ ·) → H p = none → Q (.ref p) (upd H p (.lst (ns'.map V.int)))) := by
  intro pins s σ H vs us Q I r h
  obtain ⟨a, ns, rfl, hs, q⟩ := h
  obtain ⟨its, rv, hl, hz⟩ := I.tuple hs
  rw [Vals.ref1 r]
  have hi := rv.ints
  refine SrtO.sorted_ordT SrtO.swo_int hl (by rw [← rv.length]; exact hz) (fun h2 h₁ a' _ _ => SrtO.ints_sortable hi h2) fun out h1 h2 => ?_
  obtain ⟨k1, k2, k3⟩ := SrtO.ints_out hi h1 h2
  obtain ⟨ep, he'⟩ := PyProof.Rows.sortedAll_at s.heap its out.toArray
  have hlen : ((out.map SrtO.iv).map V.int).length ≤ sizeLine := by
    rw [List.length_map, k2.length_eq]
    rw [List.length_map] at hz
    exact hz
  exact ⟨.ref _, upd H (s.heap.objs.size + 1) (.lst ((out.map SrtO.iv).map V.int)), I.laid (t' := s.toks) (fun _ _ => PyProof.Rows.sortedAll_old) (Nat.le_succ _) ⟨hlen, out, ep, vals_of_ints k1, he'⟩, rfl, q _ _ k2 k3 (I.hok.fresh (Nat.le_succ _))⟩
end L2
namespace PySem.AutoSeq1
open PySem
open PySem.Sem (wp)
theorem list_extend_list_tupleB (l : Addr) (items : Array Value) (n : Nat) (b : Addr) (items2 : Array Value) (n2 : Nat) (dd : Option Addr) (sl : Array (Option Value)) (hs0 : ¬(!items.isEmpty && Builtin.List.listTooLong (items.size + items2.size)) = true) (hs1 : items.size ≤ sizeLine) (hs2 : items.size + items2.size ≤ sizeLine + 1) :
    Meets (Builtin.«list.extend» ⟨[.ref l, .ref b], []⟩) (fun _ R s => s.heap.get? l = some { cls := .type "list", dict := none, data := .seq items n, slots := #[] } ∧ s.heap.get? b = some { cls := .type "tuple", dict := dd, data := .seq items2 n2, slots := sl } ∧ R (.ok (.ret Value.none)) { s with heap := s.heap.update l (Obj.mapSeq fun x => x ++ items2), toks := s.toks }) :=
  .of_wp fun prog w A R s h => by
    obtain ⟨hp, g, d, tk, os⟩ := s; obtain ⟨hl, hb, h⟩ := h; have f1 := idx_int; have f2 := sub_tuple_tuple; have f3 := sub_list_list; have f4 := sub_tuple_list; have f5 := sub_list_tuple;
    have hz' : (items ++ items2).size ≤ sizeLine + 1 := by rw [Array.size_append]; exact hs2
    wp_walk using (wpAny_updateSeq hl rfl (hz := hs1) (_hz' := hz')), wpAny_loadPart' hl, wpAny_loadPart' hb; exact ⟨_, rfl, h⟩
end PySem.AutoSeq1
namespace B
open PySem L2 PySem.Spec PyProof.Rows
/-- xs.extend(t), t a tuple -/
theorem mt_extendT {X : Cx} : MtM X "list.extend" (fun x vs H Q => ∃ l b xs zs, x = .ref l ∧ vs = [.ref b] ∧ H l = some (.lst xs) ∧ H b = some (.tup zs) ∧ xs.length + zs.length ≤ sizeLine ∧ Q .non (upd H l (.lst (xs ++ zs)))) := by
  intro pins s σ H x vs v us Q I rx rv h
  obtain ⟨l, b, xs, zs, rfl, rfl, hH, hB, hz, q⟩ := h
  cases rx
  obtain ⟨u, rfl, ru⟩ := rv.one
  cases ru
  obtain ⟨z, its, n, r, hl, e⟩ := I.lstM hH
  obtain ⟨z2, its2, r2, o2, e2, hc2, n2, hd2⟩ := I.hok b _ hB
  have hl2 := r2.length
  have hsz : its.toArray.size + its2.toArray.size ≤ sizeLine := by rw [List.size_toArray, List.size_toArray]; omega
  have hlong : ¬ (!its.toArray.isEmpty && Builtin.List.listTooLong (its.toArray.size + its2.toArray.size)) = true := by
    rw [notLongL hsz, Bool.and_false]
    exact Bool.false_ne_true
  refine call_meets F.slot_list_extend ⟨_, e, rfl⟩ F.entry_list_extend (F.args_list_extend_2 _ _)
    (AutoSeq1.list_extend_list_tupleB l its.toArray n b its2.toArray n2 o2.dict o2.slots hlong (by rw [List.size_toArray]; omega) (by omega)) ⟨e, ?_, ?_⟩
  · rw [e2]
    obtain ⟨c2, d2, dat2, sl2⟩ := o2
    simp only at hc2 hd2
    subst hc2
    subst hd2
    rfl
  · refine ⟨.non, _, I.lset (its' := its ++ its2) hH e (by simp) (r.append r2) ?_, rfl, q⟩
    rw [List.length_append]
    omega

section
variable {z : Zx} {k : Nat} {a b c e : Expr} {es : List Expr} {ma mb mc m : Ev} {ms : List Ev} {pos : Pos}
/-! ### argument lists, displays -/
theorem aNil : OkA z [] [] := ok_a pa_nil sa_nil
theorem aCons (he : OkE z e m) (hr : OkA z es ms) (hs : starEach (e :: es) z.X.env = (false, eval e z.X.env) :: starEach es z.X.env := by rfl) : OkA z (e :: es) (m :: ms) := ok_a (pa_cons he hr hs) (sa_cons sim_e sim_a)
theorem aOne (he : OkE z e m) (hs : starEach [e] z.X.env = (false, eval e z.X.env) :: starEach [] z.X.env := by rfl) : OkA z [e] [m] := aCons he aNil hs
theorem se_N {ta : TA} {r : List V → Hp → VK → Prop} {f : Fn} {Wi : WX} (hr : ∀ σ, SimN z.B (atS Wi σ) r f) (ha : SimA z.B Wi ta ms) : SimE z.B Wi (fun σ H Q => ta σ H fun vs H1 => r vs H1 Q) (eN f ms) := fun ρ G S H env σ Q R E h =>
  sa_run (f := f) ha R E h fun l S1 ρ1 G1 H1 vs l1 R1 r1 q => hr σ ρ1 G1 S1 H1 l vs Q R1 r1 q
theorem tupW_rep {ρ : List Addr} {G : Hp} {K : PySem.W.Frag} {l : List W} {vs : List V} {p : Addr} (h : G p = some (.tup vs)) (r : RepWs K ρ G l vs) : RepW K ρ G (tupW l) (.ref p) := by
  unfold tupW
  cases e : asDs l with
  | some ds => exact .d (.tup h (r.asDs e))
  | none => exact .tw h r
theorem sn_tup {Wi : XK} : SimN z.B Wi (fun vs H Q => vs.length ≤ sizeLine ∧ ∀ p, H p = none → Q (.ref p) (upd H p (.tup vs))) fTup := by
  intro ρ G S H l vs Q R r h
  obtain ⟨h1, h⟩ := postN h
  refine ⟨by rw [← r.length]; exact sizeL_le (of_decide_eq_true h1), fun p hp => ?_⟩
  obtain ⟨R2, l2⟩ := R.froz (.tup vs) hp
  exact h _ _ _ _ l2 R2 (tupW_rep upd_same (l2.ws r))
theorem kTup {x1 : Nat} (ha : OkA z es ms) : OkE z (.Tuple es x1 pos) (eN fTup ms) := ok_e (pe_tup ha) (se_N (fun _ => sn_tup) sim_a)
/-- a new list, data -/
theorem lst_new {Wi : XK} {ρ : List Addr} {G H : Hp} {S : Sto} {l : List W} {vs : List V} {p : Addr} {Q : VK} (R : Rel z.B ρ G S H) (r : RepWs z.X.K ρ G l vs) (h : Post z.B Wi ρ G H ((ofO (asDs l)).bind fun l => .ok (.d (.lst l), S)) Q) (hp : H p = none) : Q (.ref p) (upd H p (.lst vs)) := by
  cases e : asDs l with
  | none => rw [e] at h; exact False.elim h
  | some ds =>
    rw [e] at h
    obtain ⟨R2, l2⟩ := R.froz (.lst vs) hp
    exact h _ _ _ _ l2 R2 (.d (.lst upd_same ((r.asDs e).mono l2.ex)))
/-- a new list in the store -/
theorem lst_newC {Wi : XK} {ρ : List Addr} {G H : Hp} {S : Sto} {l : List W} {vs : List V} {p : Addr} {Q : VK} (R : Rel z.B ρ G S H) (r : RepWs z.X.K ρ G l vs) (h : Post z.B Wi ρ G H (newL l S) Q) (hp : H p = none) : Q (.ref p) (upd H p (.lst vs)) := by
  unfold newL at h
  cases e : asDs l with
  | none =>
    rw [e] at h
    obtain ⟨R2, l2⟩ := R.cellNew (o := .lst vs) (c := .w l) hp ⟨vs, upd_same, RepWs.mono ix_app (fun _ _ h => h) r⟩
    exact h _ _ _ _ l2 R2 (.loc (by rw [← R.len]; simp))
  | some ds =>
    rw [e] at h
    obtain ⟨R2, l2⟩ := R.cellNew (o := .lst vs) (c := .l ds) hp ⟨vs, upd_same, r.asDs e⟩
    exact h _ _ _ _ l2 R2 (.loc (by rw [← R.len]; simp))
theorem sn_lst {Wi : XK} : SimN z.B Wi (fun vs H Q => vs.length ≤ sizeLine ∧ ∀ p, H p = none → Q (.ref p) (upd H p (.lst vs))) fLst := by
  intro ρ G S H l vs Q R r h
  obtain ⟨h1, h⟩ := postN h
  exact ⟨by rw [← r.length]; exact sizeL_le (of_decide_eq_true h1), fun p hp => lst_new R r h hp⟩
theorem sn_lstC {Wi : XK} : SimN z.B Wi (fun vs H Q => vs.length ≤ sizeLine ∧ ∀ p, H p = none → Q (.ref p) (upd H p (.lst vs))) fLstC := by
  intro ρ G S H l vs Q R r h
  obtain ⟨h1, h⟩ := postN h
  exact ⟨by rw [← r.length]; exact sizeL_le (of_decide_eq_true h1), fun p hp => lst_newC R r h hp⟩
theorem kLst (ha : OkA z es ms) : OkE z (.List es pos) (eN fLst ms) := ok_e (pe_lst ha) (se_N (fun _ => sn_lst) sim_a)
theorem kLstC (ha : OkA z es ms) : OkE z (.List es pos) (eN fLstC ms) := ok_e (pe_lst ha) (se_N (fun _ => sn_lstC) sim_a)
theorem kDctK : OkE z (.Dict [] [] pos) (eDct false) := ok_e pe_dnewK fun ρ G S H env σ Q R E h p hp => by
  obtain ⟨R2, l2⟩ := R.cellNew (o := .dK []) (c := .m false []) hp ⟨[], upd_same, rfl, .nil⟩
  exact h _ _ _ _ l2 R2 (.loc (by rw [← R.len]; simp))
theorem kDctT : OkE z (.Dict [] [] pos) (eDct true) := ok_e pe_dnewT fun ρ G S H env σ Q R E h p hp => by
  obtain ⟨R2, l2⟩ := R.cellNew (o := .dT []) (c := .m true []) hp ⟨[], upd_same, rfl, .nil⟩
  exact h _ _ _ _ l2 R2 (.loc (by rw [← R.len]; simp))

/-! ### methods of lists -/
theorem isL_rep {ρ : List Addr} {G H : Hp} {S : Sto} {x : W} {v : V} (R : Rel z.B ρ G S H) (rx : RepW z.X.K ρ G x v) (h : isL x S = true) : tyV z.X.K "list" v H := by
  have go : ∀ {a : Addr} {vs : List V}, SqL z.X.K H a vs → tyV z.X.K "list" (.ref a) H := fun {a vs} q => Or.inl ⟨rfl, vs, q⟩
  unfold isL at h
  split at h
  · cases rx with
    | loc ha =>
      obtain ⟨c, hc, hr⟩ := R.at_ ha
      rw [hc] at h
      cases c with
      | l xs => obtain ⟨vs, g1, g2⟩ := hr; exact go (.inl (.inl g1))
      | w xs => obtain ⟨vs, g1, g2⟩ := hr; exact go (.inl (.inl g1))
      | _ => cases h
  · cases rx with
    | d rx => cases rx with
      | lst g1 g2 => exact go (.inl (.inl (R.ex _ _ g1)))
  · cases rx with
    | d rx => cases rx with
      | inp g1 g2 => exact go (R.ex.seq g1)
  · cases h
def SimM0 (B : Bx) (r : V → List V → Hp → VK → Prop) (f : W → Sto → VS) : Prop := ∀ Wi ρ G S H x v Q, Rel B ρ G S H → RepW B.K ρ G x v → Post B Wi ρ G H (f x S) Q → r v [] H Q
def SimM1 (B : Bx) (r : V → List V → Hp → VK → Prop) (f : W → W → Sto → VS) : Prop := ∀ Wi ρ G S H x y v u Q, Rel B ρ G S H → RepW B.K ρ G x v → RepW B.K ρ G y u → Post B Wi ρ G H (f x y S) Q → r v [u] H Q
def SimM2 (B : Bx) (r : V → List V → Hp → VK → Prop) (f : W → W → W → Sto → VS) : Prop := ∀ Wi ρ G S H x y y2 v u u2 Q, Rel B ρ G S H → RepW B.K ρ G x v → RepW B.K ρ G y u → RepW B.K ρ G y2 u2 → Post B Wi ρ G H (f x y y2 S) Q → r v [u, u2] H Q
theorem post_need {Wi : XK} {ρ : List Addr} {G H : Hp} {b : Bool} {r : VS} {Q : VK} (h : Post z.B Wi ρ G H (need b r) Q) : b = true ∧ Post z.B Wi ρ G H r Q := postN h
theorem se_m0 {T : String} {p : W → Sto → Bool} {r : V → List V → Hp → VK → Prop} {f : W → Sto → VS} (hp : ∀ {ρ G S H x v}, Rel z.B ρ G S H → RepW z.X.K ρ G x v → p x S = true → tyV z.X.K T v H) (hr : SimM0 z.B r f) : SimE z.B z.Wi (tBM0 z.X.K T r (tOf z.B z.Wi ma)) (m0 p f ma) := by
  intro ρ G S H env σ Q R E h
  refine sim_e ρ G S H env σ _ R E (post_bind h fun w S1 ρ1 G1 H1 v l1 R1 r1 h1 => ?_)
  obtain ⟨c1, h1⟩ := post_need h1
  exact ⟨hp R1 r1 c1, hr _ ρ1 G1 S1 H1 w v Q R1 r1 h1⟩
theorem se_m1 {T : String} {p : W → Sto → Bool} {r : V → List V → Hp → VK → Prop} {f : W → W → Sto → VS} (hp : ∀ {ρ G S H x v}, Rel z.B ρ G S H → RepW z.X.K ρ G x v → p x S = true → tyV z.X.K T v H) (hr : SimM1 z.B r f) : SimE z.B z.Wi (tBM z.X.K T r (tOf z.B z.Wi ma) (taOf z.B z.Wi [mb])) (m1 p f ma mb) := by
  intro ρ G S H env σ Q R E h
  refine sim_e ρ G S H env σ _ R E (post_bind h fun w S1 ρ1 G1 H1 v l1 R1 r1 h1 => ?_)
  obtain ⟨c1, h1⟩ := post_need h1
  refine ⟨hp R1 r1 c1, ?_⟩
  refine ⟨ρ1, G1, S1, env, R1, l1.env E, ?_⟩
  show PostA _ _ ρ1 G1 H1 ((mb env S1).bind fun p => (eAs [] env p.2).bind fun q => .ok (p.1 :: q.1, q.2)) _
  cases e1 : mb env S1 with
  | stuck => rw [e1] at h1; exact h1
  | ex x S2 => rw [e1] at h1; exact h1
  | ok p =>
    rw [e1] at h1
    intro ρ2 G2 H2 vs l2 R2 r2
    cases r2 with
    | cons ry rn =>
      cases rn
      exact hr _ ρ2 G2 p.2 H2 w p.1 v _ Q R2 (l2.w r1) ry (post_le l2 h1)
theorem se_m2 {T : String} {p : W → Sto → Bool} {r : V → List V → Hp → VK → Prop} {f : W → W → W → Sto → VS} (hp : ∀ {ρ G S H x v}, Rel z.B ρ G S H → RepW z.X.K ρ G x v → p x S = true → tyV z.X.K T v H) (hr : SimM2 z.B r f) : SimE z.B z.Wi (tBM z.X.K T r (tOf z.B z.Wi ma) (taOf z.B z.Wi [mb, mc])) (m2 p f ma mb mc) := by
  intro ρ G S H env σ Q R E h
  refine sim_e ρ G S H env σ _ R E (post_bind h fun w S1 ρ1 G1 H1 v l1 R1 r1 h1 => ?_)
  obtain ⟨c1, h1⟩ := post_need h1
  refine ⟨hp R1 r1 c1, ?_⟩
  refine ⟨ρ1, G1, S1, env, R1, l1.env E, ?_⟩
  show PostA _ _ ρ1 G1 H1 ((mb env S1).bind fun p => ((mc env p.2).bind fun p2 => (eAs [] env p2.2).bind fun q => .ok (p2.1 :: q.1, q.2)).bind fun q => .ok (p.1 :: q.1, q.2)) _
  cases e1 : mb env S1 with
  | stuck => rw [e1] at h1; exact h1
  | ex x S2 => rw [e1] at h1; exact h1
  | ok p =>
    rw [e1] at h1
    rw [_root_.B.R.bind_ok] at h1 ⊢
    cases e2 : mc env p.2 with
    | stuck => rw [e2] at h1; exact h1
    | ex x S2 => rw [e2] at h1; exact h1
    | ok p2 =>
      rw [e2] at h1
      intro ρ2 G2 H2 vs l2 R2 r2
      cases r2 with
      | cons ry rn =>
        cases rn with
        | cons ry2 rn =>
          cases rn
          exact hr _ ρ2 G2 p2.2 H2 w p.1 p2.1 v _ _ Q R2 (l2.w r1) ry ry2 (post_le l2 h1)
/-- a cell is changed -/
theorem cell_post {Wi : XK} {ρ : List Addr} {G H : Hp} {S : Sto} {n : Nat} {p : Addr} {o : HO} {c : C} {x : D} {v : V} {Q : VK} (R : Rel z.B ρ G S H) (hn : ρ[n]? = some p) (hc : CellR z.B ρ G (upd H p o) p c) (rx : Rep z.X.K G x v) (h : Post z.B Wi ρ G H (.ok (.d x, S.set n c)) Q) : Q v (upd H p o) := by
  obtain ⟨R2, l2⟩ := R.cellSet hn hc
  exact h _ _ _ _ l2 R2 (.d rx)
theorem cell_postW {Wi : XK} {ρ : List Addr} {G H : Hp} {S : Sto} {n : Nat} {p : Addr} {o : HO} {c : C} {x : W} {v : V} {Q : VK} (R : Rel z.B ρ G S H) (hn : ρ[n]? = some p) (hc : CellR z.B ρ G (upd H p o) p c) (rx : RepW z.X.K ρ G x v) (h : Post z.B Wi ρ G H (.ok (x, S.set n c)) Q) : Q v (upd H p o) := by
  obtain ⟨R2, l2⟩ := R.cellSet hn hc
  exact h _ _ _ _ l2 R2 rx
theorem cL {ρ : List Addr} {G H : Hp} {l : List D} {vs : List V} {p : Addr} (h : H p = some (.lst vs)) (r : RepL z.X.K G l vs) : CellR z.B ρ G H p (.l l) := ⟨vs, h, r⟩
theorem cW {ρ : List Addr} {G H : Hp} {l : List W} {vs : List V} {p : Addr} (h : H p = some (.lst vs)) (r : RepWs z.X.K ρ G l vs) : CellR z.B ρ G H p (.w l) := ⟨vs, h, r⟩
theorem wl_rep {ρ : List Addr} {G H : Hp} {l : List D} {vs : List V} {y : W} {u : V} {p : Addr} (r : RepL z.X.K G l vs) (ry : RepW z.X.K ρ G y u) : CellR z.B ρ G (upd H p (.lst (vs ++ [u]))) p (wl l y) := by
  unfold wl
  split
  · cases ry with
    | d ry => exact ⟨_, upd_same, r.append (.cons ry .nil)⟩
  · exact ⟨_, upd_same, (r.ws).append (.cons ry .nil)⟩
theorem sm_append : SimM1 z.B rAppend lAppend := by
  intro Wi ρ G S H x y v u Q R rx ry h
  unfold lAppend at h
  split at h
  · cases rx with
    | loc ha =>
      obtain ⟨c, hc, hr⟩ := R.at_ ha
      rw [hc] at h
      cases c with
      | l xs =>
        obtain ⟨vs, g1, g2⟩ := hr
        obtain ⟨c1, h⟩ := post_need h
        exact ⟨_, vs, u, rfl, rfl, g1, by rw [← g2.length]; exact sizeL_lt (of_decide_eq_true c1), cell_post R ha (wl_rep g2 ry) .non h⟩
      | w xs =>
        obtain ⟨vs, g1, g2⟩ := hr
        obtain ⟨c1, h⟩ := post_need h
        exact ⟨_, vs, u, rfl, rfl, g1, by rw [← g2.length]; exact sizeL_lt (of_decide_eq_true c1), cell_post R ha (cW upd_same (g2.append (.cons ry .nil))) .non h⟩
      | _ => exact False.elim h
  · exact False.elim h
theorem seqW_cases (S : Sto) (w : W) : (∃ x, seqW S w = .ok x) ∨ seqW S w = .stuck := by
  unfold seqW
  split <;> first | exact .inl ⟨_, rfl⟩ | exact .inr rfl | (split <;> first | exact .inl ⟨_, rfl⟩ | exact .inr rfl)
theorem seqW_rep {ρ : List Addr} {G H : Hp} {S : Sto} {w : W} {v : V} {l : List W} (R : Rel z.B ρ G S H) (e : seqW S w = .ok l) (r : RepW z.X.K ρ G w v) : ∃ a vs, v = .ref a ∧ (H a = some (.lst vs) ∨ H a = some (.tup vs)) ∧ RepWs z.X.K ρ G l vs := by
  unfold seqW at e
  split at e
  · cases e
    cases r with
    | d r => cases r with
      | lst q r => exact ⟨_, _, rfl, .inl (R.ex _ _ q), r.ws⟩
  · cases e
    cases r with
    | d r => cases r with
      | tup q r => exact ⟨_, _, rfl, .inr (R.ex _ _ q), r.ws⟩
  · cases e
    cases r with
    | tw q r => exact ⟨_, _, rfl, .inr (R.ex _ _ q), r⟩
  · cases r with
    | loc ha =>
      obtain ⟨c, hc, hr⟩ := R.at_ ha
      rw [hc] at e
      cases c with
      | l xs => obtain ⟨vs, h1, h2⟩ := hr; cases e; exact ⟨_, vs, rfl, .inl h1, h2.ws⟩
      | w xs => obtain ⟨vs, h1, h2⟩ := hr; cases e; exact ⟨_, vs, rfl, .inl h1, h2⟩
      | _ => cases e
  · cases e
theorem mkC_rep {ρ : List Addr} {G H : Hp} {l : List W} {vs : List V} {p : Addr} (r : RepWs z.X.K ρ G l vs) : CellR z.B ρ G (upd H p (.lst vs)) p (mkC l) := by
  unfold mkC
  cases e : asDs l with
  | some ds => exact ⟨_, upd_same, r.asDs e⟩
  | none => exact ⟨_, upd_same, r⟩
def rExtA : V → List V → Hp → VK → Prop := fun x vs H Q => rExtend x vs H Q ∨ ∃ l b xs zs, x = .ref l ∧ vs = [.ref b] ∧ H l = some (.lst xs) ∧ H b = some (.tup zs) ∧ xs.length + zs.length ≤ sizeLine ∧ Q .non (upd H l (.lst (xs ++ zs)))
theorem mt_extA {X : Cx} : MtR X "list.extend" rExtA := MtR.or mt_extend mt_extendT
theorem sm_extend : SimM1 z.B rExtA lExtend := by
  intro Wi ρ G S H x y v u Q R rx ry h
  unfold lExtend at h
  split at h
  · rename_i n
    rcases lstOf_cases S (.loc n) with ⟨l, e1⟩ | e1
    · rcases seqW_cases S y with ⟨m, e2⟩ | e2
      · rw [e1, _root_.B.R.bind_ok, e2, _root_.B.R.bind_ok] at h
        obtain ⟨c1, h⟩ := post_need h
        obtain ⟨a, vs, ea, ha, r1⟩ := lstOf_rep R e1 rx
        obtain ⟨b, us, rfl, hb, r2⟩ := seqW_rep R e2 ry
        cases rx with
        | loc hn =>
          cases ea
          have hl : vs.length + us.length ≤ sizeLine := by
            rw [← r1.length, ← r2.length]
            exact sizeL_le (of_decide_eq_true c1)
          have fin := cell_post (o := .lst (vs ++ us)) R hn (mkC_rep (r1.append r2)) .non h
          rcases hb with hb | hb
          · exact .inl ⟨_, _, vs, us, rfl, rfl, ha, hb, hl, fin⟩
          · exact .inr ⟨_, _, vs, us, rfl, rfl, ha, hb, hl, fin⟩
      · rw [e1, _root_.B.R.bind_ok, e2] at h; exact False.elim h
    · rw [e1] at h; exact False.elim h
  · exact False.elim h
theorem getLast_get {α : Type} {l : List α} {v : α} (h : l.getLast? = some v) : l[l.length - 1]? = some v := by rw [← List.getLast?_eq_getElem?]; exact h
theorem RepL.get {K : PySem.W.Frag} {G : Hp} : ∀ {l : List D} {vs : List V} {i : Nat} {w : D}, RepL K G l vs → l[i]? = some w → ∃ v, vs[i]? = some v ∧ Rep K G w v
  | _, _, _, _, .nil, e => by simp at e
  | _, _, 0, _, .cons h _, e => by simp at e; subst e; exact ⟨_, rfl, h⟩
  | _, _, i + 1, _, .cons _ r, e => by
    obtain ⟨v, h1, h2⟩ := RepL.get (i := i) r (by simpa using e)
    exact ⟨v, by simpa using h1, h2⟩
theorem dropLast_L {K : PySem.W.Frag} {G : Hp} {l : List D} {vs : List V} (r : RepL K G l vs) : RepL K G l.dropLast vs.dropLast := by
  rw [List.dropLast_eq_take, List.dropLast_eq_take, r.length]
  exact r.take' _
theorem dropLast_W {K : PySem.W.Frag} {ρ : List Addr} {G : Hp} {l : List W} {vs : List V} (r : RepWs K ρ G l vs) : RepWs K ρ G l.dropLast vs.dropLast := by
  rw [List.dropLast_eq_take, List.dropLast_eq_take, r.length]
  exact r.take _
theorem erase_L {K : PySem.W.Frag} {G : Hp} : ∀ {l : List D} {vs : List V} (i : Nat), RepL K G l vs → RepL K G (l.eraseIdx i) (vs.eraseIdx i)
  | _, _, _, .nil => .nil
  | _, _, 0, .cons _ r => r
  | _, _, i + 1, .cons h r => .cons h (erase_L i r)
theorem erase_W {K : PySem.W.Frag} {ρ : List Addr} {G : Hp} : ∀ {l : List W} {vs : List V} (i : Nat), RepWs K ρ G l vs → RepWs K ρ G (l.eraseIdx i) (vs.eraseIdx i)
  | _, _, _, .nil => .nil
  | _, _, 0, .cons _ r => r
  | _, _, i + 1, .cons h r => .cons h (erase_W i r)
theorem sm_pop : SimM0 z.B rPop lPop := by
  intro Wi ρ G S H x v Q R rx h
  unfold lPop at h
  split at h
  · cases rx with
    | loc ha =>
      obtain ⟨c, hc, hr⟩ := R.at_ ha
      rw [hc] at h
      cases c with
      | l xs =>
        obtain ⟨vs, g1, g2⟩ := hr
        simp only at h
        cases e : xs.getLast? with
        | none => rw [e] at h; exact False.elim h
        | some y =>
          rw [e] at h
          obtain ⟨w, h1, h2⟩ := g2.get (getLast_get e)
          exact ⟨_, vs, w, rfl, rfl, g1, by rw [← g2.length]; exact h1, cell_post R ha (cL upd_same (dropLast_L g2)) h2 h⟩
      | w xs =>
        obtain ⟨vs, g1, g2⟩ := hr
        simp only at h
        cases e : xs.getLast? with
        | none => rw [e] at h; exact False.elim h
        | some y =>
          rw [e] at h
          obtain ⟨w, h1, h2⟩ := g2.get (getLast_get e)
          exact ⟨_, vs, w, rfl, rfl, g1, by rw [← g2.length]; exact h1, cell_postW R ha (cW upd_same (dropLast_W g2)) h2 h⟩
      | _ => exact False.elim h
  · exact False.elim h
theorem s62 {i : Int} (h : small62 i = true) : -(2 ^ 63) ≤ i ∧ i < 2 ^ 63 ∧ -(2 ^ 62) ≤ i ∧ i < 2 ^ 62 := by
  rw [small62, Bool.and_eq_true] at h
  have h1 := of_decide_eq_true h.1
  have h2 := of_decide_eq_true h.2
  omega
theorem sm_popAt : SimM1 z.B rPopAt lPopAt := by
  intro Wi ρ G S H x y v u Q R rx ry h
  unfold lPopAt at h
  split at h
  · rename_i n i
    obtain ⟨c1, h⟩ := post_need h
    obtain ⟨b1, b2, _, _⟩ := s62 c1
    cases rx with
    | loc ha =>
      obtain ⟨c, hc, hr⟩ := R.at_ ha
      rw [hc] at h
      cases c with
      | l xs =>
        obtain ⟨vs, g1, g2⟩ := hr
        simp only at h
        cases e : ixN xs.length i with
        | none => rw [e] at h; exact False.elim h
        | some j =>
          rw [e, ofO_some, _root_.B.R.bind_ok] at h
          cases e2 : xs[j]? with
          | none => rw [e2] at h; exact False.elim h
          | some y =>
            rw [e2] at h
            obtain ⟨w, h1, h2⟩ := g2.get e2
            exact ⟨_, vs, i, j, w, rfl, by rw [rep_int ry], g1, b1, b2, (ixN_seq (by rw [← g2.length]; exact e)).1, h1, cell_post R ha (cL upd_same (erase_L j g2)) h2 h⟩
      | w xs =>
        obtain ⟨vs, g1, g2⟩ := hr
        simp only at h
        cases e : ixN xs.length i with
        | none => rw [e] at h; exact False.elim h
        | some j =>
          rw [e, ofO_some, _root_.B.R.bind_ok] at h
          cases e2 : xs[j]? with
          | none => rw [e2] at h; exact False.elim h
          | some y =>
            rw [e2] at h
            obtain ⟨w, h1, h2⟩ := g2.get e2
            exact ⟨_, vs, i, j, w, rfl, by rw [rep_int ry], g1, b1, b2, (ixN_seq (by rw [← g2.length]; exact e)).1, h1, cell_postW R ha (cW upd_same (erase_W j g2)) h2 h⟩
      | _ => exact False.elim h
  · exact False.elim h
def rIns : V → List V → Hp → VK → Prop := fun x vs H Q => ∃ (l : Addr) (xs : List V) (i : Int) (y : V), x = .ref l ∧ vs = [.int i, y] ∧ H l = some (.lst xs) ∧ xs.length < sizeLine ∧ 0 ≤ i ∧ i < 2 ^ 63 ∧ Q .non (upd H l (.lst (xs.take i.toNat ++ [y] ++ xs.drop i.toNat)))
theorem sm_insert : SimM2 z.B rIns lInsert := by
  intro Wi ρ G S H x y y2 v u u2 Q R rx ry ry2 h
  unfold lInsert at h
  split at h
  · rename_i n i
    obtain ⟨c1, h⟩ := post_need h
    rw [Bool.and_eq_true] at c1
    obtain ⟨b1, b2, _, _⟩ := s62 c1.1
    cases rx with
    | loc ha =>
      obtain ⟨c, hc, hr⟩ := R.at_ ha
      rw [hc] at h
      cases c with
      | l xs =>
        obtain ⟨vs, g1, g2⟩ := hr
        obtain ⟨c3, h⟩ := post_need h
        refine ⟨_, vs, i, u2, rfl, by rw [rep_int ry], g1, by rw [← g2.length]; exact sizeL_lt (of_decide_eq_true c3), of_decide_eq_true c1.2, b2, cell_post R ha ?_ .non h⟩
        split
        · cases ry2 with
          | d ry2 => exact ⟨_, upd_same, ((g2.take' _).append (.cons ry2 .nil)).append (g2.drop' _)⟩
        · exact ⟨_, upd_same, ((g2.ws.take _).append (.cons ry2 .nil)).append (g2.ws.drop _)⟩
      | w xs =>
        obtain ⟨vs, g1, g2⟩ := hr
        obtain ⟨c3, h⟩ := post_need h
        exact ⟨_, vs, i, u2, rfl, by rw [rep_int ry], g1, by rw [← g2.length]; exact sizeL_lt (of_decide_eq_true c3), of_decide_eq_true c1.2, b2, cell_post R ha (cW upd_same (((g2.take _).append (.cons ry2 .nil)).append (g2.drop _))) .non h⟩
      | _ => exact False.elim h
  · exact False.elim h
theorem rev_L {K : PySem.W.Frag} {G : Hp} : ∀ {l : List D} {vs : List V}, RepL K G l vs → RepL K G l.reverse vs.reverse
  | _, _, .nil => .nil
  | _, _, .cons h r => by rw [List.reverse_cons, List.reverse_cons]; exact (rev_L r).append (.cons h .nil)
theorem rev_W {K : PySem.W.Frag} {ρ : List Addr} {G : Hp} : ∀ {l : List W} {vs : List V}, RepWs K ρ G l vs → RepWs K ρ G l.reverse vs.reverse
  | _, _, .nil => .nil
  | _, _, .cons h r => by rw [List.reverse_cons, List.reverse_cons]; exact (rev_W r).append (.cons h .nil)
theorem sm_reverse : SimM0 z.B rReverse lReverse := by
  intro Wi ρ G S H x v Q R rx h
  unfold lReverse at h
  split at h
  · cases rx with
    | loc ha =>
      obtain ⟨c, hc, hr⟩ := R.at_ ha
      rw [hc] at h
      cases c with
      | l xs => obtain ⟨vs, g1, g2⟩ := hr; exact ⟨_, vs, rfl, rfl, g1, cell_post R ha (cL upd_same (rev_L g2)) .non h⟩
      | w xs => obtain ⟨vs, g1, g2⟩ := hr; exact ⟨_, vs, rfl, rfl, g1, cell_post R ha (cW upd_same (rev_W g2)) .non h⟩
      | _ => exact False.elim h
  · exact False.elim h
variable {apos cpos : Pos}
theorem kAppend (ha : OkE z a ma) (hb : OkE z b mb) (hbase : attributeBase a "append" z.X.env (eval a z.X.env) = eval a z.X.env := by rfl) (hline : (apos.endLine == cpos.line) = true := by rfl)
    (hs : starEach [b] z.X.env = (false, eval b z.X.env) :: starEach [] z.X.env := by rfl) (hfew : ((backTo cpos (starEach [b] z.X.env)).all (fun x => !x.1) && (backToKw cpos (keywordEach [] z.X.env)).all (fun x => x.1.isSome) && decide ([b].length + ([] : List Keyword).length + (if ([] : List Keyword).isEmpty then 0 else 1) < 30)) = true := by rfl) :
    OkE z (.Call (.Attribute a "append" apos) [b] [] cpos) (m1 isL lAppend ma mb) := ok_e (pe_bm PySem.F.plainAttrs_list PySem.F.slot_list_append PySem.F.type_list_append mt_append ha (aOne hb hs) hbase hfew hline hs rfl) (se_m1 isL_rep sm_append)
theorem kExtend (ha : OkE z a ma) (hb : OkE z b mb) (hbase : attributeBase a "extend" z.X.env (eval a z.X.env) = eval a z.X.env := by rfl) (hline : (apos.endLine == cpos.line) = true := by rfl)
    (hs : starEach [b] z.X.env = (false, eval b z.X.env) :: starEach [] z.X.env := by rfl) (hfew : ((backTo cpos (starEach [b] z.X.env)).all (fun x => !x.1) && (backToKw cpos (keywordEach [] z.X.env)).all (fun x => x.1.isSome) && decide ([b].length + ([] : List Keyword).length + (if ([] : List Keyword).isEmpty then 0 else 1) < 30)) = true := by rfl) :
    OkE z (.Call (.Attribute a "extend" apos) [b] [] cpos) (m1 isL lExtend ma mb) := ok_e (pe_bm PySem.F.plainAttrs_list PySem.F.slot_list_extend PySem.F.type_list_extend mt_extA ha (aOne hb hs) hbase hfew hline hs rfl) (se_m1 isL_rep sm_extend)
theorem kPopAt (ha : OkE z a ma) (hb : OkE z b mb) (hbase : attributeBase a "pop" z.X.env (eval a z.X.env) = eval a z.X.env := by rfl) (hline : (apos.endLine == cpos.line) = true := by rfl)
    (hs : starEach [b] z.X.env = (false, eval b z.X.env) :: starEach [] z.X.env := by rfl) (hfew : ((backTo cpos (starEach [b] z.X.env)).all (fun x => !x.1) && (backToKw cpos (keywordEach [] z.X.env)).all (fun x => x.1.isSome) && decide ([b].length + ([] : List Keyword).length + (if ([] : List Keyword).isEmpty then 0 else 1) < 30)) = true := by rfl) :
    OkE z (.Call (.Attribute a "pop" apos) [b] [] cpos) (m1 isL lPopAt ma mb) := ok_e (pe_bm PySem.F.plainAttrs_list PySem.F.slot_list_pop PySem.F.type_list_pop mt_popAt ha (aOne hb hs) hbase hfew hline hs rfl) (se_m1 isL_rep sm_popAt)
theorem kInsert (ha : OkE z a ma) (hb : OkE z b mb) (hc : OkE z c mc) (hbase : attributeBase a "insert" z.X.env (eval a z.X.env) = eval a z.X.env := by rfl) (hline : (apos.endLine == cpos.line) = true := by rfl)
    (hs : starEach [b, c] z.X.env = (false, eval b z.X.env) :: starEach [c] z.X.env := by rfl) (hs2 : starEach [c] z.X.env = (false, eval c z.X.env) :: starEach [] z.X.env := by rfl) (hpl : (backTo cpos (starEach [c] z.X.env)).any (·.1) = false := by rfl) (hfew : ((backTo cpos (starEach [b, c] z.X.env)).all (fun x => !x.1) && (backToKw cpos (keywordEach [] z.X.env)).all (fun x => x.1.isSome) && decide ([b, c].length + ([] : List Keyword).length + (if ([] : List Keyword).isEmpty then 0 else 1) < 30)) = true := by rfl) :
    OkE z (.Call (.Attribute a "insert" apos) [b, c] [] cpos) (m2 isL lInsert ma mb mc) := ok_e (pe_bm PySem.F.plainAttrs_list PySem.F.slot_list_insert PySem.F.type_list_insert mt_insert ha (aCons hb (aOne hc hs2) hs) hbase hfew hline hs hpl) (se_m2 isL_rep sm_insert)
theorem kPop (ha : OkE z a ma) (hbase : attributeBase a "pop" z.X.env (eval a z.X.env) = eval a z.X.env := by rfl) (hline : (apos.endLine == cpos.line) = true := by rfl) :
    OkE z (.Call (.Attribute a "pop" apos) [] [] cpos) (m0 isL lPop ma) := ok_e (pe_bm0 PySem.F.plainAttrs_list PySem.F.slot_list_pop PySem.F.type_list_pop mt_pop ha hbase hline) (se_m0 isL_rep sm_pop)
theorem kReverse (ha : OkE z a ma) (hbase : attributeBase a "reverse" z.X.env (eval a z.X.env) = eval a z.X.env := by rfl) (hline : (apos.endLine == cpos.line) = true := by rfl) :
    OkE z (.Call (.Attribute a "reverse" apos) [] [] cpos) (m0 isL lReverse ma) := ok_e (pe_bm0 PySem.F.plainAttrs_list PySem.F.slot_list_reverse PySem.F.type_list_reverse mt_reverse ha hbase hline) (se_m0 isL_rep sm_reverse)
end
end B
namespace B
open PySem L2 PySem.Spec PyProof.Rows
section
variable {z : Zx} {k : Nat} {a b c e : Expr} {es : List Expr} {ma mb mc m : Ev} {ms : List Ev} {pos p : Pos}
theorem kMul (ha : OkE z a ma) (hb : OkE z b mb) : OkE z (.BinOp a .Mult b pos) (e2 (d2 oMul) ma mb) := kOp op_mulAll so_mul ha hb
/-! ### bits -/
theorem nn2 {i j : Int} {α : Type} {x y : α} (h : need (decide (0 ≤ i) && decide (0 ≤ j)) (R.ok x) = .ok y) : 0 ≤ i ∧ 0 ≤ j ∧ x = y := by
  obtain ⟨h1, h2⟩ := need_ok h
  rw [Bool.and_eq_true] at h1
  exact ⟨of_decide_eq_true h1.1, of_decide_eq_true h1.2, h2⟩
theorem bitAnd_nn' {x y : Int} (hx : 0 ≤ x) (hy : 0 ≤ y) : Builtin.bitAnd x y = ((x.toNat &&& y.toNat : Nat) : Int) := bitAnd_pp hx hy
theorem so_and : SimR z.B (rI0 fun i j => .int (Builtin.bitAnd i j)) (d2 oAnd) := simR_I0 (fun _ _ _ _ => need_ex) fun i j c h K G => by
  obtain ⟨h1, h2, rfl⟩ := nn2 h
  rw [bitAnd_nn' h1 h2]; exact .int _
theorem so_orB : SimR z.B (rI0 fun i j => .int (Builtin.bitOr i j)) (d2 oOr) := simR_I0 (fun _ _ _ _ => need_ex) fun i j c h K G => by
  obtain ⟨h1, h2, rfl⟩ := nn2 h
  rw [bitOr_nn h1 h2]; exact .int _
theorem so_xor : SimR z.B (rI0 fun i j => .int (Builtin.bitXor i j)) (d2 oXor) := simR_I0 (fun _ _ _ _ => need_ex) fun i j c h K G => by
  obtain ⟨h1, h2, rfl⟩ := nn2 h
  rw [Bits.bitXor_pp h1 h2]; exact .int _
theorem so_shl : SimR z.B (rI CPow fun i j => .int (i * 2 ^ j.toNat)) (d2 oShl) := simR_I (fun _ _ _ _ => need_ex) fun i j c h => by
  obtain ⟨h1, rfl⟩ := need_ok h
  rw [Bool.and_eq_true, Bool.and_eq_true] at h1
  exact ⟨⟨of_decide_eq_true h1.1.1, of_decide_eq_true h1.1.2, of_decide_eq_true h1.2⟩, fun K G => .int _⟩
theorem kBand (ha : OkE z a ma) (hb : OkE z b mb) : OkE z (.BinOp a .BitAnd b pos) (e2 (d2 oAnd) ma mb) := kOp op_and so_and ha hb
theorem kBor (ha : OkE z a ma) (hb : OkE z b mb) : OkE z (.BinOp a .BitOr b pos) (e2 (d2 oOr) ma mb) := kOp op_or so_orB ha hb
theorem kBxor (ha : OkE z a ma) (hb : OkE z b mb) : OkE z (.BinOp a .BitXor b pos) (e2 (d2 oXor) ma mb) := kOp op_xor so_xor ha hb
theorem kShl (ha : OkE z a ma) (hb : OkE z b mb) : OkE z (.BinOp a .LShift b pos) (e2 (d2 oShl) ma mb) := kOp op_shl so_shl ha hb

/-! ### built-ins -/
theorem kB1 {x : Str} {id : String} {r : List V → Hp → VK → Prop} {f : W → Sto → VS} (hc : CallR z.X (.builtin id) r) (hr : SimC1 z.B r f) (hv : bootBuiltins x = some (.builtin id)) (hg : Gl z.X x) (hm : z.X.mg x = none) (ha : OkE z a ma)
    (hn : x ≠ "__name__" := by decide) (hdb : (x == ("__debug__" : Str)) = false := by decide) (hs : starEach [a] z.X.env = (false, eval a z.X.env) :: starEach [] z.X.env := by rfl) : OkE z (.Call (.Name x p) [a] [] pos) (e1 f ma) :=
  ok_e (pe_callB hc hg hm hv (pa_cons ha pa_nil hs) hn hdb hs rfl) (se_cb1 hr sim_e)
theorem kT1 {x : Str} {T : String} {r : List V → Hp → VK → Prop} {f : W → Sto → VS} (hc : CallR z.X (.type T) r) (hr : SimC1 z.B r f) (hv : bootBuiltins x = some (.type T)) (hg : Gl z.X x) (hm : z.X.mg x = none) (ha : OkE z a ma)
    (hn : x ≠ "__name__" := by decide) (hdb : (x == ("__debug__" : Str)) = false := by decide) (hs : starEach [a] z.X.env = (false, eval a z.X.env) :: starEach [] z.X.env := by rfl) : OkE z (.Call (.Name x p) [a] [] pos) (e1 f ma) :=
  ok_e (pe_callTy hc hg hm hv (pa_cons ha pa_nil hs) hn hdb hs rfl) (se_cb1 hr sim_e)
theorem kB2 {x : Str} {id : String} {r : List V → Hp → VK → Prop} {f : W → W → Sto → VS} (hc : CallR z.X (.builtin id) r) (hr : SimC2 z.B r f) (hv : bootBuiltins x = some (.builtin id)) (hg : Gl z.X x) (hm : z.X.mg x = none) (ha : OkE z a ma) (hb : OkE z b mb)
    (hn : x ≠ "__name__" := by decide) (hdb : (x == ("__debug__" : Str)) = false := by decide) (hs : starEach [a, b] z.X.env = (false, eval a z.X.env) :: starEach [b] z.X.env := by rfl) (hs2 : starEach [b] z.X.env = (false, eval b z.X.env) :: starEach [] z.X.env := by rfl)
    (hpl : (backTo pos (starEach [b] z.X.env)).any (·.1) = false := by rfl) : OkE z (.Call (.Name x p) [a, b] [] pos) (e2 f ma mb) :=
  ok_e (pe_callB hc hg hm hv (pa_cons ha (pa_cons hb pa_nil hs2) hs) hn hdb hs hpl) (se_cb2 hr sim_e sim_e)
theorem simC1_d {r : List V → Hp → VK → Prop} {g : D → R D} (hx : ∀ a x s, g a ≠ .ex x s) (h : ∀ H a c v Q, Rep z.X.K H a v → g a = .ok c → (∀ y, (∀ G, Rep z.X.K G c y) → Q y H) → r [v] H Q) : SimC1 z.B r (d1 g) := by
  intro Wi ρ G S H x v Q R rx q
  exact simU_d1 (r := fun v H Q => r [v] H Q) hx h Wi ρ G S H x v Q R rx q
theorem simC2_d {r : List V → Hp → VK → Prop} {g : D → D → R D} (hx : ∀ a b x s, g a b ≠ .ex x s) (h : ∀ H a b c v u Q, Rep z.X.K H a v → Rep z.X.K H b u → g a b = .ok c → (∀ y, (∀ G, Rep z.X.K G c y) → Q y H) → r [v, u] H Q) : SimC2 z.B r (d2 g) := by
  intro Wi ρ G S H x y v u Q R rx ry q
  exact simR_d2 (r := fun v u H Q => r [v, u] H Q) hx h Wi ρ G S H x y v u Q R rx ry q
/-! len -/
theorem sc_len : SimC1 z.B (fun xs H Q => ∃ x n, xs = [x] ∧ LenV z.X.K x H n ∧ Q (.int n) H) bLen := by
  intro Wi ρ G S H x v Q R rx h
  unfold bLen at h
  have seq : ∀ {l : List W} {vs : List V} {p : Addr}, v = .ref p → (SqL z.X.K H p vs ∨ SqT z.X.K H p vs) → RepWs z.X.K ρ G l vs → Post z.B Wi ρ G H (.ok (.d (.int l.length), S)) Q → ∃ x n, [v] = [x] ∧ LenV z.X.K x H n ∧ Q (.int n) H := fun {l vs p} e hq r q => by
    subst e
    refine ⟨_, vs.length, rfl, ?_, ?_⟩
    · rcases hq with hq | hq
      · exact .inl ⟨vs, hq, rfl⟩
      · exact .inr ⟨vs, hq, rfl⟩
    · rw [← r.length]; exact post_d R (.int _) q
  split at h
  · rename_i s0
    obtain ⟨h1, h⟩ := postN h
    have e : v = .str (sof s0) := rep_str rx
    subst e
    exact ⟨_, s0.length, rfl, ⟨by rw [sof_len]; exact sizeL_le (of_decide_eq_true h1), (sof_len _).symm⟩, post_d R (.int _) h⟩
  · cases rx with
    | loc ha =>
      obtain ⟨c, hc, hr⟩ := R.at_ ha
      rw [hc] at h
      cases c with
      | l xs =>
        obtain ⟨vs, g1, g2⟩ := hr
        have h' : Post z.B Wi ρ G H (.ok (.d (.int (ws xs).length), S)) Q := by rw [show (ws xs).length = xs.length from by simp [ws]]; exact h
        exact seq (l := ws xs) rfl (.inl (.inl (.inl g1))) g2.ws h'
      | w xs => obtain ⟨vs, g1, g2⟩ := hr; exact seq rfl (.inl (.inl (.inl g1))) g2 h
      | _ => exact False.elim h
  · rcases items_cases S x with ⟨l, e⟩ | e
    · rw [e] at h
      obtain ⟨p, vs, rfl, hs, r⟩ := items_rep R e rx
      exact seq rfl hs r h
    · rw [e] at h; exact False.elim h
theorem kLen (hg : Gl z.X "len") (hm : z.X.mg "len" = none) (ha : OkE z a ma) (hs : starEach [a] z.X.env = (false, eval a z.X.env) :: starEach [] z.X.env := by rfl) : OkE z (.Call (.Name "len" p) [a] [] pos) (e1 bLen ma) := kB1 call_len sc_len PySem.boot_len hg hm ha (hs := hs)
/-! tuple, list -/
theorem sc_tup : SimC1 z.B (fun xs H Q => ∃ p ys, xs = [.ref p] ∧ ((SqL z.X.K H p ys ∧ ∀ l, H l = none → Q (.ref l) (upd H l (.tup ys))) ∨ (SqT z.X.K H p ys ∧ Q (.ref p) H))) bTup := by
  intro Wi ρ G S H x v Q R rx h
  unfold bTup at h
  split at h
  · cases rx with
    | d rx => cases rx with
      | tup g1 g2 => exact ⟨_, _, rfl, .inr ⟨.inl (.inl (R.ex _ _ g1)), post_d R (.tup g1 g2) h⟩⟩
  · cases rx with
    | tw g1 g2 => exact ⟨_, _, rfl, .inr ⟨.inl (.inl (R.ex _ _ g1)), h _ _ _ _ (Le.refl _ _ _) R (.tw g1 g2)⟩⟩
  · cases rx with
    | d rx => cases rx with
      | inp g1 g2 =>
        refine ⟨_, _, rfl, .inl ⟨R.ex.seq g1, fun l hl => ?_⟩⟩
        obtain ⟨R2, l2⟩ := R.froz (.tup _) hl
        exact h _ _ _ _ l2 R2 (.d (.tup upd_same (g2.mono l2.ex)))
  · rcases lstOf_cases S x with ⟨l, e⟩ | e
    · rw [e] at h
      obtain ⟨p, vs, rfl, hs, r⟩ := lstOf_rep R e rx
      refine ⟨_, vs, rfl, .inl ⟨.inl (.inl hs), fun l hl => ?_⟩⟩
      obtain ⟨R2, l2⟩ := R.froz (.tup vs) hl
      exact h _ _ _ _ l2 R2 (tupW_rep upd_same (l2.ws r))
    · rw [e] at h; exact False.elim h
theorem kTuple (hg : Gl z.X "tuple") (hm : z.X.mg "tuple" = none) (ha : OkE z a ma) (hs : starEach [a] z.X.env = (false, eval a z.X.env) :: starEach [] z.X.env := by rfl) : OkE z (.Call (.Name "tuple" p) [a] [] pos) (e1 bTup ma) := kT1 call_tuple_of sc_tup boot_tuple hg hm ha (hs := hs)
def rLstOf (K : PySem.W.Frag) : List V → Hp → VK → Prop := fun xs H Q => ∃ p ys, xs = [.ref p] ∧ (SqL K H p ys ∨ SqT K H p ys) ∧ ∀ l, H l = none → Q (.ref l) (upd H l (.lst ys))
theorem sc_lst : SimC1 z.B (rLstOf z.X.K) bLst := by
  intro Wi ρ G S H x v Q R rx h
  unfold bLst at h
  rcases items_cases S x with ⟨l, e⟩ | e
  · rw [e] at h
    obtain ⟨p, vs, rfl, hs, r⟩ := items_rep R e rx
    exact ⟨p, vs, rfl, hs, fun l hl => lst_new R r h hl⟩
  · rw [e] at h; exact False.elim h
theorem sc_lstC : SimC1 z.B (rLstOf z.X.K) bLstC := by
  intro Wi ρ G S H x v Q R rx h
  unfold bLstC at h
  rcases items_cases S x with ⟨l, e⟩ | e
  · rw [e] at h
    obtain ⟨p, vs, rfl, hs, r⟩ := items_rep R e rx
    exact ⟨p, vs, rfl, hs, fun l hl => lst_newC R r h hl⟩
  · rw [e] at h; exact False.elim h
theorem kList (hg : Gl z.X "list") (hm : z.X.mg "list" = none) (ha : OkE z a ma) (hs : starEach [a] z.X.env = (false, eval a z.X.env) :: starEach [] z.X.env := by rfl) : OkE z (.Call (.Name "list" p) [a] [] pos) (e1 bLst ma) := kT1 call_list_of sc_lst boot_list hg hm ha (hs := hs)
theorem kListC (hg : Gl z.X "list") (hm : z.X.mg "list" = none) (ha : OkE z a ma) (hs : starEach [a] z.X.env = (false, eval a z.X.env) :: starEach [] z.X.env := by rfl) : OkE z (.Call (.Name "list" p) [a] [] pos) (e1 bLstC ma) := kT1 call_list_of sc_lstC boot_list hg hm ha (hs := hs)
/-! sum, any, sorted -/
theorem ints_rep {K : PySem.W.Frag} {G : Hp} : ∀ {l : List D} {vs : List V} {ns : List Int}, RepL K G l vs → intsD l = some ns → vs = ns.map V.int
  | _, _, _, .nil, e => by cases e; rfl
  | .int i :: l, _, _, .cons h r, e => by
    obtain ⟨y, e1, e2⟩ := Option.map_eq_some_iff.mp (show (intsD l).map _ = some _ from e)
    subst e2
    cases h
    rw [ints_rep r e1]; rfl
  | .non :: _, _, _, _, e => by cases e
  | .bl _ :: _, _, _, _, e => by cases e
  | .str _ :: _, _, _, _, e => by cases e
  | .tup _ :: _, _, _, _, e => by cases e
  | .lst _ :: _, _, _, _, e => by cases e
  | .dct _ _ :: _, _, _, _, e => by cases e
  | .inp _ :: _, _, _, _, e => by cases e
  | .inq _ :: _, _, _, _, e => by cases e
theorem bools_rep {K : PySem.W.Frag} {G : Hp} : ∀ {l : List D} {vs : List V} {ns : List Bool}, RepL K G l vs → boolsD l = some ns → vs = ns.map V.bl
  | _, _, _, .nil, e => by cases e; rfl
  | .bl i :: l, _, _, .cons h r, e => by
    obtain ⟨y, e1, e2⟩ := Option.map_eq_some_iff.mp (show (boolsD l).map _ = some _ from e)
    subst e2
    cases h
    rw [bools_rep r e1]; rfl
  | .non :: _, _, _, _, e => by cases e
  | .int _ :: _, _, _, _, e => by cases e
  | .str _ :: _, _, _, _, e => by cases e
  | .tup _ :: _, _, _, _, e => by cases e
  | .lst _ :: _, _, _, _, e => by cases e
  | .dct _ _ :: _, _, _, _, e => by cases e
  | .inp _ :: _, _, _, _, e => by cases e
  | .inq _ :: _, _, _, _, e => by cases e
theorem strs_rep {K : PySem.W.Frag} {G : Hp} : ∀ {l : List D} {vs : List V} {ns : List (List Nat)}, RepL K G l vs → strsD l = some ns → vs = ns.map fun s => V.str (sof s)
  | _, _, _, .nil, e => by cases e; rfl
  | .str i :: l, _, _, .cons h r, e => by
    obtain ⟨y, e1, e2⟩ := Option.map_eq_some_iff.mp (show (strsD l).map _ = some _ from e)
    subst e2
    cases h
    rw [strs_rep r e1]; rfl
  | .non :: _, _, _, _, e => by cases e
  | .int _ :: _, _, _, _, e => by cases e
  | .bl _ :: _, _, _, _, e => by cases e
  | .tup _ :: _, _, _, _, e => by cases e
  | .lst _ :: _, _, _, _, e => by cases e
  | .dct _ _ :: _, _, _, _, e => by cases e
  | .inp _ :: _, _, _, _, e => by cases e
  | .inq _ :: _, _, _, _, e => by cases e
theorem listD_rep {K : PySem.W.Frag} {H : Hp} {x : D} {v : V} {l : List D} (r : Rep K H x v) (e : listD x = .ok l) : ∃ p vs, v = .ref p ∧ SqL K H p vs ∧ RepL K H l vs := by
  unfold listD at e
  split at e
  · cases e; cases r with
    | lst h r => exact ⟨_, _, rfl, .inl (.inl h), r⟩
  · cases e; cases r with
    | inp h r => exact ⟨_, _, rfl, h, r⟩
  · cases e
theorem listD_ex (x : D) (e : Exc) (s : Sto) : listD x ≠ .ex e s := by
  unfold listD; intro h; split at h <;> cases h
theorem seqOf_rep {K : PySem.W.Frag} {H : Hp} {x : D} {v : V} {l : List D} (r : Rep K H x v) (e : seqOf x = .ok l) : ∃ p vs, v = .ref p ∧ (SqL K H p vs ∨ SqT K H p vs) ∧ RepL K H l vs := by
  unfold seqOf at e
  split at e
  · cases e; cases r with
    | lst h r => exact ⟨_, _, rfl, .inl (.inl (.inl h)), r⟩
  · cases e; cases r with
    | tup h r => exact ⟨_, _, rfl, .inr (.inl (.inl h)), r⟩
  · cases e
theorem seqOf_ex (x : D) (e : Exc) (s : Sto) : seqOf x ≠ .ex e s := by
  unfold seqOf; intro h; split at h <;> cases h
/-- a fold of a list of plain things -/
theorem bind3_ex {α β : Type} {x : R α} {o : α → Option β} {g : β → D} (hx : ∀ e s, x ≠ .ex e s) (e : Exc) (s : Sto) : (x.bind fun l => (ofO (o l)).bind fun m => R.ok (g m)) ≠ .ex e s := by
  intro h
  cases e1 : x with
  | stuck => rw [e1] at h; cases h
  | ex a b => exact hx a b e1
  | ok l =>
    rw [e1, _root_.B.R.bind_ok] at h
    cases e2 : o l with
    | none => rw [e2] at h; cases h
    | some m => rw [e2] at h; cases h
theorem bind3_ok {α β : Type} {x : R α} {o : α → Option β} {g : β → D} {c : D} (hx : ∀ e s, x ≠ .ex e s) (h : (x.bind fun l => (ofO (o l)).bind fun m => R.ok (g m)) = .ok c) : ∃ l m, x = .ok l ∧ o l = some m ∧ c = g m := by
  cases e1 : x with
  | stuck => rw [e1] at h; cases h
  | ex a b => exact absurd e1 (hx a b)
  | ok l =>
    rw [e1, _root_.B.R.bind_ok] at h
    cases e2 : o l with
    | none => rw [e2] at h; cases h
    | some m => rw [e2] at h; cases h; exact ⟨l, m, rfl, e2, rfl⟩
theorem sc_sum : SimC1 z.B (rSum z.X.K) (d1 bSum) := simC1_d (fun a x s => bind3_ex (listD_ex a) x s) fun H a c v Q ra e q => by
  obtain ⟨l, ns, e1, e2, rfl⟩ := bind3_ok (listD_ex a) e
  obtain ⟨p, vs, rfl, hs, r⟩ := listD_rep ra e1
  have := ints_rep r e2
  subst this
  exact ⟨p, ns, rfl, hs, q _ fun G => .int _⟩
theorem sc_any : SimC1 z.B (rAny z.X.K) (d1 bAny) := simC1_d (fun a x s => bind3_ex (listD_ex a) x s) fun H a c v Q ra e q => by
  obtain ⟨l, ns, e1, e2, rfl⟩ := bind3_ok (listD_ex a) e
  obtain ⟨p, vs, rfl, hs, r⟩ := listD_rep ra e1
  have := bools_rep r e2
  subst this
  exact ⟨p, ns, rfl, hs, q _ fun G => .bl _⟩
theorem kSum (ctx : Ctx k z) (hg : Gl z.X "sum") (hm : z.X.mg "sum" = none) (ha : OkE z a ma) (hs : starEach [a] z.X.env = (false, eval a z.X.env) :: starEach [] z.X.env := by rfl) : OkE z (.Call (.Name "sum" p) [a] [] pos) (e1 (d1 bSum) ma) := kB1 (cr_sum ctx.calm) sc_sum (by decide +kernel) hg hm ha (hs := hs)
theorem kAny (ctx : Ctx k z) (hg : Gl z.X "any") (hm : z.X.mg "any" = none) (ha : OkE z a ma) (hs : starEach [a] z.X.env = (false, eval a z.X.env) :: starEach [] z.X.env := by rfl) : OkE z (.Call (.Name "any" p) [a] [] pos) (e1 (d1 bAny) ma) := kB1 (cr_any ctx.calm) sc_any (by decide +kernel) hg hm ha (hs := hs)
theorem sort_eq {ns ms : List Int} (hp : ms.Perm ns) (hs : ms.Pairwise (· ≤ ·)) : ms = ns.mergeSort (fun a b => decide (a ≤ b)) := by
  refine List.Perm.eq_of_pairwise (le := (· ≤ ·)) (fun x y _ _ h1 h2 => Int.le_antisymm h1 h2) hs ?_ (hp.trans (List.mergeSort_perm _ _).symm)
  have := List.pairwise_mergeSort (le := fun a b : Int => decide (a ≤ b)) (fun a b c h1 h2 => by simp at *; omega) (fun a b => by simp; omega) ns
  exact this.imp fun h => of_decide_eq_true h
theorem ints_int {K : PySem.W.Frag} {G : Hp} : ∀ ns : List Int, RepL K G (ns.map .int) (ns.map V.int)
  | [] => .nil
  | n :: r => .cons (.int n) (ints_int r)
theorem ints_map {ns : List Int} {vs : List V} (h : vs = ns.map V.int) : vs = ns.map V.int := h
def rSortAll (K : PySem.W.Frag) : List V → Hp → VK → Prop := fun vs H Q => rSortedI K vs H Q ∨ ∃ (a : Addr) (ns : List Int), vs = [V.ref a] ∧ SqT K H a (ns.map V.int) ∧
  ∀ (ns' : List Int) (p : Addr), ns'.Perm ns → ns'.Pairwise (· ≤ ·) → H p = none → Q (.ref p) (upd H p (.lst (ns'.map V.int)))
theorem cr_sortAll {X : Cx} : CallR X (.builtin "sorted") (rSortAll X.K) := callR_or cr_sortedI cr_sortedIT
theorem sc_sortI : SimC1 z.B (rSortAll z.X.K) (d1 bSortI) := by
  intro Wi ρ G S H x v Q R rx h
  have h : Post z.B Wi ρ G H ((dat S x).bind fun a => (bSortI a).bind fun r => .ok (.d r, S)) Q := h
  obtain ⟨d, _, rd, h⟩ := dat_key R rx h
  cases e : bSortI d with
  | stuck => rw [e] at h; exact False.elim h
  | ex a b => exact absurd e (bind3_ex (seqOf_ex d) a b)
  | ok c =>
    obtain ⟨l, ns, e1, e2, rfl⟩ := bind3_ok (seqOf_ex d) e
    rw [e] at h
    obtain ⟨p, vs, rfl, hs, r⟩ := seqOf_rep rd e1
    have := ints_rep r e2
    subst this
    have fin : ∀ (ns' : List Int) (p : Addr), ns'.Perm ns → ns'.Pairwise (· ≤ ·) → H p = none → Q (.ref p) (upd H p (.lst (ns'.map V.int))) := fun ns' p hp hs hn => by
      obtain ⟨R2, l2⟩ := R.froz (.lst (ns'.map V.int)) hn
      refine h _ _ _ _ l2 R2 (.d (.lst upd_same ?_))
      rw [sort_eq hp hs]
      exact ints_int _
    rcases hs with hs | hs
    · exact .inl ⟨p, ns, rfl, hs, fin⟩
    · exact .inr ⟨p, ns, rfl, hs, fin⟩
theorem kSorted (hg : Gl z.X "sorted") (hm : z.X.mg "sorted" = none) (ha : OkE z a ma) (hs : starEach [a] z.X.env = (false, eval a z.X.env) :: starEach [] z.X.env := by rfl) : OkE z (.Call (.Name "sorted" p) [a] [] pos) (e1 (d1 bSortI) ma) := kB1 cr_sortAll sc_sortI boot_sorted hg hm ha (hs := hs)
/-! str, int -/
def rStrA : List V → Hp → VK → Prop := fun xs H Q => (∃ i, xs = [.int i] ∧ i.natAbs.log2 < 1920 ∧ Q (.str (toString i)) H) ∨ ∃ a, xs = [.str a] ∧ Q (.str a) H
theorem cr_strA {X : Cx} : CallR X (.type "str") rStrA := callR_or call_str_int SkE.call_str_str
theorem str_num {i : Int} (h : 0 ≤ i) : PySem.Str.ofString (toString i) = sof (numL i.toNat) := by
  obtain ⟨n, rfl⟩ := Int.eq_ofNat_of_zero_le h
  have := TL.tl_num n
  have e : (PySem.Str.ofString (toString ((n : Nat) : Int))).cps.toList = numL n := this
  have e2 : (PySem.Str.ofString (toString ((n : Nat) : Int))).cps = (numL n).toArray := Array.toList_inj.mp (by rw [e])
  show PySem.Str.ofString (toString ((n : Nat) : Int)) = _
  unfold sof
  rw [show ((n : Nat) : Int).toNat = n from rfl, ← e2]
theorem sc_str : SimC1 z.B rStrA (d1 bStr) := simC1_d (fun a x s h => by unfold bStr at h; split at h <;> first | exact need_ex h | cases h) fun H a c v Q ra e q => by
  unfold bStr at e
  split at e
  · rename_i i
    obtain ⟨h1, rfl⟩ := need_ok e
    rw [Bool.and_eq_true] at h1
    cases ra
    refine .inl ⟨i, rfl, of_decide_eq_true h1.2, ?_⟩
    rw [str_num (of_decide_eq_true h1.1)]
    exact q _ fun G => .str _
  · cases e; cases ra
    exact .inr ⟨_, rfl, q _ fun G => .str _⟩
  · cases e
theorem kStrOf (hg : Gl z.X "str") (hm : z.X.mg "str" = none) (ha : OkE z a ma) (hs : starEach [a] z.X.env = (false, eval a z.X.env) :: starEach [] z.X.env := by rfl) : OkE z (.Call (.Name "str" p) [a] [] pos) (e1 (d1 bStr) ma) := kT1 cr_strA sc_str boot_str hg hm ha (hs := hs)
theorem sc_int : SimC1 z.B (fun xs H Q => (∃ i, xs = [.int i] ∧ Q (.int i) H) ∨ ∃ k, xs = [.bl k] ∧ Q (.int (if k then 1 else 0)) H) (d1 bInt) := simC1_d (fun a x s h => by unfold bInt at h; split at h <;> cases h) fun H a c v Q ra e q => by
  unfold bInt at e
  split at e
  · cases e; cases ra; exact .inl ⟨_, rfl, q _ fun G => .int _⟩
  · cases e; cases ra; exact .inr ⟨_, rfl, q _ fun G => .int _⟩
  · cases e
theorem kIntOf (hg : Gl z.X "int") (hm : z.X.mg "int" = none) (ha : OkE z a ma) (hs : starEach [a] z.X.env = (false, eval a z.X.env) :: starEach [] z.X.env := by rfl) : OkE z (.Call (.Name "int" p) [a] [] pos) (e1 (d1 bInt) ma) := kT1 call_int1 sc_int boot_int hg hm ha (hs := hs)
theorem sc_abs : SimC1 z.B (fun xs H Q => ∃ i, xs = [.int i] ∧ Q (.int (if i < 0 then -i else i)) H) (d1 bAbs) := simC1_d (fun a x s h => by unfold bAbs at h; split at h <;> cases h) fun H a c v Q ra e q => by
  unfold bAbs at e
  split at e
  · cases e; cases ra; exact ⟨_, rfl, q _ fun G => .int _⟩
  · cases e
theorem kAbs (hg : Gl z.X "abs") (hm : z.X.mg "abs" = none) (ha : OkE z a ma) (hs : starEach [a] z.X.env = (false, eval a z.X.env) :: starEach [] z.X.env := by rfl) : OkE z (.Call (.Name "abs" p) [a] [] pos) (e1 (d1 bAbs) ma) := kB1 call_abs sc_abs boot_abs hg hm ha (hs := hs)
theorem sc_I2 {g : Int → Int → Int} : SimC2 z.B (fun xs H Q => ∃ i j, xs = [.int i, .int j] ∧ Q (.int (g i j)) H) (d2 (I2 fun i j => .ok (.int (g i j)))) := simC2_d (I2_ex fun _ _ _ _ h => by cases h) fun H a b c v u Q ra rb e q => by
  obtain ⟨i, j, rfl, rfl, e2⟩ := I2_ok e
  cases e2
  cases ra; cases rb
  exact ⟨i, j, rfl, q _ fun G => .int _⟩
theorem kMax2 (ctx : Ctx k z) (hg : Gl z.X "max") (hm : z.X.mg "max" = none) (ha : OkE z a ma) (hb : OkE z b mb) (hs : starEach [a, b] z.X.env = (false, eval a z.X.env) :: starEach [b] z.X.env := by rfl) (hs2 : starEach [b] z.X.env = (false, eval b z.X.env) :: starEach [] z.X.env := by rfl)
    (hpl : (backTo pos (starEach [b] z.X.env)).any (·.1) = false := by rfl) : OkE z (.Call (.Name "max" p) [a, b] [] pos) (e2 (d2 bMax2) ma mb) := kB2 (call_max2 ctx.calm) sc_I2 (by decide +kernel) hg hm ha hb (hs := hs) (hs2 := hs2) (hpl := hpl)
theorem kMin2 (ctx : Ctx k z) (hg : Gl z.X "min") (hm : z.X.mg "min" = none) (ha : OkE z a ma) (hb : OkE z b mb) (hs : starEach [a, b] z.X.env = (false, eval a z.X.env) :: starEach [b] z.X.env := by rfl) (hs2 : starEach [b] z.X.env = (false, eval b z.X.env) :: starEach [] z.X.env := by rfl)
    (hpl : (backTo pos (starEach [b] z.X.env)).any (·.1) = false := by rfl) : OkE z (.Call (.Name "min" p) [a, b] [] pos) (e2 (d2 bMin2) ma mb) := kB2 (call_min2 ctx.calm) sc_I2 (by decide +kernel) hg hm ha hb (hs := hs) (hs2 := hs2) (hpl := hpl)
theorem sc_divmod : SimC2 z.B (fun xs H Q => ∃ i j, xs = [.int i, .int j] ∧ CDivP i j ∧ ∀ p, H p = none → Q (.ref p) (upd H p (.tup [.int (i / j), .int (i % j)]))) bDivmod := by
  intro Wi ρ G S H x y v u Q R rx ry h
  unfold bDivmod at h
  split at h
  · rename_i i j
    obtain ⟨h1, h⟩ := postN h
    have := divOk_of h1
    rw [rep_int rx, rep_int ry]
    refine ⟨i, j, rfl, ⟨this.1, PyProof.noPylong_of_log2 this.2⟩, fun p hp => ?_⟩
    obtain ⟨R2, l2⟩ := R.froz (.tup [.int (i / j), .int (i % j)]) hp
    exact h _ _ _ _ l2 R2 (.d (.tup upd_same (.cons (.int _) (.cons (.int _) .nil))))
  · exact False.elim h
theorem kDivmod (hg : Gl z.X "divmod") (hm : z.X.mg "divmod" = none) (ha : OkE z a ma) (hb : OkE z b mb) (hs : starEach [a, b] z.X.env = (false, eval a z.X.env) :: starEach [b] z.X.env := by rfl) (hs2 : starEach [b] z.X.env = (false, eval b z.X.env) :: starEach [] z.X.env := by rfl)
    (hpl : (backTo pos (starEach [b] z.X.env)).any (·.1) = false := by rfl) : OkE z (.Call (.Name "divmod" p) [a, b] [] pos) (e2 bDivmod ma mb) := kB2 call_divmodW sc_divmod boot_divmod hg hm ha hb (hs := hs) (hs2 := hs2) (hpl := hpl)
/-! isinstance -/
def tyS : Ty → String
  | .str => "str" | .int => "int" | .bool => "bool" | .tuple => "tuple" | .list => "list"
theorem kit_non {K : PySem.W.Frag} (t : Ty)  : PySem.W.kitOne K (.type "NoneType") (.type (tyS t)) = some (tyD t (.non)) := by cases t <;> first | exact kit_ty (r := true) (by decide +kernel) | exact kit_ty (r := false) (by decide +kernel)
theorem kit_bl {K : PySem.W.Frag} (t : Ty) (b : Bool) : PySem.W.kitOne K (.type "bool") (.type (tyS t)) = some (tyD t (.bl b)) := by cases t <;> first | exact kit_ty (r := true) (by decide +kernel) | exact kit_ty (r := false) (by decide +kernel)
theorem kit_int {K : PySem.W.Frag} (t : Ty) (b : Int) : PySem.W.kitOne K (.type "int") (.type (tyS t)) = some (tyD t (.int b)) := by cases t <;> first | exact kit_ty (r := true) (by decide +kernel) | exact kit_ty (r := false) (by decide +kernel)
theorem kit_str {K : PySem.W.Frag} (t : Ty) (b : List Nat) : PySem.W.kitOne K (.type "str") (.type (tyS t)) = some (tyD t (.str b)) := by cases t <;> first | exact kit_ty (r := true) (by decide +kernel) | exact kit_ty (r := false) (by decide +kernel)
theorem kit_tup {K : PySem.W.Frag} (t : Ty) (b : List D) : PySem.W.kitOne K (.type "tuple") (.type (tyS t)) = some (tyD t (.tup b)) := by cases t <;> first | exact kit_ty (r := true) (by decide +kernel) | exact kit_ty (r := false) (by decide +kernel)
theorem kit_lst {K : PySem.W.Frag} (t : Ty) (b : List D) : PySem.W.kitOne K (.type "list") (.type (tyS t)) = some (tyD t (.lst b)) := by cases t <;> first | exact kit_ty (r := true) (by decide +kernel) | exact kit_ty (r := false) (by decide +kernel)
theorem kit_inp {K : PySem.W.Frag} (t : Ty) (b : List D) : PySem.W.kitOne K (.type "list") (.type (tyS t)) = some (tyD t (.inp b)) := by cases t <;> first | exact kit_ty (r := true) (by decide +kernel) | exact kit_ty (r := false) (by decide +kernel)
theorem kit_inq {K : PySem.W.Frag} (t : Ty) (b : List D) : PySem.W.kitOne K (.type "tuple") (.type (tyS t)) = some (tyD t (.inq b)) := by cases t <;> first | exact kit_ty (r := true) (by decide +kernel) | exact kit_ty (r := false) (by decide +kernel)
theorem tyx_seqL {K : PySem.W.Frag} {H : Hp} {a : Addr} {vs : List V} (h : SqL K H a vs) : TyX K H (.ref a) (.type "list") := by
  rcases h with (h | ⟨o, h⟩) | ⟨o, its, n, hk, hc, _⟩
  · exact .base (.lst h)
  · exact .base (.frz h)
  · exact .kList hk hc
theorem tyx_seqT {K : PySem.W.Frag} {H : Hp} {a : Addr} {vs : List V} (h : SqT K H a vs) : TyX K H (.ref a) (.type "tuple") := by
  rcases h with (h | ⟨o, h⟩) | ⟨o, its, n, hk, hc, _⟩
  · exact .base (.tup h)
  · exact .fTuple h
  · exact .kTuple hk hc
theorem isI_rep {Wi : XK} {ρ : List Addr} {G H : Hp} {S : Sto} {x : W} {v : V} {Q : VK} (t : Ty) (R : Rel z.B ρ G S H) (rx : RepW z.X.K ρ G x v) (h : Post z.B Wi ρ G H (isI t x S) Q) : ∃ (u : Value) (b : Bool), TyX z.X.K H v u ∧ PySem.W.kitOne z.X.K u (.type (tyS t)) = some b ∧ Q (.bl b) H := by
  unfold isI at h
  split at h
  · obtain ⟨h1, h⟩ := postN h
    cases rx with
    | d rx =>
      cases rx with
      | non => exact ⟨_, _, .base .non, kit_non t, post_d R (.bl _) h⟩
      | bl b => exact ⟨_, _, .base (.bl b), kit_bl t b, post_d R (.bl _) h⟩
      | int b => exact ⟨_, _, .base (.int b), kit_int t b, post_d R (.bl _) h⟩
      | str b => exact ⟨_, _, .base (.str _), kit_str t b, post_d R (.bl _) h⟩
      | tup g1 g2 => exact ⟨_, _, tyx_seqT (.inl (.inl (R.ex _ _ g1))), kit_tup t _, post_d R (.bl _) h⟩
      | lst g1 g2 => exact ⟨_, _, tyx_seqL (.inl (.inl (R.ex _ _ g1))), kit_lst t _, post_d R (.bl _) h⟩
      | inp g1 g2 => exact ⟨_, _, tyx_seqL (R.ex.seq g1), kit_inp t _, post_d R (.bl _) h⟩
      | inq g1 g2 => exact ⟨_, _, tyx_seqT (Same.sqt R.ex (sqq g1)), kit_inq t _, post_d R (.bl _) h⟩
      | dk _ _ _ => cases h1
      | dt _ _ _ => cases h1
  · cases rx with
    | tw g1 g2 => exact ⟨_, _, tyx_seqT (.inl (.inl (R.ex _ _ g1))), (show PySem.W.kitOne z.X.K _ _ = some (isTt t) by have := kit_tup (K := z.X.K) t []; cases t <;> exact this), post_d R (.bl _) h⟩
  · cases rx with
    | loc ha =>
      obtain ⟨c, hc, hr⟩ := R.at_ ha
      rw [hc] at h
      cases c with
      | l xs => obtain ⟨vs, g1, g2⟩ := hr; exact ⟨_, _, tyx_seqL (.inl (.inl g1)), (show PySem.W.kitOne z.X.K _ _ = some (isLt t) by have := kit_lst (K := z.X.K) t []; cases t <;> exact this), post_d R (.bl _) h⟩
      | w xs => obtain ⟨vs, g1, g2⟩ := hr; exact ⟨_, _, tyx_seqL (.inl (.inl g1)), (show PySem.W.kitOne z.X.K _ _ = some (isLt t) by have := kit_lst (K := z.X.K) t []; cases t <;> exact this), post_d R (.bl _) h⟩
      | _ => exact False.elim h
theorem kIsI (t : Ty) {x : Str} {p2 : Pos} (hx : x = PySem.Str.ofString (tyS t) := by rfl) (hg : Gl z.X "isinstance") (hm : z.X.mg "isinstance" = none) (hg2 : Gl z.X x) (hm2 : z.X.mg x = none) (ha : OkE z a ma)
    (hs : starEach [a, .Name x p2] z.X.env = (false, eval a z.X.env) :: starEach [.Name x p2] z.X.env := by rfl) (hs2 : starEach [.Name x p2] z.X.env = (false, eval (.Name x p2) z.X.env) :: starEach [] z.X.env := by rfl)
    (hpl : (backTo pos (starEach [.Name x p2] z.X.env)).any (·.1) = false := by rfl) : OkE z (.Call (.Name "isinstance" p) [a, .Name x p2] [] pos) (e1 (isI t) ma) := by
  have ty : PE z.X (.Name x p2) (tC (.ty (tyS t))) := by
    subst hx
    cases t
    · exact pe_bltn hg2 hm2 boot_str rfl (by decide) (by decide)
    · exact pe_bltn hg2 hm2 boot_int rfl (by decide) (by decide)
    · exact pe_bltn hg2 hm2 boot_bool rfl (by decide) (by decide)
    · exact pe_bltn hg2 hm2 boot_tuple rfl (by decide) (by decide)
    · exact pe_bltn hg2 hm2 boot_list rfl (by decide) (by decide)
  refine ok_e (pe_callB call_isi hg hm boot_isinstance (pa_cons ha (pa_cons ty pa_nil hs2) hs) (by decide) (by decide) hs hpl) ?_
  intro ρ G S H env σ Q R E h
  refine sim_e ρ G S H env σ _ R E (post_bind h fun w S1 ρ1 G1 H1 v l1 R1 r1 h1 => ?_)
  obtain ⟨u, b, t1, t2, q⟩ := isI_rep t R1 r1 h1
  exact ⟨v, _, u, _, b, rfl, .ty _, t1, t2, q⟩
/-! tuple(range(n)), list(range(n)) -/
theorem rngD_L {K : PySem.W.Frag} {G : Hp} : ∀ (n : Nat) (lo : Int), RepL K G (rngD lo n) ((List.range n).map fun i => V.int (lo + (i : Nat)))
  | 0, _ => .nil
  | n + 1, lo => by
    rw [List.range_succ_eq_map, List.map_cons, List.map_map]
    refine .cons ?_ ?_
    · have : lo + ((0 : Nat) : Int) = lo := by simp
      rw [this]; exact .int lo
    · have := rngD_L (K := K) (G := G) n (lo + 1)
      have e : ((List.range n).map fun i => V.int (lo + 1 + (i : Nat))) = (List.range n).map ((fun i => V.int (lo + (i : Nat))) ∘ Nat.succ) := by
        refine List.map_congr_left fun i _ => ?_
        show _ = V.int (lo + ((i + 1 : Nat) : Int))
        congr 1; omega
      rw [← e]; exact this
theorem rgV0 (n : Int) : rgV 0 n = (List.range n.toNat).map fun i => V.int ((0 : Int) + (i : Nat)) := by unfold rgV; rw [Int.sub_zero]
theorem s24 {i : Int} (h : small24 i = true) : RgOk 0 i := by
  rw [small24, Bool.and_eq_true] at h
  exact RgOk.of_le (by decide) (of_decide_eq_true h.2) (by decide) (of_decide_eq_true h.1)
theorem kTupR {p2 pos2 : Pos} (ctx : Ctx k z) (hg : Gl z.X "tuple") (hm : z.X.mg "tuple" = none) (hg2 : Gl z.X "range") (hm2 : z.X.mg "range" = none) (ha : OkE z a ma)
    (hs : starEach [.Call (.Name "range" p2) [a] [] pos2] z.X.env = (false, eval (.Call (.Name "range" p2) [a] [] pos2) z.X.env) :: starEach [] z.X.env := by rfl) (hs2 : starEach [a] z.X.env = (false, eval a z.X.env) :: starEach [] z.X.env := by rfl) :
    OkE z (.Call (.Name "tuple" p) [.Call (.Name "range" p2) [a] [] pos2] [] pos) (e1 bTupR ma) := by
  refine ok_e (pe_tupRg ctx.calm hg hm (prg_1 hg2 hm2 ha hs2) hs) ?_
  intro ρ G S H env σ Q R E h
  refine sim_e ρ G S H env σ _ R E (post_bind h fun w S1 ρ1 G1 H1 v l1 R1 r1 h1 => ?_)
  unfold bTupR at h1
  simp only at h1
  split at h1
  · rename_i i
    obtain ⟨c1, h1⟩ := postN h1
    refine ⟨i, rep_int r1, s24 c1, fun q hq => ?_⟩
    obtain ⟨R2, l2⟩ := R1.froz (.tup (rgV 0 i)) hq
    exact h1 _ _ _ _ l2 R2 (.d (.tup upd_same (by rw [rgV0]; exact rngD_L _ _)))
  · exact False.elim h1
theorem kLstR {p2 pos2 : Pos} (ctx : Ctx k z) (hg : Gl z.X "list") (hm : z.X.mg "list" = none) (hg2 : Gl z.X "range") (hm2 : z.X.mg "range" = none) (ha : OkE z a ma)
    (hs : starEach [.Call (.Name "range" p2) [a] [] pos2] z.X.env = (false, eval (.Call (.Name "range" p2) [a] [] pos2) z.X.env) :: starEach [] z.X.env := by rfl) (hs2 : starEach [a] z.X.env = (false, eval a z.X.env) :: starEach [] z.X.env := by rfl) :
    OkE z (.Call (.Name "list" p) [.Call (.Name "range" p2) [a] [] pos2] [] pos) (e1 bLstR ma) := by
  refine ok_e (pe_listRg ctx.calm hg hm (prg_1 hg2 hm2 ha hs2) hs) ?_
  intro ρ G S H env σ Q R E h
  refine sim_e ρ G S H env σ _ R E (post_bind h fun w S1 ρ1 G1 H1 v l1 R1 r1 h1 => ?_)
  unfold bLstR at h1
  simp only at h1
  split at h1
  · rename_i i
    obtain ⟨c1, h1⟩ := postN h1
    refine ⟨i, rep_int r1, s24 c1, fun q hq => ?_⟩
    obtain ⟨R2, l2⟩ := R1.froz (.lst (rgV 0 i)) hq
    exact h1 _ _ _ _ l2 R2 (.d (.lst upd_same (by rw [rgV0]; exact rngD_L _ _)))
  · exact False.elim h1
theorem kLstRC {p2 pos2 : Pos} (ctx : Ctx k z) (hg : Gl z.X "list") (hm : z.X.mg "list" = none) (hg2 : Gl z.X "range") (hm2 : z.X.mg "range" = none) (ha : OkE z a ma)
    (hs : starEach [.Call (.Name "range" p2) [a] [] pos2] z.X.env = (false, eval (.Call (.Name "range" p2) [a] [] pos2) z.X.env) :: starEach [] z.X.env := by rfl) (hs2 : starEach [a] z.X.env = (false, eval a z.X.env) :: starEach [] z.X.env := by rfl) :
    OkE z (.Call (.Name "list" p) [.Call (.Name "range" p2) [a] [] pos2] [] pos) (e1 bLstRC ma) := by
  refine ok_e (pe_listRg ctx.calm hg hm (prg_1 hg2 hm2 ha hs2) hs) ?_
  intro ρ G S H env σ Q R E h
  refine sim_e ρ G S H env σ _ R E (post_bind h fun w S1 ρ1 G1 H1 v l1 R1 r1 h1 => ?_)
  unfold bLstRC at h1
  simp only at h1
  split at h1
  · rename_i i
    obtain ⟨c1, h1⟩ := postN h1
    refine ⟨i, rep_int r1, s24 c1, fun q hq => ?_⟩
    obtain ⟨R2, l2⟩ := R1.cellNew (o := .lst (rgV 0 i)) (c := .l (rngD 0 i.toNat)) hq (cL upd_same (by rw [rgV0]; exact rngD_L _ _))
    exact h1 _ _ _ _ l2 R2 (.loc (by rw [← R1.len]; simp))
  · exact False.elim h1
end
end B
namespace B
open PySem L2
section
variable {z : Zx} {k : Nat} {a b c e : Expr} {es : List Expr} {ma mb mc m : Ev} {ms : List Ev} {pos p : Pos} {ta tb tc : Tx} {st : Stmt} {sts rest : List Stmt} {s1 s2 : Sx} {tg : Expr} {mg : Tg}
/-! ### targets -/
theorem gNameOk (ctx : Ctx k z) (i : Nat) {x : Str} (hi : z.X.N[i]? = some x) (hx : Loc z.X.env.scope x) (hf : z.X.fn x = true ∨ z.X.env.scope.names.lookup x = some .local) (pos : Pos) (hp : PinFree z.B i := by exact pin_none rfl) : OkG z (.Name x pos) (gN i) := ok_g (pg_name ctx.nd hi hx hf) (sg_name hp) quiet_N
theorem gsNil : OkGs z [] [] := ⟨⟨fun pins s σ H vs us Q I r h => by
  obtain ⟨ρ, G, S, env, l, R, E, rr, q⟩ := h
  exact pgs_nil.run pins s σ H vs us Q I r (sg_nil ρ G S H env σ l vs Q R E rr q)⟩, fun _ h => nomatch h⟩
theorem gsCons {ts : List Expr} {ms : List Tg} (h1 : OkG z tg mg) (h2 : OkGs z ts ms) (hs : (assignEach (tg :: ts) z.X.env).map (·.2) = assign tg z.X.env :: (assignEach ts z.X.env).map (·.2) := by rfl) : OkGs z (tg :: ts) (mg :: ms) := by
  refine ⟨⟨fun pins s σ H vs us Q I r h => ?_⟩, fun g hg => ?_⟩
  · obtain ⟨ρ, G, S, env, l, R, E, rr, q⟩ := h
    exact (pgs_cons h1.1 h2.1 hs).run pins s σ H vs us Q I r (sg_cons sim_g sim_gs ρ G S H env σ l vs Q R E rr q)
  · rcases List.mem_cons.mp hg with e | e
    · rw [e]; exact h1.2
    · exact h2.2 g e
theorem gTupOk (ctx : Ctx k z) {ts : List Expr} {ms : List Tg} {j : Nat} (h : OkGs z ts ms) (hn : (assignEach ts z.X.env).length = ms.length := by rfl) (hst : (assignEach ts z.X.env).findIdx? (·.1) = none := by rfl) : OkG z (.Tuple ts j pos) (gT ms) :=
  ok_g (pg_tup ctx.calm h.1 hn hst) (sg_tup rfl sim_gs) (quiet_T h.2)
/-! a store to o[i] -/
theorem qt_ex {α : Type} {r : R α} {x : Exc} {s : Sto} : qt r ≠ .ex x s := by
  unfold qt; intro h
  split at h
  · cases h
  · rename_i q; exact q _ _ h
theorem qt_ok {α : Type} {r : R α} {x : α} (h : qt r = .ok x) : r = .ok x := by
  unfold qt at h
  split at h
  · cases h
  · exact h
theorem key_cell {B : Bx} {ρ : List Addr} {G H : Hp} {S : Sto} {t : Bool} {x : D} {u : V} (R : Rel B ρ G S H) (rx : Rep B.K H x u) (hk : keyOk t x = true) {α : Type} {P : α → V → Prop} {l : List (D × α)} {y : α} {v : V} (hy : P y v) {a : Addr} :
    (t = false → ∀ kv, H a = some (.dK kv) → l.map (fun p => keyK p.1) = kv.map (fun p => some p.1) → Al P (l.map (·.2)) (kv.map (·.2)) → kv.length < sizeLine → ∃ kv', DPut H a u v (upd H a (.dK kv')) ∧ (putD l x y).map (fun p => keyK p.1) = kv'.map (fun p => some p.1) ∧ Al P ((putD l x y).map (·.2)) (kv'.map (·.2))) ∧
    (t = true → ∀ kv, H a = some (.dT kv) → l.map (fun p => keyT p.1) = kv.map (fun p => some p.1) → Al P (l.map (·.2)) (kv.map (·.2)) → kv.length < sizeLine → ∃ kv', DPut H a u v (upd H a (.dT kv')) ∧ (putD l x y).map (fun p => keyT p.1) = kv'.map (fun p => some p.1) ∧ Al P ((putD l x y).map (·.2)) (kv'.map (·.2))) := by
  refine ⟨fun e kv h1 h2 h3 h4 => ?_, fun e kv h1 h2 h3 h4 => ?_⟩
  · subst e
    obtain ⟨j, hj⟩ := keyOk_f hk
    obtain ⟨q1, q2⟩ := put_rel keyK (fun _ _ _ _ => keyK_eqv) hj hy l kv h2 h3
    exact ⟨putK kv j v, .inl ⟨kv, j, h1, kV_of rx hj, h4, rfl⟩, q1, q2⟩
  · subst e
    obtain ⟨j, hj⟩ := keyOk_t hk
    cases x <;> simp only [keyT, reduceCtorEq] at hj
    cases rx with
    | tup q1 r1 =>
      rw [kVs_of r1 hj] at q1
      obtain ⟨p1, p2⟩ := put_rel keyT (fun _ _ _ _ => keyT_eqv) (x := .tup _) hj hy l kv h2 h3
      exact ⟨putK kv j v, .inr ⟨kv, j, _, h1, rfl, q1, h4, rfl⟩, p1, p2⟩
theorem map_len {α β γ : Type} {f : α → Option γ} {g : β → Option γ} {l : List α} {m : List β} (h : l.map f = m.map g) : l.length = m.length := by
  have := congrArg List.length h
  simpa using this
theorem mapD_k (l : List (D × D)) (f : D → Option Key) : (mapD l).map (fun p => f p.1) = l.map (fun p => f p.1) := by simp [mapD, Function.comp_def]
theorem mapD_t (l : List (D × D)) (f : D → Option (List Key)) : (mapD l).map (fun p => f p.1) = l.map (fun p => f p.1) := by simp [mapD, Function.comp_def]
theorem mapD_v (l : List (D × D)) : (mapD l).map (·.2) = ws (l.map (·.2)) := by simp [mapD, ws, Function.comp_def]
def rSetAny : TSet := fun o i v H Q => rSetL o i v H Q ∨ rSetD o i v H Q
theorem set_any {X : Cx} (hu : X.A.units + 1 < cLine) : PSet X rSetAny := by
  intro pins s σ H o i v ov iv u Q I ro ri rv h
  rcases h with h | h
  · exact set_list pins s σ H o i v ov iv u Q I ro ri rv h
  · exact set_dict hu pins s σ H o i v ov iv u Q I ro ri rv h
theorem set_L {K : PySem.W.Frag} {G : Hp} {x : D} {v : V} (h : Rep K G x v) : ∀ {l : List D} {vs : List V} (i : Nat), RepL K G l vs → RepL K G (l.set i x) (vs.set i v)
  | _, _, _, .nil => .nil
  | _, _, 0, .cons _ r => .cons h r
  | _, _, i + 1, .cons q r => .cons q (set_L h i r)
def PostC (B : Bx) (ρ : List Addr) (G H : Hp) (r : R Sto) (Q : Hp → Prop) : Prop := match r with
  | .ok S' => ∀ ρ' G' H', Le ρ G H ρ' G' H' → Rel B ρ' G' S' H' → Q H'
  | _ => False
theorem sset {ρ : List Addr} {G H : Hp} {S : Sto} {o i v : W} {ov iv vv : V} {Q : Hp → Prop} (R : Rel z.B ρ G S H) (ro : RepW z.X.K ρ G o ov) (ri : RepW z.X.K ρ G i iv) (rv : RepW z.X.K ρ G v vv) (h : PostC z.B ρ G H (setAny o i v S) Q) : rSetAny ov iv vv H Q := by
  unfold setAny at h
  split at h
  · rename_i n
    cases ro with
    | loc ha =>
      obtain ⟨c, hc, hr⟩ := R.at_ ha
      have fin : ∀ {o : HO} {c : C}, CellR z.B ρ G (upd H _ o) _ c → PostC z.B ρ G H (.ok (S.set n c)) Q → Q (upd H _ o) := fun {o c} q hh => by
        obtain ⟨R2, l2⟩ := R.cellSet ha q
        exact hh _ _ _ l2 R2
      rw [hc] at h
      cases c with
      | l xs =>
        obtain ⟨vs, g1, g2⟩ := hr
        simp only at h
        split at h
        · rename_i j
          cases e : ixN xs.length j with
          | none => rw [e] at h; exact False.elim h
          | some q =>
            rw [e, ofO_some, _root_.B.R.bind_ok] at h
            refine .inl ⟨_, vs, j, q, rfl, rep_int ri, g1, by rw [← g2.length]; exact e, fin ?_ h⟩
            split
            · cases rv with
              | d rv => exact cL upd_same (set_L rv q g2)
            · exact cW upd_same (RepWs.set rv q g2.ws)
        · exact False.elim h
      | w xs =>
        obtain ⟨vs, g1, g2⟩ := hr
        simp only at h
        split at h
        · rename_i j
          cases e : ixN xs.length j with
          | none => rw [e] at h; exact False.elim h
          | some q =>
            rw [e, ofO_some, _root_.B.R.bind_ok] at h
            exact .inl ⟨_, vs, j, q, rfl, rep_int ri, g1, by rw [← g2.length]; exact e, fin (cW upd_same (RepWs.set rv q g2)) h⟩
        · exact False.elim h
      | m t l =>
        simp only at h
        rcases dat_cases S i with ⟨x, e⟩ | e
        · rw [e, _root_.B.R.bind_ok] at h
          have rx := dat_rep R e ri
          cases e2 : keyOk t x && decide (l.length < sizeL) with
          | false => rw [e2] at h; exact False.elim h
          | true =>
            rw [e2, need_true] at h
            rw [Bool.and_eq_true] at e2
            have hsz := of_decide_eq_true e2.2
            split at h
            · rename_i y
              cases rv with
              | d rv =>
                cases t with
                | false =>
                  obtain ⟨kv, h1, h2, h3⟩ := hr
                  obtain ⟨kv', q1, q2, q3⟩ := (key_cell R rx e2.1 rv (l := l)).1 rfl kv h1 h2 h3.al (by rw [← map_len h2]; exact sizeL_lt hsz)
                  exact .inr ⟨_, _, rfl, q1, fin (show CellR z.B ρ G _ _ (.m false (putD l x y)) from ⟨kv', upd_same, q2, .of_al q3⟩) h⟩
                | true =>
                  obtain ⟨kv, h1, h2, h3⟩ := hr
                  obtain ⟨kv', q1, q2, q3⟩ := (key_cell R rx e2.1 rv (l := l)).2 rfl kv h1 h2 h3.al (by rw [← map_len h2]; exact sizeL_lt hsz)
                  exact .inr ⟨_, _, rfl, q1, fin (show CellR z.B ρ G _ _ (.m true (putD l x y)) from ⟨kv', upd_same, q2, .of_al q3⟩) h⟩
            · cases t with
              | false =>
                obtain ⟨kv, h1, h2, h3⟩ := hr
                obtain ⟨kv', q1, q2, q3⟩ := (key_cell R rx e2.1 rv (l := mapD l)).1 rfl kv h1 (by rw [mapD_k]; exact h2) (by rw [mapD_v]; exact (RepL.ws h3).al) (by rw [← map_len h2]; exact sizeL_lt hsz)
                exact .inr ⟨_, _, rfl, q1, fin (show CellR z.B ρ G _ _ (.mw false (putD (mapD l) x v)) from ⟨kv', upd_same, q2, .of_al q3⟩) h⟩
              | true =>
                obtain ⟨kv, h1, h2, h3⟩ := hr
                obtain ⟨kv', q1, q2, q3⟩ := (key_cell R rx e2.1 rv (l := mapD l)).2 rfl kv h1 (by rw [mapD_t]; exact h2) (by rw [mapD_v]; exact (RepL.ws h3).al) (by rw [← map_len h2]; exact sizeL_lt hsz)
                exact .inr ⟨_, _, rfl, q1, fin (show CellR z.B ρ G _ _ (.mw true (putD (mapD l) x v)) from ⟨kv', upd_same, q2, .of_al q3⟩) h⟩
        · rw [e] at h; exact False.elim h
      | mw t l =>
        simp only at h
        rcases dat_cases S i with ⟨x, e⟩ | e
        · rw [e, _root_.B.R.bind_ok] at h
          have rx := dat_rep R e ri
          cases e2 : keyOk t x && decide (l.length < sizeL) with
          | false => rw [e2] at h; exact False.elim h
          | true =>
            rw [e2, need_true] at h
            rw [Bool.and_eq_true] at e2
            have hsz := of_decide_eq_true e2.2
            cases t with
            | false =>
              obtain ⟨kv, h1, h2, h3⟩ := hr
              obtain ⟨kv', q1, q2, q3⟩ := (key_cell R rx e2.1 rv (l := l)).1 rfl kv h1 h2 h3.al (by rw [← map_len h2]; exact sizeL_lt hsz)
              exact .inr ⟨_, _, rfl, q1, fin (show CellR z.B ρ G _ _ (.mw false (putD l x v)) from ⟨kv', upd_same, q2, .of_al q3⟩) h⟩
            | true =>
              obtain ⟨kv, h1, h2, h3⟩ := hr
              obtain ⟨kv', q1, q2, q3⟩ := (key_cell R rx e2.1 rv (l := l)).2 rfl kv h1 h2 h3.al (by rw [← map_len h2]; exact sizeL_lt hsz)
              exact .inr ⟨_, _, rfl, q1, fin (show CellR z.B ρ G _ _ (.mw true (putD l x v)) from ⟨kv', upd_same, q2, .of_al q3⟩) h⟩
        · rw [e] at h; exact False.elim h
      | o _ _ => exact False.elim h
  · exact False.elim h
theorem quiet_Sb {o i : Ev} : Quiet (gSb o i) := fun w e s x S => qt_ex
theorem sg_sub {to ti : TE} {mo mi : Ev} (ho : SimE z.B z.Wi to mo) (hi : SimE z.B z.Wi ti mi) : SimG z.B (gSub to ti rSetAny) (gSb mo mi) := by
  intro ρ G S H env σ w v Q R E r h
  unfold gSb PostG at h
  refine ho ρ G S H env σ _ R E ?_
  cases e1 : mo env S with
  | stuck => rw [e1] at h; exact False.elim h
  | ex x S1 => rw [e1] at h; exact False.elim h
  | ok p =>
    rw [e1, _root_.B.R.bind_ok] at h
    intro ρ1 G1 H1 o l1 R1 r1
    refine hi ρ1 G1 p.2 H1 env σ _ R1 (l1.env E) ?_
    cases e2 : mi env p.2 with
    | stuck => rw [e2] at h; exact False.elim h
    | ex x S1 => rw [e2] at h; exact False.elim h
    | ok q =>
      rw [e2, _root_.B.R.bind_ok] at h
      intro ρ2 G2 H2 i l2 R2 r2
      refine sset R2 (l2.w r1) r2 (l2.w (l1.w r)) ?_
      cases e3 : setAny p.1 q.1 w q.2 with
      | stuck => rw [e3] at h; exact False.elim h
      | ex x S1 => rw [e3] at h; exact False.elim h
      | ok S3 =>
        rw [e3] at h
        exact fun ρ3 G3 H3 l3 R3 => h ρ3 G3 H3 σ ((l1.trans l2).trans l3) R3 ((l1.trans (l2.trans l3)).env E)
theorem gSubOk (ctx : Ctx k z) (ha : OkE z a ma) (hb : OkE z b mb) (h : ∀ v, assign (.Subscript a b pos) z.X.env v = (do
      let ov ← holding [v] (eval a z.X.env)
      let iv ← holding [v, ov] (eval b z.X.env)
      standAt pos
      holding [v, ov, iv] (setItem ov iv v)
      release [v, ov, iv] []) := by intro _; rfl) : OkG z (.Subscript a b pos) (gSb ma mb) :=
  ok_g (pg_sub ha hb (set_any (by have := ctx.hr.un; omega)) h) (sg_sub sim_e sim_e) quiet_Sb

/-! ### statements -/
theorem ssNil : OkSs z [] sSkip := ok_ss pss_nil ss_skip
theorem ssOne (h : OkS z st s1) : OkSs z [st] s1 := ok_ss (pss_one h) sim_s
theorem ssCons (h1 : OkS z st s1) (h2 : OkSs z rest s2) : OkSs z (st :: rest) (sSeq s1 s2) := ok_ss (pss_cons h1 h2) (ss_seq sim_s sim_s)
theorem sPass : OkS z (.Pass pos) sSkip := ok_s ps_pass ss_skip
theorem sBreak : OkS z (.Break pos) sBrk := ok_s ps_break ss_brk
theorem sCont : OkS z (.Continue pos) sCnt := ok_s ps_continue ss_cnt
theorem ss_never {t : TS} {Wi : WX} : SimS z.B Wi t sNever := fun ρ G S H env σ D R E h => False.elim h
theorem sNeverOk : OkS z st sNever := ok_s ps_never ss_never
theorem sAsgOk (he : OkE z e m) (hg : OkG z tg mg) (hs : swapsWithSole [tg] e pos.line z.X.env = pure false := by rfl) (hw : swappedStores [tg] e z.X.env = pure none := by rfl) (ha : (assignEach [tg] z.X.env).map (·.2) = [assign tg z.X.env] := by rfl) : OkS z (.Assign [tg] e pos) (sAsg mg m) := ok_s (ps_asg he hg.1 hs hw ha) (ss_asg hg.2 sim_e sim_g)
theorem sSetOk (ctx : Ctx k z) (i : Nat) {x : Str} {pos' : Pos} (he : OkE z e m) (hi : z.X.N[i]? = some x) (hx : Loc z.X.env.scope x) (hf : z.X.fn x = true ∨ z.X.env.scope.names.lookup x = some .local) (hs : swapsWith e (some (.Name x pos')) pos.line z.X.env = pure false := by rfl) (hp : PinFree z.B i := by exact pin_none rfl) : OkS z (.Assign [.Name x pos'] e pos) (sAsg (gN i) m) := ok_s (ps_set ctx.nd hi hx he hs hf) (ss_set hp sim_e)
theorem sXOk (he : OkE z e m) (hs : swapsWith e none pos.line z.X.env = pure false := by rfl) : OkS z (.Expr e pos) (sX m) := ok_s (ps_expr he hs) (ss_x sim_e)
theorem sRetOk (he : OkE z e m) : OkS z (.Return (some e) pos) (sRet m) := ok_s (ps_ret he) (ss_ret sim_e)
theorem sRetNOk : OkS z (.Return none pos) sRetN := ok_s ps_retN ss_retN
theorem sIfOk {c : Expr} {x y : List Stmt} (hc : OkT z c tc) (h1 : OkSs z x s1) (h2 : OkSs z y s2) : OkS z (.If c x y pos) (sIf tc s1 s2) := ok_s (ps_if hc h1 h2) (ss_if sim_t sim_s sim_s)
theorem sWhileOk (ctx : Ctx k z) {c : Expr} {x : List Stmt} (hc : OkT z c tc) (h1 : OkSs z x s1) : OkS z (.While c x [] pos) (sWhl tc s1) := ok_s (ps_while ctx.po hc h1) (ss_whl sim_t sim_s)
theorem sForOk (ctx : Ctx k z) {it : Expr} {x : List Stmt} {mi : Wk} (hi : OkI z tg it mi) (hg : OkG z tg mg) (h1 : OkSs z x s1) (hs : ∀ x, foldedSetIterable it z.X.env x = pure x := by intro _; rfl) : OkS z (.For tg it x [] pos) (sFor mi mg s1) := ok_s (ps_for ctx.po ctx.calm hi hg.1 h1 hs) (ss_for sim_i hg.2 sim_g sim_s)
/-- the body forgets the names ks at its end, and what it made -/
theorem ssKill (ks : List Nat) (h : OkSs z sts s1) : OkSs z sts (sKill ks s1) := ok_ss h (ss_kill ks sim_s)
theorem ssCut (h : OkSs z sts s1) : OkSs z sts (sCut s1) := ok_ss h (ss_cut sim_s)
/-! x += e -/
theorem ss_aug {te : TE} {i : Nat} {f : Int → Int → Int} {Wi : WX} (hp : PinFree z.B i) (he : SimE z.B Wi te m) : SimS z.B Wi (tAug i te (ipI f)) (sAsg (gN i) (e2 (d2 (I2 fun a b => .ok (.int (f a b)))) (eV i) m)) := by
  intro ρ G S H env σ D R E h
  have h' : PostS z.B Wi ρ G H (((eV i env S).bind fun p => (m env p.2).bind fun q => d2 (I2 fun a b => .ok (.int (f a b))) p.1 q.1 q.2).bd env fun p => (gN i p.1 env p.2).bd env fun q => .ok (.nx q.1 q.2)) D := h
  unfold eV at h'
  split at h'
  · rename_i w ew
    obtain ⟨x, h1, h2⟩ := E.2.1 i w ew
    refine ⟨x, h1, he ρ G S H env σ _ R E ?_⟩
    rw [_root_.B.R.bind_ok] at h'
    cases e1 : m env S with
    | stuck => rw [e1] at h'; exact h'
    | ex y S1 => rw [e1] at h'; exact fun ρ' G' H' c d l r q => h' ρ' G' H' σ c d l r (l.env E) q
    | ok p =>
      rw [e1] at h'
      intro ρ1 G1 H1 y l1 R1 r1
      rw [_root_.B.R.bind_ok] at h'
      have h3 : PostS z.B Wi ρ G H (((dat p.2 w).bind fun a => (dat p.2 p.1).bind fun b => (I2 (fun a b => .ok (.int (f a b))) a b).bind fun r => .ok (.d r, p.2)).bd env fun p => (gN i p.1 env p.2).bd env fun q => .ok (.nx q.1 q.2)) D := h'
      rcases dat_cases p.2 w with ⟨d1, ed1⟩ | ed1
      · rcases dat_cases p.2 p.1 with ⟨d2, ed2⟩ | ed2
        · rw [ed1, _root_.B.R.bind_ok, ed2, _root_.B.R.bind_ok] at h3
          have q1 := dat_rep R1 ed1 (l1.w h2)
          have q2 := dat_rep R1 ed2 r1
          cases e3 : I2 (fun a b => _root_.B.R.ok (_root_.B.D.int (f a b))) d1 d2 with
          | stuck => rw [e3] at h3; exact False.elim h3
          | ex a b => exact absurd e3 (I2_ex (fun _ _ _ _ h => by cases h) _ _ _ _)
          | ok c =>
            rw [e3] at h3
            obtain ⟨a, b, rfl, rfl, e4⟩ := I2_ok e3
            cases e4
            cases q1; cases q2
            exact ⟨a, b, rfl, rfl, h3 _ _ _ _ l1 R1 (envSet hp (l1.env E) (.d (.int _)))⟩
        · rw [ed1, _root_.B.R.bind_ok, ed2] at h3; exact False.elim h3
      · rw [ed1] at h3; exact False.elim h3
  · exact False.elim h'
theorem sAddOk (ctx : Ctx k z) (i : Nat) {x : Str} {pos' : Pos} (he : OkE z e m) (hi : z.X.N[i]? = some x) (hx : Loc z.X.env.scope x) (hf : z.X.fn x = true ∨ z.X.env.scope.names.lookup x = some .local) (hp : PinFree z.B i := by exact pin_none rfl) : OkS z (.AugAssign (.Name x pos') .Add e pos) (sAsg (gN i) (e2 (d2 oAddI) (eV i) m)) := ok_s (ps_aug ctx.nd hi hx he ip_add hf) (ss_aug hp sim_e)

/-! ### what is walked -/
theorem ok_i {tg it : Expr} {wi : TI} {mi : Wk} (h : PI z.X tg it wi) (s : SimI z.B z.Wi wi mi) : OkI z tg it mi := ⟨fun pins st σ H R I ⟨ρ, G, S, env, RR, E, q⟩ => h.run pins st σ H R I (s ρ G S H env σ R RR E q)⟩
theorem iSeqOk {tg : Expr} (ha : OkE z a ma) : OkI z tg a (iSeq ma) := ok_i (pi_seq ha) (si_seq sim_e)
theorem iR1Ok {tg : Expr} (hg : Gl z.X "range") (hm : z.X.mg "range" = none) (ha : OkE z a ma) (hs : starEach [a] z.X.env = [(false, eval a z.X.env)] := by rfl) : OkI z tg (.Call (.Name "range" p) [a] [] pos) (iR1 ma) := ok_i (pi_range1 hg hm (pa_cons ha pa_nil hs) hs) (si_r1 sim_e)
theorem iR2Ok {tg : Expr} (hg : Gl z.X "range") (hm : z.X.mg "range" = none) (ha : OkE z a ma) (hb : OkE z b mb) (hs0 : starEach [a, b] z.X.env = (false, eval a z.X.env) :: starEach [b] z.X.env := by rfl) (hs : starEach [a, b] z.X.env = [(false, eval a z.X.env), (false, eval b z.X.env)] := by rfl) (hs2 : starEach [b] z.X.env = [(false, eval b z.X.env)] := by rfl) : OkI z tg (.Call (.Name "range" p) [a, b] [] pos) (iR2 ma mb) := ok_i (pi_range2 hg hm (pa_cons ha (pa_cons hb pa_nil hs2) hs0) hs hs2) (si_r2 sim_e sim_e)
theorem iStrOk {tg : Expr} (ha : OkE z a ma) : OkI z tg a (iStr ma) := ok_i (pi_str ha) (si_str sim_e)
end
end B
namespace B
open PySem L2
/-! ### list comprehensions -/
section
variable {z : Zx} {k : Nat} {B : Bx} {Wi : WX}
theorem wipe_get {σ : St} : ∀ (vs : List Nat) (j : Nat), j ∉ vs → (wipe σ vs)[j]? = σ[j]?
  | [], _, _ => rfl
  | v :: vs, j, h => by
    unfold wipe
    rw [List.getElem?_set_ne (fun e => h (by rw [e]; exact List.mem_cons_self))]
    exact wipe_get vs j fun hm => h (List.mem_cons_of_mem _ hm)
theorem kill_get : ∀ (ks : List Nat) (env : Env) (j : Nat) (w : W), (kill ks env)[j]? = some (some w) → j ∉ ks ∧ env[j]? = some (some w)
  | [], _, _, _, h => ⟨by simp, h⟩
  | i :: r, env, j, w, h => by
    obtain ⟨h1, h2⟩ := kill_get r (env.set i none) j w h
    by_cases hj : i = j
    · subst hj
      obtain ⟨h3, _⟩ := List.getElem?_eq_some_iff.mp h2
      rw [List.getElem?_set_self (by simpa using h3)] at h2
      cases h2
    · rw [List.getElem?_set_ne hj] at h2
      exact ⟨by simp [h1]; exact fun e => hj e.symm, h2⟩
theorem kill_len : ∀ (ks : List Nat) (env : Env), (kill ks env).length = env.length
  | [], _ => rfl
  | i :: r, env => by
    show (kill r (env.set i none)).length = _
    rw [kill_len r]; simp
theorem envWipe {ρ : List Addr} {G : Hp} {env : Env} {σ : St} (E : EnvR B ρ G env σ) (vs : List Nat) (hp : ∀ i ∈ vs, PinFree B i) : EnvR B ρ G (kill vs env) (wipe σ vs) := by
  refine ⟨by rw [kill_len, wipe_length]; exact E.1, fun j w h => ?_, fun p q => ⟨by rw [wipe_get vs p.1 (fun hm => hp _ hm p q rfl)]; exact (E.2.2 p q).1, (E.2.2 p q).2⟩⟩
  obtain ⟨h1, h2⟩ := kill_get vs env j w h
  obtain ⟨v, e1, e2⟩ := E.2.1 j w h2
  exact ⟨v, by rw [wipe_get vs j h1]; exact e1, e2⟩
/-- a target of a comprehension: it stores the comprehension's own names alone -/
def SimGw (B : Bx) (vs : List Nat) (g : TG) (m : Tg) : Prop := (∀ w e s, (∃ e', m w e s = .ok (e', s)) ∨ m w e s = .stuck) ∧
  ∀ ρ G S H env σ w v (Q : St → Hp → Prop) env', Rel B ρ G S H → EnvR B ρ G env σ → RepW B.K ρ G w v → m w env S = .ok (env', S) → (∀ σ', EnvR B ρ G env' σ' → wipe σ' vs = wipe σ vs → Q σ' H) → g v σ H Q
theorem wipe_set {σ : St} {o : Option V} : ∀ (vs : List Nat) (i : Nat), i ∈ vs → wipe (σ.set i o) vs = wipe σ vs
  | [], _, h => nomatch h
  | v :: vs, i, h => by
    unfold wipe
    by_cases hi : i ∈ vs
    · rw [wipe_set vs i hi]
    · have hv : i = v := by
        rcases List.mem_cons.mp h with e | e
        · exact e
        · exact absurd e hi
      subst hv
      apply List.ext_getElem?
      intro j
      by_cases hj : i = j
      · subst hj
        by_cases hl : i < σ.length
        · rw [List.getElem?_set_self (by rw [wipe_length]; simpa using hl), List.getElem?_set_self (by rw [wipe_length]; exact hl)]
        · rw [List.getElem?_eq_none (by simp [wipe_length]; omega), List.getElem?_eq_none (by simp [wipe_length]; omega)]
      · rw [List.getElem?_set_ne hj, List.getElem?_set_ne hj]
        by_cases hm : j ∈ vs
        · -- both none or absent
          have go : ∀ (τ : St) (ks : List Nat), j ∈ ks → (wipe τ ks)[j]? = if j < τ.length then some none else none := fun τ ks => by
            induction ks with
            | nil => intro h; cases h
            | cons a ks ih =>
              intro h
              unfold wipe
              by_cases ha : a = j
              · subst ha
                by_cases hl : a < τ.length
                · rw [List.getElem?_set_self (by rw [wipe_length]; exact hl), if_pos hl]
                · rw [List.getElem?_eq_none (by simp [wipe_length]; omega), if_neg hl]
              · rw [List.getElem?_set_ne ha]
                rcases List.mem_cons.mp h with e | e
                · exact absurd e.symm ha
                · exact ih e
          rw [go _ vs hm, go _ vs hm]; simp
        · rw [wipe_get vs j hm, wipe_get vs j hm, List.getElem?_set_ne hj]
theorem gw_name0 {vs : List Nat} {i : Nat} (h : i ∈ vs) (hp : PinFree B i) : SimGw B vs (gName i) (gN i) := by
  refine ⟨fun w e s => .inl ⟨_, rfl⟩, fun ρ G S H env σ w v Q env' R E r e q => ?_⟩
  cases e
  exact q _ (envSet hp E r) (wipe_set vs i h)
def gNs : List Nat → TGs
  | [] => gNil
  | i :: r => gCons (gName i) (gNs r)
theorem gws_all {vs : List Nat} {ρ : List Addr} {G H : Hp} {S : Sto} {Q : St → Hp → Prop} (R : Rel B ρ G S H)  (hp : ∀ i ∈ vs, PinFree B i) : ∀ (is : List Nat), (∀ i ∈ is, i ∈ vs) → ∀ env σ l us env', EnvR B ρ G env σ → RepWs B.K ρ G l us → gTs (is.map gN) l env S = .ok (env', S) → (∀ σ', EnvR B ρ G env' σ' → wipe σ' vs = wipe σ vs → Q σ' H) → gNs is us σ H Q
  | [], _, env, σ, l, us, env', E, r, e, q => by
    cases r with
    | nil => cases e; exact ⟨rfl, q _ E rfl⟩
    | cons _ _ => cases e
  | i :: is, h, env, σ, l, us, env', E, r, e, q => by
    cases r with
    | nil => cases e
    | cons r1 r2 =>
      refine ⟨_, _, rfl, ?_⟩
      exact gws_all R hp is (fun j hj => h j (List.mem_cons_of_mem _ hj)) (env.set i (some _)) _ _ _ env' (envSet (hp i (h i List.mem_cons_self)) E r1) r2 e fun σ' e' w => q σ' e' (w.trans (wipe_set vs i (h i List.mem_cons_self)))
theorem gTs_gN : ∀ (is : List Nat) (l : List W) (e : Env) (s : Sto), (∃ e', gTs (is.map gN) l e s = .ok (e', s) ∧ l.length = is.length) ∨ gTs (is.map gN) l e s = .stuck
  | [], [], e, s => .inl ⟨e, rfl, rfl⟩
  | [], _ :: _, _, _ => .inr rfl
  | _ :: _, [], _, _ => .inr rfl
  | i :: is, w :: l, e, s => by
    rcases gTs_gN is l (e.set i (some w)) s with ⟨e', h, hl⟩ | h
    · exact .inl ⟨e', h, by simp [hl]⟩
    · exact .inr h
theorem gw_tup0 {vs is : List Nat} {n : Nat} (hn : is.length = n) (h : ∀ i ∈ is, i ∈ vs) (hp : ∀ i ∈ vs, PinFree B i) : SimGw B vs (gTup B.K n (gNs is)) (gT (is.map gN)) := by
  refine ⟨fun w e s => ?_, fun ρ G S H env σ w v Q env' R E r e q => ?_⟩
  · show (∃ e', (tupItems w).bind (fun l => gTs (is.map gN) l e s) = _) ∨ (tupItems w).bind (fun l => gTs (is.map gN) l e s) = _
    cases q : tupItems w with
    | stuck => exact .inr rfl
    | ex x S1 => exact absurd q (tupItems_ex _ _ _)
    | ok l =>
      rcases gTs_gN is l e s with ⟨e', h, _⟩ | h
      · exact .inl ⟨e', h⟩
      · exact .inr h
  · have e' : (tupItems w).bind (fun l => gTs (is.map gN) l env S) = .ok (env', S) := e
    cases q0 : tupItems w with
    | stuck => rw [q0] at e'; cases e'
    | ex x S1 => exact absurd q0 (tupItems_ex _ _ _)
    | ok l =>
      rw [q0, _root_.B.R.bind_ok] at e'
      obtain ⟨a, us, rfl, q1, rs⟩ := tupItems_rep q0 r
      refine ⟨a, us, rfl, .inl (.inl (R.ex _ _ q1)), ?_, gws_all R hp is h env σ l us env' E rs e' q⟩
      rcases gTs_gN is l env S with ⟨e2, _, hl⟩ | e2
      · rw [← rs.length, hl, hn]
      · rw [e2] at e'; cases e'
/-- an address beside ours -/
theorem Rel.beside {ρ : List Addr} {G H : Hp} {S : Sto} {D : Addr} {o : HO} (R : Rel B ρ G S H) (hρ : D ∉ ρ) (hg : G D = none) : Rel B ρ G S (upd H D o) := by
  refine ⟨fun b x e => by rw [upd_ne (ne_of_none e hg)]; exact R.ex b x e, R.len, R.nd, R.off, fun n c hc => ?_⟩
  obtain ⟨b, h1, h2⟩ := R.cell n c hc
  exact ⟨b, h1, CellR.mono (fun _ _ h => h) (fun _ _ h => h) (upd_ne fun e => hρ (by rw [← e]; exact List.mem_of_getElem? h1)) h2⟩
theorem Le.beside {ρ ρ' : List Addr} {G H G' H' : Hp} {D : Addr} {o : HO} (l : Le ρ G H ρ' G' H') (hD : H D = none) : Le ρ G H ρ' G' (upd H' D o) := by
  refine ⟨l.pre, l.ex, l.fr, fun a h => ?_, fun a h1 x h2 => ?_⟩
  · by_cases e : a = D
    · subst e; rw [upd_same]; simp
    · rw [upd_ne e]; exact l.dom a h
  · rw [upd_ne (ne_of_none h2 hD)]; exact l.keep a h1 x h2
theorem wipe_in {σ : St} {j : Nat} : ∀ (ks : List Nat), j ∈ ks → (wipe σ ks)[j]? = if j < σ.length then some none else none
  | [], h => nomatch h
  | b :: ks, h => by
    unfold wipe
    by_cases ha : b = j
    · subst ha
      by_cases hl : b < σ.length
      · rw [List.getElem?_set_self (by rw [wipe_length]; exact hl), if_pos hl]
      · rw [List.getElem?_eq_none (by simp [wipe_length]; omega), if_neg hl]
    · rw [List.getElem?_set_ne ha]
      rcases List.mem_cons.mp h with e | e
      · exact absurd e.symm ha
      · exact wipe_in ks e
theorem wipe_idem (σ : St) (vs : List Nat) : wipe (wipe σ vs) vs = wipe σ vs := by
  apply List.ext_getElem?
  intro j
  by_cases hj : j ∈ vs
  · rw [wipe_in vs hj, wipe_in vs hj, wipe_length]
  · rw [wipe_get vs j hj]
/-- what is done with the list that was made -/
def FinOk (B : Bx) (f : List W → Sto → VS) : Prop := ∀ (Wi' : XK) (ρ0 : List Addr) (G0 H0 : Hp) (ρ : List Addr) (G H : Hp) (S : Sto) (l : List W) (us : List V) (D : Addr) (Q : VK), Le ρ0 G0 H0 ρ G H → H0 D = none → Rel B ρ G S H → RepWs B.K ρ G l us → H D = some (.lst us) → D ∉ ρ → G D = none → Post B Wi' ρ0 G0 H0 (f l S) Q → Q (.ref D) H
theorem fin_d : FinOk B fun l s => (ofO (asDs l)).bind fun l => .ok (.d (.lst l), s) := by
  intro Wi' ρ0 G0 H0 ρ G H S l us D Q le h0 R r hD nD gD h
  have h : Post B Wi' ρ0 G0 H0 ((ofO (asDs l)).bind fun l => .ok (.d (.lst l), S)) Q := h
  cases e : asDs l with
  | none => rw [e] at h; exact False.elim h
  | some ds =>
    rw [e] at h
    have sg : Same G (upd G D (.lst us)) := fun b x e => by rw [upd_ne (ne_of_none e gD)]; exact e
    refine h ρ (upd G D (.lst us)) H (.ref D) ⟨le.pre, le.ex.trans sg, fun a h1 h2 => ?_, le.dom, le.keep⟩ ⟨fun b x e => ?_, R.len, R.nd, fun a ha => ?_, fun n c hc => ?_⟩ (.d (.lst upd_same ((r.asDs e).mono sg)))
    · have : a ≠ D := fun e => h2 (by rw [e]; exact h0)
      rw [upd_ne this]; exact le.fr a h1 h2
    · by_cases hb : b = D
      · subst hb; rw [upd_same] at e; cases e; exact hD
      · rw [upd_ne hb] at e; exact R.ex b x e
    · rw [upd_ne (fun e => nD (by rw [← e]; exact ha))]; exact R.off a ha
    · obtain ⟨b, h1, h2⟩ := R.cell n c hc
      exact ⟨b, h1, h2.mono (fun _ _ h => h) sg rfl⟩
theorem fin_c : FinOk B newL := by
  intro Wi' ρ0 G0 H0 ρ G H S l us D Q le h0 R r hD nD gD h
  have go : ∀ c, CellR B (ρ ++ [D]) G H D c → Rel B (ρ ++ [D]) G (S ++ [c]) H := fun c hc => by
    refine ⟨R.ex, by simp [R.len], ?_, fun a ha => ?_, fun n d hd => ?_⟩
    · rw [List.nodup_append]
      refine ⟨R.nd, by simp, fun x hx y hy e => nD ?_⟩
      have : y = D := by simpa using hy
      rw [← this, ← e]; exact hx
    · rcases List.mem_append.mp ha with h | h
      · exact R.off a h
      · have : a = D := by simpa using h
        rw [this]; exact gD
    · by_cases hn : n < S.length
      · rw [List.getElem?_append_left hn] at hd
        obtain ⟨b, h1, h2⟩ := R.cell n d hd
        exact ⟨b, ix_app _ _ h1, CellR.mono ix_app (fun _ _ h => h) rfl h2⟩
      · have hl : n = S.length := by
          obtain ⟨h1, _⟩ := List.getElem?_eq_some_iff.mp hd
          simp at h1; omega
        subst hl
        simp at hd
        subst hd
        exact ⟨D, by rw [← R.len]; simp, hc⟩
  have le2 : Le ρ0 G0 H0 (ρ ++ [D]) G H := by
    obtain ⟨t, e, f⟩ := le.pre
    refine ⟨⟨t ++ [D], by rw [e, List.append_assoc], fun a ha => ?_⟩, le.ex, le.fr, le.dom, le.keep⟩
    rcases List.mem_append.mp ha with q | q
    · exact f a q
    · have : a = D := by simpa using q
      rw [this]; exact h0
  unfold newL at h
  cases e : asDs l with
  | some ds =>
    rw [e] at h
    exact h _ _ _ _ le2 (go (.l ds) ⟨us, hD, r.asDs e⟩) (.loc (by rw [← R.len]; simp))
  | none =>
    rw [e] at h
    exact h _ _ _ _ le2 (go (.w l) ⟨us, hD, RepWs.mono ix_app (fun _ _ h => h) r⟩) (.loc (by rw [← R.len]; simp))
theorem sim_comp {wi : TI} {it : Wk} {g : TG} {mg : Tg} {t : TT} {mt : Tx} {te : TE} {me : Ev} {vs : List Nat} {m : Ev} {f : List W → Sto → VS}
    (hi : SimI B Wi wi it) (hpv : ∀ i ∈ vs, PinFree B i) (hg : SimGw B vs g mg) (ht : SimT B (fun _ _ _ _ => False) t mt) (he : SimE B (fun _ _ _ _ => False) te me) (fin : FinOk B f)
    (hm : ∀ e s, m e s = (it e s).bind fun p => need (decide (p.1.length ≤ sizeL)) ((comp mg mt me vs e p.1 p.2).bind fun q => f q.1 q.2)) : SimE B Wi (tLc wi g t te vs) m := by
  intro ρ G S H env σ Q R E h
  rw [hm] at h
  have hI : PostI B (atS Wi σ) ρ G H (it env S) (fun J H1 => ∀ D, H1 D = none → ∃ W : Nat → Nat → Hp → Prop, (∃ m, W 0 m (upd H1 D (.lst []))) ∧ ∀ i m H, W i m H →
      (J.stop i H ∧ Q (.ref D) H) ∨ (J.go i H ∧ ∃ Nx : Hp → Prop, (∀ H', Nx H' → ∃ m', m' < m ∧ W (i + 1) m' H') ∧ ∀ x H', J.yld i H x H' → g x (wipe σ vs) H' fun σ2 H2 => wipe σ2 vs = wipe σ vs ∧ t σ2 H2 fun b H3 =>
        if b = true then te σ2 H3 fun y H4 => ∃ acc, H4 D = some (.lst acc) ∧ acc.length < sizeLine ∧ Nx (upd H4 D (.lst (acc ++ [y]))) else Nx H3)) := by
    cases e1 : it env S with
    | stuck => rw [e1] at h; exact h
    | ex x S1 => rw [e1] at h; exact h
    | ok p =>
      obtain ⟨xs, S1⟩ := p
      rw [e1, _root_.B.R.bind_ok] at h
      obtain ⟨hz, h⟩ := postN h
      have hz := of_decide_eq_true hz
      intro ρ1 G1 H1 J l1 R1 wk D hD
      simp only at h hz
      have npr : D ∉ ρ1 := fun hm => R1.mem hm hD
      have gD : G1 D = none := R1.ex.free hD
      have hD0 : H D = none := by
        cases q : H D with
        | none => rfl
        | some o => exact absurd hD (l1.dom D (by rw [q]; simp))
      refine ⟨fun i m H2 => m = xs.length - i ∧ i ≤ xs.length ∧ ∃ ρ2 G2 S2 accW acc, Le ρ1 G1 H1 ρ2 G2 H2 ∧ Rel B ρ2 G2 S2 H2 ∧ RepWs B.K ρ2 G2 accW acc ∧ acc.length ≤ i ∧ H2 D = some (.lst acc) ∧ D ∉ ρ2 ∧ G2 D = none ∧
        Post B (atS Wi σ) ρ G H ((comp mg mt me vs env (xs.drop i) S2).bind fun q => f (accW ++ q.1) q.2) Q,
        ⟨xs.length, by simp, Nat.zero_le _, ρ1, G1, S1, [], [], (Le.refl _ _ _).beside hD, R1.beside npr gD, .nil, Nat.zero_le _, upd_same, npr, gD, h⟩, ?_⟩
      rintro i m H2 ⟨rfl, hle, ρ2, G2, S2, accW, acc, l2, R2, ra, hal, hD2, nD2, gD2, h2⟩
      obtain ⟨hstop, hgo⟩ := wk i ρ2 G2 S2 H2 l2.ix l2.ex R2
      by_cases hlt : i < xs.length
      · obtain ⟨go, step⟩ := hgo _ (List.getElem?_eq_getElem hlt)
        refine .inr ⟨go, fun H' => i + 1 ≤ xs.length ∧ ∃ ρ3 G3 S3 accW acc, Le ρ1 G1 H1 ρ3 G3 H' ∧ Rel B ρ3 G3 S3 H' ∧ RepWs B.K ρ3 G3 accW acc ∧ acc.length ≤ i + 1 ∧ H' D = some (.lst acc) ∧ D ∉ ρ3 ∧ G3 D = none ∧
          Post B (atS Wi σ) ρ G H ((comp mg mt me vs env (xs.drop (i + 1)) S3).bind fun q => f (accW ++ q.1) q.2) Q, fun H' q => ⟨xs.length - (i + 1), by omega, rfl, q⟩, fun x H3 y => ?_⟩
        obtain ⟨G3, R3, l3, r3⟩ := step x H3 y
        rw [List.drop_eq_getElem_cons hlt] at h2
        unfold comp at h2
        -- what the list at D is, on and on
        have stayD : ∀ {ρa ρb : List Addr} {Ga Gb Ha Hb : Hp}, Le ρa Ga Ha ρb Gb Hb → Ha D = some (.lst acc) → D ∉ ρa → Ga D = none → Hb D = some (.lst acc) ∧ D ∉ ρb ∧ Gb D = none := fun {ρa ρb Ga Gb Ha Hb} l hd hn hg => by
          refine ⟨l.keep D hn _ hd, fun hm => ?_, l.fr D hg (by rw [hd]; simp) (.inr (by rw [hd]; simp [NTX]))⟩
          obtain ⟨t, e, f⟩ := l.pre
          rw [e] at hm
          rcases List.mem_append.mp hm with q | q
          · exact hn q
          · rw [f D q] at hd; cases hd
        obtain ⟨d3, n3, g3⟩ := stayD l3 hD2 nD2 gD2
        have E0 : EnvR B ρ1 G1 env σ := l1.env E
        rcases hg.1 xs[i] (kill vs env) S2 with ⟨e4, eg⟩ | eg
        · rw [eg] at h2
          refine hg.2 ρ2 G3 S2 H3 (kill vs env) (wipe σ vs) xs[i] x _ e4 R3 (envWipe ((l2.trans l3).env E0) vs hpv) r3 eg fun σ' E' w' => ⟨?_, ?_⟩
          · rw [w', wipe_idem]
          · refine ht ρ2 G3 S2 H3 e4 σ' _ R3 E' ?_
            have h2 : Post B (atS Wi σ) ρ G H (((qt (mt e4 S2)).bind fun q => if q.1 then (qt (me e4 q.2)).bind fun r => (comp mg mt me vs env (xs.drop (i + 1)) r.2).bind fun z => .ok (r.1 :: z.1, z.2) else comp mg mt me vs env (xs.drop (i + 1)) q.2).bind fun q => f (accW ++ q.1) q.2) Q := h2
            cases et : mt e4 S2 with
            | stuck => rw [et] at h2; exact False.elim h2
            | ex a b => rw [et] at h2; exact False.elim h2
            | ok q =>
              obtain ⟨b, S4⟩ := q
              rw [et] at h2
              intro ρ4 G4 H4 l4 R4
              obtain ⟨d4, n4, g4⟩ := stayD l4 d3 n3 g3
              cases b with
              | false =>
                refine (if_neg Bool.false_ne_true).mpr ⟨hlt, ρ4, G4, S4, accW, acc, (l2.trans l3).trans l4, R4, l4.ws (l3.ws ra), by omega, d4, n4, g4, h2⟩
              | true =>
                refine (if_pos rfl).mpr (he ρ4 G4 S4 H4 e4 σ' _ R4 (l4.env E') ?_)
                have h2 : Post B (atS Wi σ) ρ G H (((qt (me e4 S4)).bind fun r => (comp mg mt me vs env (xs.drop (i + 1)) r.2).bind fun z => .ok (r.1 :: z.1, z.2)).bind fun q => f (accW ++ q.1) q.2) Q := h2
                cases ee : me e4 S4 with
                | stuck => rw [ee] at h2; exact False.elim h2
                | ex a b => rw [ee] at h2; exact False.elim h2
                | ok r =>
                  obtain ⟨w5, S5⟩ := r
                  rw [ee] at h2
                  intro ρ5 G5 H5 v5 l5 R5 r5
                  obtain ⟨d5, n5, g5⟩ := stayD l5 d4 n4 g4
                  have lt := ((l2.trans l3).trans l4).trans l5
                  refine ⟨acc, d5, by rw [sizeLine_eq]; unfold sizeL at hz; omega, hlt, ρ5, G5, S5, accW ++ [w5], acc ++ [v5], lt.beside hD, R5.beside n5 g5, (l5.ws (l4.ws (l3.ws ra))).append (.cons r5 .nil), by simp; omega, upd_same, n5, g5, ?_⟩
                  have h2 : Post B (atS Wi σ) ρ G H (((comp mg mt me vs env (xs.drop (i + 1)) S5).bind fun z => .ok (w5 :: z.1, z.2)).bind fun q => f (accW ++ q.1) q.2) Q := h2
                  cases ec : comp mg mt me vs env (xs.drop (i + 1)) S5 with
                  | stuck => rw [ec] at h2; exact False.elim h2
                  | ex a b => rw [ec] at h2; exact h2
                  | ok q =>
                    rw [ec] at h2
                    have h2 : Post B (atS Wi σ) ρ G H (f (accW ++ w5 :: q.1) q.2) Q := h2
                    show Post B (atS Wi σ) ρ G H (f (accW ++ [w5] ++ q.1) q.2) Q
                    rw [List.append_assoc]; exact h2
        · rw [eg] at h2; exact False.elim h2
      · have e : xs.drop i = [] := List.drop_eq_nil_of_le (by omega)
        rw [e] at h2
        have h3 : Post B (atS Wi σ) ρ G H (f (accW ++ []) S2) Q := h2
        rw [List.append_nil] at h3
        exact .inl ⟨hstop (by omega), fin _ ρ G H ρ2 G2 H2 S2 accW acc D Q (l1.trans l2) hD0 R2 ra hD2 nD2 gD2 h3⟩
  exact hi ρ G S H env σ _ R E hI
end
section
variable {z : Zx} {k : Nat}
/-- within a comprehension's block -/
abbrev Zx.blk (z : Zx) (s : Shared) (H : Hp) (scope : Scope) (cenv : PySem.Env) (fp : List Addr) : Zx := ⟨z.X.blk s H scope cenv fp, z.xc, z.oc, fun _ _ _ _ => False, z.pin⟩
theorem gw_name {vs : List Nat} {i : Nat} (h : i ∈ vs) (hp : PinFree z.B i := by exact pin_none rfl) : SimGw z.B vs (gName i) (gN i) := gw_name0 h hp
theorem gw_tup {vs is : List Nat} {n : Nat} (hn : is.length = n) (h : ∀ i ∈ is, i ∈ vs) (hp : ∀ i ∈ vs, PinFree z.B i := by exact fun _ _ => pin_none rfl) : SimGw z.B vs (gTup z.X.K n (gNs is)) (gT (is.map gN)) := gw_tup0 hn h hp
/-- the conditions of a comprehension; own: its names with their slots -/
structure CompOk (z : Zx) (own : List (Str × Nat)) (scope : Scope) (tg : Expr) (ifs : List Expr) (elt : Expr) (mg : Tg) (mt : Tx) (me : Ev) : Prop where
  blk : BlkOk z.X.N z.X.env.scope scope own
  g : ∃ g, SimGw z.B (own.map (·.2)) g mg ∧ ∀ (s : Shared) (H : Hp) (C : Addr) (cl : List (Str × Addr)) (fp : List Addr), PG (z.X.blk s H scope (compEnvC scope cl C z.X.env) fp) tg g
  t : ∃ t, SimT z.B (fun _ _ _ _ => False) t mt ∧ ∀ (s : Shared) (H : Hp) (C : Addr) (cl : List (Str × Addr)) (fp : List Addr), PTs (z.X.blk s H scope (compEnvC scope cl C z.X.env) fp) ifs t
  e : ∀ (s : Shared) (H : Hp) (C : Addr) (cl : List (Str × Addr)) (fp : List Addr), OkE (z.blk s H scope (compEnvC scope cl C z.X.env) fp) elt me
  pf : ∀ i ∈ own.map (·.2), PinFree z.B i := by exact fun _ _ => pin_none rfl
theorem kComp0 {own : List (Str × Nat)} {scope : Scope} {tg elt it : Expr} {ifs : List Expr} {mg : Tg} {mt : Tx} {me : Ev} {mi : Wk} {pos : Pos} {m : Ev} {f : List W → Sto → VS} (ctx : Ctx k z) (hi : OkI z tg it mi) (h : CompOk z own scope tg ifs elt mg mt me) (fin : FinOk z.B f)
    (hm : ∀ e s, m e s = (mi e s).bind fun p => need (decide (p.1.length ≤ sizeL)) ((comp mg mt me (own.map (·.2)) e p.1 p.2).bind fun q => f q.1 q.2)) (hs : ∀ x, foldedSetIterable it z.X.env x = pure x) :
    OkE z (.ListComp elt [⟨tg, it, ifs, 0⟩] scope pos) m := by
  obtain ⟨g, g1, g2⟩ := h.g
  obtain ⟨t, t1, t2⟩ := h.t
  exact ok_e (pe_lc (te := tOf z.B (fun _ _ _ _ => False) me) ctx.calm ctx.nd hi h.blk g2 t2 (fun s H C cl fp => h.e s H C cl fp) hs) (sim_comp sim_i h.pf g1 t1 sim_e fin hm)
theorem kComp {own : List (Str × Nat)} {scope : Scope} {tg elt it : Expr} {ifs : List Expr} {mg : Tg} {mt : Tx} {me : Ev} {mi : Wk} {pos : Pos} (ctx : Ctx k z) (hi : OkI z tg it mi) (h : CompOk z own scope tg ifs elt mg mt me) (hs : ∀ x, foldedSetIterable it z.X.env x = pure x := by intro _; rfl) :
    OkE z (.ListComp elt [⟨tg, it, ifs, 0⟩] scope pos) (eComp mi mg mt me (own.map (·.2))) := kComp0 ctx hi h fin_d (fun _ _ => rfl) hs
theorem kCompC {own : List (Str × Nat)} {scope : Scope} {tg elt it : Expr} {ifs : List Expr} {mg : Tg} {mt : Tx} {me : Ev} {mi : Wk} {pos : Pos} (ctx : Ctx k z) (hi : OkI z tg it mi) (h : CompOk z own scope tg ifs elt mg mt me) (hs : ∀ x, foldedSetIterable it z.X.env x = pure x := by intro _; rfl) :
    OkE z (.ListComp elt [⟨tg, it, ifs, 0⟩] scope pos) (eCompC mi mg mt me (own.map (·.2))) := kComp0 ctx hi h fin_c (fun _ _ => rfl) hs
theorem sComp0 {own : List (Str × Nat)} {scope : Scope} {tg elt it : Expr} {ifs : List Expr} {mg : Tg} {mt : Tx} {me : Ev} {mi : Wk} {pos spos py : Pos} {m : Ev} {f : List W → Sto → VS} {i : Nat} {y : Str} (ctx : Ctx k z) (hi : OkI z tg it mi) (h : CompOk z own scope tg ifs elt mg mt me) (fin : FinOk z.B f)
    (hm : ∀ e s, m e s = (mi e s).bind fun p => need (decide (p.1.length ≤ sizeL)) ((comp mg mt me (own.map (·.2)) e p.1 p.2).bind fun q => f q.1 q.2)) (hy : z.X.N[i]? = some y) (hyl : z.X.env.scope.names.lookup y = some .local)
    (hsw : swapsWith (.ListComp elt [⟨tg, it, ifs, 0⟩] scope pos) (some (.Name y py)) spos.line z.X.env = pure true) (hs : ∀ x, foldedSetIterable it z.X.env x = pure x) (hp : PinFree z.B i) :
    OkS z (.Assign [.Name y py] (.ListComp elt [⟨tg, it, ifs, 0⟩] scope pos) spos) (sAsg (gN i) m) := by
  obtain ⟨g, g1, g2⟩ := h.g
  obtain ⟨t, t1, t2⟩ := h.t
  exact ok_s (ps_setLc (te := tOf z.B (fun _ _ _ _ => False) me) ctx.calm ctx.nd hy hyl hsw hi h.blk g2 t2 (fun s H C cl fp => h.e s H C cl fp) hs) (ss_set hp (sim_comp sim_i h.pf g1 t1 sim_e fin hm))
theorem sComp {own : List (Str × Nat)} {scope : Scope} {tg elt it : Expr} {ifs : List Expr} {mg : Tg} {mt : Tx} {me : Ev} {mi : Wk} {pos spos py : Pos} (i : Nat) {y : Str} (ctx : Ctx k z) (hi : OkI z tg it mi) (h : CompOk z own scope tg ifs elt mg mt me) (hy : z.X.N[i]? = some y) (hyl : z.X.env.scope.names.lookup y = some .local)
    (hsw : swapsWith (.ListComp elt [⟨tg, it, ifs, 0⟩] scope pos) (some (.Name y py)) spos.line z.X.env = pure true) (hs : ∀ x, foldedSetIterable it z.X.env x = pure x := by intro _; rfl) (hp : PinFree z.B i := by exact pin_none rfl) :
    OkS z (.Assign [.Name y py] (.ListComp elt [⟨tg, it, ifs, 0⟩] scope pos) spos) (sAsg (gN i) (eComp mi mg mt me (own.map (·.2)))) := sComp0 ctx hi h fin_d (fun _ _ => rfl) hy hyl hsw hs hp
theorem sCompC {own : List (Str × Nat)} {scope : Scope} {tg elt it : Expr} {ifs : List Expr} {mg : Tg} {mt : Tx} {me : Ev} {mi : Wk} {pos spos py : Pos} (i : Nat) {y : Str} (ctx : Ctx k z) (hi : OkI z tg it mi) (h : CompOk z own scope tg ifs elt mg mt me) (hy : z.X.N[i]? = some y) (hyl : z.X.env.scope.names.lookup y = some .local)
    (hsw : swapsWith (.ListComp elt [⟨tg, it, ifs, 0⟩] scope pos) (some (.Name y py)) spos.line z.X.env = pure true) (hs : ∀ x, foldedSetIterable it z.X.env x = pure x := by intro _; rfl) (hp : PinFree z.B i := by exact pin_none rfl) :
    OkS z (.Assign [.Name y py] (.ListComp elt [⟨tg, it, ifs, 0⟩] scope pos) spos) (sAsg (gN i) (eCompC mi mg mt me (own.map (·.2)))) := sComp0 ctx hi h fin_c (fun _ _ => rfl) hy hyl hsw hs hp
end
end B
namespace B
open PySem L2 PySem.Spec PyProof.Rows
/-! ### defs -/
/-- the module's def x does as f -/
def FnB (P : Program) (w : World) (K : PySem.W.Frag) (mg : Str → Option Value) (base : Heap) (xc : Nat → Value) (oc : Nat → Addr) (k : Nat) (x : Str) (ps : List Str) (f : Fn) : Prop :=
  ∃ (a : Addr) (fd : FuncData), mg x = some (.ref a) ∧ PySem.W.keepIn K (.ref a) = true ∧ (∃ oc od osl, K.lookup a = some ⟨oc, od, .func fd, osl⟩) ∧ Binds K fd ps [] ∧ FnOk P w K mg base (L2.CX P w) k a fd ps (spM ⟨K, xc, oc, none⟩ ps.length f)
section
variable {P : Program} {w : World} {K : PySem.W.Frag} {mg : Str → Option Value} {base : Heap} {xc : Nat → Value} {oc : Nat → Addr} {x qual : Str} {params : Arguments} {body : List Stmt} {scope : Scope} {f : Addr} {fd : FuncData} {N ps : List Str} {k : Nat} {b : Sx}
/-- the context of such a def's body -/
abbrev zOf (P : Program) (w : World) (K : PySem.W.Frag) (mg : Str → Option Value) (base : Heap) (xc : Nat → Value) (oc : Nat → Addr) (N : List Str) (qual : Str) (scope : Scope) (f : Addr) (cdv : Value) (A : Around) (outer : List PySem.Env) (s : Shared) (H : Hp) (E : XK) : Zx :=
  ⟨cxOf (L2.CX P w) P w K mg base N qual scope f cdv A outer s H E, xc, oc, fun c d _ H => E c d H, none⟩
theorem ctx_of {cdv : Value} {A : Around} {outer : List PySem.Env} {s : Shared} {H : Hp} {E : XK} (S : FnScope N ps scope) (hr : Room k (A.deeper (envOfC qual scope s.heap.objs.size f cdv))) : Ctx k (zOf P w K mg base xc oc N qual scope f cdv A outer s H E) :=
  ⟨hr, L2.takes_of rfl rfl rfl rfl, rfl, S.nd, L2.passes_of rfl⟩
theorem fnOkF (F : FunD K x qual params body scope [] [] f fd) (S : FnScope N ps scope) (hN : ps.length ≤ N.length)
    (hb : ∀ (cdv : Value) (A : Around) (outer : List PySem.Env) (s : Shared) (H : Hp) (E : XK), Ctx k (zOf P w K mg base xc oc N qual scope f cdv A outer s H E) → OkSs (zOf P w K mg base xc oc N qual scope f cdv A outer s H E) body b) :
    FnOk P w K mg base (L2.CX P w) (k + 1) f fd ps (spM ⟨K, xc, oc, none⟩ ps.length (mkF N.length b)) :=
  F.ok S (fun vs H Q E h => h.1) fun cdv A outer s H vs Q E hr h => ⟨_, hb cdv A outer s H E (ctx_of S hr), spM_body sim_s rfl hN h⟩
theorem fnOkK (F : FunD K x qual params body scope [] [] f fd) (S : FnScope N ps scope) (hN : ps.length ≤ N.length)
    (hb : ∀ (cdv : Value) (A : Around) (outer : List PySem.Env) (s : Shared) (H : Hp) (E : XK), Ctx k (zOf P w K mg base xc oc N qual scope f cdv A outer s H E) → OkSs (zOf P w K mg base xc oc N qual scope f cdv A outer s H E) body b) :
    FnOk P w K mg base (L2.CX P w) (k + 1) f fd ps (spM ⟨K, xc, oc, none⟩ ps.length (mkK N.length b)) :=
  F.ok S (fun vs H Q E h => h.1) fun cdv A outer s H vs Q E hr h => ⟨_, hb cdv A outer s H E (ctx_of S hr), spM_bodyK sim_s rfl hN h⟩
theorem lkOf (F : FunD K x qual params body scope [] [] f fd) : ∃ oc od osl, K.lookup f = some ⟨oc, od, .func fd, osl⟩ := by
  obtain ⟨oc, od, dV, kV, doc, pm, an, cdv, ct, osl, rfl, lk, hcd, _, _⟩ := F.ex
  exact ⟨_, _, _, lk⟩
theorem fnF (hm : mg x = some (.ref f)) (F : FunD K x qual params body scope [] [] f fd) (hbind : ∀ (kV doc pm : Value) (an : Option Addr) (cdv ct : Value) (us : List Value), us.length = ps.length → bindArgs (PySem.W.fnOf x qual params body scope .none kV doc pm an cdv ct) ⟨us, []⟩ = pure (ps.zip us))
    (S : FnScope N ps scope) (hN : ps.length ≤ N.length)
    (hb : ∀ (cdv : Value) (A : Around) (outer : List PySem.Env) (s : Shared) (H : Hp) (E : XK), Ctx k (zOf P w K mg base xc oc N qual scope f cdv A outer s H E) → OkSs (zOf P w K mg base xc oc N qual scope f cdv A outer s H E) body b) :
    FnB P w K mg base xc oc (k + 1) x ps (mkF N.length b) := ⟨f, fd, hm, F.kp, lkOf F, F.bindsN hbind, fnOkF F S hN hb⟩
theorem fnK (hm : mg x = some (.ref f)) (F : FunD K x qual params body scope [] [] f fd) (hbind : ∀ (kV doc pm : Value) (an : Option Addr) (cdv ct : Value) (us : List Value), us.length = ps.length → bindArgs (PySem.W.fnOf x qual params body scope .none kV doc pm an cdv ct) ⟨us, []⟩ = pure (ps.zip us))
    (S : FnScope N ps scope) (hN : ps.length ≤ N.length)
    (hb : ∀ (cdv : Value) (A : Around) (outer : List PySem.Env) (s : Shared) (H : Hp) (E : XK), Ctx k (zOf P w K mg base xc oc N qual scope f cdv A outer s H E) → OkSs (zOf P w K mg base xc oc N qual scope f cdv A outer s H E) body b) :
    FnB P w K mg base xc oc (k + 1) x ps (mkK N.length b) := ⟨f, fd, hm, F.kp, lkOf F, F.bindsN hbind, fnOkK F S hN hb⟩
end
/-! ### calls -/
section
variable {B : Bx}
theorem callF_post {f : Fn} {n : Nat} {ρ : List Addr} {G H : Hp} {S : Sto} {l : List W} {vs : List V} {Q : VK} {E : XK} (R : Rel B ρ G S H) (r : RepWs B.K ρ G l vs) (hn : vs.length = n) (h : Post B E ρ G H (callF f l S) Q) : spM B n f vs H Q E := by
  unfold callF at h
  cases e : asDs l with
  | none => rw [e] at h; exact False.elim h
  | some ds =>
    rw [e] at h
    refine ⟨hn, [], G, [], ws ds, rel_nil R.ex, (r.asDs e).ws, ?_⟩
    simp only at h
    have both : ∀ {ρ' : List Addr} {G' H' : Hp} {t : Sto}, Rel B ρ' G' t H' → Le [] G H ρ' G' H' → Rel B ρ G' S H' ∧ Le ρ G H ρ G' H' := fun {ρ' G' H' t} R' le => by
      refine ⟨⟨R'.ex, R.len, R.nd, fun a ha => le.fr a (R.off a ha) (R.mem ha) (.inr (R.noTX ha)), fun n c hc => ?_⟩, ⟨⟨[], by simp, by simp⟩, le.ex, fr_all R le.fr, le.dom, fun a _ o h => le.keep a (by simp) o h⟩⟩
      obtain ⟨a, h1, h2⟩ := R.cell n c hc
      refine ⟨a, h1, h2.mono (fun _ _ h => h) le.ex ?_⟩
      cases e : H a with
      | none => exact absurd e h2.there
      | some o => exact le.keep a (by simp) o e
    cases e1 : f (ws ds) [] with
    | stuck => rw [e1] at h; exact h
    | ex x t =>
      rw [e1] at h
      intro ρ' G' H' c d le R' rx
      obtain ⟨q1, q2⟩ := both R' le
      exact h ρ G' H' c d q2 q1 rx
    | ok p =>
      obtain ⟨w, t⟩ := p
      rw [e1] at h
      cases w with
      | d x => exact False.elim h
      | tw l => exact False.elim h
      | loc k =>
        simp only at h
        -- the new place
        have fin : ∀ (c : C), t[k]? = some c → (∀ {ρ1 ρ2 : List Addr} {G1 H1 : Hp} {a : Addr}, CellR B ρ1 G1 H1 a c → CellR B ρ2 G1 H1 a c) → Post B E ρ G H (.ok (.loc S.length, S ++ [c])) Q → Post B E [] G H (.ok (.loc k, t)) Q := fun c hc any h => by
          intro ρ' G' H' v le R' rx
          obtain ⟨q1, q2⟩ := both R' le
          cases rx with
          | loc ha =>
            rename_i a
            obtain ⟨c', hc', hr⟩ := R'.at_ ha
            rw [hc] at hc'; cases hc'
            have am : a ∈ ρ' := List.mem_of_getElem? ha
            have ha0 : H a = none := by
              obtain ⟨t0, e0, f0⟩ := le.pre
              rw [List.nil_append] at e0
              exact f0 a (by rw [← e0]; exact am)
            have ga : G' a = none := R'.off a am
            have na : a ∉ ρ := fun hm => R.mem hm ha0
            refine h (ρ ++ [a]) G' H' (.ref a) ⟨⟨[a], rfl, fun b hb => by rw [List.mem_singleton.mp hb]; exact ha0⟩, q2.ex, q2.fr, q2.dom, q2.keep⟩ ⟨q1.ex, by simp [q1.len], ?_, fun b hb => ?_, fun n d hd => ?_⟩ (.loc (by rw [← R.len]; simp))
            · rw [List.nodup_append]
              refine ⟨q1.nd, by simp, fun x hx y hy e => na ?_⟩
              rw [← List.mem_singleton.mp hy, ← e]; exact hx
            · rcases List.mem_append.mp hb with h | h
              · exact q1.off b h
              · rw [List.mem_singleton.mp h]; exact ga
            · by_cases hn : n < S.length
              · rw [List.getElem?_append_left hn] at hd
                obtain ⟨b, h1, h2⟩ := q1.cell n d hd
                exact ⟨b, ix_app _ _ h1, CellR.mono ix_app (fun _ _ h => h) rfl h2⟩
              · have hl : n = S.length := by
                  obtain ⟨h1, _⟩ := List.getElem?_eq_some_iff.mp hd
                  simp at h1; omega
                subst hl
                simp at hd
                subst hd
                exact ⟨a, by rw [← R.len]; simp, any hr⟩
        cases e2 : t[k]? with
        | none => rw [e2] at h; exact False.elim h
        | some c =>
          rw [e2] at h
          cases c with
          | l xs => exact fin _ e2 (fun h => h) h
          | m b xs => exact fin _ e2 (fun h => by cases b <;> exact h) h
          | w xs => exact False.elim h
          | mw b xs => exact False.elim h
          | o a b => exact False.elim h
theorem callM_post {f : Fn} {n : Nat} {ρ : List Addr} {G H : Hp} {S : Sto} {l : List W} {vs : List V} {Q : VK} {E : XK} (R : Rel B ρ G S H) (r : RepWs B.K ρ G l vs) (hn : vs.length = n) (h : Post B E ρ G H (f l S) Q) : spM B n f vs H Q E := ⟨hn, ρ, G, S, l, R, r, h⟩
end
section
variable {z : Zx} {j k : Nat} {x : Str} {ps : List Str} {f : Fn} {e : Expr} {es : List Expr} {m : Ev} {ms : List Ev} {p pos : Pos}
theorem CellR.unpin {K : PySem.W.Frag} {xc : Nat → Value} {oc : Nat → Addr} {p q : Option (Nat × V × Option Hp)} {ρ : List Addr} {G H : Hp} {a : Addr} : ∀ {c : C}, CellR ⟨K, xc, oc, p⟩ ρ G H a c → CellR ⟨K, xc, oc, q⟩ ρ G H a c
  | .l _, h => h
  | .w _, h => h
  | .m false _, h => h
  | .m true _, h => h
  | .mw false _, h => h
  | .mw true _, h => h
  | .o _ _, h => h
theorem Rel.unpin {K : PySem.W.Frag} {xc : Nat → Value} {oc : Nat → Addr} {p q : Option (Nat × V × Option Hp)} {ρ : List Addr} {G H : Hp} {S : Sto} (R : Rel ⟨K, xc, oc, p⟩ ρ G S H) : Rel ⟨K, xc, oc, q⟩ ρ G S H :=
  ⟨R.ex, R.len, R.nd, R.off, fun n c hc => let ⟨a, h1, h2⟩ := R.cell n c hc; ⟨a, h1, CellR.unpin h2⟩⟩
theorem post_unpin {K : PySem.W.Frag} {xc : Nat → Value} {oc : Nat → Addr} {p q : Option (Nat × V × Option Hp)} {E : XK} {ρ : List Addr} {G H : Hp} {Q : VK} : ∀ {r : VS}, Post ⟨K, xc, oc, p⟩ E ρ G H r Q → Post ⟨K, xc, oc, q⟩ E ρ G H r Q
  | .ok (_, _), h => fun ρ' G' H' v l R r => h ρ' G' H' v l R.unpin r
  | .ex _ _, h => fun ρ' G' H' c d l R r => h ρ' G' H' c d l R.unpin r
  | .stuck, h => h
theorem spM_unpin {K : PySem.W.Frag} {xc : Nat → Value} {oc : Nat → Addr} {p q : Option (Nat × V × Option Hp)} {n : Nat} {m : Fn} {vs : List V} {H : Hp} {Q : VK} {E : XK} (h : spM ⟨K, xc, oc, p⟩ n m vs H Q E) : spM ⟨K, xc, oc, q⟩ n m vs H Q E := by
  obtain ⟨hl, ρ, G, S, l, R, rs, h⟩ := h
  exact ⟨hl, ρ, G, S, l, R.unpin, rs, post_unpin h⟩
/-- a way to call -/
def Way (z : Zx) (F : Fn → Fn) : Prop := ∀ (f : Fn) (n : Nat) ρ G H S (l : List W) (vs : List V) (Q : VK) (E : XK), Rel z.B ρ G S H → RepWs z.X.K ρ G l vs → vs.length = n → Post z.B E ρ G H (F f l S) Q → spM z.B n f vs H Q E
theorem wP : Way z callP := fun _ _ _ _ _ _ _ _ _ _ R r hn h => callP_post R r hn h
theorem wF : Way z callF := fun _ _ _ _ _ _ _ _ _ _ R r hn h => callF_post R r hn h
theorem wM : Way z callM := fun _ _ _ _ _ _ _ _ _ _ R r hn h => callM_post R r hn h
theorem eAs_len : ∀ {ms : List Ev} {env : Env} {S S' : Sto} {l : List W}, eAs ms env S = .ok (l, S') → l.length = ms.length
  | [], _, _, _, _, h => by cases h; rfl
  | m :: ms, env, S, S', l, h => by
    have h' : ((m env S).bind fun p => (eAs ms env p.2).bind fun q => .ok (p.1 :: q.1, q.2)) = .ok (l, S') := h
    cases e1 : m env S with
    | stuck => rw [e1] at h'; cases h'
    | ex a b => rw [e1] at h'; cases h'
    | ok p =>
      rw [e1, R.bind_ok] at h'
      cases e2 : eAs ms env p.2 with
      | stuck => rw [e2] at h'; cases h'
      | ex a b => rw [e2] at h'; cases h'
      | ok q =>
        rw [e2] at h'
        cases h'
        exact congrArg (· + 1) (eAs_len (l := q.1) (S' := q.2) e2)
theorem se_call {n : Nat} {F : Fn → Fn} {ta : TA} (way : Way z F) (hn : ms.length = n) (ha : SimA z.B z.Wi ta ms) : SimE z.B z.Wi (tCallS (spM ⟨z.X.K, z.xc, z.oc, none⟩ n f) (L2.WE z.Wi) ta) (eN (F f) ms) := by
  intro ρ G S H env σ Q R E h
  refine ha ρ G S H env σ _ R E ?_
  have h' : Post z.B (atS z.Wi σ) ρ G H ((eAs ms env S).bind fun p => F f p.1 p.2) Q := h
  cases e1 : eAs ms env S with
  | stuck => rw [e1] at h'; exact h'
  | ex y S1 => rw [e1] at h'; exact h'
  | ok p =>
    rw [e1] at h'
    exact fun ρ1 G1 H1 vs l1 R1 r1 => spM_unpin (p := z.pin) (way f n ρ1 G1 H1 p.2 p.1 vs Q _ R1 r1 (by rw [← r1.length, eAs_len e1, hn]) (post_le l1 h'))
theorem kCall {F : Fn → Fn} (way : Way z F) (ctx : Ctx j z) (h : FnB z.X.prog z.X.w z.X.K z.X.mg z.X.base z.xc z.oc k x ps f) (hk : k ≤ j) (hg : Gl z.X x) (ha : OkA z (e :: es) (m :: ms)) (hn : (m :: ms).length = ps.length := by rfl)
    (hdb : (x == ("__debug__" : Str)) = false := by decide) (he : starEach (e :: es) z.X.env = (false, eval e z.X.env) :: starEach es z.X.env := by rfl) (hpl : (backTo pos (starEach es z.X.env)).any (·.1) = false := by rfl) :
    OkE z (.Call (.Name x p) (e :: es) [] pos) (eN (F f) (m :: ms)) := by
  obtain ⟨a, fd, h1, h2, _, h3, h4⟩ := h
  exact ok_e (pe_callS h4 (ctx.hr.mono hk) hg h1 h2 h3 (L2.passAt ctx.tk) ha hdb he hpl) (se_call way hn sim_a)
theorem Ctx.blk (ctx : Ctx k z) (s : Shared) (H : Hp) (scope : Scope) (cenv : PySem.Env) (fp : List Addr) : Ctx k (z.blk s H scope cenv fp) := ⟨ctx.hr, L2.takes0, ctx.calm, ctx.nd, PassesOwn.never⟩
end
end B
namespace B
open PySem L2 PySem.Spec PyProof.Rows
/-- nothing may leave the law -/
theorem no_x {P : Program} {w : World} {K : PySem.W.Frag} {mg : Str → Option Value} {base : Heap} {k : Nat} {f : Addr} {fd : FuncData} {ps : List Str} {sp : Sp} (F : FnOk P w K mg base (L2.CX P w) k f fd ps sp) : FnOk P w K mg base CX0 k f fd ps (fun vs H Q _ => sp vs H Q fun _ _ _ => False) := by
  refine ⟨fun vs H Q E h => F.len _ _ _ _ h, fun A outer s H args us vs Q E hr e0 hb hv h => ?_⟩
  refine codeAny_mono (F.run A outer s H args us vs Q _ hr e0 hb hv h) fun r s' hq => ?_
  cases r with
  | ok fl => cases fl <;> exact hq
  | error e =>
    obtain ⟨_, _, _, _, _, _, _, _, _, _, _, _, q⟩ := hq
    exact q.elim
theorem law_end {rw : PySem.W.OpenLaw} {w : World} {mg : Str → Option Value} {fa : Addr} {h : Heap} {K : PySem.W.Frag} {fas : List He.Fa} {fn : List He.DefD} {Tx : PySem.W.Frag → (Str → Option Value) → Prop} {k : Nat} {f : Fn} {qual : Str} {params : Arguments} {body : List Stmt} {scope : Scope} {x : Str}
    (KX : K.In h) (G : h.Ns mainGlobals mg) (hmg : mg ("law" : Str) = some (.ref fa)) (c : He.SaysD fas fn K)
    (tx : ∀ {K : PySem.W.Frag} {h : Heap} {mg : Str → Option Value}, K.In h → h.Ns mainGlobals mg → He.SaysD fas fn K → Tx K mg)
    (d : ∀ {K : PySem.W.Frag} {mg : Str → Option Value}, Tx K mg → ∃ fd, FunD K "law" qual params body scope [] [] (He.ga K "law") fd)
    (g : ∀ {K : PySem.W.Frag} {mg : Str → Option Value}, Tx K mg → mg "law" = some (.ref (He.ga K "law")))
    (hbind : ∀ (kV doc pm : Value) (an : Option Addr) (cdv ct : Value) (us : List Value), us.length = [x].length → bindArgs (PySem.W.fnOf "law" qual params body scope .none kV doc pm an cdv ct) ⟨us, []⟩ = pure ([x].zip us))
    (F : ∀ (T : Tx K mg) (base : Heap), FnB rw.prog w K mg base (fun _ => .none) (fun _ => 0) k "law" [x] f)
    (ok : ∀ ns : List Int, ns.length ≤ 63 → f [.d (.inp (ns.map .int))] [] = .ok (.d (.bl true), [])) :
    ∃ (K : PySem.W.Frag) (fd : FuncData) (sp : Sp), K.In h ∧ (∀ (s : Shared) (u : Value), BindsTo s fd ⟨[u], []⟩ [(x, u)]) ∧
        (∀ (H : Hp) (a : Addr) (ns : List Int), ns.length ≤ 63 → Only H → SqL K H a (ns.map V.int) → sp [.ref a] H (fun v _ => v = .bl true) fun _ _ _ => False) ∧
        ∀ base : Heap, K.In base → base.Ns mainGlobals mg → FnOk rw.prog w K mg base CX0 k fa fd [x] sp := by
  have T := tx KX G c
  obtain ⟨fd, FD⟩ := d T
  have e := hmg.symm.trans (g T)
  cases e
  refine ⟨K, fd, fun vs H Q _ => spM ⟨K, fun _ => .none, fun _ => 0, none⟩ 1 f vs H Q fun _ _ _ => False, KX, fun s u => FunD.bindsA (ps := [x]) FD hbind s [u] rfl, fun H a ns hl _ hS => ?_, fun base _ _ => ?_⟩
  · refine ⟨rfl, [], H, [], [.d (.inp (ns.map .int))], rel_nil fun _ _ h => h, .cons (.d (.inp hS (ints_int ns))) .nil, ?_⟩
    rw [ok ns hl]
    intro ρ' G' H' v le R r
    exact rep_bl r
  · obtain ⟨a, fd2, h1, h2, ⟨oc2, od2, osl2, h3⟩, _, h4⟩ := F T base
    have e1 := h1.symm.trans (g T)
    cases e1
    obtain ⟨oc, od, osl, lk⟩ := lkOf FD
    rw [lk] at h3
    cases h3
    exact no_x h4
end B
/-! Walks over a list of the store: it must lie there unchanged at each turn. -/
namespace B
open PySem L2
open Classical in
noncomputable def loopC (k : Nat) (c : C) (g : Tg) (b : Sx) : List W → Env → Sto → R O
  | [], e, s => if s[k]? = some c then .ok (.nx e s) else .stuck
  | x :: xs, e, s => if s[k]? = some c then (g x e s).bd e fun p => (b p.1 p.2).bind fun o => turn o (loopC k c g b xs) else .stuck
open Classical in
noncomputable def compC (k : Nat) (c : C) (g : Tg) (t : Tx) (a : Ev) (own : List Nat) (e0 : Env) : List W → Sto → R (List W × Sto)
  | [], s => if s[k]? = some c then .ok ([], s) else .stuck
  | x :: xs, s => if s[k]? = some c then (qt (g x (kill own e0) s)).bind fun p => (qt (t p.1 p.2)).bind fun q => if q.1 then
      (qt (a p.1 q.2)).bind fun r => (compC k c g t a own e0 xs r.2).bind fun z => .ok (r.1 :: z.1, z.2)
    else compC k c g t a own e0 xs q.2 else .stuck
def locL (w : W) (s : Sto) : R (Nat × C × List W) := match w with
  | .loc k => (match s[k]? with
    | some (.l l) => .ok (k, .l l, ws l)
    | some (.w l) => .ok (k, .w l, l)
    | _ => .stuck)
  | _ => .stuck
noncomputable def sForL (a : Ev) (g : Tg) (b : Sx) : Sx := fun e s => (a e s).bd e fun p => (locL p.1 p.2).bind fun y => loopC y.1 y.2.1 g b y.2.2 e p.2
noncomputable def eCompL (a : Ev) (g : Tg) (t : Tx) (x : Ev) (own : List Nat) : Ev := fun e s => (a e s).bind fun p => (locL p.1 p.2).bind fun y => need (decide (y.2.2.length ≤ sizeL)) ((compC y.1 y.2.1 g t x own e y.2.2 p.2).bind fun q =>
  (ofO (asDs q.1)).bind fun l => .ok (.d (.lst l), q.2))
noncomputable def eCompLC (a : Ev) (g : Tg) (t : Tx) (x : Ev) (own : List Nat) : Ev := fun e s => (a e s).bind fun p => (locL p.1 p.2).bind fun y => need (decide (y.2.2.length ≤ sizeL)) ((compC y.1 y.2.1 g t x own e y.2.2 p.2).bind fun q => newL q.1 q.2)
section
variable {z : Zx} {k : Nat} {B : Bx} {Wi : WX}
def itC : C → Option (List W)
  | .l l => some (ws l) | .w l => some l | _ => none
theorem cellW {ρ : List Addr} {G H : Hp} {S : Sto} {k : Nat} {a : Addr} {c : C} {l : List W} (R : Rel B ρ G S H) (ha : ρ[k]? = some a) (hl : itC c = some l) (hc : S[k]? = some c) : ∃ vs, H a = some (.lst vs) ∧ RepWs B.K ρ G l vs := by
  obtain ⟨a', h1, h2⟩ := R.cell k c hc
  rw [ha] at h1
  cases h1
  cases c with
  | l ds => cases hl; obtain ⟨vs, e, r⟩ := h2; exact ⟨vs, e, r.ws⟩
  | w l => cases hl; obtain ⟨vs, e, r⟩ := h2; exact ⟨vs, e, r⟩
  | m _ _ => cases hl
  | mw _ _ => cases hl
  | o _ _ => cases hl
theorem walkC {ρ : List Addr} {G H : Hp} {S : Sto} {k : Nat} {a : Addr} {c : C} {l : List W} (ha : ρ[k]? = some a) (hl : itC c = some l) (R : Rel B ρ G S H) (hc : S[k]? = some c) (i : Nat) :
    (l.length ≤ i → (Itl B.K a).stop i H) ∧ ∀ w, l[i]? = some w → (Itl B.K a).go i H ∧ ∀ x H3, (Itl B.K a).yld i H x H3 → ∃ G3, Rel B ρ G3 S H3 ∧ Le ρ G H ρ G3 H3 ∧ RepW B.K ρ G3 w x := by
  obtain ⟨vs, e, r⟩ := cellW R ha hl hc
  have q2 : SqL B.K H a vs := .inl (.inl e)
  refine ⟨fun h => ⟨vs, q2, by rw [← r.length]; exact h⟩, fun w hw => ?_⟩
  obtain ⟨v, hv, rv⟩ := r.get hw
  refine ⟨⟨vs, v, q2, hv⟩, fun x H3 y => ?_⟩
  obtain ⟨rfl, y⟩ := y
  have := (y vs q2).symm.trans hv
  cases this
  exact ⟨G, R, Le.refl _ _ _, rv⟩
theorem locL_get {w : W} {S : Sto} {y : Nat × C × List W} (h : locL w S = .ok y) : w = .loc y.1 ∧ S[y.1]? = some y.2.1 ∧ itC y.2.1 = some y.2.2 := by
  cases w with
  | d _ => cases h
  | tw _ => cases h
  | loc k =>
    have h : (match S[k]? with
      | some (.l l) => R.ok (k, C.l l, ws l)
      | some (.w l) => .ok (k, .w l, l)
      | _ => .stuck) = .ok y := h
    cases e : S[k]? with
    | none => rw [e] at h; cases h
    | some c =>
      rw [e] at h
      cases c with
      | l l => cases h; exact ⟨rfl, e, rfl⟩
      | w l => cases h; exact ⟨rfl, e, rfl⟩
      | m _ _ => cases h
      | mw _ _ => cases h
      | o _ _ => cases h
theorem locL_ex {w : W} {S : Sto} {x : Exc} {s : Sto} (h : locL w S = .ex x s) : False := by
  cases w with
  | d _ => cases h
  | tw _ => cases h
  | loc k =>
    have h : (match S[k]? with
      | some (.l l) => R.ok (k, C.l l, ws l)
      | some (.w l) => .ok (k, .w l, l)
      | _ => .stuck) = .ex x s := h
    cases e : S[k]? with
    | none => rw [e] at h; cases h
    | some c => rw [e] at h; cases c <;> cases h
theorem locL_post {Wi : XK} {ρ : List Addr} {G H : Hp} {S : Sto} {w : W} {v : V} {f : Nat × C × List W → VS} {Q : VK} (R : Rel B ρ G S H) (r : RepW B.K ρ G w v) (h : Post B Wi ρ G H ((locL w S).bind f) Q) :
    ∃ k c xs a vs, H a = some (.lst vs) ∧ v = .ref a ∧ ρ[k]? = some a ∧ S[k]? = some c ∧ itC c = some xs ∧ Post B Wi ρ G H (f (k, c, xs)) Q := by
  cases e : locL w S with
  | stuck => rw [e] at h; exact False.elim h
  | ex x s => exact (locL_ex e).elim
  | ok y =>
    obtain ⟨rfl, h2, h3⟩ := locL_get e
    rw [e] at h
    cases r with
    | loc ha =>
      obtain ⟨vs, h4, _⟩ := cellW R ha h3 h2
      exact ⟨y.1, y.2.1, y.2.2, _, vs, h4, rfl, ha, h2, h3, h⟩
theorem locL_postS {ρ : List Addr} {G H : Hp} {S : Sto} {w : W} {v : V} {f : Nat × C × List W → R O} {D : Ends} (R : Rel B ρ G S H) (r : RepW B.K ρ G w v) (h : PostS B Wi ρ G H ((locL w S).bind f) D) :
    ∃ k c xs a vs, H a = some (.lst vs) ∧ v = .ref a ∧ ρ[k]? = some a ∧ S[k]? = some c ∧ itC c = some xs ∧ PostS B Wi ρ G H (f (k, c, xs)) D := by
  cases e : locL w S with
  | stuck => rw [e] at h; exact False.elim h
  | ex x s => exact (locL_ex e).elim
  | ok y =>
    obtain ⟨rfl, h2, h3⟩ := locL_get e
    rw [e] at h
    cases r with
    | loc ha =>
      obtain ⟨vs, h4, _⟩ := cellW R ha h3 h2
      exact ⟨y.1, y.2.1, y.2.2, _, vs, h4, rfl, ha, h2, h3, h⟩
theorem ss_forL {te0 : TE} {m0 : Ev} {g : TG} {mg : Tg} {t : TS} {b : Sx} (hi : SimE B Wi te0 m0) (hq : Quiet mg) (hg : SimG B g mg) (hb : SimS B Wi t b) : SimS B Wi (tFor (iSeqT B.K te0) g t) (sForL m0 mg b) := by
  intro ρ G S H env σ D R E h
  refine hi ρ G S H env σ _ R E (postS_bd E h fun w0 S1 ρ1 G1 H1 v0 l1 R1 r0 h1 => ?_)
  obtain ⟨k, c, xs, a, vs0, e0, rfl, hka, hkc, hic, h1⟩ := locL_postS R1 r0 h1
  simp only at h1
  refine ⟨a, rfl, .inl ⟨⟨vs0, .inl (.inl e0)⟩, ?_⟩⟩
  refine ⟨fun i m σ H => m = xs.length - i ∧ i ≤ xs.length ∧ ∃ ρ2 G2 S2 env2, Le ρ1 G1 H1 ρ2 G2 H ∧ Rel B ρ2 G2 S2 H ∧ EnvR B ρ2 G2 env2 σ ∧ PostS B Wi ρ2 G2 H (loopC k c mg b (xs.drop i) env2 S2) D,
    ⟨xs.length, by simp, Nat.zero_le _, ρ1, G1, S1, env, Le.refl _ _ _, R1, l1.env E, h1⟩, ?_⟩
  rintro i m σ2 H2 ⟨rfl, hle, ρ2, G2, S2, env2, l2, R2, E2, h2⟩
  by_cases hcc : S2[k]? = some c
  rotate_left
  · cases hxs : xs.drop i <;> rw [hxs] at h2 <;> unfold loopC at h2 <;> rw [if_neg hcc] at h2 <;> exact False.elim h2
  obtain ⟨hstop, hgo⟩ := walkC (l2.ix _ _ hka) hic R2 hcc i
  by_cases hlt : i < xs.length
  · obtain ⟨go, step⟩ := hgo _ (List.getElem?_eq_getElem hlt)
    refine .inr ⟨go, fun σ' H' => ∃ ρ3 G3 S3 env3, Le ρ1 G1 H1 ρ3 G3 H' ∧ Rel B ρ3 G3 S3 H' ∧ EnvR B ρ3 G3 env3 σ' ∧ PostS B Wi ρ3 G3 H' (loopC k c mg b (xs.drop (i + 1)) env3 S3) D,
      fun σ' H' q => ⟨xs.length - (i + 1), by omega, rfl, hlt, q⟩, fun x H3 y => ?_⟩
    obtain ⟨G3, R3, l3, r3⟩ := step x H3 y
    rw [List.drop_eq_getElem_cons hlt] at h2
    unfold loopC at h2
    rw [if_pos hcc] at h2
    have h3 : PostS B Wi ρ2 G3 H3 ((mg xs[i] env2 S2).bd env2 fun p => (b p.1 p.2).bind fun o => turn o (loopC k c mg b (xs.drop (i + 1)))) D := postS_le l3 h2
    refine hg ρ2 G3 S2 H3 env2 σ2 _ x _ R3 (l3.env E2) r3 (postSG_bd (fun _ _ => hq _ _ _ _ _) h3 fun e4 S4 ρ4 G4 H4 σ4 l4 R4 E4 h4 => ?_)
    exact turn_end hb R4 E4 h4 fun e s ρ' G' H' σ' l' R' E' h' => ⟨ρ', G', s, e, (l2.trans (l3.trans l4)).trans l', R', E', h'⟩
  · have e : xs.drop i = [] := List.drop_eq_nil_of_le (by omega)
    rw [e] at h2
    unfold loopC at h2
    rw [if_pos hcc] at h2
    exact .inl ⟨hstop (by omega), h2 _ _ _ _ (Le.refl _ _ _) R2 E2⟩
theorem sim_compL {te0 : TE} {m0 : Ev} {g : TG} {mg : Tg} {t : TT} {mt : Tx} {te : TE} {me : Ev} {vs : List Nat} {m : Ev} {f : List W → Sto → VS}
    (hi : SimE B Wi te0 m0) (hpv : ∀ i ∈ vs, PinFree B i) (hg : SimGw B vs g mg) (ht : SimT B (fun _ _ _ _ => False) t mt) (he : SimE B (fun _ _ _ _ => False) te me) (fin : FinOk B f)
    (hm : ∀ e s, m e s = (m0 e s).bind fun p => (locL p.1 p.2).bind fun y => need (decide (y.2.2.length ≤ sizeL)) ((compC y.1 y.2.1 mg mt me vs e y.2.2 p.2).bind fun q => f q.1 q.2)) : SimE B Wi (tLc (iSeqT B.K te0) g t te vs) m := by
  intro ρ G S H env σ Q R E h
  rw [hm] at h
  refine hi ρ G S H env σ _ R E (post_bind h fun w0 S1 ρ1 G1 H1 v0 l1 R1 r0 h => ?_)
  obtain ⟨k, c, xs, a, vs0, e0, rfl, hka, hkc, hic, h⟩ := locL_post R1 r0 h
  simp only at h
  refine ⟨a, rfl, .inl ⟨⟨vs0, .inl (.inl e0)⟩, ?_⟩⟩
  show ∀ D, H1 D = none → ∃ W : Nat → Nat → Hp → Prop, _
  intro D hD
  obtain ⟨hz, h⟩ := postN h
  have hz := of_decide_eq_true hz
  have npr : D ∉ ρ1 := fun hm => R1.mem hm hD
  have gD : G1 D = none := R1.ex.free hD
  refine ⟨fun i m H2 => m = xs.length - i ∧ i ≤ xs.length ∧ ∃ ρ2 G2 S2 accW acc, Le ρ1 G1 H1 ρ2 G2 H2 ∧ Rel B ρ2 G2 S2 H2 ∧ RepWs B.K ρ2 G2 accW acc ∧ acc.length ≤ i ∧ H2 D = some (.lst acc) ∧ D ∉ ρ2 ∧ G2 D = none ∧
    Post B (atS Wi σ) ρ1 G1 H1 ((compC k c mg mt me vs env (xs.drop i) S2).bind fun q => f (accW ++ q.1) q.2) Q,
    ⟨xs.length, by simp, Nat.zero_le _, ρ1, G1, S1, [], [], (Le.refl _ _ _).beside hD, R1.beside npr gD, .nil, Nat.zero_le _, upd_same, npr, gD, h⟩, ?_⟩
  rintro i m H2 ⟨rfl, hle, ρ2, G2, S2, accW, acc, l2, R2, ra, hal, hD2, nD2, gD2, h2⟩
  by_cases hcc : S2[k]? = some c
  rotate_left
  · have : Post B (atS Wi σ) ρ1 G1 H1 ((compC k c mg mt me vs env (xs.drop i) S2).bind fun q => f (accW ++ q.1) q.2) Q := h2
    cases hxs : xs.drop i <;> rw [hxs] at this <;> unfold compC at this <;> rw [if_neg hcc] at this <;> exact False.elim this
  obtain ⟨hstop, hgo⟩ := walkC (l2.ix _ _ hka) hic R2 hcc i
  by_cases hlt : i < xs.length
  · obtain ⟨go, step⟩ := hgo _ (List.getElem?_eq_getElem hlt)
    refine .inr ⟨go, fun H' => i + 1 ≤ xs.length ∧ ∃ ρ3 G3 S3 accW acc, Le ρ1 G1 H1 ρ3 G3 H' ∧ Rel B ρ3 G3 S3 H' ∧ RepWs B.K ρ3 G3 accW acc ∧ acc.length ≤ i + 1 ∧ H' D = some (.lst acc) ∧ D ∉ ρ3 ∧ G3 D = none ∧
      Post B (atS Wi σ) ρ1 G1 H1 ((compC k c mg mt me vs env (xs.drop (i + 1)) S3).bind fun q => f (accW ++ q.1) q.2) Q, fun H' q => ⟨xs.length - (i + 1), by omega, rfl, q⟩, fun x H3 y => ?_⟩
    obtain ⟨G3, R3, l3, r3⟩ : ∃ G3, Rel B ρ2 G3 S2 H3 ∧ Le ρ2 G2 H2 ρ2 G3 H3 ∧ RepW B.K ρ2 G3 _ x := step x H3 y
    rw [List.drop_eq_getElem_cons hlt] at h2
    unfold compC at h2
    rw [if_pos hcc] at h2
    -- what the list at D is, on and on
    have stayD : ∀ {ρa ρb : List Addr} {Ga Gb Ha Hb : Hp}, Le ρa Ga Ha ρb Gb Hb → Ha D = some (.lst acc) → D ∉ ρa → Ga D = none → Hb D = some (.lst acc) ∧ D ∉ ρb ∧ Gb D = none := fun {ρa ρb Ga Gb Ha Hb} l hd hn hg => by
      refine ⟨l.keep D hn _ hd, fun hm => ?_, l.fr D hg (by rw [hd]; simp) (.inr (by rw [hd]; simp [NTX]))⟩
      obtain ⟨t, e, f⟩ := l.pre
      rw [e] at hm
      rcases List.mem_append.mp hm with q | q
      · exact hn q
      · rw [f D q] at hd; cases hd
    obtain ⟨d3, n3, g3⟩ := stayD l3 hD2 nD2 gD2
    have E0 : EnvR B ρ1 G1 env σ := l1.env E
    rcases hg.1 xs[i] (kill vs env) S2 with ⟨e4, eg⟩ | eg
    · rw [eg] at h2
      refine hg.2 ρ2 G3 S2 H3 (kill vs env) (wipe σ vs) xs[i] x _ e4 R3 (envWipe ((l2.trans l3).env E0) vs hpv) r3 eg fun σ' E' w' => ⟨?_, ?_⟩
      · rw [w', wipe_idem]
      · refine ht ρ2 G3 S2 H3 e4 σ' _ R3 E' ?_
        have h2 : Post B (atS Wi σ) ρ1 G1 H1 (((qt (mt e4 S2)).bind fun q => if q.1 then (qt (me e4 q.2)).bind fun r => (compC k c mg mt me vs env (xs.drop (i + 1)) r.2).bind fun z => .ok (r.1 :: z.1, z.2) else compC k c mg mt me vs env (xs.drop (i + 1)) q.2).bind fun q => f (accW ++ q.1) q.2) Q := h2
        cases et : mt e4 S2 with
        | stuck => rw [et] at h2; exact False.elim h2
        | ex a b => rw [et] at h2; exact False.elim h2
        | ok q =>
          obtain ⟨b, S4⟩ := q
          rw [et] at h2
          intro ρ4 G4 H4 l4 R4
          obtain ⟨d4, n4, g4⟩ := stayD l4 d3 n3 g3
          cases b with
          | false =>
            refine (if_neg Bool.false_ne_true).mpr ⟨hlt, ρ4, G4, S4, accW, acc, (l2.trans l3).trans l4, R4, l4.ws (l3.ws ra), by omega, d4, n4, g4, h2⟩
          | true =>
            refine (if_pos rfl).mpr (he ρ4 G4 S4 H4 e4 σ' _ R4 (l4.env E') ?_)
            have h2 : Post B (atS Wi σ) ρ1 G1 H1 (((qt (me e4 S4)).bind fun r => (compC k c mg mt me vs env (xs.drop (i + 1)) r.2).bind fun z => .ok (r.1 :: z.1, z.2)).bind fun q => f (accW ++ q.1) q.2) Q := h2
            cases ee : me e4 S4 with
            | stuck => rw [ee] at h2; exact False.elim h2
            | ex a b => rw [ee] at h2; exact False.elim h2
            | ok r =>
              obtain ⟨w5, S5⟩ := r
              rw [ee] at h2
              intro ρ5 G5 H5 v5 l5 R5 r5
              obtain ⟨d5, n5, g5⟩ := stayD l5 d4 n4 g4
              have lt := ((l2.trans l3).trans l4).trans l5
              refine ⟨acc, d5, by rw [sizeLine_eq]; unfold sizeL at hz; omega, hlt, ρ5, G5, S5, accW ++ [w5], acc ++ [v5], lt.beside hD, R5.beside n5 g5, (l5.ws (l4.ws (l3.ws ra))).append (.cons r5 .nil), by simp; omega, upd_same, n5, g5, ?_⟩
              have h2 : Post B (atS Wi σ) ρ1 G1 H1 (((compC k c mg mt me vs env (xs.drop (i + 1)) S5).bind fun z => .ok (w5 :: z.1, z.2)).bind fun q => f (accW ++ q.1) q.2) Q := h2
              cases ec : compC k c mg mt me vs env (xs.drop (i + 1)) S5 with
              | stuck => rw [ec] at h2; exact False.elim h2
              | ex a b => rw [ec] at h2; exact h2
              | ok q =>
                rw [ec] at h2
                have h2 : Post B (atS Wi σ) ρ1 G1 H1 (f (accW ++ w5 :: q.1) q.2) Q := h2
                show Post B (atS Wi σ) ρ1 G1 H1 (f (accW ++ [w5] ++ q.1) q.2) Q
                rw [List.append_assoc]; exact h2
    · rw [eg] at h2; exact False.elim h2
  · have e : xs.drop i = [] := List.drop_eq_nil_of_le (by omega)
    rw [e] at h2
    have h3 : Post B (atS Wi σ) ρ1 G1 H1 ((compC k c mg mt me vs env [] S2).bind fun q => f (accW ++ q.1) q.2) Q := h2
    unfold compC at h3
    rw [if_pos hcc, _root_.B.R.bind_ok] at h3
    simp only at h3
    rw [List.append_nil] at h3
    exact .inl ⟨hstop (by omega), fin _ ρ1 G1 H1 ρ2 G2 H2 S2 accW acc D Q l2 hD R2 ra hD2 nD2 gD2 h3⟩
end
section
variable {z : Zx} {k : Nat}
theorem sForLOk (ctx : Ctx k z) {tg it : Expr} {x : List Stmt} {ma : Ev} {mg : Tg} {s1 : Sx} {pos : Pos} (hi : OkE z it ma) (hg : OkG z tg mg) (h1 : OkSs z x s1) (hs : ∀ x, foldedSetIterable it z.X.env x = pure x := by intro _; rfl) : OkS z (.For tg it x [] pos) (sForL ma mg s1) := ok_s (ps_for ctx.po ctx.calm (pi_seq hi) hg.1 h1 hs) (ss_forL sim_e hg.2 sim_g sim_s)
theorem kCompL0 {own : List (Str × Nat)} {scope : Scope} {tg elt it : Expr} {ifs : List Expr} {mg : Tg} {mt : Tx} {me : Ev} {ma : Ev} {pos : Pos} {m : Ev} {f : List W → Sto → VS} (ctx : Ctx k z) (hi : OkE z it ma) (h : CompOk z own scope tg ifs elt mg mt me) (fin : FinOk z.B f)
    (hm : ∀ e s, m e s = (ma e s).bind fun p => (locL p.1 p.2).bind fun y => need (decide (y.2.2.length ≤ sizeL)) ((compC y.1 y.2.1 mg mt me (own.map (·.2)) e y.2.2 p.2).bind fun q => f q.1 q.2)) (hs : ∀ x, foldedSetIterable it z.X.env x = pure x) :
    OkE z (.ListComp elt [⟨tg, it, ifs, 0⟩] scope pos) m := by
  obtain ⟨g, g1, g2⟩ := h.g
  obtain ⟨t, t1, t2⟩ := h.t
  exact ok_e (pe_lc (te := tOf z.B (fun _ _ _ _ => False) me) ctx.calm ctx.nd (pi_seq hi) h.blk g2 t2 (fun s H C cl fp => h.e s H C cl fp) hs) (sim_compL sim_e h.pf g1 t1 sim_e fin hm)
theorem kCompL {own : List (Str × Nat)} {scope : Scope} {tg elt it : Expr} {ifs : List Expr} {mg : Tg} {mt : Tx} {me : Ev} {ma : Ev} {pos : Pos} (ctx : Ctx k z) (hi : OkE z it ma) (h : CompOk z own scope tg ifs elt mg mt me) (hs : ∀ x, foldedSetIterable it z.X.env x = pure x := by intro _; rfl) :
    OkE z (.ListComp elt [⟨tg, it, ifs, 0⟩] scope pos) (eCompL ma mg mt me (own.map (·.2))) := kCompL0 ctx hi h fin_d (fun _ _ => rfl) hs
theorem kCompLC {own : List (Str × Nat)} {scope : Scope} {tg elt it : Expr} {ifs : List Expr} {mg : Tg} {mt : Tx} {me : Ev} {ma : Ev} {pos : Pos} (ctx : Ctx k z) (hi : OkE z it ma) (h : CompOk z own scope tg ifs elt mg mt me) (hs : ∀ x, foldedSetIterable it z.X.env x = pure x := by intro _; rfl) :
    OkE z (.ListComp elt [⟨tg, it, ifs, 0⟩] scope pos) (eCompLC ma mg mt me (own.map (·.2))) := kCompL0 ctx hi h fin_c (fun _ _ => rfl) hs
end
end B
/-! further rules -/
namespace B
open PySem L2
/-- one condition of a comprehension -/
theorem tOne {z : Zx} {scope : Scope} {c : Expr} {mt : Tx} (h : ∀ (s : Shared) (H : Hp) (C : Addr) (cl : List (Str × Addr)) (fp : List Addr), OkT (z.blk s H scope (compEnvC scope cl C z.X.env) fp) c mt) :
    ∃ t, SimT z.B (fun _ _ _ _ => False) t mt ∧ ∀ (s : Shared) (H : Hp) (C : Addr) (cl : List (Str × Addr)) (fp : List Addr), PTs (z.X.blk s H scope (compEnvC scope cl C z.X.env) fp) [c] t := ⟨_, sim_t, fun s H C cl fp => pts_one (h s H C cl fp)⟩
/-- a list, so many times -/
def oRep : W → W → Sto → VS := fun x y s => match x, y with
  | .d (.lst l), .d (.int k) => need (decide (-1000 ≤ k) && decide (k ≤ 1000) && decide (l.length ≤ 1000)) (.ok (.d (.lst (List.replicate k.toNat l).flatten), s))
  | _, _ => .stuck
theorem repL_rep {K : PySem.W.Frag} {G : Hp} {l : List D} {vs : List V} (r : RepL K G l vs) : ∀ n, RepL K G (List.replicate n l).flatten (List.replicate n vs).flatten
  | 0 => .nil
  | n + 1 => by
    rw [List.replicate_succ, List.replicate_succ, List.flatten_cons, List.flatten_cons]
    exact r.append (repL_rep r n)
theorem so_rep {B : Bx} : SimR B rRep oRep := by
  intro Wi ρ G S H x y v u Q R rx ry q
  unfold oRep at q
  split at q
  · rename_i l k
    obtain ⟨h1, h2⟩ := postN q
    simp only [Bool.and_eq_true] at h1
    have a1 := of_decide_eq_true h1.1.1
    have a2 := of_decide_eq_true h1.1.2
    have a3 := of_decide_eq_true h1.2
    cases rx with
    | d rx =>
      cases rx with
      | lst q1 r1 =>
        rename_i a vs
        have l1 := r1.length
        have hm : vs.length * k.toNat ≤ 1000 * 1000 := Nat.mul_le_mul (by omega) (by omega)
        refine ⟨a, k, vs, rfl, rep_int ry, R.ex _ _ q1, by omega, by omega, ?_, fun p hp => ?_⟩
        · exact Nat.le_trans hm (by decide)
        · obtain ⟨R2, le2⟩ := R.froz (.lst (List.replicate k.toNat vs).flatten) hp
          exact h2 _ _ _ _ le2 R2 (.d (.lst upd_same ((repL_rep r1 k.toNat).mono le2.ex)))
  · exact False.elim q
theorem kRep {z : Zx} {a b : Expr} {ma mb : Ev} {pos : Pos} (ha : OkE z a ma) (hb : OkE z b mb) : OkE z (.BinOp a .Mult b pos) (e2 oRep ma mb) := kOp op_rep so_rep ha hb
theorem kGS {z : Zx} {pos : Pos} {x y : Str} {t : Tok} (l : List Nat) (hg : Gl z.X x) (hm : z.X.mg x = some (.str y t)) (h : y = sof l) (hd : (x == ("__debug__" : Str)) = false := by decide) : OkE z (.Name x pos) (eK (.str l)) := kGStr l hg hm h hd pos
theorem kGI {z : Zx} {pos : Pos} {x : Str} {i : Int} {t : Tok} (hg : Gl z.X x) (hm : z.X.mg x = some (.int i t)) (hd : (x == ("__debug__" : Str)) = false := by decide) : OkE z (.Name x pos) (eK (.int i)) := kGInt hg hm hd pos
end B
/-! Methods of texts; two comparisons in a row. -/
namespace B
open PySem L2 PySem.Spec PyProof.Rows TL
/-- a text cut at a sign -/
def splitC (c : Nat) : List Nat → List Nat → List (List Nat)
  | acc, [] => [acc]
  | acc, x :: r => if x = c then acc :: splitC c [] r else splitC c (acc ++ [x]) r
def bSplit : W → W → Sto → VS := fun x y s => match x, y with
  | .d (.str z), .d (.str [c]) => need (decide (z.length ≤ 16777000) && decide (c < 256)) (.ok (.d (.lst ((splitC c [] z).map .str)), s))
  | _, _ => .stuck
def bSplitC : W → W → Sto → VS := fun x y s => match x, y with
  | .d (.str z), .d (.str [c]) => need (decide (z.length ≤ 16777000) && decide (c < 256)) (.ok (.loc s.length, s ++ [.l ((splitC c [] z).map .str)]))
  | _, _ => .stuck
/-- a < b < c -/
def eCh (f g : W → W → Sto → VS) (a b c : Ev) : Ev := fun e s => (a e s).bind fun p => (b e p.2).bind fun q => (f p.1 q.1 q.2).bind fun r => match r.1 with
  | .d (.bl true) => (c e r.2).bind fun t => g q.1 t.1 t.2
  | .d (.bl false) => .ok (.d (.bl false), r.2)
  | _ => .stuck
section
variable {z : Zx} {k : Nat} {a b c : Expr} {ma mb mc : Ev} {pos p apos cpos : Pos}
theorem isS_get {x : W} {S : Sto} (h : isS x S = true) : ∃ l, x = .d (.str l) := by
  unfold isS at h
  split at h
  · exact ⟨_, rfl⟩
  · cases h
theorem se_mt1 {r : V → List V → Hp → VK → Prop} {f : W → W → Sto → VS} (hr : SimM1 z.B r f) : SimE z.B z.Wi (tM1 r (tOf z.B z.Wi ma) (tOf z.B z.Wi mb)) (m1 isS f ma mb) := by
  intro ρ G S H env σ Q R E h
  refine sim_e ρ G S H env σ _ R E (post_bind h fun w S1 ρ1 G1 H1 v l1 R1 r1 h1 => ?_)
  obtain ⟨c1, h1⟩ := post_need h1
  obtain ⟨l, rfl⟩ := isS_get c1
  refine ⟨⟨_, rep_str r1⟩, ?_⟩
  refine sim_e ρ1 G1 S1 H1 env σ _ R1 (l1.env E) (post_bind h1 fun w2 S2 ρ2 G2 H2 v2 l2 R2 r2 h2 => ?_)
  exact hr _ ρ2 G2 S2 H2 _ w2 v v2 Q R2 (l2.w r1) r2 h2
/-! join -/
theorem joinL_eq (S : List Nat) : ∀ l : List (List Nat), B.joinL S l = TL.joinL S l
  | [] => rfl
  | [_] => rfl
  | x :: y :: r => by
    show x ++ S ++ B.joinL S (y :: r) = x ++ (S ++ TL.joinL S (y :: r))
    rw [joinL_eq S (y :: r), List.append_assoc]
theorem strs_rep2 {K : PySem.W.Frag} {G : Hp} : ∀ {l : List D} {vs : List V} {ys : List (List Nat)}, RepL K G l vs → strsD l = some ys → vs = (ys.map sof).map V.str
  | [], _, ys, .nil, e => by cases (Option.some.inj (show some [] = some ys from e)); rfl
  | d :: l, _, ys, .cons r1 r2, e => by
    cases d with
    | str s =>
      obtain ⟨y, e1, e2⟩ := Option.map_eq_some_iff.mp (show (strsD l).map _ = some ys from e)
      subst e2
      cases r1
      rw [strs_rep2 r2 e1]; rfl
    | _ => cases (show (none : Option (List (List Nat))) = some ys from e)
theorem tl_sof (l : List Nat) : tl (sof l) = l := sof_cps l
theorem sof_of {x : Str} {l : List Nat} (h : tl x = l) : x = sof l := by
  refine ext_tl ?_
  rw [h, tl_sof]
theorem map_sof_len (ys : List (List Nat)) : ((ys.map sof).map (·.length)) = ys.map List.length := by
  rw [List.map_map]; exact List.map_congr_left fun y _ => sof_len y
theorem map_tl_sof (ys : List (List Nat)) : (ys.map sof).map tl = ys := by
  rw [List.map_map]
  conv => rhs; rw [← List.map_id ys]
  exact List.map_congr_left fun y _ => tl_sof y
theorem sm_join : SimM1 z.B (fun x xs H Q => ∃ a p, ∃ ys : List Str, x = .str a ∧ xs = [.ref p] ∧ (SqL z.X.K H p (ys.map V.str) ∨ SqT z.X.K H p (ys.map V.str)) ∧
    (ys.map (·.length)).sum + ys.length * a.length ≤ 16777216 ∧ Q (.str (Txt.join a ys)) H) (d2 bJoin) := by
  intro Wi ρ G S H x y v u Q R rx ry h
  have h : Post z.B Wi ρ G H ((dat S x).bind fun a => (dat S y).bind fun b => (bJoin a b).bind fun r => .ok (.d r, S)) Q := h
  obtain ⟨dx, _, rdx, h⟩ := dat_key R rx h
  obtain ⟨dy, _, rdy, h⟩ := dat_key R ry h
  cases dx with
  | str s =>
    have h : Post z.B Wi ρ G H (((seqOf dy).bind fun l => (ofO (strsD l)).bind fun l => need (decide ((l.map List.length).sum + s.length * l.length ≤ sizeL)) (.ok (D.str (B.joinL s l)))).bind fun r => .ok (.d r, S)) Q := h
    cases e1 : seqOf dy with
    | stuck => rw [e1] at h; exact False.elim h
    | ex e t => exact absurd e1 (seqOf_ex _ _ _)
    | ok l =>
      rw [e1, _root_.B.R.bind_ok] at h
      cases e2 : strsD l with
      | none => rw [e2] at h; exact False.elim h
      | some ys =>
        rw [e2, ofO_some, _root_.B.R.bind_ok] at h
        obtain ⟨p, vs, rfl, hs, r⟩ := seqOf_rep rdy e1
        have := strs_rep2 r e2
        subst this
        cases hb : decide ((ys.map List.length).sum + s.length * ys.length ≤ sizeL) with
        | false => rw [hb] at h; exact False.elim h
        | true =>
          rw [hb, need_true, _root_.B.R.bind_ok] at h
          have hb := of_decide_eq_true hb
          cases rdx
          refine ⟨sof s, p, ys.map sof, rfl, rfl, hs, ?_, ?_⟩
          · rw [map_sof_len, List.length_map, sof_len, Nat.mul_comm]; exact hb
          · have e : Txt.join (sof s) (ys.map sof) = sof (B.joinL s ys) := sof_of (by rw [join_eq, tl_join, map_tl_sof, tl_sof, joinL_eq])
            rw [e]
            exact h _ _ _ _ (Le.refl _ _ _) R (.d (.str _))
  | _ => exact False.elim h
theorem kJoin (ha : OkE z a ma) (hb : OkE z b mb) (hs : starEach [b] z.X.env = [(false, eval b z.X.env)] := by rfl) (hbase : attributeBase a "join" z.X.env (eval a z.X.env) = eval a z.X.env := by rfl) (hline : (apos.endLine == cpos.line) = true := by rfl) :
    OkE z (.Call (.Attribute a "join" apos) [b] [] cpos) (m1 isS (d2 bJoin) ma mb) := ok_e (pe_join ha hb hs hbase hline) (se_mt1 sm_join)
/-! split -/
theorem spl_one (c : Nat) : ∀ (l acc : List Nat), spl [c] 0 acc l = splitC c acc l
  | [], acc => by rw [spl_nil]; rfl
  | x :: r, acc => by
    unfold splitC
    by_cases h : x = c
    · subst h
      rw [if_pos rfl, spl_hit (by simp [pre])]
      show acc :: spl [x] 0 [] r = _
      rw [spl_one x r []]
    · rw [if_neg h, spl_miss (by simp [pre]; exact fun q => h q), spl_one c r]
theorem strs_L {K : PySem.W.Frag} {G : Hp} : ∀ ns : List (List Nat), RepL K G (ns.map .str) ((ns.map sof).map V.str)
  | [] => .nil
  | n :: r => .cons (.str n) (strs_L r)
theorem split_sof (l : List Nat) (c : Nat) (hc : c < 256) : Txt.split (sof l) (sof [c]) = (splitC c [] l).map sof := by
  refine map_tl_inj ?_
  rw [map_tl_sof, split_spl _ _ (by rw [tl_sof]; simp) (kind_ok (by simp [sof]; exact hc)), tl_sof, tl_sof, spl_one]
theorem sm_split : SimM1 z.B (fun x xs H Q => ∃ a b, x = .str a ∧ xs = [.str b] ∧ (b.length == 0) = false ∧ a.length + 2 ≤ sizeLine ∧ rNewStrs (Txt.split a b) H Q) bSplit := by
  intro Wi ρ G S H x y v u Q R rx ry h
  unfold bSplit at h
  split at h
  · rename_i l c
    obtain ⟨h1, h⟩ := postN h
    rw [Bool.and_eq_true] at h1
    have h2 := of_decide_eq_true h1.1
    refine ⟨sof l, sof [c], rep_str rx, by rw [rep_str ry], rfl, by rw [sof_len, sizeLine_eq]; omega, fun p hp => ?_⟩
    rw [split_sof l c (of_decide_eq_true h1.2)]
    obtain ⟨R2, l2⟩ := R.froz (.lst (((splitC c [] l).map sof).map V.str)) hp
    exact h _ _ _ _ l2 R2 (.d (.lst upd_same (strs_L _)))
  · exact False.elim h
theorem sm_splitC : SimM1 z.B (fun x xs H Q => ∃ a b, x = .str a ∧ xs = [.str b] ∧ (b.length == 0) = false ∧ a.length + 2 ≤ sizeLine ∧ rNewStrs (Txt.split a b) H Q) bSplitC := by
  intro Wi ρ G S H x y v u Q R rx ry h
  unfold bSplitC at h
  split at h
  · rename_i l c
    obtain ⟨h1, h⟩ := postN h
    rw [Bool.and_eq_true] at h1
    have h2 := of_decide_eq_true h1.1
    refine ⟨sof l, sof [c], rep_str rx, by rw [rep_str ry], rfl, by rw [sof_len, sizeLine_eq]; omega, fun p hp => ?_⟩
    rw [split_sof l c (of_decide_eq_true h1.2)]
    obtain ⟨R2, l2⟩ := R.cellNew (o := .lst (((splitC c [] l).map sof).map V.str)) (c := .l ((splitC c [] l).map .str)) hp (cL upd_same (strs_L _))
    exact h _ _ _ _ l2 R2 (.loc (by rw [← R.len]; simp))
  · exact False.elim h
theorem kSplit (ha : OkE z a ma) (hb : OkE z b mb) (hs : starEach [b] z.X.env = [(false, eval b z.X.env)] := by rfl) (hbase : attributeBase a "split" z.X.env (eval a z.X.env) = eval a z.X.env := by rfl) (hline : (apos.endLine == cpos.line) = true := by rfl) :
    OkE z (.Call (.Attribute a "split" apos) [b] [] cpos) (m1 isS bSplit ma mb) := ok_e (pe_split ha hb hs hbase hline) (se_mt1 sm_split)
theorem kSplitC (ha : OkE z a ma) (hb : OkE z b mb) (hs : starEach [b] z.X.env = [(false, eval b z.X.env)] := by rfl) (hbase : attributeBase a "split" z.X.env (eval a z.X.env) = eval a z.X.env := by rfl) (hline : (apos.endLine == cpos.line) = true := by rfl) :
    OkE z (.Call (.Attribute a "split" apos) [b] [] cpos) (m1 isS bSplitC ma mb) := ok_e (pe_split ha hb hs hbase hline) (se_mt1 sm_splitC)
/-! chains -/
theorem se_ch {r r' : R2} {f g : W → W → Sto → VS} (hf : SimR z.B r f) (hg : SimR z.B r' g) : SimE z.B z.Wi (tChain r r' (tOf z.B z.Wi ma) (tOf z.B z.Wi mb) (tOf z.B z.Wi mc)) (eCh f g ma mb mc) := by
  intro ρ G S H env σ Q R E h
  refine sim_e ρ G S H env σ _ R E (post_bind h fun w S1 ρ1 G1 H1 v l1 R1 r1 h1 => ?_)
  refine sim_e ρ1 G1 S1 H1 env σ _ R1 (l1.env E) (post_bind h1 fun w2 S2 ρ2 G2 H2 v2 l2 R2 r2 h2 => ?_)
  refine hf (atS z.Wi σ) ρ2 G2 S2 H2 w w2 v v2 _ R2 (l2.w r1) r2 (post_bind (f := fun r => match r.1 with
  | .d (.bl true) => (mc env r.2).bind fun t => g w2 t.1 t.2
  | .d (.bl false) => .ok (.d (.bl false), r.2)
  | _ => .stuck) h2 fun w3 S3 ρ3 G3 H3 v3 l3 R3 r3 h3 => ?_)
  simp only at h3
  split at h3
  · refine ⟨true, rep_bl r3, (if_pos rfl).mpr ?_⟩
    refine sim_e ρ3 G3 S3 H3 env σ _ R3 (l3.env (l2.env (l1.env E))) (post_bind h3 fun w4 S4 ρ4 G4 H4 v4 l4 R4 r4 h4 => ?_)
    exact hg (atS z.Wi σ) ρ4 G4 S4 H4 w2 w4 v2 v4 Q R4 (l4.w (l3.w r2)) r4 h4
  · exact ⟨false, rep_bl r3, (if_neg Bool.false_ne_true).mpr (post_bl R3 h3)⟩
  · exact False.elim h3
theorem kCh {op op' : CmpOp} {r r' : R2} {f g : W → W → Sto → VS} (ho : OpR z.X (compareOp op) r) (ho' : OpR z.X (compareOp op') r') (hf : SimR z.B r f) (hg : SimR z.B r' g) (ha : OkE z a ma) (hb : OkE z b mb) (hc : OkE z c mc)
    (hm : lastMarks [op, op'] [b, c] = false := by with_unfolding_all rfl) : OkE z (.Compare a [op, op'] [b, c] pos) (eCh f g ma mb mc) := ok_e (pe_chain ho ho' ha hb hc hm) (se_ch hf hg)
theorem tCh {op op' : CmpOp} {r r' : R2} {f g : W → W → Sto → VS} (ho : OpR z.X (compareOp op) r) (ho' : OpR z.X (compareOp op') r') (hf : SimR z.B r f) (hg : SimR z.B r' g) (ha : OkE z a ma) (hb : OkE z b mb) (hc : OkE z c mc)
    (hm : lastMarks [op, op'] [b, c] = false := by with_unfolding_all rfl) : OkT z (.Compare a [op, op'] [b, c] pos) (tB (eCh f g ma mb mc)) := ok_t (pt_chain ho ho' ha hb hc hm) (st_test (se_ch hf hg))
theorem kLeLe (ha : OkE z a ma) (hb : OkE z b mb) (hc : OkE z c mc) (hm : lastMarks [.LtE, .LtE] [b, c] = false := by with_unfolding_all rfl) : OkE z (.Compare a [.LtE, .LtE] [b, c] pos) (eCh (d2 cLe) (d2 cLe) ma mb mc) := kCh op_le op_le so_le so_le ha hb hc hm
theorem kLeLt (ha : OkE z a ma) (hb : OkE z b mb) (hc : OkE z c mc) (hm : lastMarks [.LtE, .Lt] [b, c] = false := by with_unfolding_all rfl) : OkE z (.Compare a [.LtE, .Lt] [b, c] pos) (eCh (d2 cLe) (d2 cLt) ma mb mc) := kCh op_le op_lt so_le so_lt ha hb hc hm
theorem kLtLt (ha : OkE z a ma) (hb : OkE z b mb) (hc : OkE z c mc) (hm : lastMarks [.Lt, .Lt] [b, c] = false := by with_unfolding_all rfl) : OkE z (.Compare a [.Lt, .Lt] [b, c] pos) (eCh (d2 cLt) (d2 cLt) ma mb mc) := kCh op_lt op_lt so_lt so_lt ha hb hc hm
theorem tLeLe (ha : OkE z a ma) (hb : OkE z b mb) (hc : OkE z c mc) (hm : lastMarks [.LtE, .LtE] [b, c] = false := by with_unfolding_all rfl) : OkT z (.Compare a [.LtE, .LtE] [b, c] pos) (tB (eCh (d2 cLe) (d2 cLe) ma mb mc)) := tCh op_le op_le so_le so_le ha hb hc hm
theorem tLeLt (ha : OkE z a ma) (hb : OkE z b mb) (hc : OkE z c mc) (hm : lastMarks [.LtE, .Lt] [b, c] = false := by with_unfolding_all rfl) : OkT z (.Compare a [.LtE, .Lt] [b, c] pos) (tB (eCh (d2 cLe) (d2 cLt) ma mb mc)) := tCh op_le op_lt so_le so_lt ha hb hc hm
end
end B
/-! A tuple whose object is known, and dict(..) of it. -/
namespace B
open PySem L2 PySem.Spec PyProof.Rows
theorem ssNever {z : Zx} {body : List Stmt} : OkSs z body sNever := ⟨fun pins st σ H D I ⟨ρ, G, S, env, R, E, q⟩ => q.elim⟩
def bTupQ : W → Sto → VS := fun x s => (lstOf s x).bind fun l => (ofO (asDs l)).bind fun l => .ok (.d (.inq l), s)
def pairsD : List D → Option (List (D × D))
  | [] => some []
  | .tup [k, v] :: r => if key1 k = true then (pairsD r).map ((k, v) :: ·) else none
  | _ :: _ => none
def dictL (l : List (D × D)) : List (D × D) := l.foldl (fun a p => putD a p.1 p.2) []
def bDictQ : W → Sto → VS := fun x s => match x with
  | .d (.inq l) => need (decide (l.length ≤ sizeL)) ((ofO (pairsD l)).bind fun ps => .ok (.d (.dct false (dictL ps)), s))
  | _ => .stuck
section
variable {X : Cx}
theorem call_tupleQ : CallR X (.type "tuple") (fun xs H Q => ∃ p ys, xs = [.ref p] ∧ SqL X.K H p ys ∧ ∀ l (o : Obj), H l = none → o.dict = none → Q (.ref l) (upd H l (.frz o (.tup ys)))) := by
  intro pins s σ H xs us Q I r h
  obtain ⟨p, ys, rfl, hs, q⟩ := h
  obtain ⟨u, rfl, rx⟩ := vals1 r
  cases rx
  obtain ⟨its, rv, pl, hz⟩ := I.list hs
  refine call_tuple_list pl.isList (fun h' hk => ?_) (by rw [List.size_toArray, ← rv.length]; exact hz)
  have I1 : Inv X pins σ H { s with heap := h' } := I.kept (t' := s.toks) hk
  have I2 : Inv X pins σ (upd H h'.objs.size (.frz { cls := .type "tuple", data := .seq its.toArray } (.tup ys))) { s with heap := h'.push { cls := .type "tuple", data := .seq its.toArray } } :=
    I1.laid (t' := s.toks) (fun b o e => Heap.get?_push_of_some _ e) (Nat.le_refl _) (show ObjOk X.prog X.w _ _ _ (.frz _ (.tup ys)) from ⟨Heap.get?_push_size _ rfl, hz, its, rv, IsTup.new _ _⟩)
  exact ⟨.ref h'.objs.size, _, I2, rfl, q _ _ (I1.hok.fresh (Nat.le_refl _)) rfl⟩
theorem call_dictQ (hcalm : X.calm = true) : CallR X (.type "dict") (fun xs H Q => ∃ (a : Addr) (o : Obj) (ps : List Addr) (kvs : List (Key × V)), xs = [.ref a] ∧ H a = some (.frz o (.tup (ps.map V.ref))) ∧ o.dict = none ∧ Paired (fun p kv => SqT X.K H p [kV kv.1, kv.2]) ps kvs ∧
    ∀ p, H p = none → Q (.ref p) (upd H p (.dK (mergeK [] kvs)))) := by
  intro pins s σ H xs us Q I r q
  obtain ⟨a, o, ps, kvs, ex, hq, hdn, hp, q⟩ := q
  subst ex
  obtain ⟨u, eu, rx⟩ := vals1 r
  subst eu
  cases rx
  obtain ⟨ho, hz, its, rv, o', ho', hc, n, hdat⟩ := (I.hok a _ hq : ObjOk X.prog X.w H s.heap a (.frz o (.tup (ps.map V.ref))))
  rw [ho] at ho'
  cases ho'
  have ei := refs_at rv
  subst ei
  rw [List.length_map] at hz
  obtain ⟨prs, rel, hl, hpr⟩ := pairs_of I hp
  have key : ∀ (j : Nat) (qv : Key × Value), prs[j]? = some qv → ∃ (b : Addr) (u : Value), ps[j]? = some b ∧ s.heap.IsTuple b #[u, qv.2] ∧ keyIs qv.1 u = true := hpr
  -- the keys as values
  have hex : ∃ kv2 : List (Value × Value), kv2.length = prs.length ∧ ∀ (j : Nat) (k v : Value), kv2[j]? = some (k, v) → ∃ (kk : Key) (b : Addr), prs[j]? = some (kk, v) ∧ ps[j]? = some b ∧ s.heap.IsTuple b #[k, v] ∧ keyIs kk k = true := by
    have : ∀ (prs : List (Key × Value)) (ps : List Addr), (∀ (j : Nat) (qv : Key × Value), prs[j]? = some qv → ∃ (b : Addr) (u : Value), ps[j]? = some b ∧ s.heap.IsTuple b #[u, qv.2] ∧ keyIs qv.1 u = true) →
        ∃ kv2 : List (Value × Value), kv2.length = prs.length ∧ ∀ (j : Nat) (k v : Value), kv2[j]? = some (k, v) → ∃ (kk : Key) (b : Addr), prs[j]? = some (kk, v) ∧ ps[j]? = some b ∧ s.heap.IsTuple b #[k, v] ∧ keyIs kk k = true := fun prs => by
      induction prs with
      | nil => exact fun ps _ => ⟨[], rfl, fun j k v e => by simp at e⟩
      | cons p prs ih =>
        intro ps h
        cases ps with
        | nil => obtain ⟨b, u, e, _⟩ := h 0 p rfl; simp at e
        | cons b ps =>
          obtain ⟨b', u, e1, e2, e3⟩ := h 0 p rfl
          have e1 : some b = some b' := e1
          cases e1
          obtain ⟨kv2, l2, h2⟩ := ih ps fun j qv e => h (j + 1) qv e
          refine ⟨(u, p.2) :: kv2, by simp [l2], fun j k v e => ?_⟩
          cases j with
          | zero =>
            have e : some (u, p.2) = some (k, v) := e
            cases e
            exact ⟨p.1, b, rfl, rfl, e2, e3⟩
          | succ j => exact h2 j k v e
    exact this prs ps key
  obtain ⟨kv2, l2, h2⟩ := hex
  have hT : ∀ j, j < ps.length → (ps.map id)[j]? = some (ps.getD j 0) := fun j hj => by
    rw [List.map_id, List.getD_eq_getElem?_getD, List.getElem?_eq_getElem hj]; rfl
  refine PySem.call_dict_pairs (K := Key) (knd := mixKind X.prog X.w) (kvs := prs) (PairArg.tuple a (ps.map Value.ref).toArray (fun j => ps.getD j 0) kv2) (I.ok.hd hcalm) ⟨⟨o, n, ho, hc, hdn, hdat⟩, ⟨by simp [l2, hl], fun j k v e => ?_⟩⟩ ⟨l2.symm, fun j k v e => ?_⟩ (by rw [l2, hl]; exact hz) fun h' tk hd' k => ?_
  · obtain ⟨kk, b, e1, e2, e3, e4⟩ := h2 j k v e
    have : ps.getD j 0 = b := by rw [List.getD_eq_getElem?_getD, e2]; rfl
    exact ⟨by simp [e2, this], .inl (by show s.heap.IsTuple (ps.getD j 0) #[k, v]; rw [this]; exact e3)⟩
  · obtain ⟨kk, b, e1, e2, e3, e4⟩ := h2 j k v e
    exact ⟨kk, e1, e4⟩
  · have hm : (s.heap.objs.size == sysModules) = false := beq_eq_false_iff_ne.mpr (Nat.ne_of_gt I.big)
    have hlen : (mergeK [] kvs).length ≤ sizeLine := by
      refine Nat.le_trans (length_mergeK kvs []) ?_
      rw [List.length_nil, Nat.zero_add, rel.length, hl]
      exact hz
    exact ⟨.ref s.heap.objs.size, upd H s.heap.objs.size (.dK (mergeK [] kvs)), I.laid (t' := tk) (fun b o e => k b o (by simp) e) (Nat.le_refl _) (show ObjOk X.prog X.w _ _ _ (.dK (mergeK [] kvs)) from ⟨hlen, hm, merged [] prs, KV.merge rel .nil, hd'⟩), rfl, q _ (I.hok.fresh (Nat.le_refl _))⟩
end
section
variable {z : Zx} {k : Nat} {a : Expr} {ma : Ev} {pos p : Pos}
theorem sc_tupQ : SimC1 z.B (fun xs H Q => ∃ p ys, xs = [.ref p] ∧ SqL z.X.K H p ys ∧ ∀ l (o : Obj), H l = none → o.dict = none → Q (.ref l) (upd H l (.frz o (.tup ys)))) bTupQ := by
  intro Wi ρ G S H x v Q R rx h
  unfold bTupQ at h
  rcases lstOf_cases S x with ⟨l, e⟩ | e
  · rw [e, _root_.B.R.bind_ok] at h
    cases e2 : asDs l with
    | none => rw [e2] at h; exact False.elim h
    | some ds =>
      rw [e2, ofO_some, _root_.B.R.bind_ok] at h
      obtain ⟨p, vs, rfl, hs, r⟩ := lstOf_rep R e rx
      refine ⟨_, vs, rfl, .inl (.inl hs), fun l o hl ho => ?_⟩
      obtain ⟨R2, l2⟩ := R.froz (.frz o (.tup vs)) hl
      exact h _ _ _ _ l2 R2 (.d (.inq ⟨upd_same, ho⟩ ((r.asDs e2).mono l2.ex)))
  · rw [e] at h; exact False.elim h
theorem kTupleQ (hg : Gl z.X "tuple") (hm : z.X.mg "tuple" = none) (ha : OkE z a ma) (hs : starEach [a] z.X.env = (false, eval a z.X.env) :: starEach [] z.X.env := by rfl) : OkE z (.Call (.Name "tuple" p) [a] [] pos) (e1 bTupQ ma) := kT1 call_tupleQ sc_tupQ boot_tuple hg hm ha (hs := hs)
theorem pairs_rep {K : PySem.W.Frag} {G : Hp} : ∀ {l : List D} {vs : List V} {ps : List (D × D)}, RepL K G l vs → pairsD l = some ps → ∃ (as : List Addr) (kvs : List (Key × V)), vs = as.map V.ref ∧ Paired (fun p (kv : Key × V) => SqT K G p [kV kv.1, kv.2]) as kvs ∧ ps.map (fun p => keyK p.1) = kvs.map (fun p => some p.1) ∧ RepL K G (ps.map (·.2)) (kvs.map (·.2))
  | [], _, ps, .nil, e => by cases (Option.some.inj (show some [] = some ps from e)); exact ⟨[], [], rfl, .nil, rfl, .nil⟩
  | d :: l, _, ps, .cons r1 r2, e => by
    cases d with
    | tup t =>
      match t, e, r1 with
      | [kk, v], e, r1 =>
        have e : (if key1 kk = true then (pairsD l).map ((kk, v) :: ·) else none) = some ps := e
        by_cases hk : key1 kk = true
        · rw [if_pos hk] at e
          obtain ⟨ps', e1, e2⟩ := Option.map_eq_some_iff.mp e
          subst e2
          obtain ⟨as, kvs, q1, q2, q3, q4⟩ := pairs_rep r2 e1
          subst q1
          cases r1 with
          | tup g1 g2 =>
            rename_i b vs2
            cases g2 with
            | cons ga gb =>
              cases gb with
              | cons gb gn =>
                cases gn
                obtain ⟨j, hj⟩ : ∃ j, keyK kk = some j := by cases kk <;> first | exact ⟨_, rfl⟩ | cases hk
                have hv := kV_of ga hj
                subst hv
                exact ⟨b :: as, (j, _) :: kvs, rfl, .cons (.inl (.inl g1)) q2, by rw [List.map_cons, List.map_cons, q3, hj], .cons gb q4⟩
        · rw [if_neg hk] at e; cases e
    | _ => cases (show (none : Option (List (D × D))) = some ps from e)
theorem merge_rel {K : PySem.W.Frag} {G : Hp} : ∀ (ps : List (D × D)) (kvs : List (Key × V)) (l : List (D × D)) (kv : List (Key × V)), ps.map (fun p => keyK p.1) = kvs.map (fun p => some p.1) → Al (Rep K G) (ps.map (·.2)) (kvs.map (·.2)) →
    l.map (fun p => keyK p.1) = kv.map (fun p => some p.1) → Al (Rep K G) (l.map (·.2)) (kv.map (·.2)) →
    (ps.foldl (fun a p => putD a p.1 p.2) l).map (fun p => keyK p.1) = (mergeK kv kvs).map (fun p => some p.1) ∧ Al (Rep K G) ((ps.foldl (fun a p => putD a p.1 p.2) l).map (·.2)) ((mergeK kv kvs).map (·.2))
  | [], [], l, kv, _, _, h1, h2 => ⟨h1, h2⟩
  | [], _ :: _, _, _, h, _, _, _ => by simp at h
  | _ :: _, [], _, _, h, _, _, _ => by simp at h
  | p :: ps, q :: kvs, l, kv, h, r, h1, h2 => by
    rw [List.map_cons, List.map_cons, List.cons.injEq] at h
    rw [List.map_cons, List.map_cons] at r
    cases r with
    | cons ra rb =>
      obtain ⟨q1, q2⟩ := put_rel (P := Rep K G) keyK (fun _ _ _ _ => keyK_eqv) h.1 ra l kv h1 h2
      exact merge_rel ps kvs _ _ h.2 rb q1 q2
theorem sc_dictQ : SimC1 z.B (fun xs H Q => ∃ (a : Addr) (o : Obj) (ps : List Addr) (kvs : List (Key × V)), xs = [.ref a] ∧ H a = some (.frz o (.tup (ps.map V.ref))) ∧ o.dict = none ∧ Paired (fun p kv => SqT z.X.K H p [kV kv.1, kv.2]) ps kvs ∧
    ∀ p, H p = none → Q (.ref p) (upd H p (.dK (mergeK [] kvs)))) bDictQ := by
  intro Wi ρ G S H x v Q R rx h
  unfold bDictQ at h
  split at h
  · rename_i l
    obtain ⟨h1, h⟩ := postN h
    cases e : pairsD l with
    | none => rw [e] at h; exact False.elim h
    | some ps =>
      rw [e, ofO_some, _root_.B.R.bind_ok] at h
      cases rx with
      | d rx =>
        cases rx with
        | inq g1 g2 =>
          obtain ⟨as, kvs, q1, q2, q3, q4⟩ := pairs_rep g2 e
          subst q1
          refine ⟨_, _, as, kvs, rfl, R.ex _ _ g1.1, g1.2, Paired.mapP q2 fun p kv s => Same.sqt R.ex s, fun p hp => ?_⟩
          obtain ⟨m1, m2⟩ := merge_rel ps kvs [] [] q3 q4.al rfl .nil
          obtain ⟨R2, l2⟩ := R.froz (.dK (mergeK [] kvs)) hp
          exact h _ _ _ _ l2 R2 (.d (.dk (.inl upd_same) m1 ((RepL.of_al m2).mono l2.ex)))
  · exact False.elim h
theorem kDictQ (ctx : Ctx k z) (hg : Gl z.X "dict") (hm : z.X.mg "dict" = none) (ha : OkE z a ma) (hs : starEach [a] z.X.env = (false, eval a z.X.env) :: starEach [] z.X.env := by rfl) : OkE z (.Call (.Name "dict" p) [a] [] pos) (e1 bDictQ ma) := kT1 (call_dictQ ctx.calm) sc_dictQ boot_dict hg hm ha (hs := hs)
end
end B
/-! enumerate over a tuple: the rule; walks with watched places. -/
namespace B
open PySem L2 PySem.Spec PyProof.Rows
open AutoSeq1 (wpAny_loadPart')
theorem meets_enumerate_newT (l : Addr) (items : Array Value) (n : Nat) (dct : Option Addr) (sl : Array (Option Value)) :
    Meets (Builtin.«enumerate.__new__» ⟨[.type "enumerate", .ref l], []⟩) (fun _ R s => s.heap.get? l = some { cls := .type "tuple", dict := dct, data := .seq items n, slots := sl } ∧
      R (.ok (.ret (.ref (s.heap.push { cls := .type "tuple_iterator", data := .fields #[.ref l, .int 0 0] }).objs.size)))
        { s with heap := (s.heap.push { cls := .type "tuple_iterator", data := .fields #[.ref l, .int 0 0] }).push { cls := .type "enumerate", data := .fields #[.none, .bool false, .ref s.heap.objs.size, rawInt 0, .none, .none] } }) :=
  .of_wp fun prog w A R s h => by
    obtain ⟨hp, g, d, tk, os⟩ := s; obtain ⟨hl, h⟩ := h
    have hsub := sub_enumerate
    have hL : Heap.IsTuple (Shared.heap ⟨hp, g, d, tk, os⟩) l items := ⟨_, hl, rfl, n, rfl⟩
    wp_walk using wpAny_loadPart' hl
    refine wpAny_stack_any fun st => wpAny_pure ?_
    split
    · rename_i c _ _ _ _ _
      cases (c == Value.type "enumerate")
      · wp_walk using wpAny_loadPart' hl, wpAny_pyIter_tuple hL
        exact ⟨_, rfl, h⟩
      · wp_walk using wpAny_loadPart' hl, wpAny_pyIter_tuple hL
        exact ⟨_, rfl, h⟩
    · wp_walk using wpAny_loadPart' hl, wpAny_pyIter_tuple hL
      exact ⟨_, rfl, h⟩
theorem call_enumerate_tuple {prog : Program} {w : World} {A : Around} {E : Value → Shared → Prop} {s : Shared} {l : Addr} {items : Array Value} {Q : Value → Shared → Prop} (hL : s.heap.IsTuple l items)
    (h : ∀ h', IsEnum h' (s.heap.objs.size + 1) s.heap.objs.size 0 .none → h'.IsTupleIter s.heap.objs.size l 0 → h'.objs.size = s.heap.objs.size + 2 →
      (∀ b o, s.heap.get? b = some o → h'.get? b = some o) → Q (.ref (s.heap.objs.size + 1)) { s with heap := h' }) :
    wpAny (model prog w) A (call (.type "enumerate") [.ref l]) Q E s := by
  obtain ⟨⟨c, dct, dt, sl⟩, hl, hc, n, hd⟩ := hL
  replace hc : c = .type "tuple" := hc
  replace hd : dt = .seq items n := hd
  subst hc hd
  refine callType_new F.called_enumerate (by decide) (F.typeCall_enumerate_1 _) (F.newCall_enumerate_1 _) (fun obj => F.args_object_init_2 obj _) F.entry_enumerate_new
    (meets_enumerate_newT l items n dct sl) ⟨hl, ?_⟩
  have hz : (s.heap.push { cls := .type "tuple_iterator", data := .fields #[.ref l, .int 0 0] }).objs.size = s.heap.objs.size + 1 := Heap.size_push ..
  show _ ∧ _
  rw [hz]
  have he : IsEnum ((s.heap.push { cls := .type "tuple_iterator", data := .fields #[.ref l, .int 0 0] }).push
      { cls := .type "enumerate", data := .fields #[.none, .bool false, .ref s.heap.objs.size, rawInt 0, .none, .none] }) (s.heap.objs.size + 1) s.heap.objs.size 0 .none := by
    have := Heap.get?_push_size (s.heap.push { cls := .type "tuple_iterator", data := .fields #[.ref l, .int 0 0] })
      (o := { cls := .type "enumerate", data := .fields #[.none, .bool false, .ref s.heap.objs.size, rawInt 0, .none, .none] }) rfl
    rw [hz] at this; exact this
  refine ⟨⟨_, he, rfl⟩, h _ he ⟨_, Heap.get?_push_of_some _ (Heap.get?_push_size _ rfl), rfl, rfl⟩ (by rw [Heap.size_push, hz]) fun b o x => Heap.get?_push_of_some _ (Heap.get?_push_of_some _ x)⟩
/-- the tuple at a, each item in a new pair -/
def IteT (K : PySem.W.Frag) (a : Addr) : L2.It :=
  ⟨fun i H => ∃ (xs : List V) (x : V), SqT K H a xs ∧ xs[i]? = some x, fun i H v H' => ∃ T x, v = .ref T ∧ H T = none ∧ H' = upd H T (.tup [.int (i : Nat), x]) ∧ ∀ xs, SqT K H a xs → xs[i]? = some x, fun i H => ∃ xs : List V, SqT K H a xs ∧ xs.length ≤ i⟩
theorem turn_enumT {P : Program} {w : World} {K : PySem.W.Frag} {elts : List Expr} {kk : Nat} {tpos : Pos} (a e it : Addr) (hea : a ≠ e) (hia : a ≠ it) :
    Turn P w K (.Tuple elts kk tpos) (IteT K a) [e, it] e (fun i h => (∃ old, IsEnum h e it ((i : Nat) : Int) old) ∧ h.IsTupleIter it a i ∧ e ≠ it) where
  mem := by simp
  obj := fun i h st b hb => by
    obtain ⟨⟨old, he⟩, ⟨o, ho, hc, hd⟩, _⟩ := st
    have e' : b = e ∨ b = it := by simpa using hb
    rcases e' with z | z
    · rw [z]; exact ⟨_, he, fun v q => nomatch q⟩
    · rw [z]; exact ⟨o, ho, fun v q => by rw [hd] at q; cases q⟩
  keep := fun i h h' st k => let ⟨⟨old, he⟩, hi, hne⟩ := st; ⟨⟨old, k e (by simp) _ he⟩, hi.at fun o q => k it (by simp) o q, hne⟩
  item := by
    intro X hP hw hK hc i pins s σ H E I hf st hg
    subst hP hw hK
    obtain ⟨⟨old, he⟩, hit, hne⟩ := st
    obtain ⟨xs, x, hq, hx⟩ := hg
    obtain ⟨its, rv, p, hz⟩ := I.tuple hq
    obtain ⟨u, hu, ru⟩ := rv.get hx
    have hel : e < s.heap.objs.size := Heap.lt_size he
    have hil : it < s.heap.objs.size := by obtain ⟨_, q, _⟩ := hit; exact Heap.lt_size q
    have hu' : its.toArray[i]? = some u := by simpa using hu
    have hlt : i < its.toArray.size := (Array.getElem?_eq_some_iff.mp hu').1
    refine wpAny_pyNext_enum_itemD (Draws.tuple (A := X.A.in1) (I.ok.hd hc) it a hia its.toArray) he ⟨hit, (show s.heap.IsTuple a its.toArray from p)⟩ hlt hne (by
      intro hm
      have : e = it ∨ e = a := by simpa using hm
      rcases this with q | q
      · exact hne q
      · exact hea q.symm) fun x1 h' tk hPx ho hst hT hsz hk => ?_
    have hx1 : x1 = u := Option.some.inj (hPx.symm.trans hu')
    subst hx1
    refine ⟨_, rfl, wpAny_letOwnedTupleGo_enum (s := { s with heap := h', toks := tk + 1 }) ho fun h'' he' sb => ?_⟩
    have hT2 : h''.get? s.heap.objs.size = some { cls := .type "tuple", data := .seq #[.int i tk, x1] } := (sb.2 _ (Nat.ne_of_gt hel)).trans hT
    have new : ObjOk X.prog X.w (upd H s.heap.objs.size (.tup [.int (i : Nat), x])) h'' s.heap.objs.size (.tup [.int (i : Nat), x]) :=
      ⟨by show 2 ≤ sizeLine; decide, [.int i tk, x1], .cons ⟨_, rfl⟩ (.cons ru .nil), ⟨_, hT2, rfl, _, rfl⟩⟩
    have I1 : Inv X pins σ (upd H s.heap.objs.size (.tup [.int (i : Nat), x])) { s with heap := h'', toks := tk + 1 } :=
      I.turnedNew (ch := [e, it]) (fun b ob hb q => (sb.2 b (fun z => hb (by simp [z]))).trans (hk b ob (fun z => hb (by simp [z])) (fun z => hb (by simp [z])) q)) hf (Nat.le_refl _) new
    refine ⟨.ref s.heap.objs.size, _, I1, rfl, ⟨_, x, rfl, I.hok.fresh (Nat.le_refl _), rfl, fun ys hy => by rw [I.tuple_inj hy hq]; exact hx⟩, ⟨⟨x1, ?_⟩, hst.1.at fun o q => (sb.2 it (Ne.symm hne)).trans q, hne⟩, fun b hb => ?_⟩
    · have e1 : ((i + 1 : Nat) : Int) = (i : Int) + 1 := by omega
      rw [e1]; exact he'
    · have hb' : b < s.heap.objs.size := by
        have e' : b = e ∨ b = it := by simpa using hb
        rcases e' with z | z
        · rw [z]; exact hel
        · rw [z]; exact hil
      rw [upd_ne (Nat.ne_of_lt hb')]
      exact (hf b hb).1
  done := by
    intro X hP hw hK hc i pins s σ H E I hf st hg
    subst hP hw hK
    obtain ⟨⟨old, he⟩, hit, hne⟩ := st
    obtain ⟨xs, hq, hx⟩ := hg
    obtain ⟨its, rv, p, hz⟩ := I.tuple hq
    obtain ⟨f0, f1, f2, f3, f4, f5⟩ := hf it (by simp)
    have hl := rv.length
    have hT : s.TypeIs (.ref e) "enumerate" := ⟨_, he, rfl⟩
    have hnone : its.toArray[i]? = none := by simp; omega
    unfold pyNext
    refine wpAny_bind (wpAny_attempt (wpAny_callSpecial?_slot (name := Str.ofString "__next__") hT F.slot_enumerate_next
      (wpAny_call_entry F.slot_enumerate_next hT F.entry_enumerate_next ?_ (F.args_enumerate_next_1 _))))
    show wpAny _ _ (field (.ref e) 2 >>= _) _ _ _
    refine wpAny_bind (wpAny_field he rfl (x := .ref it) rfl ?_)
    refine wpAny_bind (wpAny_nextOf_tuple_end (I.ok.hd hc) hit (show s.heap.IsTuple a its.toArray from p) hnone fun h' x he' hx' => ?_)
    obtain ⟨o, ho, hc'⟩ := hx'
    refine wpAny_bind (wpAny_isInstance (T := "StopIteration") (b := true) ⟨o, ho, hc'⟩ isSubtype_stop ?_)
    exact wpAny_pure ⟨rfl, I.turned (t' := s.toks) (fun b o hb q => he' b o hb q) f0 f1 f3 f4 f5⟩
  self := fun A i s Q E st h => let ⟨⟨_, he⟩, _⟩ := st; wpAny_pyIter_enum he h
def iEnumA (K : PySem.W.Frag) (ta : TA) : TI := fun σ H R => ta σ H fun vs H1 => ∃ a xs, vs = [.ref a] ∧ ((SqL K H1 a xs ∧ R (Ite K a) H1) ∨ (SqT K H1 a xs ∧ R (IteT K a) H1))
theorem pi_enumA {X : Cx} {e : Expr} {ta : TA} {p pos tpos : Pos} {elts : List Expr} {kk : Nat} (hg : Gl X "enumerate") (hm : X.mg "enumerate" = none) (ha : PA X [e] ta) (hs : starEach [e] X.env = [(false, eval e X.env)] := by rfl) :
    PI X (.Tuple elts kk tpos) (.Call (.Name "enumerate" p) [e] [] pos) (iEnumA X.K ta) := by
  refine ⟨fun pins s σ H R I h => ?_⟩
  refine Call_ (ld_blt I hg hm boot_enumerate (PyProof.Rows.callWith_type1 (thn (ha.run pos pins s σ H _ I h) fun us s1 ⟨vs, H1, I1, r1, q1⟩ => ?_) hs rfl))
  obtain ⟨a, xs, ex, hq⟩ := q1
  subst ex
  cases r1 with
  | cons r rr =>
    cases rr
    cases r
    have fresh2 : ∀ b, b ∈ [s1.heap.objs.size + 1, s1.heap.objs.size] → FpOk X pins H1 b := fun b hb => by
      have e' : b = s1.heap.objs.size + 1 ∨ b = s1.heap.objs.size := by simpa using hb
      have hle : s1.heap.objs.size ≤ b := by
        rcases e' with z | z
        · rw [z]; exact Nat.le_add_right _ _
        · rw [z]; exact Nat.le_refl _
      exact I1.fpOk hle (I1.hok.fresh hle)
    rcases hq with ⟨hq, q⟩ | ⟨hq, q⟩
    · obtain ⟨its, rv, p', hz⟩ := I1.list hq
      refine call_enumerate_list p'.isList fun h' he hit hsz hk => wpAny_pyIter_enum he ?_
      have I2 : Inv X pins σ H1 { s1 with heap := h' } := I1.kept (t' := s1.toks) hk
      exact ⟨s1.heap.objs.size + 1, [s1.heap.objs.size + 1, s1.heap.objs.size], _, _, H1, rfl, I2, turn_enum a (s1.heap.objs.size + 1) s1.heap.objs.size, ⟨⟨.none, he⟩, hit, Nat.succ_ne_self _⟩, fresh2, q⟩
    · obtain ⟨its, rv, p', hz⟩ := I1.tuple hq
      have hal : a < s1.heap.objs.size := p'.lt
      refine call_enumerate_tuple (show s1.heap.IsTuple a its.toArray from p') fun h' he hit hsz hk => wpAny_pyIter_enum he ?_
      have I2 : Inv X pins σ H1 { s1 with heap := h' } := I1.kept (t' := s1.toks) hk
      exact ⟨s1.heap.objs.size + 1, [s1.heap.objs.size + 1, s1.heap.objs.size], _, _, H1, rfl, I2, turn_enumT a (s1.heap.objs.size + 1) s1.heap.objs.size (Nat.ne_of_lt (Nat.lt_succ_of_lt hal)) (Nat.ne_of_lt hal), ⟨⟨.none, he⟩, hit, Nat.succ_ne_self _⟩, fresh2, q⟩
end B
/-! Walks with watched places: what a walk reads from the store must lie there unchanged at each turn. -/
namespace B
open PySem L2
abbrev Wt := List (Nat × C)
def watchOk (wt : Wt) (s : Sto) : Prop := ∀ p ∈ wt, s[p.1]? = some p.2
abbrev WkW := Env → Sto → R (List W × Wt × Sto)
open Classical in
noncomputable def loopW (wt : Wt) (g : Tg) (b : Sx) : List W → Env → Sto → R O
  | [], e, s => if watchOk wt s then .ok (.nx e s) else .stuck
  | x :: xs, e, s => if watchOk wt s then (g x e s).bd e fun p => (b p.1 p.2).bind fun o => turn o (loopW wt g b xs) else .stuck
open Classical in
noncomputable def compW (wt : Wt) (g : Tg) (t : Tx) (a : Ev) (own : List Nat) (e0 : Env) : List W → Sto → R (List W × Sto)
  | [], s => if watchOk wt s then .ok ([], s) else .stuck
  | x :: xs, s => if watchOk wt s then (qt (g x (kill own e0) s)).bind fun p => (qt (t p.1 p.2)).bind fun q => if q.1 then
      (qt (a p.1 q.2)).bind fun r => (compW wt g t a own e0 xs r.2).bind fun z => .ok (r.1 :: z.1, z.2)
    else compW wt g t a own e0 xs q.2 else .stuck
noncomputable def sForW (i : WkW) (g : Tg) (b : Sx) : Sx := fun e s => (i e s).bd e fun p => loopW p.2.1 g b p.1 e p.2.2
noncomputable def eCompW (i : WkW) (g : Tg) (t : Tx) (a : Ev) (own : List Nat) : Ev := fun e s => (i e s).bind fun p => need (decide (p.1.length ≤ sizeL)) ((compW p.2.1 g t a own e p.1 p.2.2).bind fun q =>
  (ofO (asDs q.1)).bind fun l => .ok (.d (.lst l), q.2))
noncomputable def eCompWC (i : WkW) (g : Tg) (t : Tx) (a : Ev) (own : List Nat) : Ev := fun e s => (i e s).bind fun p => need (decide (p.1.length ≤ sizeL)) ((compW p.2.1 g t a own e p.1 p.2.2).bind fun q => newL q.1 q.2)
theorem watch_nil (s : Sto) : watchOk [] s := fun p hp => by cases hp
theorem loopW_nil (g : Tg) (b : Sx) : ∀ (xs : List W), loopW [] g b xs = loop g b xs
  | [] => by funext e s; unfold loopW; rw [if_pos (watch_nil s)]; rfl
  | x :: xs => by funext e s; unfold loopW; rw [if_pos (watch_nil s), loopW_nil g b xs]; rfl
theorem compW_nil (g : Tg) (t : Tx) (a : Ev) (own : List Nat) (e0 : Env) : ∀ (xs : List W) (s : Sto), compW [] g t a own e0 xs s = comp g t a own e0 xs s
  | [], s => by unfold compW; rw [if_pos (watch_nil s)]; rfl
  | x :: xs, s => by
    unfold compW
    rw [if_pos (watch_nil s)]
    have : compW [] g t a own e0 xs = comp g t a own e0 xs := by funext s; exact compW_nil g t a own e0 xs s
    rw [this]; rfl
/-! the iterators -/
/-- a thing's items, and whether it is a list or a tuple; what is to be watched -/
inductive Kd where
  | li | tu
def seqK (w : W) (s : Sto) : R (Kd × List W × Wt) := match w with
  | .d (.lst l) => .ok (.li, ws l, [])
  | .d (.inp l) => .ok (.li, ws l, [])
  | .d (.tup l) => .ok (.tu, ws l, [])
  | .d (.inq l) => .ok (.tu, ws l, [])
  | .tw l => .ok (.tu, l, [])
  | .loc k => match s[k]? with
    | some (.l l) => .ok (.li, ws l, [(k, .l l)])
    | some (.w l) => .ok (.li, l, [(k, .w l)])
    | _ => .stuck
  | _ => .stuck
def enW (i : Nat) : List W → List W
  | [] => []
  | w :: r => tupW [.d (.int i), w] :: enW (i + 1) r
def zpW : List W → List W → List W
  | x :: xs, y :: ys => tupW [x, y] :: zpW xs ys
  | _, _ => []
def iEn (a : Ev) : WkW := fun e s => (a e s).bind fun p => (seqK p.1 p.2).bind fun q => .ok (enW 0 q.2.1, q.2.2, p.2)
def zpK (x y : Kd × List W × Wt) (s : Sto) : R (List W × Wt × Sto) := match x.1, y.1 with
  | .li, .li => .ok (zpW x.2.1 y.2.1, x.2.2 ++ y.2.2, s)
  | .tu, .tu => .ok (zpW x.2.1 y.2.1, x.2.2 ++ y.2.2, s)
  | _, _ => .stuck
def iZp (a b : Ev) : WkW := fun e s => (a e s).bind fun p => (b e p.2).bind fun q => (seqK p.1 q.2).bind fun x => (seqK q.1 q.2).bind fun y => zpK x y q.2
def iRv (a : Ev) : WkW := fun e s => (a e s).bind fun p => (seqK p.1 p.2).bind fun q => .ok (q.2.1.reverse, q.2.2, p.2)
section
variable {z : Zx} {k : Nat} {B : Bx} {Wi : WX}
def WalksW (B : Bx) (ρ : List Addr) (G : Hp) (J : L2.It) (xs : List W) (wt : Wt) : Prop := ∀ i ρ2 G2 S2 H2, (∀ (n : Nat) (a : Addr), ρ[n]? = some a → ρ2[n]? = some a) → Same G G2 → Rel B ρ2 G2 S2 H2 → watchOk wt S2 →
  (xs.length = i → J.stop i H2) ∧ ∀ w, xs[i]? = some w → J.go i H2 ∧ ∀ x H3, J.yld i H2 x H3 → ∃ G3, Rel B ρ2 G3 S2 H3 ∧ Le ρ2 G2 H2 ρ2 G3 H3 ∧ RepW B.K ρ2 G3 w x
def PostIW (B : Bx) (Wi : XK) (ρ : List Addr) (G H : Hp) (r : R (List W × Wt × Sto)) (Q : L2.It → Hp → Prop) : Prop := match r with
  | .ok (xs, wt, S') => ∀ ρ' G' H' J, Le ρ G H ρ' G' H' → Rel B ρ' G' S' H' → WalksW B ρ' G' J xs wt → Q J H'
  | .ex x S' => ∀ ρ' G' H' c d, Le ρ G H ρ' G' H' → Rel B ρ' G' S' H' → RepX B G' x c d H' → Wi c d H'
  | .stuck => False
def SimIW (B : Bx) (Wi : WX) (wi : TI) (m : WkW) : Prop := ∀ ρ G S H env σ Q, Rel B ρ G S H → EnvR B ρ G env σ → PostIW B (atS Wi σ) ρ G H (m env S) Q → wi σ H Q
def wiOfW (B : Bx) (Wi : WX) (m : WkW) : TI := fun σ H Q => ∃ ρ G S env, Rel B ρ G S H ∧ EnvR B ρ G env σ ∧ PostIW B (atS Wi σ) ρ G H (m env S) Q
theorem sim_iw {m : WkW} : SimIW B Wi (wiOfW B Wi m) m := fun ρ G S H env σ Q R E h => ⟨ρ, G, S, env, R, E, h⟩
def OkIW (z : Zx) (tg e : Expr) (m : WkW) : Prop := PI z.X tg e (wiOfW z.B z.Wi m)
theorem ok_iw {tg it : Expr} {wi : TI} {mi : WkW} (h : PI z.X tg it wi) (s : SimIW z.B z.Wi wi mi) : OkIW z tg it mi := ⟨fun pins st σ H R I ⟨ρ, G, S, env, RR, E, q⟩ => h.run pins st σ H R I (s ρ G S H env σ R RR E q)⟩
theorem postIW_le {Wi : XK} {ρ ρ1 : List Addr} {G H G1 H1 : Hp} {r : R (List W × Wt × Sto)} {Q : L2.It → Hp → Prop} (le : Le ρ G H ρ1 G1 H1) (h : PostIW B Wi ρ G H r Q) : PostIW B Wi ρ1 G1 H1 r Q := by
  cases r with
  | stuck => exact h
  | ok p => exact fun ρ' G' H' J l r => h ρ' G' H' J (le.trans l) r
  | ex x S => exact fun ρ' G' H' c d l r q => h ρ' G' H' c d (le.trans l) r q
theorem postIW_bind {Wi : XK} {ρ : List Addr} {G H : Hp} {r : VS} {f : W × Sto → R (List W × Wt × Sto)} {Q : L2.It → Hp → Prop} {Q' : VK} (h : PostIW B Wi ρ G H (r.bind f) Q)
    (k : ∀ w S' ρ' G' H' v, Le ρ G H ρ' G' H' → Rel B ρ' G' S' H' → RepW B.K ρ' G' w v → PostIW B Wi ρ' G' H' (f (w, S')) Q → Q' v H') : Post B Wi ρ G H r Q' := by
  cases r with
  | stuck => exact h
  | ex x S => exact h
  | ok p => exact fun ρ' G' H' v l r q => k p.1 p.2 ρ' G' H' v l r q (postIW_le l h)
theorem postSIW_bd {ρ : List Addr} {G H : Hp} {r : R (List W × Wt × Sto)} {env : Env} {σ : St} {f : List W × Wt × Sto → R O} {D : Ends} {Q : L2.It → Hp → Prop} (E : EnvR B ρ G env σ) (h : PostS B Wi ρ G H (r.bd env f) D)
    (k : ∀ xs wt S' ρ' G' H' J, Le ρ G H ρ' G' H' → Rel B ρ' G' S' H' → WalksW B ρ' G' J xs wt → PostS B Wi ρ' G' H' (f (xs, wt, S')) D → Q J H') : PostIW B (atS Wi σ) ρ G H r Q := by
  cases r with
  | stuck => exact h
  | ex x S => exact fun ρ' G' H' c d l r q => h ρ' G' H' σ c d l r (l.env E) q
  | ok p => exact fun ρ' G' H' J l r q => k p.1 p.2.1 p.2.2 ρ' G' H' J l r q (postS_le l h)
theorem ss_forW {wi : TI} {it : WkW} {g : TG} {mg : Tg} {t : TS} {b : Sx} (hi : SimIW B Wi wi it) (hq : Quiet mg) (hg : SimG B g mg) (hb : SimS B Wi t b) : SimS B Wi (tFor wi g t) (sForW it mg b) := by
  intro ρ G S H env σ D R E h
  refine hi ρ G S H env σ _ R E (postSIW_bd E h fun xs wt S1 ρ1 G1 H1 J l1 R1 w1 h1 => ?_)
  refine ⟨fun i m σ H => m = xs.length - i ∧ i ≤ xs.length ∧ ∃ ρ2 G2 S2 env2, Le ρ1 G1 H1 ρ2 G2 H ∧ Rel B ρ2 G2 S2 H ∧ EnvR B ρ2 G2 env2 σ ∧ PostS B Wi ρ2 G2 H (loopW wt mg b (xs.drop i) env2 S2) D,
    ⟨xs.length, by simp, Nat.zero_le _, ρ1, G1, S1, env, Le.refl _ _ _, R1, l1.env E, h1⟩, ?_⟩
  rintro i m σ2 H2 ⟨rfl, hle, ρ2, G2, S2, env2, l2, R2, E2, h2⟩
  by_cases hcc : watchOk wt S2
  rotate_left
  · cases hxs : xs.drop i <;> rw [hxs] at h2 <;> unfold loopW at h2 <;> rw [if_neg hcc] at h2 <;> exact False.elim h2
  obtain ⟨hstop, hgo⟩ := w1 i ρ2 G2 S2 H2 l2.ix l2.ex R2 hcc
  by_cases hlt : i < xs.length
  · obtain ⟨go, step⟩ := hgo _ (List.getElem?_eq_getElem hlt)
    refine .inr ⟨go, fun σ' H' => ∃ ρ3 G3 S3 env3, Le ρ1 G1 H1 ρ3 G3 H' ∧ Rel B ρ3 G3 S3 H' ∧ EnvR B ρ3 G3 env3 σ' ∧ PostS B Wi ρ3 G3 H' (loopW wt mg b (xs.drop (i + 1)) env3 S3) D,
      fun σ' H' q => ⟨xs.length - (i + 1), by omega, rfl, hlt, q⟩, fun x H3 y => ?_⟩
    obtain ⟨G3, R3, l3, r3⟩ := step x H3 y
    rw [List.drop_eq_getElem_cons hlt] at h2
    unfold loopW at h2
    rw [if_pos hcc] at h2
    have h3 : PostS B Wi ρ2 G3 H3 ((mg xs[i] env2 S2).bd env2 fun p => (b p.1 p.2).bind fun o => turn o (loopW wt mg b (xs.drop (i + 1)))) D := postS_le l3 h2
    refine hg ρ2 G3 S2 H3 env2 σ2 _ x _ R3 (l3.env E2) r3 (postSG_bd (fun _ _ => hq _ _ _ _ _) h3 fun e4 S4 ρ4 G4 H4 σ4 l4 R4 E4 h4 => ?_)
    exact turn_end hb R4 E4 h4 fun e s ρ' G' H' σ' l' R' E' h' => ⟨ρ', G', s, e, (l2.trans (l3.trans l4)).trans l', R', E', h'⟩
  · have e : xs.drop i = [] := List.drop_eq_nil_of_le (by omega)
    rw [e] at h2
    unfold loopW at h2
    rw [if_pos hcc] at h2
    exact .inl ⟨hstop (by omega), h2 _ _ _ _ (Le.refl _ _ _) R2 E2⟩
theorem sim_compW {wi : TI} {it : WkW} {g : TG} {mg : Tg} {t : TT} {mt : Tx} {te : TE} {me : Ev} {vs : List Nat} {m : Ev} {f : List W → Sto → VS}
    (hi : SimIW B Wi wi it) (hpv : ∀ i ∈ vs, PinFree B i) (hg : SimGw B vs g mg) (ht : SimT B (fun _ _ _ _ => False) t mt) (he : SimE B (fun _ _ _ _ => False) te me) (fin : FinOk B f)
    (hm : ∀ e s, m e s = (it e s).bind fun p => need (decide (p.1.length ≤ sizeL)) ((compW p.2.1 mg mt me vs e p.1 p.2.2).bind fun q => f q.1 q.2)) : SimE B Wi (tLc wi g t te vs) m := by
  intro ρ G S H env σ Q R E h
  rw [hm] at h
  have hI : PostIW B (atS Wi σ) ρ G H (it env S) (fun J H1 => ∀ D, H1 D = none → ∃ W : Nat → Nat → Hp → Prop, (∃ m, W 0 m (upd H1 D (.lst []))) ∧ ∀ i m H, W i m H →
      (J.stop i H ∧ Q (.ref D) H) ∨ (J.go i H ∧ ∃ Nx : Hp → Prop, (∀ H', Nx H' → ∃ m', m' < m ∧ W (i + 1) m' H') ∧ ∀ x H', J.yld i H x H' → g x (wipe σ vs) H' fun σ2 H2 => wipe σ2 vs = wipe σ vs ∧ t σ2 H2 fun b H3 =>
        if b = true then te σ2 H3 fun y H4 => ∃ acc, H4 D = some (.lst acc) ∧ acc.length < sizeLine ∧ Nx (upd H4 D (.lst (acc ++ [y]))) else Nx H3)) := by
    cases e1 : it env S with
    | stuck => rw [e1] at h; exact h
    | ex x S1 => rw [e1] at h; exact h
    | ok p =>
      obtain ⟨xs, wt, S1⟩ := p
      rw [e1, _root_.B.R.bind_ok] at h
      obtain ⟨hz, h⟩ := postN h
      have hz := of_decide_eq_true hz
      intro ρ1 G1 H1 J l1 R1 wk D hD
      simp only at h hz
      have npr : D ∉ ρ1 := fun hm => R1.mem hm hD
      have gD : G1 D = none := R1.ex.free hD
      have hD0 : H D = none := by
        cases q : H D with
        | none => rfl
        | some o => exact absurd hD (l1.dom D (by rw [q]; simp))
      refine ⟨fun i m H2 => m = xs.length - i ∧ i ≤ xs.length ∧ ∃ ρ2 G2 S2 accW acc, Le ρ1 G1 H1 ρ2 G2 H2 ∧ Rel B ρ2 G2 S2 H2 ∧ RepWs B.K ρ2 G2 accW acc ∧ acc.length ≤ i ∧ H2 D = some (.lst acc) ∧ D ∉ ρ2 ∧ G2 D = none ∧
        Post B (atS Wi σ) ρ G H ((compW wt mg mt me vs env (xs.drop i) S2).bind fun q => f (accW ++ q.1) q.2) Q,
        ⟨xs.length, by simp, Nat.zero_le _, ρ1, G1, S1, [], [], (Le.refl _ _ _).beside hD, R1.beside npr gD, .nil, Nat.zero_le _, upd_same, npr, gD, h⟩, ?_⟩
      rintro i m H2 ⟨rfl, hle, ρ2, G2, S2, accW, acc, l2, R2, ra, hal, hD2, nD2, gD2, h2⟩
      by_cases hcc : watchOk wt S2
      rotate_left
      · have : Post B (atS Wi σ) ρ G H ((compW wt mg mt me vs env (xs.drop i) S2).bind fun q => f (accW ++ q.1) q.2) Q := h2
        cases hxs : xs.drop i <;> rw [hxs] at this <;> unfold compW at this <;> rw [if_neg hcc] at this <;> exact False.elim this
      obtain ⟨hstop, hgo⟩ := wk i ρ2 G2 S2 H2 l2.ix l2.ex R2 hcc
      by_cases hlt : i < xs.length
      · obtain ⟨go, step⟩ := hgo _ (List.getElem?_eq_getElem hlt)
        refine .inr ⟨go, fun H' => i + 1 ≤ xs.length ∧ ∃ ρ3 G3 S3 accW acc, Le ρ1 G1 H1 ρ3 G3 H' ∧ Rel B ρ3 G3 S3 H' ∧ RepWs B.K ρ3 G3 accW acc ∧ acc.length ≤ i + 1 ∧ H' D = some (.lst acc) ∧ D ∉ ρ3 ∧ G3 D = none ∧
          Post B (atS Wi σ) ρ G H ((compW wt mg mt me vs env (xs.drop (i + 1)) S3).bind fun q => f (accW ++ q.1) q.2) Q, fun H' q => ⟨xs.length - (i + 1), by omega, rfl, q⟩, fun x H3 y => ?_⟩
        obtain ⟨G3, R3, l3, r3⟩ := step x H3 y
        rw [List.drop_eq_getElem_cons hlt] at h2
        unfold compW at h2
        rw [if_pos hcc] at h2
        -- what the list at D is, on and on
        have stayD : ∀ {ρa ρb : List Addr} {Ga Gb Ha Hb : Hp}, Le ρa Ga Ha ρb Gb Hb → Ha D = some (.lst acc) → D ∉ ρa → Ga D = none → Hb D = some (.lst acc) ∧ D ∉ ρb ∧ Gb D = none := fun {ρa ρb Ga Gb Ha Hb} l hd hn hg => by
          refine ⟨l.keep D hn _ hd, fun hm => ?_, l.fr D hg (by rw [hd]; simp) (.inr (by rw [hd]; simp [NTX]))⟩
          obtain ⟨t, e, f⟩ := l.pre
          rw [e] at hm
          rcases List.mem_append.mp hm with q | q
          · exact hn q
          · rw [f D q] at hd; cases hd
        obtain ⟨d3, n3, g3⟩ := stayD l3 hD2 nD2 gD2
        have E0 : EnvR B ρ1 G1 env σ := l1.env E
        rcases hg.1 xs[i] (kill vs env) S2 with ⟨e4, eg⟩ | eg
        · rw [eg] at h2
          refine hg.2 ρ2 G3 S2 H3 (kill vs env) (wipe σ vs) xs[i] x _ e4 R3 (envWipe ((l2.trans l3).env E0) vs hpv) r3 eg fun σ' E' w' => ⟨?_, ?_⟩
          · rw [w', wipe_idem]
          · refine ht ρ2 G3 S2 H3 e4 σ' _ R3 E' ?_
            have h2 : Post B (atS Wi σ) ρ G H (((qt (mt e4 S2)).bind fun q => if q.1 then (qt (me e4 q.2)).bind fun r => (compW wt mg mt me vs env (xs.drop (i + 1)) r.2).bind fun z => .ok (r.1 :: z.1, z.2) else compW wt mg mt me vs env (xs.drop (i + 1)) q.2).bind fun q => f (accW ++ q.1) q.2) Q := h2
            cases et : mt e4 S2 with
            | stuck => rw [et] at h2; exact False.elim h2
            | ex a b => rw [et] at h2; exact False.elim h2
            | ok q =>
              obtain ⟨b, S4⟩ := q
              rw [et] at h2
              intro ρ4 G4 H4 l4 R4
              obtain ⟨d4, n4, g4⟩ := stayD l4 d3 n3 g3
              cases b with
              | false =>
                refine (if_neg Bool.false_ne_true).mpr ⟨hlt, ρ4, G4, S4, accW, acc, (l2.trans l3).trans l4, R4, l4.ws (l3.ws ra), by omega, d4, n4, g4, h2⟩
              | true =>
                refine (if_pos rfl).mpr (he ρ4 G4 S4 H4 e4 σ' _ R4 (l4.env E') ?_)
                have h2 : Post B (atS Wi σ) ρ G H (((qt (me e4 S4)).bind fun r => (compW wt mg mt me vs env (xs.drop (i + 1)) r.2).bind fun z => .ok (r.1 :: z.1, z.2)).bind fun q => f (accW ++ q.1) q.2) Q := h2
                cases ee : me e4 S4 with
                | stuck => rw [ee] at h2; exact False.elim h2
                | ex a b => rw [ee] at h2; exact False.elim h2
                | ok r =>
                  obtain ⟨w5, S5⟩ := r
                  rw [ee] at h2
                  intro ρ5 G5 H5 v5 l5 R5 r5
                  obtain ⟨d5, n5, g5⟩ := stayD l5 d4 n4 g4
                  have lt := ((l2.trans l3).trans l4).trans l5
                  refine ⟨acc, d5, by rw [sizeLine_eq]; unfold sizeL at hz; omega, hlt, ρ5, G5, S5, accW ++ [w5], acc ++ [v5], lt.beside hD, R5.beside n5 g5, (l5.ws (l4.ws (l3.ws ra))).append (.cons r5 .nil), by simp; omega, upd_same, n5, g5, ?_⟩
                  have h2 : Post B (atS Wi σ) ρ G H (((compW wt mg mt me vs env (xs.drop (i + 1)) S5).bind fun z => .ok (w5 :: z.1, z.2)).bind fun q => f (accW ++ q.1) q.2) Q := h2
                  cases ec : compW wt mg mt me vs env (xs.drop (i + 1)) S5 with
                  | stuck => rw [ec] at h2; exact False.elim h2
                  | ex a b => rw [ec] at h2; exact h2
                  | ok q =>
                    rw [ec] at h2
                    have h2 : Post B (atS Wi σ) ρ G H (f (accW ++ w5 :: q.1) q.2) Q := h2
                    show Post B (atS Wi σ) ρ G H (f (accW ++ [w5] ++ q.1) q.2) Q
                    rw [List.append_assoc]; exact h2
        · rw [eg] at h2; exact False.elim h2
      · have e : xs.drop i = [] := List.drop_eq_nil_of_le (by omega)
        rw [e] at h2
        have h3 : Post B (atS Wi σ) ρ G H ((compW wt mg mt me vs env [] S2).bind fun q => f (accW ++ q.1) q.2) Q := h2
        unfold compW at h3
        rw [if_pos hcc, _root_.B.R.bind_ok] at h3
        simp only at h3
        rw [List.append_nil] at h3
        exact .inl ⟨hstop (by omega), fin _ ρ G H ρ2 G2 H2 S2 accW acc D Q (l1.trans l2) hD0 R2 ra hD2 nD2 gD2 h3⟩
  exact hi ρ G S H env σ _ R E hI
/-! what the iterators read -/
theorem seqK_rep {ρ : List Addr} {G H : Hp} {S : Sto} (R : Rel B ρ G S H) {w : W} {v : V} {kd : Kd} {l : List W} {wt : Wt} (e : seqK w S = .ok (kd, l, wt)) (h : RepW B.K ρ G w v) :
    ∃ a, v = .ref a ∧ ∀ ρ2 G2 S2 H2, (∀ (n : Nat) (x : Addr), ρ[n]? = some x → ρ2[n]? = some x) → Same G G2 → Rel B ρ2 G2 S2 H2 → watchOk wt S2 →
      ∃ vs, (match kd with | .li => SqL B.K H2 a vs | .tu => SqT B.K H2 a vs) ∧ RepWs B.K ρ2 G2 l vs := by
  cases w with
  | d x =>
    cases x with
    | lst l =>
      cases e
      cases h with
      | d h => cases h with
        | lst q r => exact ⟨_, rfl, fun ρ2 G2 S2 H2 p s R2 _ => ⟨_, .inl (.inl (R2.ex _ _ (s _ _ q))), (r.mono s).ws⟩⟩
    | inp l =>
      cases e
      cases h with
      | d h => cases h with
        | inp q r => exact ⟨_, rfl, fun ρ2 G2 S2 H2 p s R2 _ => ⟨_, R2.ex.seq (s.seq q), (r.mono s).ws⟩⟩
    | tup l =>
      cases e
      cases h with
      | d h => cases h with
        | tup q r => exact ⟨_, rfl, fun ρ2 G2 S2 H2 p s R2 _ => ⟨_, .inl (.inl (R2.ex _ _ (s _ _ q))), (r.mono s).ws⟩⟩
    | inq l =>
      cases e
      cases h with
      | d h => cases h with
        | inq q r => exact ⟨_, rfl, fun ρ2 G2 S2 H2 p s R2 _ => ⟨_, Same.sqt R2.ex (Same.sqt s (sqq q)), (r.mono s).ws⟩⟩
    | _ => cases e
  | tw l =>
    cases e
    cases h with
    | tw q r => exact ⟨_, rfl, fun ρ2 G2 S2 H2 p s R2 _ => ⟨_, .inl (.inl (R2.ex _ _ (s _ _ q))), RepWs.mono p s r⟩⟩
  | loc k =>
    have e : (match S[k]? with
      | some (.l l) => _root_.B.R.ok (Kd.li, ws l, [(k, C.l l)])
      | some (.w l) => .ok (.li, l, [(k, .w l)])
      | _ => .stuck) = .ok (kd, l, wt) := e
    cases h with
    | loc ha =>
      rename_i a
      cases ec : S[k]? with
      | none => rw [ec] at e; cases e
      | some c =>
        rw [ec] at e
        cases c with
        | l xs =>
          cases e
          refine ⟨a, rfl, fun ρ2 G2 S2 H2 p s R2 wk => ?_⟩
          obtain ⟨b, h1, vs, h2, h3⟩ := R2.cell k _ (wk (k, .l xs) List.mem_cons_self)
          rw [p _ _ ha] at h1
          cases h1
          exact ⟨vs, .inl (.inl h2), h3.ws⟩
        | w xs =>
          cases e
          refine ⟨a, rfl, fun ρ2 G2 S2 H2 p s R2 wk => ?_⟩
          obtain ⟨b, h1, vs, h2, h3⟩ := R2.cell k _ (wk (k, .w _) List.mem_cons_self)
          rw [p _ _ ha] at h1
          cases h1
          exact ⟨vs, .inl (.inl h2), h3⟩
        | m _ _ => cases e
        | mw _ _ => cases e
        | o _ _ => cases e
theorem seqK_ex {w : W} {S : Sto} {x : Exc} {s : Sto} : seqK w S ≠ .ex x s := by
  unfold seqK
  intro h
  split at h <;> first | cases h | (split at h <;> cases h)
theorem seqK_watch {w : W} {S : Sto} {kd : Kd} {l : List W} {wt : Wt} (e : seqK w S = .ok (kd, l, wt)) : watchOk wt S := by
  unfold seqK at e
  split at e
  · cases e; exact watch_nil S
  · cases e; exact watch_nil S
  · cases e; exact watch_nil S
  · cases e; exact watch_nil S
  · cases e; exact watch_nil S
  · rename_i k
    split at e
    · rename_i q; cases e; intro p hp; rw [List.mem_singleton.mp hp]; exact q
    · rename_i q; cases e; intro p hp; rw [List.mem_singleton.mp hp]; exact q
    · cases e
  · cases e
theorem enW_get : ∀ (l : List W) (i j : Nat) (w : W), (enW i l)[j]? = some w → ∃ x, l[j]? = some x ∧ w = tupW [.d (.int ((i + j : Nat) : Int)), x]
  | [], i, j, w, h => by simp [enW] at h
  | x :: l, i, 0, w, h => by
    have h : some (tupW [.d (.int i), x]) = some w := h
    exact ⟨x, rfl, (Option.some.inj h).symm⟩
  | x :: l, i, j + 1, w, h => by
    have h : (enW (i + 1) l)[j]? = some w := h
    obtain ⟨y, h1, h2⟩ := enW_get l (i + 1) j w h
    exact ⟨y, h1, by rw [h2]; congr 4; omega⟩
theorem enW_len : ∀ (l : List W) (i : Nat), (enW i l).length = l.length
  | [], _ => rfl
  | x :: l, i => congrArg (· + 1) (enW_len l (i + 1))
theorem zpW_get : ∀ (l m : List W) (j : Nat) (w : W), (zpW l m)[j]? = some w → ∃ x y, l[j]? = some x ∧ m[j]? = some y ∧ w = tupW [x, y]
  | [], m, j, w, h => by simp [zpW] at h
  | x :: l, [], j, w, h => by simp [zpW] at h
  | x :: l, y :: m, 0, w, h => by
    have h : some (tupW [x, y]) = some w := h
    exact ⟨x, y, rfl, rfl, (Option.some.inj h).symm⟩
  | x :: l, y :: m, j + 1, w, h => by
    have h : (zpW l m)[j]? = some w := h
    exact zpW_get l m j w h
theorem zpW_len : ∀ (l m : List W) (i : Nat), (zpW l m).length ≤ i → l.length ≤ i ∨ m.length ≤ i
  | [], m, i, h => .inl (Nat.zero_le _)
  | x :: l, [], i, h => .inr (Nat.zero_le _)
  | x :: l, y :: m, i, h => by
    have h : (zpW l m).length + 1 ≤ i := h
    rcases zpW_len l m (i - 1) (by omega) with q | q
    · left; simp only [List.length_cons]; omega
    · right; simp only [List.length_cons]; omega
theorem tupW_rep2 {ρ : List Addr} {G : Hp} {K : PySem.W.Frag} {x y : W} {u v : V} {p : Addr} (h : G p = some (.tup [u, v])) (r1 : RepW K ρ G x u) (r2 : RepW K ρ G y v) : RepW K ρ G (tupW [x, y]) (.ref p) := tupW_rep h (.cons r1 (.cons r2 .nil))
theorem si_en {te : TE} {m : Ev} (he : SimE B Wi te m) : SimIW B Wi (iEnumA B.K (tCons te tNil)) (iEn m) := by
  intro ρ G S H env σ Q R E h
  refine he ρ G S H env σ _ R E (postIW_bind (f := fun p => (seqK p.1 p.2).bind fun q => .ok (enW 0 q.2.1, q.2.2, p.2)) h fun w S1 ρ1 G1 H1 v l1 R1 r1 h1 => ?_)
  simp only at h1
  cases e : seqK w S1 with
  | stuck => rw [e] at h1; exact False.elim h1
  | ex x s => exact absurd e seqK_ex
  | ok q =>
    obtain ⟨kd, l, wt⟩ := q
    rw [e] at h1
    obtain ⟨a, rfl, hk⟩ := seqK_rep R1 e r1
    obtain ⟨vs, hv, _⟩ := hk ρ1 G1 S1 H1 (fun _ _ h => h) (fun _ _ h => h) R1 (seqK_watch e)
    cases kd with
    | li =>
      refine ⟨a, vs, rfl, .inl ⟨hv, h1 _ _ _ _ (Le.refl _ _ _) R1 fun i ρ2 G2 S2 H2 p s R2 wk => ?_⟩⟩
      obtain ⟨us, hu, ru⟩ := hk ρ2 G2 S2 H2 p s R2 wk
      refine ⟨fun hl => ⟨us, hu, by rw [← ru.length]; rw [enW_len] at hl; exact Nat.le_of_eq hl⟩, fun x hx => ?_⟩
      obtain ⟨y, hy, rfl⟩ := enW_get l 0 i x hx
      obtain ⟨u, gu, ry⟩ := ru.get hy
      refine ⟨⟨us, u, hu, gu⟩, fun xx H3 yy => ?_⟩
      obtain ⟨T, u2, rfl, hT, rfl, hall⟩ := yy
      have := (hall us hu).symm.trans gu
      cases this
      obtain ⟨R3, l3⟩ := R2.froz (.tup [.int ((i : Nat) : Int), u]) hT
      exact ⟨_, R3, l3, tupW_rep2 upd_same (.d (by rw [Nat.zero_add]; exact .int _)) (l3.w ry)⟩
    | tu =>
      refine ⟨a, vs, rfl, .inr ⟨hv, h1 _ _ _ _ (Le.refl _ _ _) R1 fun i ρ2 G2 S2 H2 p s R2 wk => ?_⟩⟩
      obtain ⟨us, hu, ru⟩ := hk ρ2 G2 S2 H2 p s R2 wk
      refine ⟨fun hl => ⟨us, hu, by rw [← ru.length]; rw [enW_len] at hl; exact Nat.le_of_eq hl⟩, fun x hx => ?_⟩
      obtain ⟨y, hy, rfl⟩ := enW_get l 0 i x hx
      obtain ⟨u, gu, ry⟩ := ru.get hy
      refine ⟨⟨us, u, hu, gu⟩, fun xx H3 yy => ?_⟩
      obtain ⟨T, u2, rfl, hT, rfl, hall⟩ := yy
      have := (hall us hu).symm.trans gu
      cases this
      obtain ⟨R3, l3⟩ := R2.froz (.tup [.int ((i : Nat) : Int), u]) hT
      exact ⟨_, R3, l3, tupW_rep2 upd_same (.d (by rw [Nat.zero_add]; exact .int _)) (l3.w ry)⟩
theorem watch_app {a b : Wt} {s : Sto} (h : watchOk (a ++ b) s) : watchOk a s ∧ watchOk b s := ⟨fun p hp => h p (List.mem_append_left _ hp), fun p hp => h p (List.mem_append_right _ hp)⟩
theorem si_zp {te tf : TE} {m m2 : Ev} (he : SimE B Wi te m) (hf : SimE B Wi tf m2) : SimIW B Wi (RZ.iZipA B.K (tCons te (tCons tf tNil))) (iZp m m2) := by
  intro ρ G S H env σ Q R E h
  refine he ρ G S H env σ _ R E (postIW_bind h fun w S1 ρ1 G1 H1 v l1 R1 r1 h1 => ?_)
  refine hf ρ1 G1 S1 H1 env σ _ R1 (l1.env E) (postIW_bind h1 fun w2 S2 ρ2 G2 H2 v2 l2 R2 r2 h2 => ?_)
  simp only at h2
  have r1 := l2.w r1
  cases e : seqK w S2 with
  | stuck => rw [e] at h2; exact False.elim h2
  | ex x s => exact absurd e seqK_ex
  | ok q =>
    obtain ⟨kd, l, wt⟩ := q
    rw [e, _root_.B.R.bind_ok] at h2
    cases e' : seqK w2 S2 with
    | stuck => rw [e'] at h2; exact False.elim h2
    | ex x s => exact absurd e' seqK_ex
    | ok q' =>
      obtain ⟨kd', l', wt'⟩ := q'
      rw [e', _root_.B.R.bind_ok] at h2
      obtain ⟨a, rfl, hk⟩ := seqK_rep R2 e r1
      obtain ⟨b, rfl, hk'⟩ := seqK_rep R2 e' r2
      obtain ⟨vs, hv, _⟩ := hk ρ2 G2 S2 H2 (fun _ _ h => h) (fun _ _ h => h) R2 (seqK_watch e)
      obtain ⟨vs', hv', _⟩ := hk' ρ2 G2 S2 H2 (fun _ _ h => h) (fun _ _ h => h) R2 (seqK_watch e')
      cases kd with
      | li =>
        cases kd' with
        | tu => exact False.elim h2
        | li =>
          refine ⟨a, b, vs, vs', rfl, .inl ⟨hv, hv', h2 _ _ _ _ (Le.refl _ _ _) R2 fun i ρ3 G3 S3 H3 p s R3 wk => ?_⟩⟩
          obtain ⟨wk1, wk2⟩ := watch_app wk
          obtain ⟨us, hu, ru⟩ := hk ρ3 G3 S3 H3 p s R3 wk1
          obtain ⟨us', hu', ru'⟩ := hk' ρ3 G3 S3 H3 p s R3 wk2
          refine ⟨fun hl => ⟨us, us', hu, hu', by rw [← ru.length, ← ru'.length]; exact zpW_len l l' i (Nat.le_of_eq hl)⟩, fun x hx => ?_⟩
          obtain ⟨y, y', hy, hy', rfl⟩ := zpW_get l l' i x hx
          obtain ⟨u, gu, ry⟩ := ru.get hy
          obtain ⟨u', gu', ry'⟩ := ru'.get hy'
          refine ⟨⟨us, us', u, u', hu, hu', gu, gu'⟩, fun xx H4 yy => ?_⟩
          obtain ⟨T, u2, u2', rfl, hT, rfl, hall, hall'⟩ := yy
          have := (hall us hu).symm.trans gu
          cases this
          have := (hall' us' hu').symm.trans gu'
          cases this
          obtain ⟨R4, l4⟩ := R3.froz (.tup [u, u']) hT
          exact ⟨_, R4, l4, tupW_rep2 upd_same (l4.w ry) (l4.w ry')⟩
      | tu =>
        cases kd' with
        | li => exact False.elim h2
        | tu =>
          refine ⟨a, b, vs, vs', rfl, .inr ⟨hv, hv', h2 _ _ _ _ (Le.refl _ _ _) R2 fun i ρ3 G3 S3 H3 p s R3 wk => ?_⟩⟩
          obtain ⟨wk1, wk2⟩ := watch_app wk
          obtain ⟨us, hu, ru⟩ := hk ρ3 G3 S3 H3 p s R3 wk1
          obtain ⟨us', hu', ru'⟩ := hk' ρ3 G3 S3 H3 p s R3 wk2
          refine ⟨fun hl => ⟨us, us', hu, hu', by rw [← ru.length, ← ru'.length]; exact zpW_len l l' i (Nat.le_of_eq hl)⟩, fun x hx => ?_⟩
          obtain ⟨y, y', hy, hy', rfl⟩ := zpW_get l l' i x hx
          obtain ⟨u, gu, ry⟩ := ru.get hy
          obtain ⟨u', gu', ry'⟩ := ru'.get hy'
          refine ⟨⟨us, us', u, u', hu, hu', gu, gu'⟩, fun xx H4 yy => ?_⟩
          obtain ⟨T, u2, u2', rfl, hT, rfl, hall, hall'⟩ := yy
          have := (hall us hu).symm.trans gu
          cases this
          have := (hall' us' hu').symm.trans gu'
          cases this
          obtain ⟨R4, l4⟩ := R3.froz (.tup [u, u']) hT
          exact ⟨_, R4, l4, tupW_rep2 upd_same (l4.w ry) (l4.w ry')⟩
theorem rev_get {α : Type} (l : List α) (i : Nat) (x : α) (h : l.reverse[i]? = some x) : i < l.length ∧ l[l.length - 1 - i]? = some x := by
  obtain ⟨h1, _⟩ := List.getElem?_eq_some_iff.mp h
  have h1 : i < l.length := by simpa using h1
  rw [List.getElem?_reverse h1] at h
  exact ⟨h1, h⟩
theorem si_rv {te : TE} {m : Ev} (he : SimE B Wi te m) : SimIW B Wi (RT.iRevA B.K te) (iRv m) := by
  intro ρ G S H env σ Q R E h
  refine he ρ G S H env σ _ R E (postIW_bind (f := fun p => (seqK p.1 p.2).bind fun q => .ok (q.2.1.reverse, q.2.2, p.2)) h fun w S1 ρ1 G1 H1 v l1 R1 r1 h1 => ?_)
  simp only at h1
  cases e : seqK w S1 with
  | stuck => rw [e] at h1; exact False.elim h1
  | ex x s => exact absurd e seqK_ex
  | ok q =>
    obtain ⟨kd, l, wt⟩ := q
    rw [e] at h1
    obtain ⟨a, rfl, hk⟩ := seqK_rep R1 e r1
    obtain ⟨vs, hv, rv⟩ := hk ρ1 G1 S1 H1 (fun _ _ h => h) (fun _ _ h => h) R1 (seqK_watch e)
    have hlen := rv.length
    cases kd with
    | li =>
      refine ⟨a, vs, rfl, .inl ⟨hv, h1 _ _ _ _ (Le.refl _ _ _) R1 fun i ρ2 G2 S2 H2 p s R2 wk => ?_⟩⟩
      obtain ⟨us, hu, ru⟩ := hk ρ2 G2 S2 H2 p s R2 wk
      have hlu := ru.length
      refine ⟨fun hl => by have hl : l.reverse.length = i := hl; rw [List.length_reverse] at hl; show vs.length ≤ i; omega, fun x hx => ?_⟩
      obtain ⟨hi, hx⟩ := rev_get l i x hx
      obtain ⟨u, gu, ry⟩ := ru.get hx
      rw [hlen] at gu
      refine ⟨⟨by omega, us, u, hu, gu⟩, fun xx H3 yy => ?_⟩
      obtain ⟨rfl, hall⟩ := yy
      have := (hall us hu).symm.trans gu
      cases this
      exact ⟨G2, R2, Le.refl _ _ _, ry⟩
    | tu =>
      refine ⟨a, vs, rfl, .inr ⟨hv, h1 _ _ _ _ (Le.refl _ _ _) R1 fun i ρ2 G2 S2 H2 p s R2 wk => ?_⟩⟩
      obtain ⟨us, hu, ru⟩ := hk ρ2 G2 S2 H2 p s R2 wk
      have hlu := ru.length
      refine ⟨fun hl => by have hl : l.reverse.length = i := hl; rw [List.length_reverse] at hl; show vs.length ≤ i; omega, fun x hx => ?_⟩
      obtain ⟨hi, hx⟩ := rev_get l i x hx
      obtain ⟨u, gu, ry⟩ := ru.get hx
      rw [hlen] at gu
      refine ⟨⟨by omega, us, u, hu, gu⟩, fun xx H3 yy => ?_⟩
      obtain ⟨rfl, hall⟩ := yy
      have := (hall us hu).symm.trans gu
      cases this
      exact ⟨G2, R2, Le.refl _ _ _, ry⟩
end
section
open PySem.Spec PyProof.Rows
variable {z : Zx} {k : Nat}
theorem sForWOk (ctx : Ctx k z) {tg it : Expr} {x : List Stmt} {mi : WkW} {mg : Tg} {s1 : Sx} {pos : Pos} (hi : OkIW z tg it mi) (hg : OkG z tg mg) (h1 : OkSs z x s1) (hs : ∀ x, foldedSetIterable it z.X.env x = pure x := by intro _; rfl) : OkS z (.For tg it x [] pos) (sForW mi mg s1) := ok_s (ps_for ctx.po ctx.calm hi hg.1 h1 hs) (ss_forW sim_iw hg.2 sim_g sim_s)
theorem iEnOk {e : Expr} {ma : Ev} {elts : List Expr} {kk : Nat} {p pos tpos : Pos} (ctx : Ctx k z) (hg : Gl z.X "enumerate") (hm : z.X.mg "enumerate" = none) (ha : OkE z e ma) (hs : starEach [e] z.X.env = [(false, eval e z.X.env)] := by rfl) :
    OkIW z (.Tuple elts kk tpos) (.Call (.Name "enumerate" p) [e] [] pos) (iEn ma) := ok_iw (pi_enumA hg hm (pa_cons ha pa_nil hs) hs) (si_en sim_e)
theorem iZpOk {e e2 : Expr} {ma mb : Ev} {elts : List Expr} {kk : Nat} {p pos tpos : Pos} (ctx : Ctx k z) (hg : Gl z.X "zip") (hm : z.X.mg "zip" = none) (ha : OkE z e ma) (hb : OkE z e2 mb) (hs : starEach [e, e2] z.X.env = (false, eval e z.X.env) :: starEach [e2] z.X.env := by rfl) (hs2 : starEach [e2] z.X.env = (false, eval e2 z.X.env) :: starEach [] z.X.env := by rfl) (hpl : (backTo pos (starEach [e2] z.X.env)).any (·.1) = false := by rfl) :
    OkIW z (.Tuple elts kk tpos) (.Call (.Name "zip" p) [e, e2] [] pos) (iZp ma mb) := ok_iw (RZ.pi_zipA hg hm (pa_cons ha (pa_cons hb pa_nil hs2) hs) hs hpl) (si_zp sim_e sim_e)
theorem iRvOk {tg e : Expr} {ma : Ev} {p pos : Pos} (ctx : Ctx k z) (hg : Gl z.X "reversed") (hm : z.X.mg "reversed" = none) (ha : OkE z e ma) (hs : starEach [e] z.X.env = (false, eval e z.X.env) :: starEach [] z.X.env := by rfl) :
    OkIW z tg (.Call (.Name "reversed" p) [e] [] pos) (iRv ma) := ok_iw (RT.pi_revA hg hm ha hs) (si_rv sim_e)
theorem kCompW0 {own : List (Str × Nat)} {scope : Scope} {tg elt it : Expr} {ifs : List Expr} {mg : Tg} {mt : Tx} {me : Ev} {mi : WkW} {pos : Pos} {m : Ev} {f : List W → Sto → VS} (ctx : Ctx k z) (hi : OkIW z tg it mi) (h : CompOk z own scope tg ifs elt mg mt me) (fin : FinOk z.B f)
    (hm : ∀ e s, m e s = (mi e s).bind fun p => need (decide (p.1.length ≤ sizeL)) ((compW p.2.1 mg mt me (own.map (·.2)) e p.1 p.2.2).bind fun q => f q.1 q.2)) (hs : ∀ x, foldedSetIterable it z.X.env x = pure x) :
    OkE z (.ListComp elt [⟨tg, it, ifs, 0⟩] scope pos) m := by
  obtain ⟨g, g1, g2⟩ := h.g
  obtain ⟨t, t1, t2⟩ := h.t
  exact ok_e (pe_lc (te := tOf z.B (fun _ _ _ _ => False) me) ctx.calm ctx.nd hi h.blk g2 t2 (fun s H C cl fp => h.e s H C cl fp) hs) (sim_compW sim_iw h.pf g1 t1 sim_e fin hm)
theorem kCompW {own : List (Str × Nat)} {scope : Scope} {tg elt it : Expr} {ifs : List Expr} {mg : Tg} {mt : Tx} {me : Ev} {mi : WkW} {pos : Pos} (ctx : Ctx k z) (hi : OkIW z tg it mi) (h : CompOk z own scope tg ifs elt mg mt me) (hs : ∀ x, foldedSetIterable it z.X.env x = pure x := by intro _; rfl) :
    OkE z (.ListComp elt [⟨tg, it, ifs, 0⟩] scope pos) (eCompW mi mg mt me (own.map (·.2))) := kCompW0 ctx hi h fin_d (fun _ _ => rfl) hs
theorem kCompWC {own : List (Str × Nat)} {scope : Scope} {tg elt it : Expr} {ifs : List Expr} {mg : Tg} {mt : Tx} {me : Ev} {mi : WkW} {pos : Pos} (ctx : Ctx k z) (hi : OkIW z tg it mi) (h : CompOk z own scope tg ifs elt mg mt me) (hs : ∀ x, foldedSetIterable it z.X.env x = pure x := by intro _; rfl) :
    OkE z (.ListComp elt [⟨tg, it, ifs, 0⟩] scope pos) (eCompWC mi mg mt me (own.map (·.2))) := kCompW0 ctx hi h fin_c (fun _ _ => rfl) hs
theorem sCompW0 {own : List (Str × Nat)} {scope : Scope} {tg elt it : Expr} {ifs : List Expr} {mg : Tg} {mt : Tx} {me : Ev} {mi : WkW} {pos spos py : Pos} {m : Ev} {f : List W → Sto → VS} {i : Nat} {y : Str} (ctx : Ctx k z) (hi : OkIW z tg it mi) (h : CompOk z own scope tg ifs elt mg mt me) (fin : FinOk z.B f)
    (hm : ∀ e s, m e s = (mi e s).bind fun p => need (decide (p.1.length ≤ sizeL)) ((compW p.2.1 mg mt me (own.map (·.2)) e p.1 p.2.2).bind fun q => f q.1 q.2)) (hy : z.X.N[i]? = some y) (hyl : z.X.env.scope.names.lookup y = some .local)
    (hsw : swapsWith (.ListComp elt [⟨tg, it, ifs, 0⟩] scope pos) (some (.Name y py)) spos.line z.X.env = pure true) (hs : ∀ x, foldedSetIterable it z.X.env x = pure x) (hp : PinFree z.B i) :
    OkS z (.Assign [.Name y py] (.ListComp elt [⟨tg, it, ifs, 0⟩] scope pos) spos) (sAsg (gN i) m) := by
  obtain ⟨g, g1, g2⟩ := h.g
  obtain ⟨t, t1, t2⟩ := h.t
  exact ok_s (ps_setLc (te := tOf z.B (fun _ _ _ _ => False) me) ctx.calm ctx.nd hy hyl hsw hi h.blk g2 t2 (fun s H C cl fp => h.e s H C cl fp) hs) (ss_set hp (sim_compW sim_iw h.pf g1 t1 sim_e fin hm))
theorem sCompW {own : List (Str × Nat)} {scope : Scope} {tg elt it : Expr} {ifs : List Expr} {mg : Tg} {mt : Tx} {me : Ev} {mi : WkW} {pos spos py : Pos} (i : Nat) {y : Str} (ctx : Ctx k z) (hi : OkIW z tg it mi) (h : CompOk z own scope tg ifs elt mg mt me) (hy : z.X.N[i]? = some y) (hyl : z.X.env.scope.names.lookup y = some .local)
    (hsw : swapsWith (.ListComp elt [⟨tg, it, ifs, 0⟩] scope pos) (some (.Name y py)) spos.line z.X.env = pure true) (hs : ∀ x, foldedSetIterable it z.X.env x = pure x := by intro _; rfl) (hp : PinFree z.B i := by exact pin_none rfl) :
    OkS z (.Assign [.Name y py] (.ListComp elt [⟨tg, it, ifs, 0⟩] scope pos) spos) (sAsg (gN i) (eCompW mi mg mt me (own.map (·.2)))) := sCompW0 ctx hi h fin_d (fun _ _ => rfl) hy hyl hsw hs hp
theorem sCompWC {own : List (Str × Nat)} {scope : Scope} {tg elt it : Expr} {ifs : List Expr} {mg : Tg} {mt : Tx} {me : Ev} {mi : WkW} {pos spos py : Pos} (i : Nat) {y : Str} (ctx : Ctx k z) (hi : OkIW z tg it mi) (h : CompOk z own scope tg ifs elt mg mt me) (hy : z.X.N[i]? = some y) (hyl : z.X.env.scope.names.lookup y = some .local)
    (hsw : swapsWith (.ListComp elt [⟨tg, it, ifs, 0⟩] scope pos) (some (.Name y py)) spos.line z.X.env = pure true) (hs : ∀ x, foldedSetIterable it z.X.env x = pure x := by intro _; rfl) (hp : PinFree z.B i := by exact pin_none rfl) :
    OkS z (.Assign [.Name y py] (.ListComp elt [⟨tg, it, ifs, 0⟩] scope pos) spos) (sAsg (gN i) (eCompWC mi mg mt me (own.map (·.2)))) := sCompW0 ctx hi h fin_c (fun _ _ => rfl) hy hyl hsw hs hp
end
end B
/-! zip of a tuple and a list; find, index, startswith of texts; index of lists; >>; max of three. -/
namespace B
open PySem L2 PySem.Spec PyProof.Rows
/-! ### zip of things of either kind -/
def SqK (K : PySem.W.Frag) : Kd → Hp → Addr → List V → Prop
  | .li => SqL K
  | .tu => SqT K
def ItK : Kd → Heap → Addr → Addr → Nat → Prop
  | .li => fun h i a n => h.IsListIter i a n
  | .tu => fun h i a n => h.IsTupleIter i a n
def IsK : Kd → Heap → Addr → Array Value → Prop
  | .li => fun h a its => h.IsList a its
  | .tu => fun h a its => h.IsTuple a its
theorem Inv.seqKd {X : Cx} {pins : List (Addr × Obj)} {σ : L2.St} {H : Hp} {s : Shared} {a : Addr} {xs : List V} (I : Inv X pins σ H s) : ∀ {kd : Kd}, SqK X.K kd H a xs → ∃ its : List Value, Vals xs its ∧ IsK kd s.heap a its.toArray
  | .li, h => let ⟨its, rv, p, _⟩ := I.list h; ⟨its, rv, p.isList⟩
  | .tu, h => let ⟨its, rv, p, _⟩ := I.tuple h; ⟨its, rv, p⟩
theorem Inv.seqKd_inj {X : Cx} {pins : List (Addr × Obj)} {σ : L2.St} {H : Hp} {s : Shared} {a : Addr} {xs ys : List V} (I : Inv X pins σ H s) : ∀ {kd : Kd}, SqK X.K kd H a xs → SqK X.K kd H a ys → xs = ys
  | .li, h, h' => I.list_inj h h'
  | .tu, h, h' => I.tuple_inj h h'
theorem drawsK {prog : Program} {w : World} {A : Around} (hh : A.handled = none) (it t : Addr) (hne : t ≠ it) (items : Array Value) : ∀ kd : Kd,
    Draws prog w A it [it, t] items.size (fun i v => items[i]? = some v) (fun i h => ItK kd h it t i ∧ IsK kd h t items)
  | .li => Draws.list hh it t hne items
  | .tu => Draws.tuple hh it t hne items
theorem ItK.at_ : ∀ {kd : Kd} {h h' : Heap} {i a : Addr} {n : Nat}, ItK kd h i a n → (∀ o, h.get? i = some o → h'.get? i = some o) → ItK kd h' i a n
  | .li, _, _, _, _, _, x, k => Heap.IsListIter.at x k
  | .tu, _, _, _, _, _, x, k => Heap.IsTupleIter.at x k
theorem ItK.ob : ∀ {kd : Kd} {h : Heap} {i a : Addr} {n : Nat}, ItK kd h i a n → ∃ o, h.get? i = some o ∧ ∃ fs, o.data = .fields fs
  | .li, _, _, _, _, ⟨o, ho, _, hd⟩ => ⟨o, ho, _, hd⟩
  | .tu, _, _, _, _, ⟨o, ho, _, hd⟩ => ⟨o, ho, _, hd⟩
theorem IsK.lt : ∀ {kd : Kd} {h : Heap} {a : Addr} {its : Array Value}, IsK kd h a its → a < h.objs.size
  | .li, _, _, _, ⟨_, ho, _⟩ => Heap.lt_size ho
  | .tu, _, _, _, ⟨_, ho, _⟩ => Heap.lt_size ho
def ItzM (K : PySem.W.Frag) (ka kb : Kd) (a b : Addr) : L2.It :=
  ⟨fun i H => ∃ (xs ys : List V) (x y : V), SqK K ka H a xs ∧ SqK K kb H b ys ∧ xs[i]? = some x ∧ ys[i]? = some y,
    fun i H v H' => ∃ T x y, v = .ref T ∧ H T = none ∧ H' = upd H T (.tup [x, y]) ∧ (∀ xs, SqK K ka H a xs → xs[i]? = some x) ∧ ∀ ys, SqK K kb H b ys → ys[i]? = some y,
    fun i H => ∃ xs ys : List V, SqK K ka H a xs ∧ SqK K kb H b ys ∧ i ≤ xs.length ∧ i ≤ ys.length ∧ (i = xs.length ∨ i = ys.length)⟩
theorem turn_zipM {P : Program} {w : World} {K : PySem.W.Frag} {elts : List Expr} {kk : Nat} {tpos : Pos} (ka kb : Kd) {a b z TI TO i1 i2 : Addr} (D : ZipSep2 z TI TO i1 i2 [i1, a] [i2, b]) (ha : a ≠ i1) (hb : b ≠ i2) :
    Turn P w K (.Tuple elts kk tpos) (ItzM K ka kb a b) [z, TI, TO, i1, i2] z (fun i h => IsZip h z TI TO .none ∧ IsTupOf2 h TI (.ref i1) (.ref i2) ∧ (∃ x y, IsTupOf2 h TO x y) ∧ ItK ka h i1 a i ∧ ItK kb h i2 b i) where
  mem := by simp
  obj := fun i h st c hc => by
    obtain ⟨hz, hTI, ⟨x, y, hTO⟩, h1, h2⟩ := st
    obtain ⟨o1, e1, f1, d1⟩ := h1.ob
    obtain ⟨o2, e2, f2, d2⟩ := h2.ob
    have e' : c = z ∨ c = TI ∨ c = TO ∨ c = i1 ∨ c = i2 := by simpa using hc
    rcases e' with q | q | q | q | q
    · rw [q]; exact ⟨_, hz, fun v q => nomatch q⟩
    · rw [q]; exact ⟨_, hTI, fun v q => nomatch q⟩
    · rw [q]; exact ⟨_, hTO, fun v q => nomatch q⟩
    · rw [q]; exact ⟨o1, e1, fun v q => by rw [d1] at q; cases q⟩
    · rw [q]; exact ⟨o2, e2, fun v q => by rw [d2] at q; cases q⟩
  keep := fun i h h' st k => by
    obtain ⟨hz, hTI, ⟨x, y, hTO⟩, h1, h2⟩ := st
    exact ⟨k z (by simp) _ hz, k TI (by simp) _ hTI, ⟨x, y, k TO (by simp) _ hTO⟩, h1.at_ fun o q => k i1 (by simp) o q, h2.at_ fun o q => k i2 (by simp) o q⟩
  item := by
    intro X hP hw hK hc i pins s σ H E I hf st hg
    subst hP hw hK
    obtain ⟨hz, hTI, ⟨x0, y0, hTO⟩, h1, h2⟩ := st
    obtain ⟨xs, ys, x, y, hqx, hqy, hx, hy⟩ := hg
    obtain ⟨its, rv, p⟩ := Inv.seqKd I hqx
    obtain ⟨its2, rv2, p2⟩ := Inv.seqKd I hqy
    obtain ⟨u, hu, ru⟩ := rv.get hx
    obtain ⟨u2, hu2, ru2⟩ := rv2.get hy
    have hzl : z < s.heap.objs.size := Heap.lt_size hz
    have hu' : its.toArray[i]? = some u := by simpa using hu
    have hu2' : its2.toArray[i]? = some u2 := by simpa using hu2
    refine wpAny_pyNext_zipD2_item D (drawsK (A := X.A.in1) (I.ok.hd hc) i1 a ha its.toArray ka) (drawsK (A := X.A.in1) (I.ok.hd hc) i2 b hb its2.toArray kb) hz hTI hTO ⟨h1, p⟩ ⟨h2, p2⟩ (Array.getElem?_eq_some_iff.mp hu').1 (Array.getElem?_eq_some_iff.mp hu2').1 fun x1 x2 h' tk P1 P2 z' TO' st1 st2 hT hsz hk => ?_
    have e1 : x1 = u := Option.some.inj (P1.symm.trans hu')
    have e2 : x2 = u2 := Option.some.inj (P2.symm.trans hu2')
    subst e1 e2
    refine ⟨_, rfl, wpAny_letOwnedTupleGo_zip (s := { s with heap := h', toks := tk }) z' fun h'' z'' sb => ?_⟩
    have hT2 : h''.get? s.heap.objs.size = some { cls := .type "tuple", data := .seq #[x1, x2] } := (sb.2 _ (Nat.ne_of_gt hzl)).trans hT
    have new : ObjOk X.prog X.w (upd H s.heap.objs.size (.tup [x, y])) h'' s.heap.objs.size (.tup [x, y]) :=
      ⟨by show 2 ≤ sizeLine; decide, [x1, x2], .cons ru (.cons ru2 .nil), ⟨_, hT2, rfl, _, rfl⟩⟩
    have I1 : Inv X pins σ (upd H s.heap.objs.size (.tup [x, y])) { s with heap := h'', toks := tk } :=
      I.turnedNew (t' := tk) (ch := [z, TI, TO, i1, i2]) (fun c o hb q => (sb.2 c (fun q' => hb (by simp [q']))).trans (hk c o (fun q' => hb (by simp [q'])) (fun q' => hb (by simp [q'])) (fun q' => hb (by simp [q'])) (fun q' => hb (by simp [q'])) q)) hf (Nat.le_refl _) new
    refine ⟨.ref s.heap.objs.size, _, I1, rfl, ⟨_, x, y, rfl, I.hok.fresh (Nat.le_refl _), rfl, fun l hl => by rw [Inv.seqKd_inj I hl hqx]; exact hx, fun l hl => by rw [Inv.seqKd_inj I hl hqy]; exact hy⟩, ⟨z'', ?_, ⟨x1, x2, ?_⟩, ?_, ?_⟩, fun c hcm => ?_⟩
    · exact (sb.2 _ D.TIz).trans (hk _ _ D.TIz D.TITO D.TIi1 D.TIi2 hTI)
    · exact (sb.2 _ D.TOz).trans TO'
    · exact st1.1.at_ fun o q => (sb.2 _ (Ne.symm D.zi1)).trans q
    · exact st2.1.at_ fun o q => (sb.2 _ (Ne.symm D.zi2)).trans q
    · have hlt : c < s.heap.objs.size := by
        have e' : c = z ∨ c = TI ∨ c = TO ∨ c = i1 ∨ c = i2 := by simpa using hcm
        rcases e' with q | q | q | q | q
        · rw [q]; exact hzl
        · rw [q]; exact Heap.lt_size hTI
        · rw [q]; exact Heap.lt_size hTO
        · rw [q]; obtain ⟨_, e1, _⟩ := h1.ob; exact Heap.lt_size e1
        · rw [q]; obtain ⟨_, e2, _⟩ := h2.ob; exact Heap.lt_size e2
      rw [upd_ne (Nat.ne_of_lt hlt)]
      exact (hf c hcm).1
  done := by
    intro X hP hw hK hc i pins s σ H E I hf st hg
    subst hP hw hK
    obtain ⟨hz, hTI, ⟨x0, y0, hTO⟩, h1, h2⟩ := st
    obtain ⟨xs, ys, hqx, hqy, he1, he2, hend⟩ := hg
    obtain ⟨its, rv, p⟩ := Inv.seqKd I hqx
    obtain ⟨its2, rv2, p2⟩ := Inv.seqKd I hqy
    have l1 := rv.length
    have l2 := rv2.length
    refine wpAny_pyNext_zipD2_end (i := i) D (drawsK (A := X.A.in1) (I.ok.hd hc) i1 a ha its.toArray ka) (drawsK (A := X.A.in1) (I.ok.hd hc) i2 b hb its2.toArray kb) hz hTI hTO ⟨h1, p⟩ ⟨h2, p2⟩ (by simp only [List.size_toArray]; omega) (by simp only [List.size_toArray]; omega) (by simp only [List.size_toArray]; omega) fun h' tk hk => ⟨rfl, I.turnedL (t' := tk) (ch := [z, TI, TO, i1, i2]) (fun c o hb q =>
      hk c o (fun q' => hb (by simp [q'])) (fun q' => hb (by simp [q'])) (fun q' => hb (by simp [q'])) (fun q' => hb (by simp [q'])) q) hf⟩
  self := fun A i s Q E st h => wpAny_pyIter_zip st.1 h

def iZipM (K : PySem.W.Frag) (ta : TA) : TI := fun σ H R => ta σ H fun vs H1 => ∃ a b ka kb xs ys, vs = [.ref a, .ref b] ∧ SqK K ka H1 a xs ∧ SqK K kb H1 b ys ∧ R (ItzM K ka kb a b) H1
def itO : Kd → Addr → Obj
  | .li => fun l => { cls := .type "list_iterator", data := .fields #[.ref l, .int 0 0] }
  | .tu => fun l => { cls := .type "tuple_iterator", data := .fields #[.ref l, .int 0 0] }
theorem beginsK (l : Addr) (items : Array Value) : ∀ kd : Kd, Begins (.ref l) (itO kd l) (fun h => IsK kd h l items)
  | .li => begins_list l items
  | .tu => begins_tuple l items
theorem itO_at {kd : Kd} {h : Heap} {i l : Addr} (e : h.get? i = some (itO kd l)) : ItK kd h i l 0 := by
  cases kd <;> exact ⟨_, e, rfl, rfl⟩
theorem pi_zipM {X : Cx} {e e2 : Expr} {ta : TA} {p pos tpos : Pos} {elts : List Expr} {kk : Nat} (hg : Gl X "zip") (hm : X.mg "zip" = none) (ha : PA X [e, e2] ta)
    (hs : starEach [e, e2] X.env = (false, eval e X.env) :: starEach [e2] X.env := by rfl) (hpl : (backTo pos (starEach [e2] X.env)).any (·.1) = false := by rfl) :
    PI X (.Tuple elts kk tpos) (.Call (.Name "zip" p) [e, e2] [] pos) (iZipM X.K ta) := by
  refine ⟨fun pins s σ H R I h => ?_⟩
  refine Call_ (ld_blt I hg hm PyProof.Rows.boot_zip (PyProof.Rows.callWith_type1 (thn (ha.run pos pins s σ H _ I h) fun us s1 ⟨vs, H1, I1, r1, q1⟩ => ?_) hs hpl))
  obtain ⟨a, b, ka, kb, xs, ys, ex, hqx, hqy, q⟩ := q1
  subst ex
  cases r1 with
  | cons r rr =>
    cases rr with
    | cons r' rr =>
      cases rr
      cases r
      cases r'
      have fresh5 : ∀ c, c ∈ [s1.heap.objs.size + 4, s1.heap.objs.size + 2, s1.heap.objs.size + 3, s1.heap.objs.size, s1.heap.objs.size + 1] → FpOk X pins H1 c := fun c hcm => by
        have e' : c = s1.heap.objs.size + 4 ∨ c = s1.heap.objs.size + 2 ∨ c = s1.heap.objs.size + 3 ∨ c = s1.heap.objs.size ∨ c = s1.heap.objs.size + 1 := by simpa using hcm
        have hle : s1.heap.objs.size ≤ c := by
          rcases e' with z | z | z | z | z
          · rw [z]; exact Nat.le_add_right _ _
          · rw [z]; exact Nat.le_add_right _ _
          · rw [z]; exact Nat.le_add_right _ _
          · rw [z]; exact Nat.le_refl _
          · rw [z]; exact Nat.le_add_right _ _
        exact I1.fpOk hle (I1.hok.fresh hle)
      obtain ⟨its, rv, p1⟩ := Inv.seqKd I1 hqx
      obtain ⟨its2, rv2, p2⟩ := Inv.seqKd I1 hqy
      have la := p1.lt
      have lb := p2.lt
      refine zip_begins2 (beginsK a its.toArray ka) (beginsK b its2.toArray kb) p1 p2 fun h' hz hTI hTO h1 h2 hsz hk => wpAny_pyIter_zip hz ?_
      have I2 : Inv X pins σ H1 { s1 with heap := h' } := I1.kept (t' := s1.toks) hk
      exact ⟨s1.heap.objs.size + 4, [s1.heap.objs.size + 4, s1.heap.objs.size + 2, s1.heap.objs.size + 3, s1.heap.objs.size, s1.heap.objs.size + 1], _, _, H1, rfl, I2,
        turn_zipM ka kb (zip_sep2 (fp1 := [a]) (fp2 := [b]) (fun x hx => by rw [List.mem_singleton.mp hx]; exact la) (fun x hx => by rw [List.mem_singleton.mp hx]; exact lb)) (Nat.ne_of_lt la) (Nat.ne_of_lt (Nat.lt_succ_of_lt lb)), ⟨hz, hTI, ⟨_, _, hTO⟩, itO_at h1, itO_at h2⟩, fresh5, q⟩
def zpM (x y : Kd × List W × Wt) (s : Sto) : R (List W × Wt × Sto) := .ok (zpW x.2.1 y.2.1, x.2.2 ++ y.2.2, s)
def iZm (a b : Ev) : WkW := fun e s => (a e s).bind fun p => (b e p.2).bind fun q => (seqK p.1 q.2).bind fun x => (seqK q.1 q.2).bind fun y => zpM x y q.2
theorem zpW_min : ∀ (l m : List W), (zpW l m).length = min l.length m.length
  | [], m => by simp [zpW]
  | x :: l, [] => by simp [zpW]
  | x :: l, y :: m => by
    have := zpW_min l m
    show (zpW l m).length + 1 = min (l.length + 1) (m.length + 1)
    omega
section
variable {z : Zx} {k : Nat} {B : Bx} {Wi : WX}
theorem sqK_of {K : PySem.W.Frag} {H : Hp} {a : Addr} {vs : List V} {kd : Kd} (h : match kd with | .li => SqL K H a vs | .tu => SqT K H a vs) : SqK K kd H a vs := by cases kd <;> exact h
theorem si_zm {te tf : TE} {m m2 : Ev} (he : SimE B Wi te m) (hf : SimE B Wi tf m2) : SimIW B Wi (iZipM B.K (tCons te (tCons tf tNil))) (iZm m m2) := by
  intro ρ G S H env σ Q R E h
  refine he ρ G S H env σ _ R E (postIW_bind h fun w S1 ρ1 G1 H1 v l1 R1 r1 h1 => ?_)
  refine hf ρ1 G1 S1 H1 env σ _ R1 (l1.env E) (postIW_bind h1 fun w2 S2 ρ2 G2 H2 v2 l2 R2 r2 h2 => ?_)
  simp only at h2
  have r1 := l2.w r1
  cases e : seqK w S2 with
  | stuck => rw [e] at h2; exact False.elim h2
  | ex x s => exact absurd e seqK_ex
  | ok q =>
    obtain ⟨kd, l, wt⟩ := q
    rw [e, _root_.B.R.bind_ok] at h2
    cases e' : seqK w2 S2 with
    | stuck => rw [e'] at h2; exact False.elim h2
    | ex x s => exact absurd e' seqK_ex
    | ok q' =>
      obtain ⟨kd', l', wt'⟩ := q'
      rw [e', _root_.B.R.bind_ok] at h2
      obtain ⟨a, rfl, hk⟩ := seqK_rep R2 e r1
      obtain ⟨b, rfl, hk'⟩ := seqK_rep R2 e' r2
      obtain ⟨vs, hv, _⟩ := hk ρ2 G2 S2 H2 (fun _ _ h => h) (fun _ _ h => h) R2 (seqK_watch e)
      obtain ⟨vs', hv', _⟩ := hk' ρ2 G2 S2 H2 (fun _ _ h => h) (fun _ _ h => h) R2 (seqK_watch e')
      refine ⟨a, b, kd, kd', vs, vs', rfl, sqK_of hv, sqK_of hv', h2 _ _ _ _ (Le.refl _ _ _) R2 fun i ρ3 G3 S3 H3 p s R3 wk => ?_⟩
      obtain ⟨wk1, wk2⟩ := watch_app wk
      obtain ⟨us, hu, ru⟩ := hk ρ3 G3 S3 H3 p s R3 wk1
      obtain ⟨us', hu', ru'⟩ := hk' ρ3 G3 S3 H3 p s R3 wk2
      refine ⟨fun hl => ⟨us, us', sqK_of hu, sqK_of hu', ?_⟩, fun x hx => ?_⟩
      · have hl : (zpW l l').length = i := hl
        rw [zpW_min] at hl
        rw [← ru.length, ← ru'.length]
        omega
      obtain ⟨y, y', hy, hy', rfl⟩ := zpW_get l l' i x hx
      obtain ⟨u, gu, ry⟩ := ru.get hy
      obtain ⟨u', gu', ry'⟩ := ru'.get hy'
      refine ⟨⟨us, us', u, u', sqK_of hu, sqK_of hu', gu, gu'⟩, fun xx H4 yy => ?_⟩
      obtain ⟨T, u2, u2', rfl, hT, rfl, hall, hall'⟩ := yy
      have := (hall us (sqK_of hu)).symm.trans gu
      cases this
      have := (hall' us' (sqK_of hu')).symm.trans gu'
      cases this
      obtain ⟨R4, l4⟩ := R3.froz (.tup [u, u']) hT
      exact ⟨_, R4, l4, tupW_rep2 upd_same (l4.w ry) (l4.w ry')⟩
end
section
variable {z : Zx} {k : Nat}
theorem iZmOk {e e2 : Expr} {ma mb : Ev} {elts : List Expr} {kk : Nat} {p pos tpos : Pos} (ctx : Ctx k z) (hg : Gl z.X "zip") (hm : z.X.mg "zip" = none) (ha : OkE z e ma) (hb : OkE z e2 mb) (hs : starEach [e, e2] z.X.env = (false, eval e z.X.env) :: starEach [e2] z.X.env := by rfl) (hs2 : starEach [e2] z.X.env = (false, eval e2 z.X.env) :: starEach [] z.X.env := by rfl) (hpl : (backTo pos (starEach [e2] z.X.env)).any (·.1) = false := by rfl) :
    OkIW z (.Tuple elts kk tpos) (.Call (.Name "zip" p) [e, e2] [] pos) (iZm ma mb) := ok_iw (pi_zipM hg hm (pa_cons ha (pa_cons hb pa_nil hs2) hs) hs hpl) (si_zm sim_e sim_e)
end
/-! ### texts: find, index, startswith -/
open StrLaws Builtin Builtin.Str in
theorem occ_stays (s sub : Str) (hi : Nat) : ∀ (l : List Nat) (st : Array Nat × Nat), st.fst.size = 1 → (forIn l st (occBody s sub hi 1)).run.fst = st.fst
  | [], st, _ => rfl
  | a :: l, st, h => by
    rw [List.forIn_cons]
    unfold occBody
    rw [if_neg (by rw [h]; simp)]
    exact occ_stays s sub hi l _ h
open StrLaws Builtin Builtin.Str in
theorem occ_first (x : Str) (c : Nat) : ∀ (l : List Nat) (free : Nat), (∀ i ∈ l, free ≤ i) →
    (forIn l ((#[] : Array Nat), free) (occBody x ⟨#[c]⟩ x.length 1)).run.fst.toList = (l.find? fun i => x.cps.toList[i]? == some c).toList
  | [], free, _ => rfl
  | a :: l, free, hf => by
    rw [List.forIn_cons, List.find?_cons]
    have ha : free ≤ a := hf a List.mem_cons_self
    by_cases hc : x.cps.toList[a]? = some c
    · have hc' := (subAt_one x c a).mpr hc
      unfold occBody
      rw [if_pos ⟨⟨⟨by simp, ha⟩, hc'.1⟩, hc'.2⟩, hc]
      show (forIn l _ (occBody x ⟨#[c]⟩ x.length 1)).run.fst.toList = _
      rw [occ_stays _ _ _ _ _ (by simp)]
      simp
    · have hn : ¬ (a + (⟨#[c]⟩ : Str).length ≤ x.length ∧ subAt x ⟨#[c]⟩ a = true) := fun h => hc ((subAt_one x c a).mp h)
      unfold occBody
      rw [if_neg (fun h => hn ⟨h.1.2, h.2⟩)]
      have hb : (x.cps.toList[a]? == some c) = false := by simpa using hc
      rw [hb]
      exact occ_first x c l free fun i hi => hf i (List.mem_cons_of_mem _ hi)
/-- the first place of a sign -/
def findC (c : Nat) (l : List Nat) : Option Nat := (List.range' 0 (l.length + 1)).find? fun i => l[i]? == some c
theorem occ_findC (c : Nat) (l : List Nat) : Builtin.Str.occurrences (sof l) (sof [c]) 0 (sof l).length 1 = (findC c l).toList := by
  have h := occ_first (sof l) c (List.range' 0 ((sof l).length + 1 - 0)) 0 (fun _ _ => Nat.zero_le _)
  rw [StrLaws.occ_eq]
  refine h.trans ?_
  show _ = ((List.range' 0 (l.length + 1)).find? fun i => l[i]? == some c).toList
  rw [show (sof l).length + 1 - 0 = l.length + 1 by rw [sof_len]; omega]
  rfl
def bFind : D → D → R D
  | .str z, .str [c] => .ok (.int (match findC c z with | some i => (i : Int) | none => -1))
  | _, _ => .stuck
def bSIdx : D → D → R D
  | .str z, .str [c] => (ofO (findC c z)).bind fun i => .ok (.int (i : Nat))
  | _, _ => .stuck
def bStarts : D → D → R D
  | .str x, .str y => .ok (.bl (decide (0 + y.length ≤ x.length) && ((x.drop 0).take y.length == y)))
  | _, _ => .stuck
section
variable {z : Zx} {k : Nat} {a b c : Expr} {ma mb mc : Ev} {pos p apos cpos : Pos}
theorem sm_d2 {r : V → List V → Hp → VK → Prop} {g : D → D → R D} (hx : ∀ a b x s, g a b ≠ .ex x s) (h : ∀ H a b c v u Q, Rep z.X.K H a v → Rep z.X.K H b u → g a b = .ok c → (∀ y, (∀ G, Rep z.X.K G c y) → Q y H) → r v [u] H Q) : SimM1 z.B r (d2 g) := by
  intro Wi ρ G S H x y v u Q R rx ry q
  exact simR_d2 (r := fun v u H Q => r v [u] H Q) hx h Wi ρ G S H x y v u Q R rx ry q
theorem sm_find : SimM1 z.B (fun x xs H Q => ∃ a b, x = .str a ∧ xs = [.str b] ∧ Q (.int (Txt.find a b)) H) (d2 bFind) := sm_d2 (fun a b x s h => by unfold bFind at h; split at h <;> cases h) fun H a b c v u Q ra rb e q => by
  unfold bFind at e
  split at e
  · cases e
    cases ra; cases rb
    refine ⟨_, _, rfl, rfl, q _ fun G => ?_⟩
    rename_i l c
    have : Txt.find (sof l) (sof [c]) = (match findC c l with | some i => (i : Int) | none => -1) := by
      unfold Txt.find
      rw [occ_findC]
      cases findC c l <;> rfl
    rw [this]; exact .int _
  · cases e
theorem sm_sidx : SimM1 z.B (fun x xs H Q => ∃ a b i rest, x = .str a ∧ xs = [.str b] ∧ Builtin.Str.occurrences a b 0 a.length 1 = i :: rest ∧ Q (.int (i : Nat)) H) (d2 bSIdx) := sm_d2 (fun a b x s h => by
    unfold bSIdx at h
    split at h
    · rename_i l c
      cases e : findC c l <;> rw [e] at h <;> cases h
    · cases h) fun H a b c v u Q ra rb e q => by
  unfold bSIdx at e
  split at e
  · rename_i l c
    cases e1 : findC c l with
    | none => rw [e1] at e; cases e
    | some i =>
      rw [e1] at e
      cases e
      cases ra; cases rb
      exact ⟨_, _, i, [], rfl, rfl, by rw [occ_findC, e1]; rfl, q _ fun G => .int _⟩
  · cases e
theorem sm_starts : SimM1 z.B (fun x xs H Q => ∃ a b, x = .str a ∧ xs = [.str b] ∧ Q (.bl (Txt.startswith a b)) H) (d2 bStarts) := sm_d2 (fun a b x s h => by unfold bStarts at h; split at h <;> cases h) fun H a b c v u Q ra rb e q => by
  unfold bStarts at e
  split at e
  · cases e
    cases ra; cases rb
    refine ⟨_, _, rfl, rfl, q _ fun G => ?_⟩
    rename_i l m
    have : Txt.startswith (sof l) (sof m) = (decide (0 + m.length ≤ l.length) && ((l.drop 0).take m.length == m)) := by
      unfold Txt.startswith
      rw [StrLaws.subAt_eq, sof_len, sof_len, sof_cps, sof_cps]
    rw [this]; exact .bl _
  · cases e
theorem kFind (ha : OkE z a ma) (hb : OkE z b mb) (hs : starEach [b] z.X.env = [(false, eval b z.X.env)] := by rfl) (hbase : attributeBase a "find" z.X.env (eval a z.X.env) = eval a z.X.env := by rfl) (hline : (apos.endLine == cpos.line) = true := by rfl) :
    OkE z (.Call (.Attribute a "find" apos) [b] [] cpos) (m1 isS (d2 bFind) ma mb) := ok_e (pe_m1 PySem.F.slot_str_find PySem.F.type_str_find mt_find ha hb hs hbase hline) (se_mt1 sm_find)
theorem kSIdx (ha : OkE z a ma) (hb : OkE z b mb) (hs : starEach [b] z.X.env = [(false, eval b z.X.env)] := by rfl) (hbase : attributeBase a "index" z.X.env (eval a z.X.env) = eval a z.X.env := by rfl) (hline : (apos.endLine == cpos.line) = true := by rfl) :
    OkE z (.Call (.Attribute a "index" apos) [b] [] cpos) (m1 isS (d2 bSIdx) ma mb) := ok_e (pe_m1 PySem.F.slot_str_index PySem.F.type_str_index mt_sindex ha hb hs hbase hline) (se_mt1 sm_sidx)
theorem kStarts (ha : OkE z a ma) (hb : OkE z b mb) (hs : starEach [b] z.X.env = [(false, eval b z.X.env)] := by rfl) (hbase : attributeBase a "startswith" z.X.env (eval a z.X.env) = eval a z.X.env := by rfl) (hline : (apos.endLine == cpos.line) = true := by rfl) :
    OkE z (.Call (.Attribute a "startswith" apos) [b] [] cpos) (m1 isS (d2 bStarts) ma mb) := ok_e (pe_m1 PySem.F.slot_str_startswith PySem.F.type_str_startswith mt_startswith ha hb hs hbase hline) (se_mt1 sm_starts)
/-! ### >> -/
def oShr : D → D → R D := I2 fun i j => need (decide (0 ≤ j)) (.ok (.int (i / 2 ^ j.toNat)))
theorem so_shr : SimR z.B (rI (fun _ j => 0 ≤ j) fun i j => .int (i / 2 ^ j.toNat)) (d2 oShr) := simR_I (fun _ _ _ _ => need_ex) fun i j c h => by
  obtain ⟨h1, rfl⟩ := need_ok h
  exact ⟨of_decide_eq_true h1, fun K G => .int _⟩
theorem kShr (ha : OkE z a ma) (hb : OkE z b mb) : OkE z (.BinOp a .RShift b pos) (e2 (d2 oShr) ma mb) := kOp op_shr so_shr ha hb
/-! ### max(a, b, c) -/
def bMax3 (x y w : D) : R D := match x, y, w with
  | .int i, .int j, .int k => .ok (.int (let m := if j > i then j else i; if k > m then k else m))
  | _, _, _ => .stuck
def d3 (f : D → D → D → R D) : W → W → W → Sto → VS := fun x y w s => (dat s x).bind fun a => (dat s y).bind fun b => (dat s w).bind fun c => (f a b c).bind fun r => .ok (.d r, s)
/-! ### list.index -/
/-- the first place of an equal item -/
def idxD (x : D) : List D → Option Nat
  | [] => none
  | y :: r => if eqv y x = true then some 0 else (idxD x r).map (· + 1)
def lIndex : W → W → Sto → VS := fun x y s => (lstOf s x).bind fun l => (ofO (asDs l)).bind fun l => (dat s y).bind fun d => need (flat d && l.all flat) ((ofO (idxD d l)).bind fun j => .ok (.d (.int (j : Nat)), s))
theorem idxD_at {K : PySem.W.Frag} {H : Hp} {x : D} {v : V} (rx : Rep K H x v) (c : flat x = true) : ∀ {l : List D} {vs : List V} {j : Nat}, RepL K H l vs → l.all flat = true → idxD x l = some j →
    ∃ u, vs[j]? = some u ∧ eqV u v = true ∧ ∀ (m : Nat) (z' : V), m < j → vs[m]? = some z' → eqV z' v = false
  | [], _, j, .nil, _, e => by cases e
  | y :: l, _, j, .cons h r, d, e => by
    rw [List.all_cons, Bool.and_eq_true] at d
    unfold idxD at e
    by_cases q : eqv y x = true
    · rw [if_pos q] at e
      cases e
      exact ⟨_, rfl, by rw [eqV_of h rx d.1 c]; exact q, fun m z hm => absurd hm (Nat.not_lt_zero _)⟩
    · rw [if_neg q] at e
      obtain ⟨i, e1, e2⟩ := Option.map_eq_some_iff.mp e
      subst e2
      obtain ⟨u, h1, h2, h3⟩ := idxD_at rx c r d.2 e1
      refine ⟨u, by simpa using h1, h2, fun m z hm hz => ?_⟩
      cases m with
      | zero =>
        cases hz
        rw [eqV_of h rx d.1 c]
        simpa using q
      | succ m => exact h3 m z (by omega) (by simpa using hz)

theorem repLH {ρ : List Addr} {G : Hp} {S : Sto} {H : Hp} {l : List D} {vs : List V} (R : Rel z.B ρ G S H) (r : RepL z.X.K G l vs) : RepL z.X.K H l vs := r.mono R.ex
theorem sm_index : SimM1 z.B (rIndex z.X.K) lIndex := by
  intro Wi ρ G S H x y v u Q R rx ry h
  unfold lIndex at h
  rcases lstOf_cases S x with ⟨l, e1⟩ | e1
  · rw [e1, _root_.B.R.bind_ok] at h
    obtain ⟨a, vs, rfl, ha, r1⟩ := lstOf_rep R e1 rx
    cases e2 : asDs l with
    | none => rw [e2] at h; exact False.elim h
    | some ds =>
      rw [e2, ofO_some, _root_.B.R.bind_ok] at h
      have r2 := repLH R (r1.asDs e2)
      obtain ⟨d, _, rd, h⟩ := dat_key R ry h
      obtain ⟨h1, h⟩ := postN h
      rw [Bool.and_eq_true] at h1
      cases e3 : idxD d ds with
      | none => rw [e3] at h; exact False.elim h
      | some j =>
        rw [e3, ofO_some, _root_.B.R.bind_ok] at h
        obtain ⟨w, q1, q2, q3⟩ := idxD_at rd h1.1 r2 h1.2 e3
        have fl : ∀ {l : List D} {vs : List V}, RepL z.X.K H l vs → l.all flat = true → vs.all flatV = true := by
          intro l
          induction l with
          | nil => intro vs r _; cases r; rfl
          | cons y l ih =>
            intro vs r d
            cases r with
            | cons ra rb =>
              rw [List.all_cons, Bool.and_eq_true] at d
              rw [List.all_cons, flat_of d.1 ra, ih rb d.2]; rfl
        exact ⟨a, vs, u, j, w, rfl, rfl, .inl (.inl ha), flat_of h1.1 rd, fl r2 h1.2, q1, q2, q3, h _ _ _ _ (Le.refl _ _ _) R (.d (.int _))⟩
  · rw [e1] at h; exact False.elim h
theorem kIndex (ha : OkE z a ma) (hb : OkE z b mb) (hs : starEach [b] z.X.env = (false, eval b z.X.env) :: starEach [] z.X.env := by rfl) (hbase : attributeBase a "index" z.X.env (eval a z.X.env) = eval a z.X.env := by rfl) (hfew : ((backTo cpos (starEach [b] z.X.env)).all (fun x => !x.1) && (backToKw cpos (keywordEach [] z.X.env)).all (fun x => x.1.isSome) && decide ([b].length + ([] : List Keyword).length + (if ([] : List Keyword).isEmpty then 0 else 1) < 30)) = true := by rfl) (hline : (apos.endLine == cpos.line) = true := by rfl) :
    OkE z (.Call (.Attribute a "index" apos) [b] [] cpos) (m1 isL lIndex ma mb) := ok_e (pe_bm PySem.F.plainAttrs_list PySem.F.slot_list_index PySem.F.type_list_index mt_index ha (aOne hb hs) hbase hfew hline hs rfl) (se_m1 isL_rep sm_index)

theorem se_cb3 {B : Bx} {Wi : WX} {te tf tg : TE} {m m2 m3 : Ev} {r : List V → Hp → VK → Prop} {f : W → W → W → Sto → VS} (hr : ∀ Wi ρ G S H x y w v u t Q, Rel B ρ G S H → RepW B.K ρ G x v → RepW B.K ρ G y u → RepW B.K ρ G w t → Post B Wi ρ G H (f x y w S) Q → r [v, u, t] H Q) (he : SimE B Wi te m) (hf : SimE B Wi tf m2) (hg : SimE B Wi tg m3) : SimE B Wi (tCB r (tCons te (tCons tf (tCons tg tNil)))) (e3 f m m2 m3) := by
  intro ρ G S H env σ Q R E h
  refine he ρ G S H env σ _ R E (post_bind h fun w S1 ρ1 G1 H1 v l1 R1 r1 h1 => ?_)
  refine hf ρ1 G1 S1 H1 env σ _ R1 (l1.env E) (post_bind h1 fun w2 S2 ρ2 G2 H2 v2 l2 R2 r2 h2 => ?_)
  refine hg ρ2 G2 S2 H2 env σ _ R2 (l2.env (l1.env E)) (post_bind h2 fun w3 S3 ρ3 G3 H3 v3 l3 R3 r3 h3 => ?_)
  exact hr _ ρ3 G3 S3 H3 w w2 w3 v v2 v3 Q R3 (l3.w (l2.w r1)) (l3.w r2) r3 h3
theorem sc_max3 : ∀ Wi ρ G S H x y w v u t Q, Rel z.B ρ G S H → RepW z.X.K ρ G x v → RepW z.X.K ρ G y u → RepW z.X.K ρ G w t → Post z.B Wi ρ G H (d3 bMax3 x y w S) Q → rNuC3 nuMax3 [v, u, t] H Q := by
  intro Wi ρ G S H x y w v u t Q R rx ry rw_ h
  obtain ⟨dx, _, rdx, h⟩ := dat_key R rx h
  obtain ⟨dy, _, rdy, h⟩ := dat_key R ry h
  obtain ⟨dw, _, rdw, h⟩ := dat_key R rw_ h
  cases dx with
  | int i =>
    cases dy with
    | int j =>
      cases dw with
      | int k =>
        cases rdx; cases rdy; cases rdw
        refine ⟨_, _, _, .int (let m := if j > i then j else i; if k > m then k else m), rfl, ?_, h _ _ _ _ (Le.refl _ _ _) R (.d (.int _))⟩
        show ((nuMax2 (.int i) (.int j)).bind fun m => nuMax2 m (.int k)) = _
        have e2 : ∀ i j : Int, nuMax2 (.int i) (.int j) = some (.int (if j > i then j else i)) := fun i j => by
          show (some (decide (i < j))).map (fun c => if c = true then V.int j else .int i) = _
          by_cases h : i < j <;> simp [h]
        rw [e2]
        show nuMax2 (.int (if j > i then j else i)) (.int k) = _
        rw [e2]
      | _ => exact False.elim h
    | _ => exact False.elim h
  | _ => exact False.elim h
theorem kMax3 (ctx : Ctx k z) (hg : Gl z.X "max") (hm : z.X.mg "max" = none) (ha : OkE z a ma) (hb : OkE z b mb) (hc : OkE z c mc) (hs : starEach [a, b, c] z.X.env = (false, eval a z.X.env) :: starEach [b, c] z.X.env := by rfl) (hs2 : starEach [b, c] z.X.env = (false, eval b z.X.env) :: starEach [c] z.X.env := by rfl) (hs3 : starEach [c] z.X.env = (false, eval c z.X.env) :: starEach [] z.X.env := by rfl)
    (hpl : (backTo pos (starEach [b, c] z.X.env)).any (·.1) = false := by rfl) : OkE z (.Call (.Name "max" p) [a, b, c] [] pos) (e3 (d3 bMax3) ma mb mc) :=
  ok_e (pe_callB (call_max3Nu ctx.calm) hg hm (by decide +kernel) (pa_cons ha (pa_cons hb (pa_cons hc pa_nil hs3) hs2) hs) (by decide) (by decide) hs hpl) (se_cb3 sc_max3 sim_e sim_e sim_e)
end
end B
/-! Unpacking a list. -/
namespace B
open PySem L2 PySem.Spec PyProof.Rows
def lstItems : W → R (List W)
  | .d (.lst l) => .ok (ws l)
  | _ => .stuck
def gTL (gs : List Tg) : Tg := fun w e s => (lstItems w).bind fun l => gTs gs l e s
section
variable {B : Bx}
theorem sg_lst {gs : TGs} {ms : List Tg} {n : Nat} (hn : ms.length = n) (h1 : SimGs B gs ms) : SimG B (gUnl B.K n gs) (gTL ms) := by
  intro ρ G S H env σ w v Q R E r h
  have h' : PostG B ρ G H ((lstItems w).bind fun l => gTs ms l env S) Q := h
  cases w with
  | d x =>
    cases x with
    | lst l =>
      cases r with
      | d r =>
        cases r with
        | lst q rs =>
          have h' : PostG B ρ G H (gTs ms (ws l) env S) Q := h'
          exact ⟨_, _, rfl, .inl (.inl (R.ex _ _ q)), by rw [← rs.length, ← hn]; have := gTs_len ms (ws l) env S h'; simpa [ws] using this, h1 ρ G S H env σ (ws l) _ Q R E rs.ws h'⟩
    | _ => exact False.elim h'
  | loc _ => exact False.elim h'
  | tw _ => exact False.elim h'
theorem quiet_TL {ms : List Tg} (h : ∀ m ∈ ms, Quiet m) : Quiet (gTL ms) := by
  intro w e s x S h2
  have h3 : (lstItems w).bind (fun l => gTs ms l e s) = .ex x S := h2
  cases hw : lstItems w with
  | stuck => rw [hw] at h3; cases h3
  | ex y t =>
    unfold lstItems at hw
    split at hw <;> cases hw
  | ok l => rw [hw] at h3; exact quiet_Ts h l e s x S h3
end
section
variable {z : Zx} {k : Nat} {pos : Pos}
theorem gTLOk (ctx : Ctx k z) {ts : List Expr} {ms : List Tg} {j : Nat} (h : OkGs z ts ms) (hn : (assignEach ts z.X.env).length = ms.length := by rfl) (hst : (assignEach ts z.X.env).findIdx? (·.1) = none := by rfl) : OkG z (.Tuple ts j pos) (gTL ms) :=
  ok_g (pg_unl ctx.calm h.1 hn hst) (sg_lst rfl sim_gs) (quiet_TL h.2)
end
/-! len(set(..)) of whole numbers that differ -/
def bLenSet : D → R D := fun x => (listD x).bind fun l => (ofO (intsD l)).bind fun ns => need (decide ns.Nodup && decide (ns.length ≤ 4000)) (.ok (.int (ns.length : Nat)))
section
variable {B : Bx} {Wi : WX}
theorem se_lenset {te : TE} {m : Ev} (he : SimE B Wi te m) : SimE B Wi (RZ.tLenSetI B.K te) (e1 (d1 bLenSet) m) := by
  intro ρ G S H env σ Q R E h
  refine he ρ G S H env σ _ R E (post_bind h fun w S1 ρ1 G1 H1 v l1 R1 r1 h1 => ?_)
  have h1 : Post B (atS Wi σ) ρ1 G1 H1 ((dat S1 w).bind fun a => (bLenSet a).bind fun r => .ok (.d r, S1)) Q := h1
  obtain ⟨d, _, rd, h2⟩ := dat_key R1 r1 h1
  cases e1 : listD d with
  | stuck => unfold bLenSet at h2; rw [e1] at h2; exact False.elim h2
  | ex x s => exact absurd e1 (listD_ex d _ _)
  | ok l =>
    cases e2 : intsD l with
    | none => unfold bLenSet at h2; rw [e1, _root_.B.R.bind_ok, e2] at h2; exact False.elim h2
    | some ns =>
      obtain ⟨p, vs, rfl, hs, r⟩ := listD_rep rd e1
      have := ints_rep r e2
      subst this
      unfold bLenSet at h2
      rw [e1, _root_.B.R.bind_ok, e2, ofO_some, _root_.B.R.bind_ok] at h2
      cases hb : decide ns.Nodup && decide (ns.length ≤ 4000) with
      | false => rw [hb] at h2; exact False.elim h2
      | true =>
        rw [hb, need_true, _root_.B.R.bind_ok] at h2
        rw [Bool.and_eq_true] at hb
        exact ⟨p, ns, rfl, hs, of_decide_eq_true hb.1, of_decide_eq_true hb.2, h2 _ _ _ _ (Le.refl _ _ _) R1 (.d (.int _))⟩
end
section
variable {z : Zx} {k : Nat} {a : Expr} {ma : Ev} {p p2 q pos : Pos}
theorem kLenSet (ctx : Ctx k z) (hg : Gl z.X "len") (hm : z.X.mg "len" = none) (hg2 : Gl z.X "set") (hm2 : z.X.mg "set" = none) (ha : OkE z a ma)
    (na : starEach [a] z.X.env = (false, eval a z.X.env) :: starEach [] z.X.env := by rfl) : OkE z (.Call (.Name "len" p) [.Call (.Name "set" p2) [a] [] q] [] pos) (e1 (d1 bLenSet) ma) := ok_e (RZ.pe_lenSetI hg hm hg2 hm2 ha ctx.calm na) (se_lenset sim_e)
end
end B
/-! Lists of the store, walked in a comprehension that is given to a name. -/
namespace B
open PySem L2 PySem.Spec PyProof.Rows
section
variable {z : Zx} {k : Nat}
theorem sCompL0 {own : List (Str × Nat)} {scope : Scope} {tg elt it : Expr} {ifs : List Expr} {mg : Tg} {mt : Tx} {me : Ev} {ma : Ev} {pos spos py : Pos} {m : Ev} {f : List W → Sto → VS} {i : Nat} {y : Str} (ctx : Ctx k z) (hi : OkE z it ma) (h : CompOk z own scope tg ifs elt mg mt me) (fin : FinOk z.B f)
    (hm : ∀ e s, m e s = (ma e s).bind fun p => (locL p.1 p.2).bind fun y => need (decide (y.2.2.length ≤ sizeL)) ((compC y.1 y.2.1 mg mt me (own.map (·.2)) e y.2.2 p.2).bind fun q => f q.1 q.2)) (hy : z.X.N[i]? = some y) (hyl : z.X.env.scope.names.lookup y = some .local)
    (hsw : swapsWith (.ListComp elt [⟨tg, it, ifs, 0⟩] scope pos) (some (.Name y py)) spos.line z.X.env = pure true) (hs : ∀ x, foldedSetIterable it z.X.env x = pure x) (hp : PinFree z.B i) :
    OkS z (.Assign [.Name y py] (.ListComp elt [⟨tg, it, ifs, 0⟩] scope pos) spos) (sAsg (gN i) m) := by
  obtain ⟨g, g1, g2⟩ := h.g
  obtain ⟨t, t1, t2⟩ := h.t
  exact ok_s (ps_setLc (te := tOf z.B (fun _ _ _ _ => False) me) ctx.calm ctx.nd hy hyl hsw (pi_seq hi) h.blk g2 t2 (fun s H C cl fp => h.e s H C cl fp) hs) (ss_set hp (sim_compL sim_e h.pf g1 t1 sim_e fin hm))
theorem sCompL {own : List (Str × Nat)} {scope : Scope} {tg elt it : Expr} {ifs : List Expr} {mg : Tg} {mt : Tx} {me : Ev} {ma : Ev} {pos spos py : Pos} (i : Nat) {y : Str} (ctx : Ctx k z) (hi : OkE z it ma) (h : CompOk z own scope tg ifs elt mg mt me) (hy : z.X.N[i]? = some y) (hyl : z.X.env.scope.names.lookup y = some .local)
    (hsw : swapsWith (.ListComp elt [⟨tg, it, ifs, 0⟩] scope pos) (some (.Name y py)) spos.line z.X.env = pure true) (hs : ∀ x, foldedSetIterable it z.X.env x = pure x := by intro _; rfl) (hp : PinFree z.B i := by exact pin_none rfl) :
    OkS z (.Assign [.Name y py] (.ListComp elt [⟨tg, it, ifs, 0⟩] scope pos) spos) (sAsg (gN i) (eCompL ma mg mt me (own.map (·.2)))) := sCompL0 ctx hi h fin_d (fun _ _ => rfl) hy hyl hsw hs hp
theorem sCompLC {own : List (Str × Nat)} {scope : Scope} {tg elt it : Expr} {ifs : List Expr} {mg : Tg} {mt : Tx} {me : Ev} {ma : Ev} {pos spos py : Pos} (i : Nat) {y : Str} (ctx : Ctx k z) (hi : OkE z it ma) (h : CompOk z own scope tg ifs elt mg mt me) (hy : z.X.N[i]? = some y) (hyl : z.X.env.scope.names.lookup y = some .local)
    (hsw : swapsWith (.ListComp elt [⟨tg, it, ifs, 0⟩] scope pos) (some (.Name y py)) spos.line z.X.env = pure true) (hs : ∀ x, foldedSetIterable it z.X.env x = pure x := by intro _; rfl) (hp : PinFree z.B i := by exact pin_none rfl) :
    OkS z (.Assign [.Name y py] (.ListComp elt [⟨tg, it, ifs, 0⟩] scope pos) spos) (sAsg (gN i) (eCompLC ma mg mt me (own.map (·.2)))) := sCompL0 ctx hi h fin_c (fun _ _ => rfl) hy hyl hsw hs hp
end
end B
/-! The largest and the smallest of a list. -/
namespace B
open PySem L2 PySem.Spec PyProof.Rows
def mxI : List Int → Option Int
  | [] => none | x :: xs => some (xs.foldl (fun a b => if a < b then b else a) x)
def mnI : List Int → Option Int
  | [] => none | x :: xs => some (xs.foldl (fun a b => if b < a then b else a) x)
def bMaxI : D → R D := fun x => (listD x).bind fun l => (ofO ((intsD l).bind mxI)).bind fun m => .ok (.int m)
def bMinI : D → R D := fun x => (listD x).bind fun l => (ofO ((intsD l).bind mnI)).bind fun m => .ok (.int m)
theorem mx_fold : ∀ (xs : List Int) (x : Int), x ≤ xs.foldl (fun a b => if a < b then b else a) x ∧ (∀ y ∈ xs, y ≤ xs.foldl (fun a b => if a < b then b else a) x) ∧ (xs.foldl (fun a b => if a < b then b else a) x = x ∨ xs.foldl (fun a b => if a < b then b else a) x ∈ xs)
  | [], x => ⟨Int.le_refl _, ⟨fun y h => absurd h List.not_mem_nil, Or.inl rfl⟩⟩
  | b :: xs, x => by
    obtain ⟨h1, h2, h3⟩ := mx_fold xs (if x < b then b else x)
    rw [List.foldl_cons]
    generalize xs.foldl (fun a b => if a < b then b else a) (if x < b then b else x) = m at *
    refine ⟨by split at h1 <;> omega, fun y hy => ?_, ?_⟩
    · rcases List.mem_cons.mp hy with rfl | hy
      · split at h1 <;> omega
      · exact h2 y hy
    · rcases h3 with h3 | h3
      · split at h3
        · exact .inr (by rw [h3]; exact List.mem_cons_self)
        · exact .inl h3
      · exact .inr (List.mem_cons_of_mem _ h3)
theorem mn_fold : ∀ (xs : List Int) (x : Int), xs.foldl (fun a b => if b < a then b else a) x ≤ x ∧ (∀ y ∈ xs, xs.foldl (fun a b => if b < a then b else a) x ≤ y) ∧ (xs.foldl (fun a b => if b < a then b else a) x = x ∨ xs.foldl (fun a b => if b < a then b else a) x ∈ xs)
  | [], x => ⟨Int.le_refl _, ⟨fun y h => absurd h List.not_mem_nil, Or.inl rfl⟩⟩
  | b :: xs, x => by
    obtain ⟨h1, h2, h3⟩ := mn_fold xs (if b < x then b else x)
    rw [List.foldl_cons]
    generalize xs.foldl (fun a b => if b < a then b else a) (if b < x then b else x) = m at *
    refine ⟨by split at h1 <;> omega, fun y hy => ?_, ?_⟩
    · rcases List.mem_cons.mp hy with rfl | hy
      · split at h1 <;> omega
      · exact h2 y hy
    · rcases h3 with h3 | h3
      · split at h3
        · exact .inr (by rw [h3]; exact List.mem_cons_self)
        · exact .inl h3
      · exact .inr (List.mem_cons_of_mem _ h3)
theorem mxI_ok {l : List Int} {m : Int} (h : mxI l = some m) : m ∈ l ∧ ∀ y ∈ l, y ≤ m := by
  cases l with
  | nil => cases h
  | cons x xs =>
    obtain ⟨h1, h2, h3⟩ := mx_fold xs x
    have h := Option.some.inj h
    rw [h] at h1 h2 h3
    refine ⟨h3.elim (fun e => by rw [e]; exact List.mem_cons_self) (List.mem_cons_of_mem _), fun y hy => ?_⟩
    rcases List.mem_cons.mp hy with rfl | hy
    · exact h1
    · exact h2 y hy
theorem mnI_ok {l : List Int} {m : Int} (h : mnI l = some m) : m ∈ l ∧ ∀ y ∈ l, m ≤ y := by
  cases l with
  | nil => cases h
  | cons x xs =>
    obtain ⟨h1, h2, h3⟩ := mn_fold xs x
    have h := Option.some.inj h
    rw [h] at h1 h2 h3
    refine ⟨h3.elim (fun e => by rw [e]; exact List.mem_cons_self) (List.mem_cons_of_mem _), fun y hy => ?_⟩
    rcases List.mem_cons.mp hy with rfl | hy
    · exact h1
    · exact h2 y hy
section
variable {z : Zx} {k : Nat} {a : Expr} {ma : Ev} {p pos : Pos}
theorem sc_maxI : SimC1 z.B (rMax z.X.K) (d1 bMaxI) := simC1_d (fun a x s => bind3_ex (listD_ex a) x s) fun H a c v Q ra e q => by
  obtain ⟨l, m, e1, e2, rfl⟩ := bind3_ok (listD_ex a) e
  obtain ⟨p, vs, rfl, hs, r⟩ := listD_rep ra e1
  cases e3 : intsD l with
  | none => rw [e3] at e2; cases e2
  | some ns =>
    rw [e3] at e2
    have := ints_rep r e3
    subst this
    obtain ⟨h1, h2⟩ := mxI_ok e2
    refine ⟨p, ns, rfl, hs, List.length_pos_of_mem h1, fun w hw hm => ?_⟩
    have : w = m := Int.le_antisymm (h2 w hw) (hm m h1)
    subst this
    exact q _ fun G => .int _
theorem sc_minI : SimC1 z.B (rMin z.X.K) (d1 bMinI) := simC1_d (fun a x s => bind3_ex (listD_ex a) x s) fun H a c v Q ra e q => by
  obtain ⟨l, m, e1, e2, rfl⟩ := bind3_ok (listD_ex a) e
  obtain ⟨p, vs, rfl, hs, r⟩ := listD_rep ra e1
  cases e3 : intsD l with
  | none => rw [e3] at e2; cases e2
  | some ns =>
    rw [e3] at e2
    have := ints_rep r e3
    subst this
    obtain ⟨h1, h2⟩ := mnI_ok e2
    refine ⟨p, ns, rfl, hs, List.length_pos_of_mem h1, fun w hw hm => ?_⟩
    have : w = m := Int.le_antisymm (hm m h1) (h2 w hw)
    subst this
    exact q _ fun G => .int _
theorem kMaxI (ctx : Ctx k z) (hg : Gl z.X "max") (hm : z.X.mg "max" = none) (ha : OkE z a ma) (hs : starEach [a] z.X.env = (false, eval a z.X.env) :: starEach [] z.X.env := by rfl) : OkE z (.Call (.Name "max" p) [a] [] pos) (e1 (d1 bMaxI) ma) := kB1 (cr_max ctx.calm) sc_maxI (by decide +kernel) hg hm ha (hs := hs)
theorem kMinI (ctx : Ctx k z) (hg : Gl z.X "min") (hm : z.X.mg "min" = none) (ha : OkE z a ma) (hs : starEach [a] z.X.env = (false, eval a z.X.env) :: starEach [] z.X.env := by rfl) : OkE z (.Call (.Name "min" p) [a] [] pos) (e1 (d1 bMinI) ma) := kB1 (cr_min ctx.calm) sc_minI (by decide +kernel) hg hm ha (hs := hs)
end
end B
/-! int of a text of figures. -/
namespace B
open PySem L2 PySem.Spec PyProof.Rows
def dval (z : List Nat) : Nat := z.foldl (fun acc c => acc * 10 + (c - 48)) 0
def figs (z : List Nat) : Bool := z.all fun c => decide (48 ≤ c) && decide (c ≤ 57)
def bIntT : D → R D
  | .str z => need (figs z && decide (1 ≤ z.length) && decide (z.length ≤ 640)) (.ok (.int ((dval z : Nat) : Int)))
  | _ => .stuck
theorem dval_numL (n : Nat) : dval (numL n) = n := TL.numL_val n
theorem figs_numL (n : Nat) : figs (numL n) = true := List.all_eq_true.mpr fun c hc => by
  have := TL.numL_digits n c hc
  rw [Bool.and_eq_true]
  exact ⟨decide_eq_true this.1, decide_eq_true this.2⟩
theorem bIntT_num {n : Nat} (h : 1 ≤ (numL n).length ∧ (numL n).length ≤ 640) : bIntT (.str (numL n)) = .ok (.int ((n : Nat) : Int)) := by
  show need (figs (numL n) && decide (1 ≤ (numL n).length) && decide ((numL n).length ≤ 640)) (R.ok (D.int ((dval (numL n) : Nat) : Int))) = _
  rw [figs_numL, decide_eq_true h.1, decide_eq_true h.2, dval_numL]; rfl
section
variable {z : Zx} {a : Expr} {ma : Ev} {p pos : Pos}
theorem sc_intT : SimC1 z.B (fun xs H Q => ∃ a n, xs = [.str a] ∧ PySem.intText? a = some n ∧ a.length ≤ 640 ∧ Q (.int n) H) (d1 bIntT) := simC1_d (fun a x s h => by unfold bIntT at h; split at h <;> first | exact need_ex h | cases h) fun H a c v Q ra e q => by
  unfold bIntT at e
  split at e
  · rename_i z'
    obtain ⟨h1, rfl⟩ := need_ok e
    rw [Bool.and_eq_true, Bool.and_eq_true] at h1
    cases ra
    have hf : ∀ c ∈ (sof z').cps.toList, 48 ≤ c ∧ c ≤ 57 := fun c hc => by
      rw [sof_cps] at hc
      have z : (decide (48 ≤ c) && decide (c ≤ 57)) = true := List.all_eq_true.mp h1.1.1 c hc
      rw [Bool.and_eq_true, decide_eq_true_eq, decide_eq_true_eq] at z
      exact z
    have l1 := of_decide_eq_true h1.1.2
    have l2 := of_decide_eq_true h1.2
    have hv := intText_digits (x := sof z') hf (by rw [sof_cps]; intro e; rw [e] at l1; simp at l1) (by rw [sof_len]; omega)
    rw [sof_cps] at hv
    exact ⟨_, _, rfl, hv, by rw [sof_len]; exact l2, q _ fun G => .int _⟩
  · cases e
theorem kIntT (hg : Gl z.X "int") (hm : z.X.mg "int" = none) (ha : OkE z a ma) (hs : starEach [a] z.X.env = (false, eval a z.X.env) :: starEach [] z.X.env := by rfl) : OkE z (.Call (.Name "int" p) [a] [] pos) (e1 (d1 bIntT) ma) := kT1 call_int_str sc_intT boot_int hg hm ha (hs := hs)
end
end B
/-! list(d), d a dict: its keys. -/
namespace B
open PySem L2 PySem.Spec PyProof.Rows
def bLstD : W → Sto → VS := fun x s => match x with
  | .d (.dct _ l) => .ok (.d (.lst (l.map (·.1))), s)
  | x => bLst x s
open Classical in
noncomputable def addG (bs : List Addr) (G H : Hp) : Hp := fun a => if a ∈ bs then H a else G a
section
variable {B : Bx}
/-- tuples that lie in the heap come to what never changes -/
theorem Rel.addT {ρ : List Addr} {G H : Hp} {S : Sto} (R : Rel B ρ G S H) {bs : List Addr} (h : ∀ b ∈ bs, ∃ vs, H b = some (.tup vs)) : Rel B ρ (addG bs G H) S H ∧ Le ρ G H ρ (addG bs G H) H := by
  have yes : ∀ {a}, a ∈ bs → addG bs G H a = H a := fun {a} ha => if_pos ha
  have no : ∀ {a}, a ∉ bs → addG bs G H a = G a := fun {a} ha => if_neg ha
  have sg : Same G (addG bs G H) := fun a o e => by
    by_cases ha : a ∈ bs
    · rw [yes ha]; exact R.ex a o e
    · rw [no ha]; exact e
  have out : ∀ {a}, a ∈ ρ → a ∉ bs := fun {a} ha hb => by
    obtain ⟨vs, e⟩ := h a hb
    exact R.noTup ha vs e
  refine ⟨⟨fun a o e => ?_, R.len, R.nd, fun a ha => by rw [no (out ha)]; exact R.off a ha, fun n c hc => ?_⟩, ⟨⟨[], by simp, by simp⟩, sg, fun a h1 h2 h3 => ?_, fun _ h => h, fun _ _ _ h => h⟩⟩
  · by_cases ha : a ∈ bs
    · rw [yes ha] at e; exact e
    · rw [no ha] at e; exact R.ex a o e
  · obtain ⟨a, h1, h2⟩ := R.cell n c hc
    exact ⟨a, h1, CellR.mono (fun _ _ h => h) sg rfl h2⟩
  · by_cases ha : a ∈ bs
    · obtain ⟨vs, e⟩ := h a ha
      rcases h3 with h3 | h3
      · exact absurd e (R.noTup h3 vs)
      · exact absurd e (h3.1 vs)
    · rw [no ha]; exact h1
end
section
variable {K : PySem.W.Frag} {G : Hp}
theorem keyKs_L : ∀ {l : List D} {k : List Key}, keyKs l = some k → RepL K G l (k.map kV)
  | [], k, h => by cases (Option.some.inj (show some [] = some k from h)); exact .nil
  | d :: l, k, h => by
    cases hd : keyK d with
    | none => simp only [keyKs, hd, reduceCtorEq] at h
    | some j =>
      simp only [keyKs, hd] at h
      obtain ⟨t, h1, h2⟩ := Option.map_eq_some_iff.mp h
      subst h2
      refine .cons ?_ (keyKs_L h1)
      cases d <;> simp only [keyK, reduceCtorEq, Option.some.injEq] at hd
      · subst hd; exact .int _
      · subst hd; exact .str _
theorem keysK_L : ∀ {l : List (D × D)} {kv : List (Key × V)}, l.map (fun p => keyK p.1) = kv.map (fun p => some p.1) → RepL K G (l.map (·.1)) (kv.map fun p => kV p.1)
  | [], [], _ => .nil
  | [], _ :: _, h => by simp at h
  | _ :: _, [], h => by simp at h
  | p :: l, q :: kv, h => by
    simp only [List.map_cons, List.cons.injEq] at h
    have hd := h.1
    refine .cons (show Rep K G p.1 (kV q.1) from ?_) (keysK_L h.2)
    generalize p.1 = d at hd ⊢
    generalize q.1 = j at hd ⊢
    cases d <;> simp only [keyK, reduceCtorEq, Option.some.injEq] at hd
    · subst hd; exact .int _
    · subst hd; exact .str _
theorem keysT_L : ∀ {l : List (D × D)} {kv : List (List Key × V)} {bs : List Addr}, l.map (fun p => keyT p.1) = kv.map (fun p => some p.1) → IsKeys G kv bs → RepL K G (l.map (·.1)) (bs.map V.ref)
  | [], [], bs, _, r => by cases r; exact .nil
  | [], _ :: _, _, h, _ => by simp at h
  | _ :: _, [], _, h, _ => by simp at h
  | p :: l, q :: kv, bs, h, r => by
    cases r with
    | cons r1 r2 =>
      simp only [List.map_cons, List.cons.injEq] at h
      have hd := h.1
      refine .cons (show Rep K G p.1 (.ref _) from ?_) (keysT_L h.2 r2)
      generalize p.1 = d at hd ⊢
      cases d <;> simp only [keyT, reduceCtorEq] at hd
      exact .tup r1 (keyKs_L hd)
end
theorem keys_mem {H : Hp} : ∀ {kv : List (List Key × V)} {bs : List Addr}, IsKeys H kv bs → ∀ b ∈ bs, ∃ vs, H b = some (.tup vs)
  | _, _, .nil, _, h => by simp at h
  | _, _, .cons r1 r2, b, h => by
    rcases List.mem_cons.mp h with h | h
    · subst h; exact ⟨_, r1⟩
    · exact keys_mem r2 b h
theorem isKeys_add {G H : Hp} {bs0 : List Addr} : ∀ {kv : List (List Key × V)} {bs : List Addr}, IsKeys H kv bs → (∀ b ∈ bs, b ∈ bs0) → IsKeys (addG bs0 G H) kv bs
  | _, _, .nil, _ => .nil
  | _, _, .cons r1 r2, h => .cons (by show addG bs0 G H _ = _; unfold addG; rw [if_pos (h _ List.mem_cons_self)]; exact r1) (isKeys_add r2 fun b hb => h b (List.mem_cons_of_mem _ hb))
section
variable {z : Zx} {k : Nat} {a : Expr} {ma : Ev} {p pos : Pos}
def rLstD (K : PySem.W.Frag) : List V → Hp → VK → Prop := fun xs H Q =>
  rLstOf K xs H Q ∨ ((∃ (a : Addr) (kvs : List (Key × V)), xs = [.ref a] ∧ Rd H a (.dK kvs) ∧ ∀ p, H p = none → Q (.ref p) (upd H p (.lst (kvs.map fun kv => kV kv.1)))) ∨
    (∃ d kvs, xs = [V.ref d] ∧ Rd H d (.dT kvs) ∧ ∀ p bs, H p = none → IsKeys H kvs bs → Q (.ref p) (upd H p (.lst (bs.map V.ref)))))
theorem call_lstD {X : Cx} (hc : X.calm = true) : CallR X (.type "list") (rLstD X.K) := callR_or call_list_of (callR_or (call_listD hc) (call_list_dT hc))
theorem sc_lstD : SimC1 z.B (rLstD z.X.K) bLstD := by
  intro Wi ρ G S H x v Q R rx h
  unfold bLstD at h
  split at h
  · rename_i t l
    cases rx with
    | d rx => cases rx with
      | dk h1 h2 h3 =>
        rename_i kv
        refine .inr (.inl ⟨_, kv, rfl, Same.rd R.ex h1, fun q hq => ?_⟩)
        obtain ⟨R2, l2⟩ := R.froz (.lst (kv.map fun kv => kV kv.1)) hq
        exact h _ _ _ _ l2 R2 (.d (.lst upd_same (keysK_L h2)))
      | dt h1 h2 h3 =>
        rename_i kv
        refine .inr (.inr ⟨_, kv, rfl, Same.rd R.ex h1, fun q bs hq ik => ?_⟩)
        obtain ⟨R1, l1⟩ := R.addT (keys_mem ik)
        obtain ⟨R2, l2⟩ := R1.froz (.lst (bs.map V.ref)) hq
        exact h _ _ _ _ (l1.trans l2) R2 (.d (.lst upd_same ((keysT_L h2 (isKeys_add ik fun _ h => h)).mono l2.ex)))
  · exact .inl (sc_lst Wi ρ G S H x v Q R rx h)
theorem kListD (ctx : Ctx k z) (hg : Gl z.X "list") (hm : z.X.mg "list" = none) (ha : OkE z a ma) (hs : starEach [a] z.X.env = (false, eval a z.X.env) :: starEach [] z.X.env := by rfl) : OkE z (.Call (.Name "list" p) [a] [] pos) (e1 bLstD ma) := kT1 (call_lstD ctx.calm) sc_lstD boot_list hg hm ha (hs := hs)
end
end B
/-! raise, try. -/
namespace B
open PySem L2 PySem.Spec PyProof.Rows
/-! ### raise -/
def sRaise (c : Nat) : Sx := fun e s => .ok (.xx ⟨c, []⟩ e s)
/-- a class whose instances are raised, made with a text -/
structure XOwn (K : PySem.W.Frag) (C : Addr) : Prop where
  q : PySem.W.excIn K C He.veBase "ValueError.__new__" = true
  k : PySem.W.keepIn K (.ref C) = true
  b : PySem.W.subIn K (.ref C) (.type "BaseException") = some true
  t : PySem.W.typeIn K (.ref C) = some (.type "type")
theorem xown_of {K : PySem.W.Frag} {x : Str} (c : (He.Fa.exc x).ok K = true) : XOwn K (He.ga K x) := by
  obtain ⟨h1, h2, h3, h4⟩ := He.exc_ok c
  exact ⟨h1, h2, h3, h4⟩
section
variable {z : Zx} {k : Nat}
theorem sRaiseOk (ctx : Ctx k z) (c : Nat) {x m : Str} {C : Addr} {j : Nat} {p p2 pos pos' : Pos} (X : XOwn z.X.K C) (hx : z.xc c = .ref C) (gC : z.X.mg x = some (.ref C)) (hg : Gl z.X x) (hdb : (x == ("__debug__" : Str)) = false := by decide) :
    OkS z (.Raise (some (.Call (.Name x p) [.Constant (.str m) j p2] [] pos)) none pos') (sRaise c) :=
  ok_s (ps_raise ctx.calm ctx.tk (pmk_own PySem.F.excBase_ValueError X.q gC X.k (raises_own X.b X.t) hg hdb)) fun ρ G S H env σ D R E h => h ρ G H σ (.ref C) none (Le.refl _ _ _) R E ⟨hx.symm, .inl ⟨rfl, rfl⟩⟩
end
/-! ### try -/
def setN (i : Option Nat) (e : Env) : Env := match i with
  | some i => e.set i none | none => e
def inN (i : Option Nat) (e : Env) : Bool := match i with
  | some i => decide (i < e.length) | none => true
def unb (i : Option Nat) (r : R O) : R O := match r with
  | .ok (.nx e s) => .ok (.nx (setN i e) s)
  | .ok (.bk e s) => .ok (.bk (setN i e) s)
  | .ok (.ct e s) => .ok (.ct (setN i e) s)
  | .ok (.rt w s) => .ok (.rt w s)
  | _ => .stuck
/-- try: b, except a class as told by tbl: h; i: the slot of the name, if there is one -/
def sTry (i : Option Nat) (tbl : List Bool) (b : Sx) (h : Exc → Sx) : Sx := fun e s => match b e s with
  | .ok (.xx x e1 s1) => (match tbl[x.cls]? with
    | some true => need (inN i e1) (unb i (h x (setN i e1) s1))
    | some false => .ok (.xx x e1 s1)
    | none => .stuck)
  | r => r
/-- in a try's body -/
abbrev zTr (z : Zx) (W : L2.WX) (pn : List (Addr × Obj)) (xe : Value → Shared → Prop) : Zx := ⟨z.X.tr pn xe, z.xc, z.oc, W, z.pin⟩
/-- in an except suite -/
abbrev zSu (z : Zx) (pin : Option (Nat × V × Option Hp)) (a : Addr) (oe : Obj) (pn : List (Addr × Obj)) : Zx := ⟨z.X.suite a ((a, oe) :: pn), z.xc, z.oc, fun _ _ _ _ => False, pin⟩
/-- what a caught exception is: its fields in a heap that never changes -/
structure Caught (z : Zx) (x : Exc) (oe : Obj) (d : Option Addr) (G0 : Hp) : Prop where
  hz : Zc (z.xc x.cls) d oe
  hf : ∃ vs, oe.data = .fields vs
  hd : (x.fs = [] ∧ d = none) ∨ ∃ ad vs, d = some ad ∧ G0 ad = some (.xd vs) ∧ x.fs.map (fun p => sof p.1) = vs.map (·.1) ∧ RepL z.X.K G0 (x.fs.map (·.2)) (vs.map (·.2))
section
variable {z : Zx} {k : Nat}
theorem Rel.addX {B : Bx} {ρ : List Addr} {G H : Hp} {S : Sto} (R : Rel B ρ G S H) {ad : Addr} {fs : List (Str × V)} (h : H ad = some (.xd fs)) : Rel B ρ (addG [ad] G H) S H ∧ Le ρ G H ρ (addG [ad] G H) H := by
  have yes : addG [ad] G H ad = H ad := if_pos (by simp)
  have no : ∀ {a}, a ≠ ad → addG [ad] G H a = G a := fun {a} ha => if_neg (by simpa using ha)
  have sg : Same G (addG [ad] G H) := fun a o e => by
    by_cases ha : a = ad
    · subst ha; rw [yes]; exact R.ex a o e
    · rw [no ha]; exact e
  have out : ∀ {a}, a ∈ ρ → a ≠ ad := fun {a} ha hb => by
    subst hb
    exact (R.noTX ha).2 fs h
  refine ⟨⟨fun a o e => ?_, R.len, R.nd, fun a ha => by rw [no (out ha)]; exact R.off a ha, fun n c hc => ?_⟩, ⟨⟨[], by simp, by simp⟩, sg, fun a h1 h2 h3 => ?_, fun _ h => h, fun _ _ _ h => h⟩⟩
  · by_cases ha : a = ad
    · subst ha; rw [yes] at e; exact e
    · rw [no ha] at e; exact R.ex a o e
  · obtain ⟨a, h1, h2⟩ := R.cell n c hc
    exact ⟨a, h1, CellR.mono (fun _ _ h => h) sg rfl h2⟩
  · by_cases ha : a = ad
    · subst ha
      rcases h3 with h3 | h3
      · exact absurd rfl (out h3)
      · exact absurd h (h3.2 fs)
    · rw [no ha]; exact h1
theorem envUn {B : Bx} {ρ : List Addr} {G : Hp} {env : Env} {σ : L2.St} {i : Nat} {o : Option V} {B' : Bx} (E : EnvR B' ρ G env σ) (hk : B'.K = B.K) (hp : B.pin = none) : EnvR B ρ G (env.set i none) (σ.set i o) := by
  refine ⟨by simp [E.1], fun j w e => ?_, fun p q => by rw [hp] at q; cases q⟩
  by_cases hj : i = j
  · subst hj
    obtain ⟨h1, _⟩ := List.getElem?_eq_some_iff.mp e
    rw [List.getElem?_set_self (by simpa using h1)] at e
    cases e
  · rw [List.getElem?_set_ne hj] at e ⊢
    obtain ⟨v, h1, h2⟩ := E.2.1 j w e
    exact ⟨v, h1, hk ▸ h2⟩
/-- the suite's reading -/
def tSu (z : Zx) (i : Option Nat) (tbl : List Bool) (mh : Exc → Sx) (a : Addr) (cls : Value) (d : Option Addr) : TS := fun D σ H => ∃ (x : Exc) (ρ : List Addr) (G : Hp) (S : Sto) (env : Env),
  cls = z.xc x.cls ∧ tbl[x.cls]? = some true ∧ ((x.fs = [] ∧ d = none) ∨ ∃ ad vs, d = some ad ∧ G ad = some (.xd vs) ∧ x.fs.map (fun p => sof p.1) = vs.map (·.1) ∧ RepL z.X.K G (x.fs.map (·.2)) (vs.map (·.2))) ∧
  Rel z.B ρ G S H ∧ EnvR ⟨z.X.K, z.xc, z.oc, i.map fun i => (i, .ref a, some G)⟩ ρ G env σ ∧ PostS ⟨z.X.K, z.xc, z.oc, i.map fun i => (i, .ref a, some G)⟩ (fun _ _ _ _ => False) ρ G H (mh x env S) D
theorem su_ok {i : Option Nat} {tbl : List Bool} {mh : Exc → Sx} {suite : List Stmt}
    (hsu : ∀ (a : Addr) (oe : Obj) (d : Option Addr) (pn : List (Addr × Obj)) (x : Exc) (G0 : Hp), tbl[x.cls]? = some true → Caught z x oe d G0 → OkSs (zSu z (i.map fun i => (i, .ref a, some G0)) a oe pn) suite (mh x)) :
    ∀ (a : Addr) (oe : Obj) (cls : Value) (d : Option Addr) (pn : List (Addr × Obj)), Zc cls d oe → (∃ vs, oe.data = .fields vs) → PSs (z.X.suite a ((a, oe) :: pn)) suite (tSu z i tbl mh a cls d) := fun a oe cls d pn hz hf =>
  ⟨fun pins st σ H D I ⟨x, ρ, G, S, env, e1, e2, e3, R, E, q⟩ => (hsu a oe d pn x G e2 ⟨e1 ▸ hz, hf, e3⟩).run pins st σ H D I ⟨ρ, G, S, env, R.unpin, E, q⟩⟩
theorem try_sim {i : Option Nat} {tbl : List Bool} {mb : Sx} {mh : Exc → Sx} {W : L2.WX} {D : Ends} (hpin : z.pin = none) {c : Value} (ht : ∀ m b, tbl[m]? = some b → PySem.W.exmOne z.X.K (z.xc m) c = some b)
    {fin : Ends → Ends} {ent : L2.St → Addr → L2.St}
    (hf : ∀ D : Ends, (∀ v H, D.rt v H → (fin D).rt v H) ∧ (i = none → fin D = D) ∧ ∀ j, i = some j → fin D = { nx := fun σ' H' => D.nx (σ'.set j none) H', rt := D.rt, bk := fun σ' H' => D.bk (σ'.set j none) H', ct := fun σ' H' => D.ct (σ'.set j none) H' })
    (he : ∀ σ a, (i = none → ent σ a = σ) ∧ ∀ j, i = some j → ent σ a = σ.set j (some (.ref a)))
    (hW : ∀ cls d σ H, (∃ b, PySem.W.exmOne z.X.K cls c = some b ∧ (b = true → ∀ a, H a = none → tSu z i tbl mh a cls d (fin D) (ent σ a) H) ∧ (b = false → z.Wi cls d σ H)) → W cls d σ H)
    {ρ : List Addr} {G : Hp} {S : Sto} {H : Hp} {env : Env} (h : PostS z.B z.Wi ρ G H (sTry i tbl mb mh env S) D) : PostS z.B W ρ G H (mb env S) D := by
  unfold sTry at h
  cases e : mb env S with
  | stuck => rw [e] at h; exact h
  | ex x s => rw [e] at h; exact h
  | ok o =>
    rw [e] at h
    cases o with
    | nx e1 s1 => exact h
    | bk e1 s1 => exact h
    | ct e1 s1 => exact h
    | rt w s1 => exact h
    | xx x e1 s1 =>
      intro ρ1 G1 H1 σ1 cls d l1 R1 E1 rx
      obtain ⟨rc, rd⟩ := rx
      simp only at h
      cases et : tbl[x.cls]? with
      | none => rw [et] at h; exact False.elim h
      | some b =>
        rw [et] at h
        refine hW _ _ _ _ ⟨b, by rw [rc]; exact ht _ _ et, fun eb a na => ?_, fun eb => ?_⟩
        · subst eb
          simp only at h
          cases en : inN i e1 with
          | false => rw [en] at h; exact False.elim h
          | true =>
            rw [en, need_true] at h
            -- the fields come to what never changes
            obtain ⟨G2, R2, l2, rd2⟩ : ∃ G2, Rel z.B ρ1 G2 s1 H1 ∧ Le ρ1 G1 H1 ρ1 G2 H1 ∧ ((x.fs = [] ∧ d = none) ∨ ∃ ad vs, d = some ad ∧ G2 ad = some (.xd vs) ∧ x.fs.map (fun p => sof p.1) = vs.map (·.1) ∧ RepL z.X.K G2 (x.fs.map (·.2)) (vs.map (·.2))) := by
              rcases rd with rd | ⟨ad, vs, d1, d2, d3, d4⟩
              · exact ⟨G1, R1, Le.refl _ _ _, .inl rd⟩
              · obtain ⟨R2, l2⟩ := R1.addX d2
                exact ⟨_, R2, l2, .inr ⟨ad, vs, d1, by unfold addG; rw [if_pos (by simp)]; exact d2, d3, d4.mono l2.ex⟩⟩
            have E2 := l2.env E1
            have h := postS_le (l1.trans l2) h
            refine ⟨x, ρ1, G2, s1, setN i e1, rc, et, rd2, R2, ?_, ?_⟩
            · cases i with
              | none =>
                rw [(he σ1 a).1 rfl]
                exact ⟨E2.1, E2.2.1, fun p q => by cases q⟩
              | some j =>
                rw [(he σ1 a).2 j rfl]
                have hj : j < σ1.length := by rw [← E2.1]; exact of_decide_eq_true en
                refine ⟨by simp [setN, E2.1], (envUn (B := z.B) (i := j) (o := some (.ref a)) E2 rfl hpin).2.1, fun p q => ?_⟩
                cases q
                exact ⟨List.getElem?_set_self hj, fun q hq => by cases hq; exact fun _ _ h => h⟩
            · cases eh : mh x (setN i e1) s1 with
              | stuck => rw [eh] at h; exact False.elim h
              | ex y s => rw [eh] at h; exact False.elim h
              | ok o =>
                rw [eh] at h
                have f1 := hf D
                cases i with
                | none =>
                  rw [f1.2.1 rfl]
                  have un : ∀ {ρ' : List Addr} {G' : Hp} {env : Env} {σ : L2.St}, EnvR ⟨z.X.K, z.xc, z.oc, none⟩ ρ' G' env σ → EnvR z.B ρ' G' env σ := fun E => ⟨E.1, E.2.1, fun p q => by rw [show z.B.pin = none from hpin] at q; cases q⟩
                  cases o with
                  | nx e2 s2 => exact fun ρ' G' H' σ' l R E => h ρ' G' H' σ' l R.unpin (un E)
                  | bk e2 s2 => exact fun ρ' G' H' σ' l R E => h ρ' G' H' σ' l R.unpin (un E)
                  | ct e2 s2 => exact fun ρ' G' H' σ' l R E => h ρ' G' H' σ' l R.unpin (un E)
                  | rt w s2 => exact fun ρ' G' H' v l R r => h ρ' G' H' v l R.unpin r
                  | xx y e2 s2 => exact False.elim h
                | some j =>
                  rw [f1.2.2 j rfl]
                  cases o with
                  | nx e2 s2 => exact fun ρ' G' H' σ' l R E => h ρ' G' H' _ l R.unpin (envUn (B := z.B) E rfl hpin)
                  | bk e2 s2 => exact fun ρ' G' H' σ' l R E => h ρ' G' H' _ l R.unpin (envUn (B := z.B) E rfl hpin)
                  | ct e2 s2 => exact fun ρ' G' H' σ' l R E => h ρ' G' H' _ l R.unpin (envUn (B := z.B) E rfl hpin)
                  | rt w s2 => exact fun ρ' G' H' v l R r => h ρ' G' H' v l R.unpin r
                  | xx y e2 s2 => exact False.elim h
        · subst eb
          exact h ρ1 G1 H1 σ1 cls d l1 R1 E1 ⟨rc, rd⟩
/-- try: body / except X as n: suite -/
theorem sTryAsOk (ctx : Ctx k z) (i : Nat) {x n : Str} {c : Value} {tbl : List Bool} {body suite : List Stmt} {b₀ : Stmt} {np pos pos' : Pos} {mb : Sx} {mh : Exc → Sx}
    (hpin : z.pin = none) (hs : z.X.stack = z.X.env :: z.X.outer) (hfr : z.X.env.frame = some z.X.env.locals) (hi : z.X.N[i]? = some n) (hln : z.X.env.kindOf n = some .local) (hc : Names z.X x c)
    (ht : ∀ m b, tbl[m]? = some b → PySem.W.exmOne z.X.K (z.xc m) c = some b)
    (hb : ∀ (W : L2.WX) (pn : List (Addr × Obj)) (xe : Value → Shared → Prop), Ctx k (zTr z W pn xe) → OkSs (zTr z W pn xe) body mb)
    (hsu : ∀ (a : Addr) (oe : Obj) (d : Option Addr) (pn : List (Addr × Obj)) (x : Exc) (G0 : Hp), tbl[x.cls]? = some true → Caught z x oe d G0 → OkSs (zSu z (some (i, .ref a, some G0)) a oe pn) (b₀ :: suite) (mh x)) :
    OkS z (.Try body [.ExceptHandler (some (.Name x np)) (some n) (b₀ :: suite) pos'] [] [] pos) (sTry (some i) tbl mb mh) :=
  ok_s (ps_try_as (tb := fun W => tsOf z.B W mb) hs hfr ctx.nd hi hln hc ctx.tk (fun W pn xe tk po => hb W pn xe ⟨ctx.hr, tk, ctx.calm, ctx.nd, po⟩) (su_ok (i := some i) hsu))
    fun ρ G S H env σ D R E h => ⟨ρ, G, S, env, R, E, try_sim (i := some i) hpin ht (fin := fun D => { nx := fun σ' H' => D.nx (σ'.set i none) H', rt := D.rt, bk := fun σ' H' => D.bk (σ'.set i none) H', ct := fun σ' H' => D.ct (σ'.set i none) H' })
      (ent := fun σ a => σ.set i (some (.ref a))) (fun D => ⟨fun _ _ h => h, fun e => (by cases e), fun j e => (by cases e; rfl)⟩) (fun σ a => ⟨fun e => (by cases e), fun j e => (by cases e; rfl)⟩) (fun _ _ _ _ h => h) h⟩
/-- try: body / except X: suite -/
theorem sTryOnlyOk (ctx : Ctx k z) {x : Str} {c : Value} {tbl : List Bool} {body suite : List Stmt} {b₀ : Stmt} {np pos pos' : Pos} {mb : Sx} {mh : Exc → Sx}
    (hpin : z.pin = none) (hs : z.X.stack = z.X.env :: z.X.outer) (hfr : z.X.env.frame = some z.X.env.locals) (hc : Names z.X x c)
    (ht : ∀ m b, tbl[m]? = some b → PySem.W.exmOne z.X.K (z.xc m) c = some b)
    (hb : ∀ (W : L2.WX) (pn : List (Addr × Obj)) (xe : Value → Shared → Prop), Ctx k (zTr z W pn xe) → OkSs (zTr z W pn xe) body mb)
    (hsu : ∀ (a : Addr) (oe : Obj) (d : Option Addr) (pn : List (Addr × Obj)) (x : Exc) (G0 : Hp), tbl[x.cls]? = some true → Caught z x oe d G0 → OkSs (zSu z none a oe pn) (b₀ :: suite) (mh x)) :
    OkS z (.Try body [.ExceptHandler (some (.Name x np)) none (b₀ :: suite) pos'] [] [] pos) (sTry none tbl mb mh) :=
  ok_s (ps_try_only (tb := fun W => tsOf z.B W mb) hs hfr hc ctx.tk (fun W pn xe tk po => hb W pn xe ⟨ctx.hr, tk, ctx.calm, ctx.nd, po⟩) (su_ok (i := none) hsu))
    fun ρ G S H env σ D R E h => ⟨ρ, G, S, env, R, E, try_sim (i := none) hpin ht (fin := fun D => D) (ent := fun σ a => σ) (fun D => ⟨fun _ _ h => h, fun e => rfl, fun j e => (by cases e)⟩) (fun σ a => ⟨fun e => rfl, fun j e => (by cases e)⟩) (fun _ _ _ _ h => h) h⟩
end
end B
/-! In an except suite: isinstance(e, ..), e.f. -/
namespace B
open PySem L2 PySem.Spec PyProof.Rows
/-- the exception a, its class D, its fields at d -/
def XThere (d : Option Addr) (H : Hp) : Prop := d = none ∨ ∃ ad fs, d = some ad ∧ H ad = some (.xd fs)
def rIsX (K : PySem.W.Frag) (D a : Addr) (d : Option Addr) : List V → Hp → VK → Prop := fun xs H Q => XThere d H ∧
  ((∃ (c : V) (u : Value) (b : Bool), xs = [.ref a, c] ∧ ClsV c u ∧ PySem.W.kitOne K (.ref D) u = some b ∧ Q (.bl b) H) ∨
   (∃ (tp : Addr) (cs : List V) (us : List Value) (b : Bool), xs = [.ref a, .ref tp] ∧ H tp = some (.tup cs) ∧ Paired ClsV cs us ∧ PySem.W.kitAny K (.ref D) us = some b ∧ Q (.bl b) H))
theorem call_isX {X : Cx} {a D : Addr} {oe : Obj} {d : Option Addr} {pn : List (Addr × Obj)} (C : ExcC X.K D) (hz : Zc (.ref D) d oe) (hf : ∃ vs, oe.data = .fields vs) : CallR (X.suite a ((a, oe) :: pn)) (.builtin "isinstance") (rIsX X.K D a d) := by
  intro pins s σ H xs us Q I r h
  obtain ⟨hd, h⟩ := h
  obtain ⟨hget, _⟩ := I.pin (a, oe) (List.mem_append.mpr (.inl List.mem_cons_self))
  obtain ⟨vs, hv⟩ := hf
  have hcl : (PySem.W.clsIn X.K D).isSome = true := by
    obtain ⟨cd, hc, _⟩ := PySem.W.any_some C.hd
    rw [hc]; rfl
  have J : ∃ od, PySem.W.InstAt s.heap a oe D od := by
    rcases hd with hd | ⟨ad, fs, hd, ea⟩
    · subst hd
      refine ⟨none, ?_⟩
      obtain ⟨oc, od, oda, osl⟩ := oe
      obtain ⟨h1, h2⟩ := hz
      dsimp only at h1 h2 hv
      subst h1 h2 hv
      exact ⟨hget, rfl, rfl, trivial⟩
    · subst hd
      obtain ⟨mA, hns, hr⟩ := (show ObjOk X.prog X.w H s.heap ad (.xd fs) from I.hok ad _ ea)
      obtain ⟨od, ho, hl⟩ := lookIn_ns hns
      exact ⟨some od, hget, hz.1, by unfold PySem.W.notCls; rw [hv] <;> rfl, by rw [hz.2]; exact ho⟩
  obtain ⟨od, J⟩ := J
  have Z := PySem.W.kitx_exc (x := a) (ox := oe) (od := od) hcl C.hg C.hk C.hs C.ha C.hn C.ht C.hm
  rcases h with ⟨c, u, b, rfl, k, e, q⟩ | ⟨tp, cs, ws, b, rfl, hT, k, e, q⟩
  · obtain ⟨u1, u2, rfl, r1, r2⟩ := vals2 r
    cases (show u1 = Value.ref a from r1)
    have e2 := k.eq r2
    subst e2
    exact PySem.W.kia_one Z I.kIn J e (fun z => nomatch z) fun tk => ⟨.bl b, H, I.tok tk, rfl, q⟩
  · obtain ⟨u1, u2, rfl, r1, r2⟩ := vals2 r
    cases (show u1 = Value.ref a from r1)
    cases (show u2 = Value.ref tp from r2)
    obtain ⟨_, its, rv, o, h1, h2, n, h3⟩ := (show ObjOk X.prog X.w H s.heap tp (.tup cs) from I.hok tp _ hT)
    have e3 := ClsV.all k rv
    subst e3
    obtain ⟨oc, od2, dt, sl⟩ := o
    simp only at h2 h3
    subst h2 h3
    exact PySem.W.kia_tup Z I.kIn J h1 e (fun z => nomatch z) fun tk => ⟨.bl b, H, I.tok tk, rfl, q⟩
/-- what isinstance tells of the caught one: by its class's number -/
def eIsX (tb : List Bool) (m : Nat) : Ev := fun _ s => match tb[m]? with
  | some b => .ok (.d (.bl b), s) | none => .stuck
/-- e.f -/
def eXf (f : List Nat) (x : Exc) : Ev := fun _ s => match x.fs.lookup f with
  | some d => .ok (.d d, s) | none => .stuck
def taC (vs : List V) : TA := fun _ H Q => Q vs H
theorem paC_nil {X : Cx} : PA X [] (taC []) := pa_nil
theorem paC_cons {X : Cx} {e : Expr} {es : List Expr} {v : V} {vs : List V} (h : PE X e (tC v)) (hr : PA X es (taC vs)) (hs : starEach (e :: es) X.env = (false, eval e X.env) :: starEach es X.env := by rfl) : PA X (e :: es) (taC (v :: vs)) := pa_cons h hr hs
section
variable {z : Zx} {i : Nat} {a : Addr} {oe : Obj} {pn : List (Addr × Obj)} {x : Exc} {d : Option Addr} {G0 : Hp} {n : Str} {p p1 p2 pos : Pos} {tb : List Bool}
theorem caught_there {ρ : List Addr} {G H : Hp} {S : Sto} {env : Env} {σ : L2.St} (hC : Caught z x oe d G0) (R : Rel (zSu z (some (i, .ref a, some G0)) a oe pn).B ρ G S H) (E : EnvR (zSu z (some (i, .ref a, some G0)) a oe pn).B ρ G env σ) :
    σ[i]? = some (some (.ref a)) ∧ Same G0 G ∧ XThere d H := by
  obtain ⟨h1, h2⟩ := E.2.2 _ rfl
  have h3 := h2 G0 rfl
  refine ⟨h1, h3, ?_⟩
  rcases hC.hd with ⟨_, e⟩ | ⟨ad, vs, e, e2, _⟩
  · exact .inl e
  · exact .inr ⟨ad, vs, e, R.ex _ _ (h3 _ _ e2)⟩
def TblOk (P : Nat → Bool → Prop) : Nat → List Bool → Prop
  | _, [] => True
  | n, b :: r => P n b ∧ TblOk P (n + 1) r
theorem tb_nil {P : Nat → Bool → Prop} {n : Nat} : TblOk P n [] := True.intro
theorem tb_cons {P : Nat → Bool → Prop} {n : Nat} {b : Bool} {r : List Bool} (h : P n b) (t : TblOk P (n + 1) r) : TblOk P n (b :: r) := ⟨h, t⟩
theorem tbl_get {P : Nat → Bool → Prop} : ∀ {l : List Bool} {n : Nat}, TblOk P n l → ∀ (m : Nat) (b : Bool), l[m]? = some b → P (n + m) b
  | [], _, _, m, b, h => by simp at h
  | c :: l, n, t, 0, b, h => by simp at h; subst h; exact t.1
  | c :: l, n, t, m + 1, b, h => by
    have := tbl_get t.2 m b (by simpa using h)
    rw [show n + 1 + m = n + (m + 1) by omega] at this
    exact this
theorem tbl_get0 {P : Nat → Bool → Prop} {l : List Bool} (t : TblOk P 0 l) (m : Nat) (b : Bool) (h : l[m]? = some b) : P m b := by
  have := tbl_get t m b h
  rwa [Nat.zero_add] at this
theorem never_e {z : Zx} {e : Expr} {m : Ev} (h : ∀ env s, m env s = .stuck) : OkE z e m := ⟨fun pins st σ H Q I ⟨ρ, G, S, env, R, E, q⟩ => by rw [h] at q; exact False.elim q⟩
/-- isinstance(e, C) -/
theorem kIsX {y : Str} {v : V} {cv : Value} (hC : Caught z x oe d G0) (kv : ClsV v cv) (F : TblOk (fun m b => ∃ D, z.xc m = .ref D ∧ ExcC z.X.K D ∧ PySem.W.kitOne z.X.K (.ref D) cv = some b) 0 tb)
    (hN : z.X.N[i]? = some n) (hvis : Vis z.X.env.scope n) (hg : Gl z.X "isinstance") (hm : z.X.mg "isinstance" = none) (hcl : PE (zSu z (some (i, .ref a, some G0)) a oe pn).X (.Name y p2) (tC v))
    (hd : (n == ("__debug__" : Str)) = false := by decide) (hcd : (n == ("__classdict__" : Str)) = false := by decide)
    (hs : starEach [.Name n p1, .Name y p2] z.X.env = (false, eval (.Name n p1) z.X.env) :: starEach [.Name y p2] z.X.env := by rfl) (hs2 : starEach [.Name y p2] z.X.env = (false, eval (.Name y p2) z.X.env) :: starEach [] z.X.env := by rfl)
    (hpl : (backTo pos (starEach [.Name y p2] z.X.env)).any (·.1) = false := by rfl) :
    OkE (zSu z (some (i, .ref a, some G0)) a oe pn) (.Call (.Name "isinstance" p) [.Name n p1, .Name y p2] [] pos) (eIsX tb x.cls) := by
  cases hb : tb[x.cls]? with
  | none => exact never_e fun _ _ => by unfold eIsX; rw [hb]
  | some b =>
  obtain ⟨D, hx, C, hk⟩ := tbl_get0 F _ _ hb
  have hz := hC.hz
  rw [hx] at hz
  refine ok_e (pe_callB (call_isX C hz hC.hf) hg hm boot_isinstance (pa_cons (pe_var hN hvis hd hcd) (pa_cons hcl pa_nil hs2) hs) (by decide) (by decide) hs hpl) ?_
  intro ρ G S H env σ Q R E h
  obtain ⟨h1, h2, h3⟩ := caught_there hC R E
  unfold eIsX at h
  rw [hb] at h
  exact ⟨.ref a, h1, h3, .inl ⟨v, cv, b, rfl, kv, hk, post_bl R h⟩⟩
/-- isinstance(e, (C, D, ..)) -/
theorem kIsXT {es : List Expr} {j : Nat} {vs : List V} {us : List Value} (hC : Caught z x oe d G0) (kv : Paired ClsV vs us) (F : TblOk (fun m b => ∃ D, z.xc m = .ref D ∧ ExcC z.X.K D ∧ PySem.W.kitAny z.X.K (.ref D) us = some b) 0 tb)
    (hN : z.X.N[i]? = some n) (hvis : Vis z.X.env.scope n) (hg : Gl z.X "isinstance") (hm : z.X.mg "isinstance" = none) (hcl : PA (zSu z (some (i, .ref a, some G0)) a oe pn).X es (taC vs)) (hl : vs.length ≤ 1000)
    (hd : (n == ("__debug__" : Str)) = false := by decide) (hcd : (n == ("__classdict__" : Str)) = false := by decide)
    (hs : starEach [.Name n p1, .Tuple es j p2] z.X.env = (false, eval (.Name n p1) z.X.env) :: starEach [.Tuple es j p2] z.X.env := by rfl) (hs2 : starEach [.Tuple es j p2] z.X.env = (false, eval (.Tuple es j p2) z.X.env) :: starEach [] z.X.env := by rfl)
    (hpl : (backTo pos (starEach [.Tuple es j p2] z.X.env)).any (·.1) = false := by rfl) :
    OkE (zSu z (some (i, .ref a, some G0)) a oe pn) (.Call (.Name "isinstance" p) [.Name n p1, .Tuple es j p2] [] pos) (eIsX tb x.cls) := by
  cases hb : tb[x.cls]? with
  | none => exact never_e fun _ _ => by unfold eIsX; rw [hb]
  | some b =>
  obtain ⟨D, hx, C, hk⟩ := tbl_get0 F _ _ hb
  have hz := hC.hz
  rw [hx] at hz
  refine ok_e (pe_callB (call_isX C hz hC.hf) hg hm boot_isinstance (pa_cons (pe_var hN hvis hd hcd) (pa_cons (pe_tup hcl) pa_nil hs2) hs) (by decide) (by decide) hs hpl) ?_
  intro ρ G S H env σ Q R E h
  obtain ⟨h1, h2, h3⟩ := caught_there hC R E
  unfold eIsX at h
  rw [hb] at h
  refine ⟨.ref a, h1, by rw [sizeLine_eq]; omega, fun tp htp => ?_⟩
  obtain ⟨R2, l2⟩ := R.grow (.tup vs) htp
  obtain ⟨_, _, h3'⟩ := caught_there hC R2 (l2.env E)
  exact ⟨h3', .inr ⟨tp, vs, us, b, rfl, upd_same, kv, hk, h _ _ _ _ l2 R2 (.d (.bl b))⟩⟩
/-- e.f -/
theorem kXf {f : Str} {fl : List Nat} {tbl : List Bool} (hC : Caught z x oe d G0) (hfl : f = sof fl) (ht : tbl[x.cls]? = some true) (F : TblOk (fun m b => b = true → ∃ D, z.xc m = .ref D ∧ XfC z.X.K D ∧ PySem.W.findIn z.X.K (.ref D) f = some none) 0 tbl)
    (hN : z.X.N[i]? = some n) (hvis : Vis z.X.env.scope n) (hd : (n == ("__debug__" : Str)) = false := by decide) (hcd : (n == ("__classdict__" : Str)) = false := by decide)
    (hb : attributeBase (.Name n p1) f z.X.env (eval (.Name n p1) z.X.env) = eval (.Name n p1) z.X.env := by rfl) :
    OkE (zSu z (some (i, .ref a, some G0)) a oe pn) (.Attribute (.Name n p1) f pos) (eXf fl x) := by
  obtain ⟨D, hx, T, hno⟩ := tbl_get0 F _ _ ht rfl
  refine ok_e (pe_xf T hno hC.hz hC.hf (pe_var hN hvis hd hcd) hb) ?_
  intro ρ G S H env σ Q R E h
  obtain ⟨h1, h2, h3⟩ := caught_there hC R E
  refine ⟨.ref a, h1, rfl, hx, ?_⟩
  unfold eXf at h
  rcases hC.hd with ⟨e, _⟩ | ⟨ad, vs, e, e2, e3, e4⟩
  · rw [e] at h; exact False.elim h
  · have key : ∀ (l : List (List Nat × _root_.B.D)) (vs : List (Str × V)), l.map (fun p => sof p.1) = vs.map (·.1) → RepL z.X.K G0 (l.map (·.2)) (vs.map (·.2)) → ∀ y, l.lookup fl = some y → ∃ v, vs.lookup f = some v ∧ Rep z.X.K G0 y v := by
      intro l
      induction l with
      | nil => intro vs _ _ y h; cases h
      | cons q l ih =>
        intro vs h1 h2 y h3
        cases vs with
        | nil => simp at h1
        | cons r vs =>
          simp only [List.map_cons, List.cons.injEq] at h1
          cases h2 with
          | cons g1 g2 =>
            obtain ⟨q1, q2⟩ := q
            obtain ⟨r1, r2⟩ := r
            simp only at h1 g1 g2
            rw [List.lookup_cons] at h3 ⊢
            by_cases c : fl = q1
            · subst c
              rw [beq_self_eq_true] at h3
              cases h3
              refine ⟨r2, ?_, g1⟩
              rw [hfl, h1.1, beq_self_eq_true]
            · have c1 : (fl == q1) = false := by simpa using c
              have c2 : (f == r1) = false := by
                rw [hfl, ← h1.1]
                simpa using fun e => c (sof_inj e)
              rw [c1] at h3
              rw [c2]
              exact ih vs h1.2 g2 y h3
    cases el : x.fs.lookup fl with
    | none => rw [el] at h; exact False.elim h
    | some y =>
      rw [el] at h
      obtain ⟨v, v1, v2⟩ := key _ _ e3 e4 y el
      exact ⟨ad, vs, v, e, R.ex _ _ (h2 _ _ e2), v1, post_d R (v2.mono h2) h⟩
/-- an assignment in a suite -/
theorem sSetOk0 {z : Zx} {e : Expr} {m : Ev} {pos : Pos} {x : Str} {pos' : Pos} (nd : z.X.N.Nodup) (i : Nat) (he : OkE z e m) (hi : z.X.N[i]? = some x) (hx : Loc z.X.env.scope x) (hf : z.X.fn x = true ∨ z.X.env.scope.names.lookup x = some .local) (hp : PinFree z.B i) (hs : swapsWith e (some (.Name x pos')) pos.line z.X.env = pure false := by rfl) : OkS z (.Assign [.Name x pos'] e pos) (sAsg (gN i) m) := ok_s (ps_set nd hi hx he hs hf) (ss_set hp sim_e)
theorem pinFree_ne {B : Bx} {i j : Nat} {v : V} {o : Option Hp} (hb : B.pin = some (j, v, o)) (h : j ≠ i) : PinFree B i := fun p q => by rw [hb] at q; cases q; exact h
end
/-! ### own facts of the written part -/
def xcB (K : PySem.W.Frag) (D : Addr) : Bool := decide (PySem.W.findIn K (.ref D) "__getattribute__" = some (some (.builtin "BaseException.__getattribute__"))) && (decide (PySem.W.findIn K (.ref D) "__getattr__" = some none) &&
  (decide (PySem.W.subIn K (.ref D) (.type "BaseException") = some true) && (PySem.W.hasDictIn K D && (decide (PySem.W.findIn K (.ref D) "__class__" = some (some (.builtin "object.__class__"))) &&
  (decide (PySem.W.specialIn K (.builtin "object.__class__") "__get__" = some (some (.builtin "getset_descriptor.__get__"))) && (decide (PySem.W.takesIn K (.builtin "object.__class__") = some true) && decide (PySem.W.mroIn K D (.type "object") = some true)))))))
theorem xcB_ok {K : PySem.W.Frag} {D : Addr} (h : xcB K D = true) : ExcC K D := by
  obtain ⟨h1, h⟩ := Bool.and_eq_true_iff.mp h
  obtain ⟨h2, h⟩ := Bool.and_eq_true_iff.mp h
  obtain ⟨h3, h⟩ := Bool.and_eq_true_iff.mp h
  obtain ⟨h4, h⟩ := Bool.and_eq_true_iff.mp h
  obtain ⟨h5, h⟩ := Bool.and_eq_true_iff.mp h
  obtain ⟨h6, h⟩ := Bool.and_eq_true_iff.mp h
  obtain ⟨h7, h8⟩ := Bool.and_eq_true_iff.mp h
  exact ⟨of_decide_eq_true h1, of_decide_eq_true h2, of_decide_eq_true h3, h4, of_decide_eq_true h5, of_decide_eq_true h6, of_decide_eq_true h7, of_decide_eq_true h8⟩
abbrev AlX : Type := He.AlD × Bool
def obsX (fa : List He.Fa) (fn : List He.DefD) (xs : List (PySem.W.Frag → Bool)) (K : PySem.W.Frag) : AlX := (He.obsD fa fn K, xs.all fun f => f K)
def valX (fn : List He.DefD) : AlX := (He.valD fn, true)
def obsXG (n : Nat) (fa : List He.Fa) (fn : List He.DefD) (xs : List (PySem.W.Frag → Bool)) (g : Addr → Option Obj) : AlX := obsX fa fn xs (He.frG g (He.asD g n))
def SaysX (fa : List He.Fa) (fn : List He.DefD) (xs : List (PySem.W.Frag → Bool)) (K : PySem.W.Frag) : Prop := obsX fa fn xs K = valX fn
def hookX (n : Nat) (fa : List He.Fa) (fn : List He.DefD) (xs : List (PySem.W.Frag → Bool)) : PySem.W.Hook where
  α := AlX
  obs := fun s => obsXG n fa fn xs s.heap.get?
  val := fun _ => valX fn
  says := fun _ h => ∃ K : PySem.W.Frag, K.In h ∧ SaysX fa fn xs K
  of := fun _ _ e => ⟨_, He.frG_in, e⟩
  keeps := fun _ _ _ ⟨K, hK, c⟩ k => ⟨K, PySem.W.Frag.In.keeps hK k, c⟩
theorem obsXG_eq {n : Nat} {fa : List He.Fa} {fn : List He.DefD} {xs : List (PySem.W.Frag → Bool)} {g : Addr → Option Obj} {s : Shared} (h : ∀ a, g a = s.heap.get? a) : obsXG n fa fn xs g = (hookX n fa fn xs).obs s := by
  have e : g = s.heap.get? := funext h
  rw [e] <;> rfl
section
variable {fa : List He.Fa} {fn : List He.DefD} {xs : List (PySem.W.Frag → Bool)} {K : PySem.W.Frag}
theorem SaysX.d (c : SaysX fa fn xs K) : He.SaysD fa fn K := congrArg (fun z : AlX => z.1) c
theorem SaysX.x (c : SaysX fa fn xs K) (i : Nat) {f : PySem.W.Frag → Bool} (h : xs[i]? = some f := by rfl) : f K = true := List.all_eq_true.mp (show (xs.all fun f => f K) = true from congrArg (fun z : AlX => z.2) c) f (List.mem_of_getElem? h)
end
theorem law_endX {rw : PySem.W.OpenLaw} {w : World} {mg : Str → Option Value} {fa : Addr} {h : Heap} {K : PySem.W.Frag} {Y : PySem.W.Frag → Prop} (xc : PySem.W.Frag → Nat → Value) {Tx : PySem.W.Frag → (Str → Option Value) → Prop} {k : Nat} {f : Fn} {qual : Str} {params : Arguments} {body : List Stmt} {scope : Scope} {x : Str}
    (KX : K.In h) (G : h.Ns mainGlobals mg) (hmg : mg ("law" : Str) = some (.ref fa)) (c : Y K)
    (tx : ∀ {K : PySem.W.Frag} {h : Heap} {mg : Str → Option Value}, K.In h → h.Ns mainGlobals mg → Y K → Tx K mg)
    (d : ∀ {K : PySem.W.Frag} {mg : Str → Option Value}, Tx K mg → ∃ fd, FunD K "law" qual params body scope [] [] (He.ga K "law") fd)
    (g : ∀ {K : PySem.W.Frag} {mg : Str → Option Value}, Tx K mg → mg "law" = some (.ref (He.ga K "law")))
    (hbind : ∀ (kV doc pm : Value) (an : Option Addr) (cdv ct : Value) (us : List Value), us.length = [x].length → bindArgs (PySem.W.fnOf "law" qual params body scope .none kV doc pm an cdv ct) ⟨us, []⟩ = pure ([x].zip us))
    (F : ∀ (T : Tx K mg) (base : Heap), FnB rw.prog w K mg base (xc K) (fun _ => 0) k "law" [x] f)
    (ok : ∀ ns : List Int, ns.length ≤ 63 → f [.d (.inp (ns.map .int))] [] = .ok (.d (.bl true), [])) :
    ∃ (K : PySem.W.Frag) (fd : FuncData) (sp : Sp), K.In h ∧ (∀ (s : Shared) (u : Value), BindsTo s fd ⟨[u], []⟩ [(x, u)]) ∧
        (∀ (H : Hp) (a : Addr) (ns : List Int), ns.length ≤ 63 → Only H → SqL K H a (ns.map V.int) → sp [.ref a] H (fun v _ => v = .bl true) fun _ _ _ => False) ∧
        ∀ base : Heap, K.In base → base.Ns mainGlobals mg → FnOk rw.prog w K mg base CX0 k fa fd [x] sp := by
  have T := tx KX G c
  obtain ⟨fd, FD⟩ := d T
  have e := hmg.symm.trans (g T)
  cases e
  refine ⟨K, fd, fun vs H Q _ => spM ⟨K, xc K, fun _ => 0, none⟩ 1 f vs H Q fun _ _ _ => False, KX, fun s u => FunD.bindsA (ps := [x]) FD hbind s [u] rfl, fun H a ns hl _ hS => ?_, fun base _ _ => ?_⟩
  · refine ⟨rfl, [], H, [], [.d (.inp (ns.map .int))], rel_nil fun _ _ h => h, .cons (.d (.inp hS (ints_int ns))) .nil, ?_⟩
    rw [ok ns hl]
    intro ρ' G' H' v le R r
    exact rep_bl r
  · obtain ⟨a, fd2, h1, h2, ⟨oc2, od2, osl2, h3⟩, _, h4⟩ := F T base
    have e1 := h1.symm.trans (g T)
    cases e1
    obtain ⟨oc, od, osl, lk⟩ := lkOf FD
    rw [lk] at h3
    cases h3
    exact no_x h4
end B
/-! list(it), it an iterator: a range from its end. -/
namespace B
open PySem L2 PySem.Spec PyProof.Rows
section
variable {prog : Program} {w : World} {A : Around} {E : Value → Shared → Prop} {s : Shared}
theorem call_hint_ra {I : Addr} {lo left c : Int} {Q : Value → Shared → Prop} (hit : IsRangeIter s.heap I lo left c) (h : Q (.int left s.toks) { s with toks := s.toks + 1 }) :
    wpAny (model prog w) A (call (.builtin "range_iterator.__length_hint__") [.ref I]) Q E s := by
  have hT : s.TypeIs (.ref I) "range_iterator" := ⟨_, hit, rfl⟩
  have hd : ({ cls := .type "range_iterator", data := .fields #[rawInt lo, rawInt left, rawInt c] } : Obj).data = .fields #[rawInt lo, rawInt left, rawInt c] := rfl
  refine wpAny_call_entry PySem.F.slot_range_iterator_length_hint hT PySem.F.entry_range_iterator_length_hint ?_ (PySem.F.args_range_iterator_length_hint_1 _)
  obtain ⟨hp, g, d, tk, os⟩ := s
  unfold Builtin.«range_iterator.__length_hint__»
  wp_walk using wpAny_field hit hd (x := rawInt left) rfl
  exact ⟨_, rfl, h⟩
theorem hint_rait {I : Addr} {lo left c : Int} {Q : Bool → Shared → Prop} (hit : IsRangeIter s.heap I lo left c) (hl : Builtin.List.listTooLong left.toNat = false) (h : ∀ tk, Q false { s with toks := tk }) : wpAny (model prog w) A (Builtin.List.listLengthHint (.ref I)) Q E s := by
  have hT : s.TypeIs (.ref I) "range_iterator" := ⟨_, hit, rfl⟩
  unfold Builtin.List.listLengthHint
  refine wpAny_bind (wpAny_specialOf hT PySem.F.nolen_ra ?_)
  show wpAny _ A (specialOf (Value.ref I) (Str.ofString "__length_hint__") >>= _) _ _ _
  refine wpAny_bind (wpAny_specialOf hT PySem.F.hint_ra ?_)
  (generalize hid : ("range_iterator.__length_hint__" : String) = id0; (fail_if_success (clear hid id0)); wp_delta; rw [show splitId id0 = some ("range_iterator", "__length_hint__") from by subst hid; decide +kernel]; subst hid)
  refine wpAny_bind (wpAny_isInstance (b := true) hT (by rw [isSubtype_type]; kernel_rfl) ?_)
  show wpAny _ A (call (.builtin "range_iterator.__length_hint__") [.ref I] >>= _) _ _ _
  refine wpAny_bind (call_hint_ra hit ?_)
  refine wpAny_bind (m := asInt? (.int left s.toks)) (wpAny_pure ?_)
  dsimp only
  rw [if_neg (by rw [hl]; decide)]
  exact wpAny_pure (h _)
variable {T : String} {it : Addr} {ds : List Addr} {n : Nat} {P : Nat → Value → Prop} {St : Nat → Heap → Prop}
/-- an iterator that a list is made of -/
structure ItSrc (prog : Program) (w : World) (A : Around) (T : String) (it : Addr) (ds : List Addr) (n : Nat) (P : Nat → Value → Prop) (St : Nat → Heap → Prop) : Prop where
  wk : PySem.Walks prog w A it (it :: ds) [it] n P St
  ty : ∀ s : Shared, St 0 s.heap → s.TypeIs (.ref it) T
  nl : (Value.type T == Value.type "list") = false
  nt : (Value.type T == Value.type "tuple") = false
  hint : ∀ (s : Shared) (E : Value → Shared → Prop) (Q : Bool → Shared → Prop), St 0 s.heap → (∀ tk, Q false { s with toks := tk }) → wpAny (model prog w) A (Builtin.List.listLengthHint (.ref it)) Q E s
theorem its_extend {R : Result → Shared → Prop} (K : ItSrc prog w A.in1 T it ds n P St) (hst : St 0 s.heap) (S : Addr) (hSi : S ≠ it) (hSd : S ∉ ds) (res : Value) (c₀ : Nat) (hS : s.heap.get? S = some { cls := .type "list", data := .seq #[] c₀ })
    (hR : ∀ h' tk acc' c', (∀ b o, b ≠ S → b ≠ it → s.heap.get? b = some o → h'.get? b = some o) → h'.get? S = some { cls := .type "list", dict := none, data := .seq acc' c', slots := #[] } → ItemsOf P acc' n → R (.ok (.ret res)) { s with heap := h', toks := tk }) (hn : n ≤ sizeLine) :
    wpAny (model prog w) A.in1 (Builtin.List.listExtendWith (.ref S) (.ref it) res)
      (fun fin s' => match fin with | .done f => R (.ok f) s' | .again c' => c'.quiet = true ∧ codeAny (model prog w) A c' R s') (fun e s' => R (.error e) s') s := by
  have hSf : S ∉ it :: ds := by simp only [List.mem_cons, not_or]; exact ⟨hSi, hSd⟩
  unfold Builtin.List.listExtendWith
  refine wpAny_bind (wpAny_typeOf (T := T) (K.ty s hst) ?_)
  have h1 : Builtin.List.listSameRef (.ref S) (.ref it) = false := by simp [Builtin.List.listSameRef, hSi]
  simp only [h1, K.nl, K.nt, Bool.or_false, Bool.false_eq_true, if_false]
  refine wpAny_bind (K.wk.self 0 _ _ _ hst ?_)
  refine wpAny_bind (wpAny_holding (K.hint _ _ _ hst fun tk => ?_))
  have key : ∀ (h : Heap) (c₁ tk : Nat), St 0 h → (∀ b o, b ≠ S → s.heap.get? b = some o → h.get? b = some o) →
      h.get? S = some { cls := .type "list", data := .seq #[] c₁ } → codeAny (model prog w) A (.builtin "list.extend.loop" ⟨[.ref S, .ref it, res], []⟩) R { s with heap := h, toks := tk } := by
    intro h c₁ tk hst hk hS₁
    refine codeAny_extend_loopS K.wk.toS hn S hSf res n 0 _ #[] c₁ rfl (Nat.zero_le _) hst hS₁ (ItemsOf.nil _) fun s' acc' c' hm hS' hacc => ?_
    rw [Moved.eq_with hm]
    refine hR s'.heap s'.toks acc' c' (fun b o hb hi e => hm.heap b o (fun hmem => ?_) (hk b o hb e)) hS' hacc
    rcases List.mem_cons.mp hmem with e' | hmem
    · exact hb e'
    · exact hi (List.mem_singleton.mp hmem)
  refine wpAny_ite_split (fun _ => ?_) (fun _ => wpAny_pure ⟨plainId_quiet PySem.F.plain_extend_loop _, key _ c₀ _ hst (fun b o _ e => e) hS⟩)
  refine wpAny_bind (wpAny_rule ?_)
  refine wpAny_bind ?_
  show wpAny _ _ (updateSeq S (·.push .none) >>= fun _ => updateSeq S (·.pop)) _ _ _
  refine wpAny_bind (wpAny_updateSeq hS rfl ?_)
  have hS₂ := Heap.get?_update_self (Obj.mapSeq (·.push Value.none)) hS rfl
  refine wpAny_updateSeq (hz := by seq_fits) hS₂ rfl ?_
  have hS₃ := Heap.get?_update_self (Obj.mapSeq (·.pop)) hS₂ rfl
  refine wpAny_pure ⟨plainId_quiet PySem.F.plain_extend_loop _, key _ _ _ ?_ (fun b o hb e => ?_) hS₃⟩
  · refine K.wk.frame 0 _ _ hst fun b hb o e => ?_
    have hbS : b ≠ S := fun h => hSf (h ▸ hb)
    exact (Heap.get?_update_other _ _ (Ne.symm hbS)).trans ((Heap.get?_update_other _ _ (Ne.symm hbS)).trans e)
  · exact (Heap.get?_update_other _ _ (Ne.symm hb)).trans ((Heap.get?_update_other _ _ (Ne.symm hb)).trans e)
theorem its_init {R : Result → Shared → Prop} (K : ItSrc prog w A.in1 T it ds n P St) (hst : St 0 s.heap) (S : Addr) (hSi : S ≠ it) (hSd : S ∉ ds) (hS : s.heap.get? S = some { cls := .type "list", data := .seq #[] })
    (hR : ∀ h' tk acc' c', (∀ b o, b ≠ S → b ≠ it → s.heap.get? b = some o → h'.get? b = some o) → h'.get? S = some { cls := .type "list", dict := none, data := .seq acc' c', slots := #[] } → ItemsOf P acc' n → R (.ok (.ret .none)) { s with heap := h', toks := tk }) (hn : n ≤ sizeLine) :
    wpAny (model prog w) A.in1 (Builtin.«list.__init__» ⟨[.ref S, .ref it], []⟩)
      (fun fin s' => match fin with | .done f => R (.ok f) s' | .again c' => c'.quiet = true ∧ codeAny (model prog w) A c' R s') (fun e s' => R (.error e) s') s := by
  show wpAny _ _ (do let old ← Builtin.List.listItems (.ref S); Builtin.List.listUpdate (.ref S) (fun _ => #[]); letGo old.toList.reverse; Builtin.List.listExtendWith (.ref S) (.ref it) .none) _ _ s
  refine wpAny_bind ?_
  unfold Builtin.List.listItems
  refine wpAny_bind (wpAny_seqItems hS rfl (wpAny_pure ?_))
  show wpAny _ _ (updateSeq S (fun _ => #[]) >>= fun _ => letGo (#[] : Array Value).toList.reverse >>= fun _ => Builtin.List.listExtendWith (.ref S) (.ref it) .none) _ _ s
  refine wpAny_bind (wpAny_updateSeq hS rfl ?_)
  have hS₂ := Heap.get?_update_self (Obj.mapSeq (fun _ => (#[] : Array Value))) hS rfl
  have oth : ∀ b o, b ≠ S → s.heap.get? b = some o → (s.heap.update S (Obj.mapSeq (fun _ => (#[] : Array Value)))).get? b = some o :=
    fun b o hb e => (Heap.get?_update_other _ _ (Ne.symm hb)).trans e
  refine wpAny_bind (wpAny_letGo ?_)
  have hst2 : St 0 (s.heap.update S (Obj.mapSeq (fun _ => (#[] : Array Value)))) := K.wk.frame 0 _ _ hst fun b hb o e => oth b o (by
    rcases List.mem_cons.mp hb with h | h
    · rw [h]; exact Ne.symm hSi
    · exact fun e => hSd (e ▸ h)) e
  refine its_extend K hst2 S hSi hSd .none _ hS₂ (fun h' tk acc' c' hk hS' hacc => ?_) hn
  exact hR h' tk acc' c' (fun b o hb hi e => hk b o hb hi (oth b o hb e)) hS' hacc
theorem its_call {Q : Value → Shared → Prop} (K : ItSrc prog w A.in1.in1 T it ds n P St) (hst : St 0 s.heap) (hlt : it < s.heap.objs.size) (hds : ∀ b ∈ ds, b < s.heap.objs.size) (hn : n ≤ sizeLine)
    (hQ : ∀ h' tk acc' c', (∀ b o, b ≠ it → s.heap.get? b = some o → h'.get? b = some o) → h'.get? s.heap.objs.size = some { cls := .type "list", dict := none, data := .seq acc' c', slots := #[] } → ItemsOf P acc' n → Q (.ref s.heap.objs.size) { s with heap := h', toks := tk }) :
    wpAny (model prog w) A (call (.type "list") [.ref it]) Q E s := by
  refine callType_codes (Q₁ := fun obj s₁ => obj = .ref s.heap.objs.size ∧ s₁ = { s with heap := s.heap.push { cls := .type "list", data := .seq #[] } }) PySem.F.called_list (PySem.F.typeCall_list_1 _) PySem.F.entry_list_init
    (code_list_new _ ⟨rfl, rfl⟩) fun obj s₁ h₁ => ?_
  obtain ⟨rfl, rfl⟩ := h₁
  have hS : (s.heap.push { cls := .type "list", data := .seq #[] }).get? s.heap.objs.size = some { cls := .type "list", data := .seq #[] } := Heap.get?_push_size _ rfl
  have hst1 := K.wk.frame 0 _ (s.heap.push { cls := .type "list", data := .seq #[] }) hst fun b _ o e => Heap.get?_push_of_some _ e
  refine ⟨⟨_, hS, rfl⟩, PySem.F.args_list_init_2 _ _, its_init (A := A.in1) (s := { s with heap := s.heap.push { cls := .type "list", data := .seq #[] } }) K hst1 _ (Nat.ne_of_gt hlt) (fun h => Nat.lt_irrefl _ (hds _ h)) hS (fun h' tk acc' c' hk hS' hacc => ?_) hn⟩
  exact ⟨rfl, hQ h' tk acc' c' (fun b o hi e => hk b o (Nat.ne_of_lt (Heap.lt_size e)) hi (Heap.get?_push_of_some _ e)) hS' hacc⟩
theorem src_range (hh : A.handled = none) (I : Addr) (lo c : Int) (n : Nat) (hn : n ≤ 16777216) : ItSrc prog w A "range_iterator" I [] n (fun i v => ∃ t, v = .int (lo + (i : Nat) * c) t) (fun i h => IsRangeIter h I (lo + (i : Nat) * c) ((n : Int) - (i : Nat)) c) where
  wk := PySem.Walks.range hh I lo c n
  ty := fun s st => ⟨_, st, rfl⟩
  nl := by decide
  nt := by decide
  hint := fun s E Q st h => hint_rait st (by unfold Builtin.List.listTooLong; simp [sizeLine]; omega) h
end
theorem vals_revRg {a b : Int} {acc : Array Value} (h : ItemsOf (fun i v => ∃ t, v = .int (a + (((b - a).toNat : Nat) : Int) - 1 + (i : Nat) * (-1)) t) acc (b - a).toNat) : Vals (rgV a b).reverse acc.toList := by
  have e : acc.toList.length = (b - a).toNat := by rw [Array.length_toList]; exact h.1
  have e2 : (rgV a b).reverse = (List.range acc.toList.length).map fun i => V.int (a + (((b - a).toNat : Nat) : Int) - 1 - (i : Nat)) := by
    rw [e]
    apply List.ext_getElem
    · simp [rgV]
    · intro i h1 h2
      simp only [List.length_reverse, rgV_length] at h1
      rw [List.getElem_reverse]
      simp only [rgV, List.getElem_map, List.getElem_range, List.length_map, List.length_range]
      congr 1
      omega
  rw [e2]
  refine vals_of_get acc.toList _ fun j u hj => ?_
  obtain ⟨t, rfl⟩ := h.2 j u (by rw [← hj, Array.getElem?_toList])
  exact ⟨t, by rw [show a + (((b - a).toNat : Nat) : Int) - 1 + (j : Nat) * (-1) = a + (((b - a).toNat : Nat) : Int) - 1 - (j : Nat) by omega]⟩
def tLstRevR (tr : L2.St → Hp → (Int → Int → Hp → Prop) → Prop) : TE := fun σ H Q => tr σ H fun a b H1 => RgOk a b ∧ ∀ q, H1 q = none → Q (.ref q) (upd H1 q (.lst (rgV a b).reverse))
theorem pe_listRevR {X : Cx} {e : Expr} {tr : L2.St → Hp → (Int → Int → Hp → Prop) → Prop} {p p2 pos pos2 : Pos} (hc : X.calm = true) (hg : Gl X "list") (hm : X.mg "list" = none) (hg2 : Gl X "reversed") (hm2 : X.mg "reversed" = none) (he : PRg X e tr)
    (hs : starEach [e] X.env = (false, eval e X.env) :: starEach [] X.env := by rfl) (hs2 : starEach [.Call (.Name "reversed" p2) [e] [] pos2] X.env = (false, eval (.Call (.Name "reversed" p2) [e] [] pos2) X.env) :: starEach [] X.env := by rfl) :
    PE X (.Call (.Name "list" p) [.Call (.Name "reversed" p2) [e] [] pos2] [] pos) (tLstRevR tr) := by
  refine ⟨fun pins s σ H Q I h => ?_⟩
  refine Call_ (ld_blt I hg hm boot_list (PyProof.Rows.callWith_type1 (args_cons (Call_ (ld_blt I hg2 hm2 PyProof.Rows.boot_reversed (PyProof.Rows.callWith_type1 (args_cons (thn (he pins s σ H _ I h) fun x s1 hx => args_nil ?_) hs) hs rfl))) hs2) hs2 rfl))
  obtain ⟨r, a, b, t, u, v, H1, ex, hr, I1, ok, q⟩ := hx
  subst ex
  obtain ⟨b1, b2, b3, b4, b5⟩ := ok
  have hn : Builtin.Range.rangeSize a b 1 = (((b - a).toNat : Nat) : Int) := rangeSize_nat a b
  refine call_reversed_range hr (smallRev_one b1 b2 b3 b4) (args_nil ?_)
  have k0 : ∀ c o, s1.heap.get? c = some o → (s1.heap.push (rngRevObj a b 1)).get? c = some o := fun c o e => Heap.get?_push_of_some _ e
  have I2 : Inv X pins σ H1 { s1 with heap := s1.heap.push (rngRevObj a b 1) } := I1.kept (t' := s1.toks) k0
  obtain ⟨f0, f1, f2, f3, f4, f5⟩ := I1.fpOk (H' := H1) (b := s1.heap.objs.size) (Nat.le_refl _) (I1.hok.fresh (Nat.le_refl _))
  have st : IsRangeIter (s1.heap.push (rngRevObj a b 1)) s1.heap.objs.size (a + (((b - a).toNat : Nat) : Int) - 1 + ((0 : Nat) : Int) * (-1)) ((((b - a).toNat : Nat) : Int) - ((0 : Nat) : Int)) (-1) := by
    have e1 : a + (((b - a).toNat : Nat) : Int) - 1 + ((0 : Nat) : Int) * (-1) = a + (Builtin.Range.rangeSize a b 1 - 1) * 1 := by rw [hn]; omega
    have e2 : (((b - a).toNat : Nat) : Int) - ((0 : Nat) : Int) = Builtin.Range.rangeSize a b 1 := by rw [hn]; omega
    rw [e1, e2]
    exact Heap.get?_push_size _ rfl
  refine its_call (s := { s1 with heap := s1.heap.push (rngRevObj a b 1) }) (src_range (A := X.A.in1.in1) (I1.ok.hd hc) s1.heap.objs.size (a + (((b - a).toNat : Nat) : Int) - 1) (-1) (b - a).toNat b5) st (by simp [Heap.push]) (by simp) (by rw [sizeLine_eq]; omega) fun h' tk acc c' hk hS hi => ?_
  have hle : s1.heap.objs.size ≤ (s1.heap.push (rngRevObj a b 1)).objs.size := by simp [Heap.push]
  refine ⟨.ref (s1.heap.push (rngRevObj a b 1)).objs.size, upd H1 (s1.heap.push (rngRevObj a b 1)).objs.size (.lst (rgV a b).reverse), I1.laid (t' := tk) (fun c u e => hk c u (Nat.ne_of_lt (Heap.lt_size e)) (k0 c u e)) hle
    (show ObjOk X.prog X.w _ _ _ (.lst (rgV a b).reverse) from ⟨?_, acc.toList, c', vals_revRg hi, ?_⟩), rfl, q _ (I1.hok.fresh hle)⟩
  · rw [List.length_reverse, rgV_length, sizeLine_eq]; omega
  · rw [Array.toArray_toList]; exact hS
def bLstRv : W → Sto → VS := fun x s => match x with
  | .d (.int i) => need (small24 i) (.ok (.d (.lst (rngD 0 i.toNat).reverse), s))
  | _ => .stuck
theorem RepL.rev {K : PySem.W.Frag} {G : Hp} : ∀ {l : List D} {vs : List V}, RepL K G l vs → RepL K G l.reverse vs.reverse
  | _, _, .nil => .nil
  | _, _, .cons h r => by
    rw [List.reverse_cons, List.reverse_cons]
    exact (RepL.rev r).append (.cons h .nil)
section
variable {z : Zx} {k : Nat} {a : Expr} {ma : Ev} {p pos : Pos}
theorem kLstRv {p2 p3 pos2 pos3 : Pos} (ctx : Ctx k z) (hg : Gl z.X "list") (hm : z.X.mg "list" = none) (hg1 : Gl z.X "reversed") (hm1 : z.X.mg "reversed" = none) (hg2 : Gl z.X "range") (hm2 : z.X.mg "range" = none) (ha : OkE z a ma)
    (hs : starEach [.Call (.Name "reversed" p3) [.Call (.Name "range" p2) [a] [] pos2] [] pos3] z.X.env = (false, eval (.Call (.Name "reversed" p3) [.Call (.Name "range" p2) [a] [] pos2] [] pos3) z.X.env) :: starEach [] z.X.env := by rfl)
    (hs1 : starEach [.Call (.Name "range" p2) [a] [] pos2] z.X.env = (false, eval (.Call (.Name "range" p2) [a] [] pos2) z.X.env) :: starEach [] z.X.env := by rfl) (hs2 : starEach [a] z.X.env = (false, eval a z.X.env) :: starEach [] z.X.env := by rfl) :
    OkE z (.Call (.Name "list" p) [.Call (.Name "reversed" p3) [.Call (.Name "range" p2) [a] [] pos2] [] pos3] [] pos) (e1 bLstRv ma) := by
  refine ok_e (pe_listRevR ctx.calm hg hm hg1 hm1 (prg_1 hg2 hm2 ha hs2) hs1 hs) ?_
  intro ρ G S H env σ Q R E h
  refine sim_e ρ G S H env σ _ R E (post_bind h fun w S1 ρ1 G1 H1 v l1 R1 r1 h1 => ?_)
  unfold bLstRv at h1
  simp only at h1
  split at h1
  · rename_i i
    obtain ⟨c1, h1⟩ := postN h1
    refine ⟨i, rep_int r1, s24 c1, fun q hq => ?_⟩
    obtain ⟨R2, l2⟩ := R1.froz (.lst (rgV 0 i).reverse) hq
    exact h1 _ _ _ _ l2 R2 (.d (.lst upd_same (by rw [rgV0]; exact (rngD_L _ _).rev)))
  · exact False.elim h1
end
end B
/-! Objects: fields, methods, C(..). -/
namespace B
open PySem L2 PySem.Spec PyProof.Rows
def putB (f : List Nat) (w : W) : List (List Nat × W) → List (List Nat × W)
  | [] => [(f, w)]
  | (g, x) :: r => if g = f then (g, w) :: r else (g, x) :: putB f w r
/-- the object of class c at a place -/
def objO (c : Nat) (w : W) (s : Sto) : R (Nat × List (List Nat × W)) := match w with
  | .loc k => (match s[k]? with
    | some (.o d fs) => if d = c then .ok (k, fs) else .stuck
    | _ => .stuck)
  | _ => .stuck
def fldW (f : List Nat) (fs : List (List Nat × W)) (s : Sto) : VS := match fs.lookup f with
  | some w => .ok (w, s) | none => .stuck
def eFld (c : Nat) (f : List Nat) (a : Ev) : Ev := fun e s => (a e s).bind fun p => (objO c p.1 p.2).bind fun q => fldW f q.2 p.2
def sFldS (c : Nat) (f : List Nat) (a v : Ev) : Sx := fun e s => (v e s).bd e fun q => (a e q.2).bd e fun p => (objO c p.1 p.2).bd e fun r => need (decide (r.2.length < 1000)) (.ok (.nx e (p.2.set r.1 (.o c (putB f q.1 r.2)))))
def intW : W → R Int
  | .d (.int i) => .ok i | _ => .stuck
/-- o.f += e, whole numbers -/
def sFldA (c : Nat) (f : List Nat) (a v : Ev) : Sx := fun e s => (a e s).bd e fun p => (objO c p.1 p.2).bd e fun r => (fldW f r.2 p.2).bd e fun x => (intW x.1).bd e fun i => (v e p.2).bd e fun q => (intW q.1).bd e fun j =>
  (objO c p.1 q.2).bd e fun r2 => need (decide (r2.2.length < 1000)) (.ok (.nx e (q.2.set r2.1 (.o c (putB f (.d (.int (i + j))) r2.2)))))
/-- a call out of which nothing flies -/
def qv : VS → VS
  | .ok p => .ok p | _ => .stuck
def eMeth (c : Nat) (m : List Nat) (F : Fn) (a : Ev) (as : List Ev) : Ev := fun e s => (a e s).bind fun p => (objO c p.1 p.2).bind fun r => need (r.2.lookup m).isNone ((eAs as e p.2).bind fun q => qv (F (p.1 :: q.1) q.2))
def mkO (k : Nat) : VS → VS
  | .ok (.d .non, s) => .ok (.loc k, s)
  | _ => .stuck
def eMake (c : Nat) (F : Fn) (as : List Ev) : Ev := fun e s => (eAs as e s).bind fun q => mkO q.2.length (F (.loc q.2.length :: q.1) (q.2 ++ [.o c []]))
section
variable {B : Bx} {ρ : List Addr} {G H : Hp} {S : Sto}
theorem objO_rep {c : Nat} {w : W} {v : V} {q : Nat × List (List Nat × W)} (R : Rel B ρ G S H) (e : objO c w S = .ok q) (r : RepW B.K ρ G w v) :
    ∃ a dx vs, w = .loc q.1 ∧ v = .ref a ∧ ρ[q.1]? = some a ∧ S[q.1]? = some (.o c q.2) ∧ H a = some (.ins (B.oc c) dx vs) ∧ q.2.map (fun p => sof p.1) = vs.map (·.1) ∧ RepWs B.K ρ G (q.2.map (·.2)) (vs.map (·.2)) := by
  unfold objO at e
  split at e
  · rename_i k
    cases r with
    | loc ha =>
      obtain ⟨d, hd, hr⟩ := R.at_ ha
      rw [hd] at e
      cases d with
      | o d fs =>
        simp only at e
        by_cases hc : d = c
        · rw [if_pos hc] at e
          cases e
          subst hc
          obtain ⟨dx, vs, h1, h2, h3⟩ := hr
          exact ⟨_, dx, vs, rfl, rfl, ha, hd, h1, h2, h3⟩
        · rw [if_neg hc] at e; cases e
      | _ => cases e
  · cases e
theorem objO_ex (c : Nat) (w : W) (s : Sto) (x : Exc) (t : Sto) : objO c w s ≠ .ex x t := by
  unfold objO; intro h
  split at h
  · split at h
    · split at h <;> cases h
    · cases h
  · cases h
theorem lookB {f : List Nat} : ∀ (l : List (List Nat × W)) (vs : List (Str × V)), l.map (fun p => sof p.1) = vs.map (·.1) → RepWs B.K ρ G (l.map (·.2)) (vs.map (·.2)) → (∀ y, l.lookup f = some y → ∃ v, vs.lookup (sof f) = some v ∧ RepW B.K ρ G y v) ∧ (l.lookup f = none → vs.lookup (sof f) = none)
  | [], [], _, _ => ⟨fun _ h => (by cases h), fun _ => rfl⟩
  | [], _ :: _, h, _ => by simp at h
  | _ :: _, [], h, _ => by simp at h
  | (q1, q2) :: l, (r1, r2) :: vs, h1, h2 => by
    simp only [List.map_cons, List.cons.injEq] at h1
    cases h2 with
    | cons g1 g2 =>
      have ih := lookB (f := f) l vs h1.2 g2
      rw [List.lookup_cons, List.lookup_cons]
      by_cases c : f = q1
      · subst c
        rw [← h1.1, beq_self_eq_true, beq_self_eq_true]
        exact ⟨fun y e => (by cases e; exact ⟨r2, rfl, g1⟩), fun e => (by cases e)⟩
      · have c1 : (f == q1) = false := by simpa using c
        have c2 : (sof f == r1) = false := by rw [← h1.1]; simpa using fun e => c (sof_inj e)
        rw [c1, c2]
        exact ih
theorem putB_rep {f : List Nat} {w : W} {v : V} (hw : RepW B.K ρ G w v) : ∀ (l : List (List Nat × W)) (vs : List (Str × V)), l.map (fun p => sof p.1) = vs.map (·.1) → RepWs B.K ρ G (l.map (·.2)) (vs.map (·.2)) →
    (putB f w l).map (fun p => sof p.1) = (putF (sof f) v vs).map (·.1) ∧ RepWs B.K ρ G ((putB f w l).map (·.2)) ((putF (sof f) v vs).map (·.2))
  | [], [], _, _ => ⟨rfl, .cons hw .nil⟩
  | [], _ :: _, h, _ => by simp at h
  | _ :: _, [], h, _ => by simp at h
  | (q1, q2) :: l, (r1, r2) :: vs, h1, h2 => by
    simp only [List.map_cons, List.cons.injEq] at h1
    cases h2 with
    | cons g1 g2 =>
      have ih := putB_rep (f := f) hw l vs h1.2 g2
      unfold putB putF
      by_cases c : q1 = f
      · subst c
        rw [if_pos rfl, if_pos h1.1.symm]
        exact ⟨by simp [h1.1, h1.2], .cons hw g2⟩
      · have c2 : ¬ r1 = sof f := by rw [← h1.1]; exact fun e => c (sof_inj e)
        rw [if_neg c, if_neg c2]
        exact ⟨by simp [h1.1]; simpa using ih.1, .cons g1 ih.2⟩
theorem Rel.objSet (R : Rel B ρ G S H) {k c : Nat} {a : Addr} {dx : Addr} {vs' : List (Str × V)} {fs : List (List Nat × W)} (ha : ρ[k]? = some a) (hn : fs.map (fun p => sof p.1) = vs'.map (·.1)) (hr : RepWs B.K ρ G (fs.map (·.2)) (vs'.map (·.2))) :
    Rel B ρ G (S.set k (.o c fs)) (upd H a (.ins (B.oc c) dx vs')) ∧ Le ρ G H ρ G (upd H a (.ins (B.oc c) dx vs')) := R.cellSet ha ⟨dx, vs', upd_same, hn, hr⟩
end
section
variable {z : Zx} {j k c : Nat} {o e v : Expr} {es : List Expr} {mo mv m : Ev} {ms : List Ev} {pos tpos apos p : Pos}
/-- the class's facts -/
structure OCls (z : Zx) (c : Nat) : Prop where
  cl : Cls z.X.K (z.oc c)
theorem kFld (f : List Nat) {fs : Str} (hf : fs = sof f) (cl : Cls z.X.K (z.oc c)) (na : NoAttr z.X.K (z.oc c) fs) (ho : OkE z o mo) (hb : attributeBase o fs z.X.env (eval o z.X.env) = eval o z.X.env := by rfl) : OkE z (.Attribute o fs pos) (eFld c f mo) := by
  refine ok_e (pe_fld ho hb) ?_
  intro ρ G S H env σ Q R E h
  refine sim_e ρ G S H env σ _ R E (post_bind h fun w S1 ρ1 G1 H1 v l1 R1 r1 h1 => ?_)
  simp only at h1
  cases e1 : objO c w S1 with
  | stuck => rw [e1] at h1; exact False.elim h1
  | ex x t => exact absurd e1 (objO_ex _ _ _ _ _)
  | ok q =>
    rw [e1, _root_.B.R.bind_ok] at h1
    obtain ⟨a, dx, vs, g1, g2, g3, g4, g5, g6, g7⟩ := objO_rep R1 e1 r1
    unfold fldW at h1
    cases e2 : q.2.lookup f with
    | none => rw [e2] at h1; exact False.elim h1
    | some y =>
      rw [e2] at h1
      obtain ⟨u, u1, u2⟩ := (lookB _ _ g6 g7).1 y e2
      exact ⟨a, _, dx, vs, u, g2, g5, cl, na, by rw [hf]; exact u1, h1 _ _ _ _ (Le.refl _ _ _) R1 u2⟩
theorem sFldOk (f : List Nat) {fs : Str} (hf : fs = sof f) (cl : Cls z.X.K (z.oc c)) (na : NoAttr z.X.K (z.oc c) fs) (ho : OkE z o mo) (hv : OkE z v mv) (hs : swapsWith v (some (.Attribute o fs tpos)) pos.line z.X.env = pure false := by rfl) :
    OkS z (.Assign [.Attribute o fs tpos] v pos) (sFldS c f mo mv) := by
  refine ok_s (ps_fld ho hv hs) ?_
  intro ρ G S H env σ D R E h
  refine sim_e ρ G S H env σ _ R E (postS_bd E h fun w S1 ρ1 G1 H1 y l1 R1 r1 h1 => ?_)
  have E1 := l1.env E
  refine sim_e ρ1 G1 S1 H1 env σ _ R1 E1 (postS_bd E1 h1 fun w2 S2 ρ2 G2 H2 x l2 R2 r2 h2 => ?_)
  simp only at h2
  cases e1 : objO c w2 S2 with
  | stuck => rw [e1] at h2; exact False.elim h2
  | ex x t => exact absurd e1 (objO_ex _ _ _ _ _)
  | ok q =>
    rw [e1, _root_.B.R.bd_ok] at h2
    obtain ⟨a, dx, vs, g1, g2, g3, g4, g5, g6, g7⟩ := objO_rep R2 e1 r2
    by_cases hl : q.2.length < 1000
    · rw [need_of (decide_eq_true hl)] at h2
      obtain ⟨p1, p2⟩ := putB_rep (f := f) (l2.w r1) _ _ g6 g7
      obtain ⟨R3, l3⟩ := R2.objSet (dx := dx) g3 p1 p2
      refine ⟨a, _, dx, vs, g2, g5, cl, na, ?_, ?_⟩
      · have := congrArg List.length g6
        simp only [List.length_map] at this
        omega
      · rw [hf]; exact h2 _ _ _ _ l3 R3 (l3.env (l2.env E1))
    · rw [show decide (q.2.length < 1000) = false from decide_eq_false hl] at h2; exact False.elim h2
theorem intW_rep {K : PySem.W.Frag} {ρ : List Addr} {G : Hp} {w : W} {v : V} {i : Int} (e : intW w = .ok i) (r : RepW K ρ G w v) : v = .int i := by
  unfold intW at e
  split at e
  · cases e; exact rep_int r
  · cases e
theorem intW_ex (w : W) (x : Exc) (t : Sto) : intW w ≠ .ex x t := by unfold intW; intro h; split at h <;> cases h
def FnM (P : Program) (w : World) (K : PySem.W.Frag) (mg : Str → Option Value) (base : Heap) (xc : Nat → Value) (oc : Nat → Addr) (k : Nat) (f : Addr) (ps : List Str) (fn : Fn) : Prop :=
  ∃ fd : FuncData, PySem.W.keepIn K (.ref f) = true ∧ Binds K fd ps [] ∧ FnOk P w K mg base (L2.CX P w) k f fd ps (spM ⟨K, xc, oc, none⟩ ps.length fn)
theorem post_qv {B : Bx} {Wi E : XK} {ρ : List Addr} {G H : Hp} {r : VS} {Q : VK} (h : Post B Wi ρ G H (qv r) Q) : Post B E ρ G H r Q := by
  cases r with
  | ok p => exact h
  | stuck => exact h
  | ex x s => exact False.elim h
/-- o.m(e, ..) -/
theorem kMeth {ps : List Str} {F : Fn} {f : Addr} {mm : Str} {pl : Sem Bool} (ctx : Ctx j z) (mc : List Nat) (hmc : mm = sof mc) (cl : Cls z.X.K (z.oc c)) (hm : Meth z.X.K (z.oc c) mm f) (hF : FnM z.X.prog z.X.w z.X.K z.X.mg z.X.base z.xc z.oc k f ps F) (hk : k ≤ j)
    (ho : OkE z o mo) (ha : OkA z (e :: es) (m :: ms)) (hn : (m :: ms).length + 1 = ps.length := by rfl)
    (hst : starEach (e :: es) z.X.env = (false, eval e z.X.env) :: starEach es z.X.env := by rfl) (hpl : (backTo pos (starEach es z.X.env)).any (·.1) = false := by rfl)
    (ht : eval (.Call (.Attribute o mm apos) (e :: es) [] pos) z.X.env = (do
      let ov ← eval o z.X.env
      standAt apos.atName
      let (f, first) ← holding [ov] (getMethod ov mm pl)
      callWith pos f first (backTo pos (starEach (e :: es) z.X.env)) (backToKw pos (keywordEach [] z.X.env))) := by rfl) :
    OkE z (.Call (.Attribute o mm apos) (e :: es) [] pos) (eMeth c mc F mo (m :: ms)) := by
  obtain ⟨fd, h1, h2, h3⟩ := hF
  refine ok_e (pe_meth (dvs := []) (ds := []) (E := E0) ho cl hm h3 (ctx.hr.mono hk) h2 .nil L2.passL ha hst hpl ht) ?_
  intro ρ G S H env σ Q R E h
  refine sim_e ρ G S H env σ _ R E (post_bind h fun w S1 ρ1 G1 H1 x l1 R1 r1 h1 => ?_)
  simp only at h1
  cases e1 : objO c w S1 with
  | stuck => rw [e1] at h1; exact False.elim h1
  | ex x t => exact absurd e1 (objO_ex _ _ _ _ _)
  | ok q =>
    rw [e1, _root_.B.R.bind_ok] at h1
    obtain ⟨a, dx, vs, g1, g2, g3, g4, g5, g6, g7⟩ := objO_rep R1 e1 r1
    obtain ⟨hno, h1⟩ := postN h1
    refine ⟨a, dx, vs, g2, g5, by rw [hmc]; exact (lookB _ _ g6 g7).2 (Option.isNone_iff_eq_none.mp hno), ?_⟩
    refine sim_a ρ1 G1 S1 H1 env σ _ R1 (l1.env E) ?_
    cases e2 : eAs (m :: ms) env S1 with
    | stuck => rw [e2] at h1; exact h1
    | ex y S2 => rw [e2] at h1; exact h1
    | ok t =>
      rw [e2] at h1
      intro ρ2 G2 H2 us l2 R2 r2
      have h2' := post_le l2 h1
      rw [List.append_nil]
      refine spM_unpin (p := z.pin) ⟨?_, ρ2, G2, t.2, w :: t.1, R2, .cons (l2.w r1) r2, post_qv h2'⟩
      rw [List.length_cons, ← r2.length, eAs_len e2, hn]
theorem kMeth0 {ps : List Str} {F : Fn} {f : Addr} {mm : Str} {pl : Sem Bool} (ctx : Ctx j z) (mc : List Nat) (hmc : mm = sof mc) (cl : Cls z.X.K (z.oc c)) (hm : Meth z.X.K (z.oc c) mm f) (hF : FnM z.X.prog z.X.w z.X.K z.X.mg z.X.base z.xc z.oc k f ps F) (hk : k ≤ j)
    (ho : OkE z o mo) (hn : 1 = ps.length := by rfl)
    (ht : eval (.Call (.Attribute o mm apos) [] [] pos) z.X.env = (do
      let ov ← eval o z.X.env
      standAt apos.atName
      let (f, first) ← holding [ov] (getMethod ov mm pl)
      callWith pos f first (backTo pos (starEach [] z.X.env)) (backToKw pos (keywordEach [] z.X.env))) := by rfl) :
    OkE z (.Call (.Attribute o mm apos) [] [] pos) (eMeth c mc F mo []) := by
  obtain ⟨fd, h1, h2, h3⟩ := hF
  refine ok_e (pe_meth0 (dvs := []) (ds := []) (E := E0) ho cl hm h3 (ctx.hr.mono hk) h2 .nil L2.passL ht) ?_
  intro ρ G S H env σ Q R E h
  refine sim_e ρ G S H env σ _ R E (post_bind h fun w S1 ρ1 G1 H1 x l1 R1 r1 h1 => ?_)
  simp only at h1
  cases e1 : objO c w S1 with
  | stuck => rw [e1] at h1; exact False.elim h1
  | ex x t => exact absurd e1 (objO_ex _ _ _ _ _)
  | ok q =>
    rw [e1, _root_.B.R.bind_ok] at h1
    obtain ⟨a, dx, vs, g1, g2, g3, g4, g5, g6, g7⟩ := objO_rep R1 e1 r1
    obtain ⟨hno, h1⟩ := postN h1
    refine ⟨a, dx, vs, g2, g5, by rw [hmc]; exact (lookB _ _ g6 g7).2 (Option.isNone_iff_eq_none.mp hno), ?_⟩
    exact spM_unpin (p := z.pin) ⟨hn, ρ1, G1, S1, [w], R1, .cons r1 .nil, post_qv h1⟩
/-- C(e, ..) -/
theorem make_post {B : Bx} {ρ : List Addr} {G H : Hp} {S : Sto} {l : List W} {vs : List V} {F : Fn} {Wi : XK} {Q : VK} {n : Nat} (R : Rel B ρ G S H) (r : RepWs B.K ρ G l vs) (hn : vs.length + 1 = n) (h : Post B Wi ρ G H (mkO S.length (F (.loc S.length :: l) (S ++ [.o c []]))) Q) :
    ∀ x dx, H x = none → H dx = none → dx ≠ x → spM B n F (.ref x :: (vs ++ [])) (upd (upd H dx (.own x)) x (.ins (B.oc c) dx [])) (fun v H2 => v = .non ∧ Q (.ref x) H2) E0 := by
  intro x dx hx hdx hne
  obtain ⟨R1, l1⟩ := R.grow (.own x) hdx
  have hx1 : upd H dx (.own x) x = none := by rw [upd_ne (Ne.symm hne)]; exact hx
  obtain ⟨R2, l2⟩ := R1.cellNew (o := .ins (B.oc c) dx []) (c := .o c []) hx1 ⟨dx, [], upd_same, rfl, .nil⟩
  have l12 := l1.trans l2
  rw [List.append_nil]
  have hix : (ρ ++ [x])[S.length]? = some x := by rw [← R.len]; simp
  refine ⟨by rw [List.length_cons, hn], ρ ++ [x], G, _, .loc S.length :: l, R2, .cons (.loc hix) (l12.ws r), ?_⟩
  cases e : F (.loc S.length :: l) (S ++ [.o c []]) with
  | stuck => rw [e] at h; exact h
  | ex y s => rw [e] at h; exact False.elim h
  | ok q =>
    rw [e] at h
    obtain ⟨w, s⟩ := q
    unfold mkO at h
    split at h
    · rename_i e2
      cases e2
      intro ρ' G' H' v le R' rv
      have hv : v = .non := by cases rv with | d rv => cases rv; rfl
      exact ⟨hv, h ρ' G' H' (.ref x) (l12.trans le) R' (.loc (le.ix _ _ hix))⟩
    · exact False.elim h
theorem kMake {ps : List Str} {F : Fn} {f : Addr} {x : Str} (ctx : Ctx j z) (M : Mk z.X.K (z.oc c) f) (hF : FnM z.X.prog z.X.w z.X.K z.X.mg z.X.base z.xc z.oc k f ps F) (hk : k + 1 ≤ j) (hg : Gl z.X x) (hmg : z.X.mg x = some (.ref (z.oc c)))
    (ha : OkA z (e :: es) (m :: ms)) (hn : (m :: ms).length + 1 = ps.length := by rfl) (hdb : (x == ("__debug__" : Str)) = false := by decide)
    (he : starEach (e :: es) z.X.env = (false, eval e z.X.env) :: starEach es z.X.env := by rfl) (hpl : (backTo pos (starEach es z.X.env)).any (·.1) = false := by rfl) :
    OkE z (.Call (.Name x p) (e :: es) [] pos) (eMake c F (m :: ms)) := by
  obtain ⟨fd, h1, h2, h3⟩ := hF
  refine ok_e (pe_make (dvs := []) (ds := []) (E := E0) M h3 (ctx.hr.mono hk) hg hmg h2 .nil L2.passL ha hdb he hpl) ?_
  intro ρ G S H env σ Q R E h
  refine sim_a ρ G S H env σ _ R E ?_
  have h' : Post z.B (atS z.Wi σ) ρ G H ((eAs (m :: ms) env S).bind fun q => mkO q.2.length (F (.loc q.2.length :: q.1) (q.2 ++ [.o c []]))) Q := h
  cases e2 : eAs (m :: ms) env S with
  | stuck => rw [e2] at h'; exact h'
  | ex y S2 => rw [e2] at h'; exact h'
  | ok t =>
    rw [e2] at h'
    intro ρ2 G2 H2 us l2 R2 r2 x dx hx hdx hne
    exact spM_unpin (p := z.pin) (make_post R2 r2 (by rw [← r2.length, eAs_len e2, hn]) (post_le l2 h') x dx hx hdx hne)
theorem kMake0 {ps : List Str} {F : Fn} {f : Addr} {x : Str} (ctx : Ctx j z) (M : Mk z.X.K (z.oc c) f) (hF : FnM z.X.prog z.X.w z.X.K z.X.mg z.X.base z.xc z.oc k f ps F) (hk : k + 1 ≤ j) (hg : Gl z.X x) (hmg : z.X.mg x = some (.ref (z.oc c)))
    (hn : 1 = ps.length := by rfl) (hdb : (x == ("__debug__" : Str)) = false := by decide) :
    OkE z (.Call (.Name x p) [] [] pos) (eMake c F []) := by
  obtain ⟨fd, h1, h2, h3⟩ := hF
  refine ok_e (pe_make0 (dvs := []) (ds := []) (E := E0) M h3 (ctx.hr.mono hk) hg hmg h2 .nil L2.passL hdb) ?_
  intro ρ G S H env σ Q R E h x dx hx hdx hne
  exact spM_unpin (p := z.pin) (make_post (vs := []) R .nil hn h x dx hx hdx hne)
/-- o.f += e -/
theorem sFldAOk (f : List Nat) {fs : Str} (hf : fs = sof f) (cl : Cls z.X.K (z.oc c)) (na : NoAttr z.X.K (z.oc c) fs) (ho : OkE z o mo) (hv : OkE z v mv) :
    OkS z (.AugAssign (.Attribute o fs tpos) .Add v pos) (sFldA c f mo mv) := by
  refine ok_s (ps_fldaug ho hv in_add) ?_
  intro ρ G S H env σ D R E h
  refine sim_e ρ G S H env σ _ R E (postS_bd E h fun w S1 ρ1 G1 H1 x l1 R1 r1 h1 => ?_)
  have E1 := l1.env E
  simp only at h1
  cases e1 : objO c w S1 with
  | stuck => rw [e1] at h1; exact False.elim h1
  | ex x t => exact absurd e1 (objO_ex _ _ _ _ _)
  | ok q =>
    rw [e1, _root_.B.R.bd_ok] at h1
    obtain ⟨a, dx, vs, g1, g2, g3, g4, g5, g6, g7⟩ := objO_rep R1 e1 r1
    unfold fldW at h1
    cases e2 : q.2.lookup f with
    | none => rw [e2] at h1; exact False.elim h1
    | some y =>
      rw [e2, _root_.B.R.bd_ok] at h1
      obtain ⟨u, u1, u2⟩ := (lookB _ _ g6 g7).1 y e2
      simp only at h1
      cases e3 : intW y with
      | stuck => rw [e3] at h1; exact False.elim h1
      | ex x t => exact absurd e3 (intW_ex _ _ _)
      | ok i =>
        rw [e3, _root_.B.R.bd_ok] at h1
        have hu := intW_rep e3 u2
        subst hu
        refine ⟨a, _, dx, vs, .int i, g2, g5, cl, na, by rw [hf]; exact u1, ?_⟩
        refine sim_e ρ1 G1 S1 H1 env σ _ R1 E1 (postS_bd E1 h1 fun w2 S2 ρ2 G2 H2 x2 l2 R2 r2 h2 => ?_)
        simp only at h2
        cases e4 : intW w2 with
        | stuck => rw [e4] at h2; exact False.elim h2
        | ex x t => exact absurd e4 (intW_ex _ _ _)
        | ok j =>
          rw [e4, _root_.B.R.bd_ok] at h2
          have hx := intW_rep e4 r2
          subst hx
          cases e5 : objO c w S2 with
          | stuck => rw [e5] at h2; exact False.elim h2
          | ex x t => exact absurd e5 (objO_ex _ _ _ _ _)
          | ok q2 =>
            rw [e5, _root_.B.R.bd_ok] at h2
            obtain ⟨a2, dx2, vs2, k1, k2, k3, k4, k5, k6, k7⟩ := objO_rep R2 e5 (l2.w r1)
            have ea : a2 = a := by
              rw [g2] at k2; cases k2; rfl
            subst ea
            by_cases hl : q2.2.length < 1000
            · rw [need_of (decide_eq_true hl)] at h2
              obtain ⟨p1, p2⟩ := putB_rep (f := f) (RepW.d (Rep.int (i + j))) _ _ k6 k7
              obtain ⟨R3, l3⟩ := R2.objSet (dx := dx2) k3 p1 p2
              refine ⟨i, j, rfl, rfl, dx2, vs2, k5, ?_, ?_⟩
              · have := congrArg List.length k6
                simp only [List.length_map] at this
                omega
              · rw [hf]; exact h2 _ _ _ _ l3 R3 (l3.env (l2.env E1))
            · rw [show decide (q2.2.length < 1000) = false from decide_eq_false hl] at h2; exact False.elim h2
end
section
variable {P : Program} {w : World} {K : PySem.W.Frag} {mg : Str → Option Value} {base : Heap} {xc : Nat → Value} {oc : Nat → Addr} {name qual : Str} {params : Arguments} {body : List Stmt} {scope : Scope} {f : Addr} {fd : FuncData} {N ps : List Str} {k : Nat} {b : Sx}
theorem fnMF (F : FunD K name qual params body scope [] [] f fd) (hbind : ∀ (kV doc pm : Value) (an : Option Addr) (cdv ct : Value) (us : List Value), us.length = ps.length → bindArgs (PySem.W.fnOf name qual params body scope .none kV doc pm an cdv ct) ⟨us, []⟩ = pure (ps.zip us))
    (S : FnScope N ps scope) (hN : ps.length ≤ N.length)
    (hb : ∀ (cdv : Value) (A : Around) (outer : List PySem.Env) (s : Shared) (H : Hp) (E : XK), Ctx k (zOf P w K mg base xc oc N qual scope f cdv A outer s H E) → OkSs (zOf P w K mg base xc oc N qual scope f cdv A outer s H E) body b) :
    FnM P w K mg base xc oc (k + 1) f ps (mkF N.length b) := ⟨fd, F.kp, F.bindsN hbind, fnOkF F S hN hb⟩
theorem fnMK (F : FunD K name qual params body scope [] [] f fd) (hbind : ∀ (kV doc pm : Value) (an : Option Addr) (cdv ct : Value) (us : List Value), us.length = ps.length → bindArgs (PySem.W.fnOf name qual params body scope .none kV doc pm an cdv ct) ⟨us, []⟩ = pure (ps.zip us))
    (S : FnScope N ps scope) (hN : ps.length ≤ N.length)
    (hb : ∀ (cdv : Value) (A : Around) (outer : List PySem.Env) (s : Shared) (H : Hp) (E : XK), Ctx k (zOf P w K mg base xc oc N qual scope f cdv A outer s H E) → OkSs (zOf P w K mg base xc oc N qual scope f cdv A outer s H E) body b) :
    FnM P w K mg base xc oc (k + 1) f ps (mkK N.length b) := ⟨fd, F.kp, F.bindsN hbind, fnOkK F S hN hb⟩
end
def clsBody : Stmt → List Stmt
  | .ClassDef (body := b) .. => b
  | _ => []
theorem law_endO {rw : PySem.W.OpenLaw} {w : World} {mg : Str → Option Value} {fa : Addr} {h : Heap} {K : PySem.W.Frag} {Y : PySem.W.Frag → Prop} (xc : PySem.W.Frag → Nat → Value) (oc : PySem.W.Frag → Nat → Addr) {Tx : PySem.W.Frag → (Str → Option Value) → Prop} {k : Nat} {f : Fn} {qual : Str} {params : Arguments} {body : List Stmt} {scope : Scope} {x : Str}
    (KX : K.In h) (G : h.Ns mainGlobals mg) (hmg : mg ("law" : Str) = some (.ref fa)) (c : Y K)
    (tx : ∀ {K : PySem.W.Frag} {h : Heap} {mg : Str → Option Value}, K.In h → h.Ns mainGlobals mg → Y K → Tx K mg)
    (d : ∀ {K : PySem.W.Frag} {mg : Str → Option Value}, Tx K mg → ∃ fd, FunD K "law" qual params body scope [] [] (He.ga K "law") fd)
    (g : ∀ {K : PySem.W.Frag} {mg : Str → Option Value}, Tx K mg → mg "law" = some (.ref (He.ga K "law")))
    (hbind : ∀ (kV doc pm : Value) (an : Option Addr) (cdv ct : Value) (us : List Value), us.length = [x].length → bindArgs (PySem.W.fnOf "law" qual params body scope .none kV doc pm an cdv ct) ⟨us, []⟩ = pure ([x].zip us))
    (F : ∀ (T : Tx K mg) (base : Heap), FnB rw.prog w K mg base (xc K) (oc K) k "law" [x] f)
    (ok : ∀ ns : List Int, ns.length ≤ 63 → f [.d (.inp (ns.map .int))] [] = .ok (.d (.bl true), [])) :
    ∃ (K : PySem.W.Frag) (fd : FuncData) (sp : Sp), K.In h ∧ (∀ (s : Shared) (u : Value), BindsTo s fd ⟨[u], []⟩ [(x, u)]) ∧
        (∀ (H : Hp) (a : Addr) (ns : List Int), ns.length ≤ 63 → Only H → SqL K H a (ns.map V.int) → sp [.ref a] H (fun v _ => v = .bl true) fun _ _ _ => False) ∧
        ∀ base : Heap, K.In base → base.Ns mainGlobals mg → FnOk rw.prog w K mg base CX0 k fa fd [x] sp := by
  have T := tx KX G c
  obtain ⟨fd, FD⟩ := d T
  have e := hmg.symm.trans (g T)
  cases e
  refine ⟨K, fd, fun vs H Q _ => spM ⟨K, xc K, oc K, none⟩ 1 f vs H Q fun _ _ _ => False, KX, fun s u => FunD.bindsA (ps := [x]) FD hbind s [u] rfl, fun H a ns hl _ hS => ?_, fun base _ _ => ?_⟩
  · refine ⟨rfl, [], H, [], [.d (.inp (ns.map .int))], rel_nil fun _ _ h => h, .cons (.d (.inp hS (ints_int ns))) .nil, ?_⟩
    rw [ok ns hl]
    intro ρ' G' H' v le R r
    exact rep_bl r
  · obtain ⟨a, fd2, h1, h2, ⟨oc2, od2, osl2, h3⟩, _, h4⟩ := F T base
    have e1 := h1.symm.trans (g T)
    cases e1
    obtain ⟨oc, od, osl, lk⟩ := lkOf FD
    rw [lk] at h3
    cases h3
    exact no_x h4
end B
/-! further rules -/
namespace B
open PySem L2
/-- lists joined: a new one, in the store -/
def oCatC : W → W → Sto → VS := fun x y s => (lstOf s x).bind fun l => (lstOf s y).bind fun m => need (decide (l.length + m.length ≤ sizeL)) (newL (l ++ m) s)
theorem newL_post {B : Bx} {Wi : XK} {ρ : List Addr} {G H : Hp} {S : Sto} {l : List W} {vs : List V} {p : Addr} {Q : VK} (R : Rel B ρ G S H) (r : RepWs B.K ρ G l vs) (h : Post B Wi ρ G H (newL l S) Q) (hp : H p = none) : Q (.ref p) (upd H p (.lst vs)) := by
  unfold newL at h
  cases e : asDs l with
  | none =>
    rw [e] at h
    obtain ⟨R2, l2⟩ := R.cellNew (o := .lst vs) (c := .w l) hp ⟨vs, upd_same, RepWs.mono ix_app (fun _ _ h => h) r⟩
    exact h _ _ _ _ l2 R2 (.loc (by rw [← R.len]; simp))
  | some ds =>
    rw [e] at h
    obtain ⟨R2, l2⟩ := R.cellNew (o := .lst vs) (c := .l ds) hp ⟨vs, upd_same, r.asDs e⟩
    exact h _ _ _ _ l2 R2 (.loc (by rw [← R.len]; simp))
theorem so_catC {B : Bx} : SimR B (rPlusT B.K) oCatC := by
  intro Wi ρ G S H x y v u Q R rx ry h
  refine .inl (.inr ?_)
  unfold oCatC at h
  rcases lstOf_cases S x with ⟨l, e1⟩ | e1
  · rcases lstOf_cases S y with ⟨m, e2⟩ | e2
    · rw [e1, _root_.B.R.bind_ok, e2, _root_.B.R.bind_ok] at h
      obtain ⟨h1, h2⟩ := postN h
      obtain ⟨a, vs, rfl, ha, r1⟩ := lstOf_rep R e1 rx
      obtain ⟨b, us, rfl, hb, r2⟩ := lstOf_rep R e2 ry
      have hl : vs.length + us.length ≤ sizeLine := by
        rw [← r1.length, ← r2.length]
        exact sizeL_le (of_decide_eq_true h1)
      exact ⟨a, b, vs, us, rfl, rfl, ha, hb, hl, fun p hp => newL_post R (r1.append r2) h2 hp⟩
    · rw [e1, _root_.B.R.bind_ok, e2] at h; exact False.elim h
  · rw [e1] at h; exact False.elim h
theorem kCatC {z : Zx} {a b : Expr} {ma mb : Ev} {pos : Pos} (ha : OkE z a ma) (hb : OkE z b mb) : OkE z (.BinOp a .Add b pos) (e2 oCatC ma mb) := kOp op_plus so_catC ha hb
end B
/-! How B terms are run: rules for simp only, in bundles. -/
namespace B
/-! ### fin, calls -/
theorem outOf_rt {w : W} {s : Sto} : outOf (.ok (.rt w s)) = .ok (w, s) := rfl
theorem outOf_nx {e : Env} {s : Sto} : outOf (.ok (.nx e s)) = .ok (.d .non, s) := rfl
theorem outOf_xx {x : Exc} {e : Env} {s : Sto} : outOf (.ok (.xx x e s)) = .ex x s := rfl
theorem clS_nil {s : Sto} : clS 0 (s.take 0) = true := rfl
theorem fin0_d {x : D} {s : Sto} : fin 0 (.ok (.d x, s)) = .ok (.d x, []) := rfl
theorem fin0_ex {x : Exc} {s : Sto} : fin 0 (.ex x s) = .ex x [] := rfl
theorem fin0_l {k : Nat} {s : Sto} {xs : List D} (h : s[k]? = some (.l xs)) : fin 0 (.ok (.loc k, s)) = .ok (.d (.lst xs), []) := by
  have : frz 0 s (.loc k) = some (.d (.lst xs)) := by
    simp [frz, cl, toD, FU, h]
  show (match frz 0 s (.loc k) with | some w' => if clS 0 (s.take 0) then R.ok (w', s.take 0) else .stuck | none => .stuck) = _
  rw [this]; rfl
theorem fin0_m {k : Nat} {s : Sto} {t : Bool} {xs : List (D × D)} (h : s[k]? = some (.m t xs)) : fin 0 (.ok (.loc k, s)) = .ok (.d (.dct t xs), []) := by
  have : frz 0 s (.loc k) = some (.d (.dct t xs)) := by
    simp [frz, cl, toD, FU, h]
  show (match frz 0 s (.loc k) with | some w' => if clS 0 (s.take 0) then R.ok (w', s.take 0) else .stuck | none => .stuck) = _
  rw [this]; rfl
/-- a pure def, by its body -/
theorem mkF_of {n : Nat} {b : Sx} {a : List W} {x : D} {s : Sto} (e : Env) (he : start n a = e) (h : outOf (b e []) = .ok (.d x, s)) : mkF n b a [] = .ok (.d x, []) := by
  show fin 0 (outOf (b (start n a) [])) = _
  rw [he, h]; rfl
theorem mkF_l {n : Nat} {b : Sx} {a : List W} {xs : List D} {k : Nat} {s : Sto} (e : Env) (he : start n a = e) (h : outOf (b e []) = .ok (.loc k, s)) (hk : s[k]? = some (.l xs)) : mkF n b a [] = .ok (.d (.lst xs), []) := by
  show fin 0 (outOf (b (start n a) [])) = _
  rw [he, h]; exact fin0_l hk
theorem mkF_m {n : Nat} {b : Sx} {a : List W} {t : Bool} {xs : List (D × D)} {k : Nat} {s : Sto} (e : Env) (he : start n a = e) (h : outOf (b e []) = .ok (.loc k, s)) (hk : s[k]? = some (.m t xs)) : mkF n b a [] = .ok (.d (.dct t xs), []) := by
  show fin 0 (outOf (b (start n a) [])) = _
  rw [he, h]; exact fin0_m hk
theorem callP_d {f : Fn} {ds : List D} {x : D} (h : f (ws ds) [] = .ok (.d x, [])) (s : Sto) : callP f (ws ds) s = .ok (.d x, s) := by
  have e : ∀ ds : List D, asDs (ws ds) = some ds := fun ds => by
    induction ds with
    | nil => rfl
    | cons d ds ih => show (asDs (ws ds)).map _ = _; rw [ih]; rfl
  unfold callP
  rw [e]
  show callD f ds s = _
  unfold callD
  rw [h]
/-- a list or dict of the store is lent -/
theorem callP_t {f : Fn} {l : List W} {ds : List D} {x : D} {s : Sto} (hn : asDs l = none) (h : toDs FU (fun _ => true) s l = some ds) (hf : f (ws ds) [] = .ok (.d x, [])) (hx : noL x = true) : callP f l s = .ok (.d x, s) := by
  unfold callP
  rw [hn]
  simp only [h]
  unfold callD
  rw [hf]
  simp [hx]
/-! ### expressions -/
theorem eV_ap (i : Nat) (e : Env) (s : Sto) : eV i e s = match e[i]? with | some (some w) => .ok (w, s) | _ => .stuck := rfl
theorem eK_ap (x : D) (e : Env) (s : Sto) : eK x e s = .ok (.d x, s) := rfl
theorem e1_ap (f : W → Sto → VS) (a : Ev) (e : Env) (s : Sto) : e1 f a e s = (a e s).bind fun p => f p.1 p.2 := rfl
theorem e2_ap (f : W → W → Sto → VS) (a b : Ev) (e : Env) (s : Sto) : e2 f a b e s = (a e s).bind fun p => (b e p.2).bind fun q => f p.1 q.1 q.2 := rfl
theorem eN_ap (f : Fn) (as : List Ev) (e : Env) (s : Sto) : eN f as e s = (eAs as e s).bind fun p => f p.1 p.2 := rfl
theorem eAs_nil (e : Env) (s : Sto) : eAs [] e s = .ok ([], s) := rfl
theorem eAs_cons (a : Ev) (r : List Ev) (e : Env) (s : Sto) : eAs (a :: r) e s = (a e s).bind fun p => (eAs r e p.2).bind fun q => .ok (p.1 :: q.1, q.2) := rfl
theorem d1_ap (f : D → R D) (x : D) (s : Sto) : d1 f (.d x) s = (f x).bind fun r => .ok (.d r, s) := rfl
theorem d2_ap (f : D → D → R D) (x y : D) (s : Sto) : d2 f (.d x) (.d y) s = (f x y).bind fun r => .ok (.d r, s) := rfl
theorem d1_loc (f : D → R D) (k : Nat) (s : Sto) (xs : List D) (h : s[k]? = some (.l xs)) : d1 f (.loc k) s = (f (.lst xs)).bind fun r => .ok (.d r, s) := by
  have : dat s (.loc k) = .ok (.lst xs) := by simp [dat, toD, FU, h]
  simp [d1, this]
theorem d2_dloc (f : D → D → R D) (x : D) (k : Nat) (s : Sto) (xs : List D) (h : s[k]? = some (.l xs)) : d2 f (.d x) (.loc k) s = (f x (.lst xs)).bind fun r => .ok (.d r, s) := by
  have : dat s (.loc k) = .ok (.lst xs) := by simp [dat, toD, FU, h]
  simp [d2, this]
theorem d2_locd (f : D → D → R D) (x : D) (k : Nat) (s : Sto) (xs : List D) (h : s[k]? = some (.l xs)) : d2 f (.loc k) (.d x) s = (f (.lst xs) x).bind fun r => .ok (.d r, s) := by
  have : dat s (.loc k) = .ok (.lst xs) := by simp [dat, toD, FU, h]
  simp [d2, this]
theorem d2_dm (f : D → D → R D) (x : D) (k : Nat) (s : Sto) (t : Bool) (xs : List (D × D)) (h : s[k]? = some (.m t xs)) : d2 f (.d x) (.loc k) s = (f x (.dct t xs)).bind fun r => .ok (.d r, s) := by
  have : dat s (.loc k) = .ok (.dct t xs) := by simp [dat, toD, FU, h]
  simp [d2, this]
theorem tB_ap (a : Ev) (e : Env) (s : Sto) : tB a e s = (a e s).bind fun p => match p.1 with | .d (.bl b) => .ok (b, p.2) | _ => .stuck := rfl
theorem tAnd_ap (a b : Tx) (e : Env) (s : Sto) : tAnd a b e s = (a e s).bind fun p => if p.1 then b e p.2 else .ok (false, p.2) := rfl
theorem tOr_ap (a b : Tx) (e : Env) (s : Sto) : tOr a b e s = (a e s).bind fun p => if p.1 then .ok (true, p.2) else b e p.2 := rfl
theorem tNot_ap (a : Tx) (e : Env) (s : Sto) : tNot a e s = (a e s).bind fun p => .ok (!p.1, p.2) := rfl
theorem tYes_ap (e : Env) (s : Sto) : tYes e s = .ok (true, s) := rfl
theorem eAnd_ap (a b : Ev) (e : Env) (s : Sto) : eAnd a b e s = (a e s).bind fun p => match p.1 with | .d (.bl true) => b e p.2 | .d (.bl false) => .ok (.d (.bl false), p.2) | _ => .stuck := rfl
theorem eOr_ap (a b : Ev) (e : Env) (s : Sto) : eOr a b e s = (a e s).bind fun p => match p.1 with | .d (.bl true) => .ok (.d (.bl true), p.2) | .d (.bl false) => b e p.2 | _ => .stuck := rfl
theorem eNot_ap (a : Ev) (e : Env) (s : Sto) : eNot a e s = (a e s).bind fun p => match p.1 with | .d (.bl b) => .ok (.d (.bl (!b)), p.2) | _ => .stuck := rfl
theorem eIf_ap (t : Tx) (a b : Ev) (e : Env) (s : Sto) : eIf t a b e s = (t e s).bind fun p => if p.1 then a e p.2 else b e p.2 := rfl
theorem bind_ite {α β : Type} (c : Prop) [Decidable c] (x y : R α) (f : α → R β) : (if c then x else y).bind f = if c then x.bind f else y.bind f := by split <;> rfl
theorem bd_ite {α : Type} (c : Prop) [Decidable c] (x y : R α) (e : Env) (f : α → R O) : (if c then x else y).bd e f = if c then x.bd e f else y.bd e f := by split <;> rfl
/-! statements -/
theorem sSkip_ap (e : Env) (s : Sto) : sSkip e s = .ok (.nx e s) := rfl
theorem sSeq_ap (a b : Sx) (e : Env) (s : Sto) : sSeq a b e s = (a e s).bind fun o => match o with | .nx e s => b e s | o => .ok o := rfl
theorem sAsg_ap (g : Tg) (a : Ev) (e : Env) (s : Sto) : sAsg g a e s = (a e s).bd e fun p => (g p.1 e p.2).bd e fun q => .ok (.nx q.1 q.2) := rfl
theorem sX_ap (a : Ev) (e : Env) (s : Sto) : sX a e s = (a e s).bd e fun p => .ok (.nx e p.2) := rfl
theorem sRet_ap (a : Ev) (e : Env) (s : Sto) : sRet a e s = (a e s).bd e fun p => .ok (.rt p.1 p.2) := rfl
theorem sRetN_ap (e : Env) (s : Sto) : sRetN e s = .ok (.rt (.d .non) s) := rfl
theorem sIf_ap (t : Tx) (a b : Sx) (e : Env) (s : Sto) : sIf t a b e s = (t e s).bd e fun p => if p.1 then a e p.2 else b e p.2 := rfl
theorem sBrk_ap (e : Env) (s : Sto) : sBrk e s = .ok (.bk e s) := rfl
theorem sCnt_ap (e : Env) (s : Sto) : sCnt e s = .ok (.ct e s) := rfl
theorem sKill_ap (ks : List Nat) (a : Sx) (e : Env) (s : Sto) : sKill ks a e s = (a e s).bind fun o => match o with | .nx e s => .ok (.nx (kill ks e) s) | .ct e s => .ok (.ct (kill ks e) s) | .bk e s => .ok (.bk (kill ks e) s) | o => .ok o := rfl
theorem kill_nil (e : Env) : kill [] e = e := rfl
theorem kill_cons (i : Nat) (r : List Nat) (e : Env) : kill (i :: r) e = kill r (e.set i none) := rfl
theorem sFor_ap (i : Wk) (g : Tg) (b : Sx) (e : Env) (s : Sto) : sFor i g b e s = (i e s).bd e fun p => loop g b p.1 e p.2 := rfl
theorem loop_nil (g : Tg) (b : Sx) (e : Env) (s : Sto) : loop g b [] e s = .ok (.nx e s) := rfl
theorem loop_cons (g : Tg) (b : Sx) (x : W) (xs : List W) (e : Env) (s : Sto) : loop g b (x :: xs) e s = (g x e s).bd e fun p => (b p.1 p.2).bind fun o => turn o (loop g b xs) := rfl
theorem gN_ap (i : Nat) (w : W) (e : Env) (s : Sto) : gN i w e s = .ok (e.set i (some w), s) := rfl
theorem gT_tup (gs : List Tg) (l : List D) (e : Env) (s : Sto) : gT gs (.d (.tup l)) e s = gTs gs (ws l) e s := rfl
theorem gT_tw (gs : List Tg) (l : List W) (e : Env) (s : Sto) : gT gs (.tw l) e s = gTs gs l e s := rfl
theorem gTs_nil (e : Env) (s : Sto) : gTs [] [] e s = .ok (e, s) := rfl
theorem gTs_cons (g : Tg) (gs : List Tg) (w : W) (l : List W) (e : Env) (s : Sto) : gTs (g :: gs) (w :: l) e s = (g w e s).bind fun p => gTs gs l p.1 p.2 := rfl
theorem ws_nil : ws [] = [] := rfl
theorem ws_cons (d : D) (l : List D) : ws (d :: l) = .d d :: ws l := rfl
theorem turn_nx (e : Env) (s : Sto) (k : Env → Sto → R O) : turn (.nx e s) k = k e s := rfl
theorem turn_ct (e : Env) (s : Sto) (k : Env → Sto → R O) : turn (.ct e s) k = k e s := rfl
theorem turn_bk (e : Env) (s : Sto) (k : Env → Sto → R O) : turn (.bk e s) k = .ok (.nx e s) := rfl
theorem turn_rt (w : W) (s : Sto) (k : Env → Sto → R O) : turn (.rt w s) k = .ok (.rt w s) := rfl
theorem turn_xx (x : Exc) (e : Env) (s : Sto) (k : Env → Sto → R O) : turn (.xx x e s) k = .ok (.xx x e s) := rfl
/-! data -/
theorem iSeq_lst (a : Ev) (e : Env) (s s' : Sto) (l : List D) (h : a e s = .ok (.d (.lst l), s')) : iSeq a e s = .ok (ws l, s') := by simp [iSeq, h]
theorem asDs_nil : asDs [] = some [] := rfl
theorem asDs_d (x : D) (r : List W) : asDs (.d x :: r) = (asDs r).map (x :: ·) := rfl
theorem asDs_loc (n : Nat) (r : List W) : asDs (.loc n :: r) = none := rfl
theorem asDs_tw (n : List W) (r : List W) : asDs (.tw n :: r) = none := rfl

/-! arithmetic -/
theorem oAdd_i (i j : Int) (s : Sto) : oAdd (.d (.int i)) (.d (.int j)) s = .ok (.d (.int (i + j)), s) := rfl
theorem oAdd_s (x y : List Nat) (s : Sto) (h : x.length + y.length ≤ sizeL) : oAdd (.d (.str x)) (.d (.str y)) s = .ok (.d (.str (x ++ y)), s) := by
  show need (decide (x.length + y.length ≤ sizeL)) _ = _
  rw [decide_eq_true h]; rfl
theorem oAdd_t (x y : List D) (s : Sto) (h : x.length + y.length ≤ sizeL) (h0 : 0 < x.length) : oAdd (.d (.tup x)) (.d (.tup y)) s = .ok (.d (.tup (x ++ y)), s) := by
  show need (decide (x.length + y.length ≤ sizeL) && decide (0 < x.length)) _ = _
  rw [decide_eq_true h, decide_eq_true h0]; rfl
theorem asDs_ws' (ds : List D) : asDs (ws ds) = some ds := by
  induction ds with
  | nil => rfl
  | cons d ds ih => show (asDs (ws ds)).map _ = _; rw [ih]; rfl
theorem ws_app (x y : List D) : ws x ++ ws y = ws (x ++ y) := by simp [ws]
theorem oAdd_l (x y : List D) (s : Sto) (h : x.length + y.length ≤ sizeL) : oAdd (.d (.lst x)) (.d (.lst y)) s = .ok (.d (.lst (x ++ y)), s) := by
  show ((lstOf s (.d (.lst x))).bind fun l => (lstOf s (.d (.lst y))).bind fun m => (ofO (asDs (l ++ m))).bind fun r => need (decide (r.length ≤ sizeL)) (R.ok (W.d (D.lst r), s))) = _
  simp only [lstOf, R.bind_ok]
  rw [ws_app, asDs_ws', ofO_some, R.bind_ok, decide_eq_true (by simpa using h), need_true]
theorem oSub_i (i j : Int) : oSub (.int i) (.int j) = .ok (.int (i - j)) := rfl
theorem oAddI_i (i j : Int) : oAddI (.int i) (.int j) = .ok (.int (i + j)) := rfl
theorem oMul_r (i j : Int) (h : small j = true) : oMul (.int i) (.int j) = .ok (.int (i * j)) := by
  simp [oMul, mulOk, h]
theorem oMul_l (i j : Int) (h : small i = true) : oMul (.int i) (.int j) = .ok (.int (i * j)) := by
  simp [oMul, mulOk, h]
theorem oMul_of (i j : Int) (h : mulOk i j = true) : oMul (.int i) (.int j) = .ok (.int (i * j)) := by
  simp [oMul, h]
theorem oMul_s (z : List Nat) (j : Int) (h : 0 ≤ j) (h1 : j ≤ 1000) (h2 : z.length ≤ 1000) : oMul (.str z) (.int j) = .ok (.str (List.replicate j.toNat z).flatten) := by
  simp [oMul, h, h1, h2]
theorem small_of {i : Int} (h1 : -(2 ^ 64) < i) (h2 : i < 2 ^ 64) : small i = true := by
  unfold small; rw [Bool.and_eq_true]; exact ⟨decide_eq_true h1, decide_eq_true h2⟩
theorem oDiv_i (i j : Int) (h : divOk j = true) : oDiv (.int i) (.int j) = .ok (.int (i / j)) := by
  show need (divOk j) _ = _
  rw [h]; rfl
theorem oMod_i (i j : Int) (h : 0 < j) : oMod (.int i) (.int j) = .ok (.int (i % j)) := by
  show need (decide (0 < j)) _ = _
  rw [decide_eq_true h]; rfl
theorem oPow_i (i j : Int) (h : (decide (0 ≤ j) && decide (j ≤ 1000000) && decide (i.natAbs < 2 ^ 64)) = true) : oPow (.int i) (.int j) = .ok (.int (i ^ j.toNat)) := by
  show need _ _ = _
  rw [h]; rfl
theorem oNeg_i (i : Int) : oNeg (.int i) = .ok (.int (-i)) := rfl
theorem cLt_i (i j : Int) : cLt (.int i) (.int j) = .ok (.bl (decide (i < j))) := rfl
theorem cLe_i (i j : Int) : cLe (.int i) (.int j) = .ok (.bl (decide (i ≤ j))) := rfl
theorem cGt_i (i j : Int) : cGt (.int i) (.int j) = .ok (.bl (decide (j < i))) := rfl
theorem cGe_i (i j : Int) : cGe (.int i) (.int j) = .ok (.bl (decide (j ≤ i))) := rfl
theorem beq_int (i j : Int) : (i == j) = decide (i = j) := by by_cases h : i = j <;> simp [h]
theorem cEq_i (i j : Int) : cEq (.int i) (.int j) = .ok (.bl (decide (i = j))) := by
  show R.ok (D.bl (i == j)) = _; rw [beq_int]
theorem cNe_i (i j : Int) : cNe (.int i) (.int j) = .ok (.bl (!decide (i = j))) := by
  show R.ok (D.bl (!(i == j))) = _; rw [beq_int]
theorem beq_str (i j : List Nat) : (i == j) = decide (i = j) := by by_cases h : i = j <;> simp [h]
theorem cEq_s (i j : List Nat) : cEq (.str i) (.str j) = .ok (.bl (decide (i = j))) := by
  show R.ok (D.bl (i == j)) = _; rw [beq_str]
theorem cNe_s (i j : List Nat) : cNe (.str i) (.str j) = .ok (.bl (!decide (i = j))) := by
  show R.ok (D.bl (!(i == j))) = _; rw [beq_str]
theorem cEq_of {a b : D} (ha : okD 60 a = true) (hb : okD 60 b = true) : cEq a b = .ok (.bl (eqv a b)) := by
  simp [cEq, ha, hb]
theorem cNe_of {a b : D} (ha : okD 60 a = true) (hb : okD 60 b = true) : cNe a b = .ok (.bl (!eqv a b)) := by
  simp [cNe, ha, hb]
theorem cIsN_d (x : D) (s : Sto) : cIsN (.d x) s = .ok (.d (.bl (isN x)), s) := rfl
theorem cNotN_d (x : D) (s : Sto) : cNotN (.d x) s = .ok (.d (.bl (!isN x)), s) := rfl
theorem isN_int (i : Int) : isN (.int i) = false := rfl
theorem isN_str (i : List Nat) : isN (.str i) = false := rfl
theorem isN_tup (i : List D) : isN (.tup i) = false := rfl
theorem isN_non : isN .non = true := rfl
theorem cIn_lst (x : D) (l : List D) (h : (flat x && l.all flat) = true) : cIn x (.lst l) = .ok (.bl (inL x l)) := by
  simp only [cIn, oneOf, h, Bool.true_or, need_true, R.bind_ok]
theorem cNin_lst (x : D) (l : List D) (h : (flat x && l.all flat) = true) : cNin x (.lst l) = .ok (.bl (!inL x l)) := by
  simp only [cNin, oneOf, h, Bool.true_or, need_true, R.bind_ok]
theorem cIn_tup (x : D) (l : List D) (h : (flat x && l.all flat) = true) : cIn x (.tup l) = .ok (.bl (inL x l)) := by
  simp only [cIn, oneOf, h, Bool.true_or, need_true, R.bind_ok]
theorem cNin_tup (x : D) (l : List D) (h : (flat x && l.all flat) = true) : cNin x (.tup l) = .ok (.bl (!inL x l)) := by
  simp only [cNin, oneOf, h, Bool.true_or, need_true, R.bind_ok]
theorem cIn_dct (x : D) (t : Bool) (l : List (D × D)) (h : keyOk t x = true) : cIn x (.dct t l) = .ok (.bl (lookD l x).isSome) := by
  simp only [cIn, oneOf, h, Bool.true_or, need_true, R.bind_ok]
theorem cNin_dct (x : D) (t : Bool) (l : List (D × D)) (h : keyOk t x = true) : cNin x (.dct t l) = .ok (.bl (!(lookD l x).isSome)) := by
  simp only [cNin, oneOf, h, Bool.true_or, need_true, R.bind_ok]
/-! displays, built-ins -/
theorem tupW_ws (l : List D) : tupW (ws l) = .d (.tup l) := by simp only [tupW, asDs_ws']
theorem fTup_d (l : List D) (s : Sto) (h : l.length ≤ sizeL) : fTup (ws l) s = .ok (.d (.tup l), s) := by
  have : (ws l).length = l.length := by simp [ws]
  simp only [fTup, this, decide_eq_true h, need_true, tupW_ws]
theorem fTup0 (s : Sto) : fTup [] s = .ok (.d (.tup []), s) := rfl
theorem fTup1 (a : D) (s : Sto) : fTup [.d a] s = .ok (.d (.tup [a]), s) := rfl
theorem fTup2 (a b : D) (s : Sto) : fTup [.d a, .d b] s = .ok (.d (.tup [a, b]), s) := rfl
theorem fTup3 (a b c : D) (s : Sto) : fTup [.d a, .d b, .d c] s = .ok (.d (.tup [a, b, c]), s) := rfl
theorem fTup4 (a b c d : D) (s : Sto) : fTup [.d a, .d b, .d c, .d d] s = .ok (.d (.tup [a, b, c, d]), s) := rfl
theorem fLst0 (s : Sto) : fLst [] s = .ok (.d (.lst []), s) := rfl
theorem fLst1 (a : D) (s : Sto) : fLst [.d a] s = .ok (.d (.lst [a]), s) := rfl
theorem fLst2 (a b : D) (s : Sto) : fLst [.d a, .d b] s = .ok (.d (.lst [a, b]), s) := rfl
theorem fLst3 (a b c : D) (s : Sto) : fLst [.d a, .d b, .d c] s = .ok (.d (.lst [a, b, c]), s) := rfl
theorem fLst4 (a b c d : D) (s : Sto) : fLst [.d a, .d b, .d c, .d d] s = .ok (.d (.lst [a, b, c, d]), s) := rfl
theorem fLst5 (a b c d e : D) (s : Sto) : fLst [.d a, .d b, .d c, .d d, .d e] s = .ok (.d (.lst [a, b, c, d, e]), s) := rfl
theorem fLst6 (a b c d e f : D) (s : Sto) : fLst [.d a, .d b, .d c, .d d, .d e, .d f] s = .ok (.d (.lst [a, b, c, d, e, f]), s) := rfl
theorem fLstC0 (s : Sto) : fLstC [] s = .ok (.loc s.length, s ++ [.l []]) := rfl
theorem fLstC1 (a : D) (s : Sto) : fLstC [.d a] s = .ok (.loc s.length, s ++ [.l [a]]) := rfl
theorem eDct_ap (t : Bool) (e : Env) (s : Sto) : eDct t e s = .ok (.loc s.length, s ++ [.m t []]) := rfl
theorem bLen_str (z : List Nat) (s : Sto) (h : z.length ≤ sizeL) : bLen (.d (.str z)) s = .ok (.d (.int z.length), s) := by
  show need (decide (z.length ≤ sizeL)) _ = _; rw [decide_eq_true h]; rfl
theorem bLen_lst (l : List D) (s : Sto) : bLen (.d (.lst l)) s = .ok (.d (.int l.length), s) := by
  show R.ok (W.d (.int (ws l).length), s) = _; simp [ws]
theorem bLen_tup (l : List D) (s : Sto) : bLen (.d (.tup l)) s = .ok (.d (.int l.length), s) := by
  show R.ok (W.d (.int (ws l).length), s) = _; simp [ws]
theorem bLen_inp (l : List D) (s : Sto) : bLen (.d (.inp l)) s = .ok (.d (.int l.length), s) := by
  show R.ok (W.d (.int (ws l).length), s) = _; simp [ws]
theorem bLen_loc (k : Nat) (s : Sto) (l : List D) (h : s[k]? = some (.l l)) : bLen (.loc k) s = .ok (.d (.int l.length), s) := by simp [bLen, h]
theorem bTup_lst (l : List D) (s : Sto) : bTup (.d (.lst l)) s = .ok (.d (.tup l), s) := by
  show R.ok (tupW (ws l), s) = _; rw [tupW_ws]
theorem bTup_tup (l : List D) (s : Sto) : bTup (.d (.tup l)) s = .ok (.d (.tup l), s) := rfl
theorem bTup_loc (k : Nat) (s : Sto) (l : List D) (h : s[k]? = some (.l l)) : bTup (.loc k) s = .ok (.d (.tup l), s) := by
  simp only [bTup, lstOf, h, R.bind_ok, tupW_ws]
theorem bLst_tup (l : List D) (s : Sto) : bLst (.d (.tup l)) s = .ok (.d (.lst l), s) := by
  simp only [bLst, items, R.bind_ok, asDs_ws', ofO_some]
theorem bLst_lst (l : List D) (s : Sto) : bLst (.d (.lst l)) s = .ok (.d (.lst l), s) := by
  simp only [bLst, items, R.bind_ok, asDs_ws', ofO_some]
theorem bLstC_tup (l : List D) (s : Sto) : bLstC (.d (.tup l)) s = .ok (.loc s.length, s ++ [.l l]) := by
  simp only [bLstC, items, R.bind_ok, newL, asDs_ws']
theorem bLstC_lst (l : List D) (s : Sto) : bLstC (.d (.lst l)) s = .ok (.loc s.length, s ++ [.l l]) := by
  simp only [bLstC, items, R.bind_ok, newL, asDs_ws']
theorem isI_d (t : Ty) (x : D) (s : Sto) (h : noDct x = true) : isI t (.d x) s = .ok (.d (.bl (tyD t x)), s) := by
  show need (noDct x) _ = _; rw [h]; rfl
theorem bMin2_i (i j : Int) : bMin2 (.int i) (.int j) = .ok (.int (if j < i then j else i)) := rfl
theorem bMax2_i (i j : Int) : bMax2 (.int i) (.int j) = .ok (.int (if j > i then j else i)) := rfl
theorem bInt_b (b : Bool) : bInt (.bl b) = .ok (.int (if b then 1 else 0)) := rfl
theorem bInt_i (i : Int) : bInt (.int i) = .ok (.int i) := rfl
theorem bDivmod_i (i j : Int) (s : Sto) (h : divOk j = true) : bDivmod (.d (.int i)) (.d (.int j)) s = .ok (.d (.tup [.int (i / j), .int (i % j)]), s) := by
  show need (divOk j) _ = _; rw [h]; rfl
theorem bStr_i (i : Int) (h : 0 ≤ i) (h2 : i.natAbs.log2 < 1920) : bStr (.int i) = .ok (.str (numL i.toNat)) := by
  show need (decide (0 ≤ i) && decide (i.natAbs.log2 < 1920)) _ = _
  rw [decide_eq_true h, decide_eq_true h2]; rfl
theorem bStr_s (z : List Nat) : bStr (.str z) = .ok (.str z) := rfl
theorem intsD_map (l : List Int) : intsD (l.map .int) = some l := by
  induction l with
  | nil => rfl
  | cons i l ih => show (intsD (l.map .int)).map _ = _; rw [ih]; rfl
theorem boolsD_map (l : List Bool) : boolsD (l.map .bl) = some l := by
  induction l with
  | nil => rfl
  | cons i l ih => show (boolsD (l.map .bl)).map _ = _; rw [ih]; rfl
theorem strsD_map (l : List (List Nat)) : strsD (l.map .str) = some l := by
  induction l with
  | nil => rfl
  | cons i l ih => show (strsD (l.map .str)).map _ = _; rw [ih]; rfl
theorem bSum_i (l : List Int) : bSum (.lst (l.map .int)) = .ok (.int l.sum) := by
  simp only [bSum, listD, R.bind_ok, intsD_map, ofO_some]
theorem bAny_b (l : List Bool) : bAny (.lst (l.map .bl)) = .ok (.bl (l.any id)) := by
  simp only [bAny, listD, R.bind_ok, boolsD_map, ofO_some]
theorem bSortI_l (l : List Int) : bSortI (.lst (l.map .int)) = .ok (.lst ((l.mergeSort (fun a b => decide (a ≤ b))).map .int)) := by
  simp only [bSortI, seqOf, R.bind_ok, intsD_map, ofO_some]
theorem bSortI_t (l : List Int) : bSortI (.tup (l.map .int)) = .ok (.lst ((l.mergeSort (fun a b => decide (a ≤ b))).map .int)) := by
  simp only [bSortI, seqOf, R.bind_ok, intsD_map, ofO_some]
/-! subscripts -/
theorem oIx_lst (l : List D) (i : Int) (s : Sto) (x : D) (h : atI l i = some x) : oIx (.d (.lst l)) (.d (.int i)) s = .ok (.d x, s) := by
  have : atI (ws l) i = some (.d x) := by
    unfold atI at h ⊢
    have hl : (ws l).length = l.length := by simp [ws]
    rw [hl]
    cases q : ixN l.length i with
    | none => rw [q] at h; cases h
    | some j =>
      rw [q] at h
      show (ws l)[j]? = _
      rw [ws, List.getElem?_map, show l[j]? = some x from h]; rfl
  show ixW (ws l) (.d (.int i)) s = _
  simp only [ixW, this, ofO_some, R.bind_ok]
theorem oIx_tup (l : List D) (i : Int) (s : Sto) (x : D) (h : atI l i = some x) : oIx (.d (.tup l)) (.d (.int i)) s = .ok (.d x, s) := oIx_lst l i s x h
theorem oIx_inp (l : List D) (i : Int) (s : Sto) (x : D) (h : atI l i = some x) : oIx (.d (.inp l)) (.d (.int i)) s = .ok (.d x, s) := oIx_lst l i s x h
theorem oIx_loc (k : Nat) (l : List D) (i : Int) (s : Sto) (x : D) (hk : s[k]? = some (.l l)) (h : atI l i = some x) : oIx (.loc k) (.d (.int i)) s = .ok (.d x, s) := by
  have := oIx_lst l i s x h
  show (match s[k]? with | some (.l l) => ixW (ws l) (.d (.int i)) s | some (.w l) => ixW l (.d (.int i)) s | some (.m t l) => ixM t l (.d (.int i)) s | some (.mw t l) => ixMW t l (.d (.int i)) s | _ => .stuck) = _
  rw [hk]; exact this
theorem oIx_str (z : List Nat) (i : Int) (s : Sto) (c : Nat) (hz : z.length ≤ sizeL) (h : atI z i = some c) : oIx (.d (.str z)) (.d (.int i)) s = .ok (.d (.str [c]), s) := by
  show need (decide (z.length ≤ sizeL)) _ = _
  rw [decide_eq_true hz, need_true, h]; rfl
theorem atI_nat {α : Type} {l : List α} {i : Int} {x : α} (h0 : 0 ≤ i) (h : l[i.toNat]? = some x) : atI l i = some x := by
  have hl : i.toNat < l.length := (List.getElem?_eq_some_iff.mp h).1
  unfold atI ixN
  rw [if_pos h0, if_pos (by omega)]
  exact h
theorem atI0 {α : Type} (x : α) (l : List α) : atI (x :: l) 0 = some x := atI_nat (by decide) rfl
theorem atI1 {α : Type} (x y : α) (l : List α) : atI (x :: y :: l) 1 = some y := atI_nat (by decide) rfl
theorem atI2 {α : Type} (x y z : α) (l : List α) : atI (x :: y :: z :: l) 2 = some z := atI_nat (by decide) rfl
theorem atI3 {α : Type} (x y z u : α) (l : List α) : atI (x :: y :: z :: u :: l) 3 = some u := atI_nat (by decide) rfl
theorem atI_last {α : Type} (l : List α) (x : α) : atI (l ++ [x]) (-1) = some x := by
  unfold atI ixN
  rw [if_neg (by decide), if_pos (by simp; omega)]
  show (l ++ [x])[(-1 + ((l ++ [x]).length : Int)).toNat]? = some x
  have : (-1 + ((l ++ [x]).length : Int)).toNat = l.length := by simp; omega
  rw [this]; simp
/-! methods of lists -/
theorem m0_ap (p : W → Sto → Bool) (f : W → Sto → VS) (a : Ev) (e : Env) (s : Sto) : m0 p f a e s = (a e s).bind fun q => need (p q.1 q.2) (f q.1 q.2) := rfl
theorem m1_ap (p : W → Sto → Bool) (f : W → W → Sto → VS) (a b : Ev) (e : Env) (s : Sto) : m1 p f a b e s = (a e s).bind fun q => need (p q.1 q.2) ((b e q.2).bind fun r => f q.1 r.1 r.2) := rfl
theorem m2_ap (p : W → Sto → Bool) (f : W → W → W → Sto → VS) (a b c : Ev) (e : Env) (s : Sto) : m2 p f a b c e s = (a e s).bind fun q => need (p q.1 q.2) ((b e q.2).bind fun r => (c e r.2).bind fun t => f q.1 r.1 t.1 t.2) := rfl
theorem isL_loc (k : Nat) (s : Sto) (l : List D) (h : s[k]? = some (.l l)) : isL (.loc k) s = true := by simp [isL, h]
theorem isL_locw (k : Nat) (s : Sto) (l : List W) (h : s[k]? = some (.w l)) : isL (.loc k) s = true := by simp [isL, h]
theorem lAppend_d (k : Nat) (s : Sto) (l : List D) (x : D) (h : s[k]? = some (.l l)) (hl : l.length < sizeL) : lAppend (.loc k) (.d x) s = .ok (.d .non, s.set k (.l (l ++ [x]))) := by
  simp only [lAppend, h, decide_eq_true hl, need_true, wl]
theorem seqW_tup (s : Sto) (l : List D) : seqW s (.d (.tup l)) = .ok (ws l) := rfl
theorem seqW_lst (s : Sto) (l : List D) : seqW s (.d (.lst l)) = .ok (ws l) := rfl
theorem mkC_ws (l : List D) : mkC (ws l) = .l l := by simp only [mkC, asDs_ws']
theorem lExtend_d (k : Nat) (s : Sto) (l m : List D) (y : W) (h : s[k]? = some (.l l)) (hy : seqW s y = .ok (ws m)) (hl : l.length + m.length ≤ sizeL) : lExtend (.loc k) y s = .ok (.d .non, s.set k (.l (l ++ m))) := by
  have e : (ws l).length + (ws m).length ≤ sizeL := by simp [ws]; exact hl
  simp only [lExtend, lstOf, h, hy, R.bind_ok, decide_eq_true e, need_true, ws_app, mkC_ws]
theorem lPop_d (k : Nat) (s : Sto) (l : List D) (x : D) (h : s[k]? = some (.l (l ++ [x]))) : lPop (.loc k) s = .ok (.d x, s.set k (.l l)) := by
  simp [lPop, h]
theorem lReverse_d (k : Nat) (s : Sto) (l : List D) (h : s[k]? = some (.l l)) : lReverse (.loc k) s = .ok (.d .non, s.set k (.l l.reverse)) := by simp [lReverse, h]
/-! walks -/
theorem iSeq_ap (a : Ev) (e : Env) (s : Sto) : iSeq a e s = (a e s).bind fun p => match p.1 with | .d (.lst l) => .ok (ws l, p.2) | .d (.tup l) => .ok (ws l, p.2) | .d (.inp l) => .ok (ws l, p.2) | .d (.inq l) => .ok (ws l, p.2) | .tw l => .ok (l, p.2) | _ => .stuck := rfl
theorem iR1_ap (a : Ev) (e : Env) (s : Sto) : iR1 a e s = (a e s).bind fun p => match p.1 with | .d (.int i) => need (small62 i) (.ok (rng 0 i.toNat, p.2)) | _ => .stuck := rfl
theorem iR2_ap (a b : Ev) (e : Env) (s : Sto) : iR2 a b e s = (a e s).bind fun p => (b e p.2).bind fun q => rng2 p.1 q.1 q.2 := rfl
theorem rng2_i (i j : Int) (s : Sto) (h : small62 i = true) (h2 : small62 j = true) : rng2 (.d (.int i)) (.d (.int j)) s = .ok (rng i (j - i).toNat, s) := by
  show need _ _ = _; rw [h, h2]; rfl
theorem iStr_ap (a : Ev) (e : Env) (s : Sto) : iStr a e s = (a e s).bind fun p => match p.1 with | .d (.str z) => .ok (z.map (fun c => .d (.str [c])), p.2) | _ => .stuck := rfl
theorem s62_of {i : Int} (h0 : -(2 ^ 62) ≤ i) (h1 : i < 2 ^ 62) : small62 i = true := by
  unfold small62; rw [Bool.and_eq_true]; exact ⟨decide_eq_true h0, decide_eq_true h1⟩
theorem eSl_ap (a : Ev) (lo hi : Option Ev) (e : Env) (s : Sto) : eSl a lo hi e s = (a e s).bind fun p => (pt lo e p.2).bind fun l => (pt hi e l.2).bind fun h => slice l.1 h.1 p.1 h.2 := rfl
theorem pt_none (e : Env) (s : Sto) : pt none e s = .ok (none, s) := rfl
theorem pt_some (b : Ev) (e : Env) (s : Sto) : pt (some b) e s = (b e s).bind fun q => (asI q.1).bind fun i => .ok (i, q.2) := rfl
theorem asI_i (i : Int) : asI (.d (.int i)) = .ok (some i) := rfl
theorem eComp_ap (i : Wk) (g : Tg) (t : Tx) (a : Ev) (own : List Nat) (e : Env) (s : Sto) : eComp i g t a own e s = (i e s).bind fun p => need (decide (p.1.length ≤ sizeL)) ((comp g t a own e p.1 p.2).bind fun q => (ofO (asDs q.1)).bind fun l => .ok (.d (.lst l), q.2)) := rfl
theorem comp_nil (g : Tg) (t : Tx) (a : Ev) (own : List Nat) (e0 : Env) (s : Sto) : comp g t a own e0 [] s = .ok ([], s) := rfl
theorem comp_cons (g : Tg) (t : Tx) (a : Ev) (own : List Nat) (e0 : Env) (x : W) (xs : List W) (s : Sto) : comp g t a own e0 (x :: xs) s = (qt (g x (kill own e0) s)).bind fun p => (qt (t p.1 p.2)).bind fun q => if q.1 then
      (qt (a p.1 q.2)).bind fun r => (comp g t a own e0 xs r.2).bind fun z => .ok (r.1 :: z.1, z.2)
    else comp g t a own e0 xs q.2 := rfl
theorem qt_ok' {α : Type} (x : α) : qt (R.ok x) = .ok x := rfl
theorem qt_stuck' {α : Type} : qt (R.stuck : R α) = .stuck := rfl
theorem qt_ex' {α : Type} (x : Exc) (s : Sto) : qt (R.ex x s : R α) = .stuck := rfl
/-- a comprehension over data, each turn by itself -/
theorem comp_map {α : Type} (g : Tg) (t : Tx) (a : Ev) (own : List Nat) (e0 : Env) (s : Sto) (en : α → W) (keep : α → Bool) (f : α → D) (l : List α)
    (h : ∀ x ∈ l, ∃ e', g (en x) (kill own e0) s = .ok (e', s) ∧ t e' s = .ok (keep x, s) ∧ (keep x = true → a e' s = .ok (.d (f x), s))) : comp g t a own e0 (l.map en) s = .ok (ws ((l.filter keep).map f), s) := by
  induction l with
  | nil => rfl
  | cons x l ih =>
    obtain ⟨e', h1, h2, h3⟩ := h x List.mem_cons_self
    have ih := ih fun y hy => h y (List.mem_cons_of_mem _ hy)
    rw [List.map_cons, comp_cons, h1, qt_ok', R.bind_ok, h2, qt_ok', R.bind_ok]
    cases k : keep x with
    | false => simp only [Bool.false_eq_true, if_false]; rw [ih, List.filter_cons_of_neg (by simp [k])]
    | true => simp only [if_true]; rw [h3 k, qt_ok', R.bind_ok, ih, R.bind_ok, List.filter_cons_of_pos k]; rfl
theorem mul_stuck : True := trivial
/-! what lies in the store -/
def datO (s : Sto) (k : Nat) : R D := dat s (.loc k)
theorem dat_lc (s : Sto) (k : Nat) : dat s (.loc k) = match s[k]? with | some (.l xs) => .ok (.lst xs) | some (.m t kv) => .ok (.dct t kv) | _ => datO s k := by
  cases h : s[k]? with
  | none => rfl
  | some c => cases c with
    | l xs => show dat s (.loc k) = .ok (.lst xs); simp [dat, toD, FU, h]
    | m t kv => show dat s (.loc k) = .ok (.dct t kv); simp [dat, toD, FU, h]
    | w _ => rfl
    | mw _ _ => rfl
    | o _ _ => rfl
theorem dat_dd (s : Sto) (x : D) : dat s (.d x) = .ok x := rfl
theorem d1_lc (f : D → R D) (k : Nat) (s : Sto) : d1 f (.loc k) s = (dat s (.loc k)).bind fun a => (f a).bind fun r => .ok (.d r, s) := rfl
theorem d2_dlc (f : D → D → R D) (x : D) (k : Nat) (s : Sto) : d2 f (.d x) (.loc k) s = (dat s (.loc k)).bind fun a => (f x a).bind fun r => .ok (.d r, s) := rfl
theorem d2_lcd (f : D → D → R D) (x : D) (k : Nat) (s : Sto) : d2 f (.loc k) (.d x) s = (dat s (.loc k)).bind fun a => (f a x).bind fun r => .ok (.d r, s) := rfl
theorem d2_lclc (f : D → D → R D) (j k : Nat) (s : Sto) : d2 f (.loc j) (.loc k) s = (dat s (.loc j)).bind fun a => (dat s (.loc k)).bind fun b => (f a b).bind fun r => .ok (.d r, s) := rfl
theorem isL_lc (k : Nat) (s : Sto) : isL (.loc k) s = match s[k]? with | some (.l _) => true | some (.w _) => true | _ => false := rfl
theorem lws (l : List D) : (ws l).length = l.length := by simp [ws]
theorem lAppend_lc (k : Nat) (x : D) (s : Sto) : lAppend (.loc k) (.d x) s = match s[k]? with | some (.l l) => need (decide (l.length < sizeL)) (.ok (.d .non, s.set k (.l (l ++ [x])))) | some (.w l) => need (decide (l.length < sizeL)) (.ok (.d .non, s.set k (.w (l ++ [.d x])))) | _ => .stuck := rfl
theorem lPop_lc (k : Nat) (s : Sto) : lPop (.loc k) s = match s[k]? with | some (.l l) => (match l.getLast? with | some v => .ok (.d v, s.set k (.l l.dropLast)) | none => .stuck) | some (.w l) => (match l.getLast? with | some v => .ok (v, s.set k (.w l.dropLast)) | none => .stuck) | _ => .stuck := by
  unfold lPop
  cases h : s[k]? with
  | none => simp only [h]
  | some c => cases c with
    | l xs => simp only [h]; cases xs.getLast? <;> rfl
    | w xs => simp only [h]; cases xs.getLast? <;> rfl
    | m _ _ => simp only [h]
    | mw _ _ => simp only [h]
    | o _ _ => simp only [h]
theorem lReverse_lc (k : Nat) (s : Sto) : lReverse (.loc k) s = match s[k]? with | some (.l l) => .ok (.d .non, s.set k (.l l.reverse)) | some (.w l) => .ok (.d .non, s.set k (.w l.reverse)) | _ => .stuck := rfl
theorem bLen_lc (k : Nat) (s : Sto) : bLen (.loc k) s = match s[k]? with | some (.l l) => .ok (.d (.int l.length), s) | some (.w l) => .ok (.d (.int l.length), s) | _ => .stuck := rfl
theorem lstOf_lc (k : Nat) (s : Sto) : lstOf s (.loc k) = match s[k]? with | some (.l l) => .ok (ws l) | some (.w l) => .ok l | _ => .stuck := rfl
theorem bTup_lc (k : Nat) (s : Sto) : bTup (.loc k) s = (lstOf s (.loc k)).bind fun l => .ok (tupW l, s) := rfl
theorem tupW_ws0 (l : List D) : tupW (ws l) = .d (.tup l) := by simp only [tupW, asDs_ws']
theorem bLst_lc (k : Nat) (s : Sto) : bLst (.loc k) s = match s[k]? with | some (.l l) => .ok (.d (.lst l), s) | some (.w l) => (ofO (asDs l)).bind fun l => .ok (.d (.lst l), s) | _ => .stuck := by
  unfold bLst items
  cases h : s[k]? with
  | none => simp only [h, R.bind_stuck]
  | some c => cases c with
    | l xs => simp only [h, R.bind_ok, asDs_ws', ofO_some]
    | w xs => simp only [h, R.bind_ok]
    | m _ _ => simp only [h, R.bind_stuck]
    | mw _ _ => simp only [h, R.bind_stuck]
    | o _ _ => simp only [h, R.bind_stuck]
theorem mkC_ws0 (l : List D) : mkC (ws l) = .l l := by simp only [mkC, asDs_ws']
theorem lExtend_lc (k : Nat) (y : W) (s : Sto) : lExtend (.loc k) y s = (lstOf s (.loc k)).bind fun l => (seqW s y).bind fun m => need (decide (l.length + m.length ≤ sizeL)) (.ok (.d .non, s.set k (mkC (l ++ m)))) := rfl
theorem seqW_lc (k : Nat) (s : Sto) : seqW s (.loc k) = match s[k]? with | some (.l l) => .ok (ws l) | some (.w l) => .ok l | _ => .stuck := rfl
theorem ixW_i (l : List D) (i : Int) (s : Sto) : ixW (ws l) (.d (.int i)) s = match atI l i with | some x => .ok (.d x, s) | none => .stuck := by
  have : atI (ws l) i = (atI l i).map .d := by
    unfold atI; rw [lws]
    cases ixN l.length i with
    | none => rfl
    | some j => show (ws l)[j]? = (l[j]?).map .d; rw [ws, List.getElem?_map]
  show (ofO (atI (ws l) i)).bind _ = _
  rw [this]
  cases atI l i <;> rfl
theorem ixW0 (a : W) (l : List W) (s : Sto) : ixW (a :: l) (.d (.int 0)) s = .ok (a, s) := by
  show (ofO (atI (a :: l) 0)).bind _ = _; rw [atI_nat (i := 0) (by decide) (x := a) rfl]; rfl
theorem ixW1 (a b : W) (l : List W) (s : Sto) : ixW (a :: b :: l) (.d (.int 1)) s = .ok (b, s) := by
  show (ofO (atI (a :: b :: l) 1)).bind _ = _; rw [atI_nat (i := 1) (by decide) (x := b) rfl]; rfl
theorem ixW2 (a b c : W) (l : List W) (s : Sto) : ixW (a :: b :: c :: l) (.d (.int 2)) s = .ok (c, s) := by
  show (ofO (atI (a :: b :: c :: l) 2)).bind _ = _; rw [atI_nat (i := 2) (by decide) (x := c) rfl]; rfl
theorem ixW3 (a b c d : W) (l : List W) (s : Sto) : ixW (a :: b :: c :: d :: l) (.d (.int 3)) s = .ok (d, s) := by
  show (ofO (atI (a :: b :: c :: d :: l) 3)).bind _ = _; rw [atI_nat (i := 3) (by decide) (x := d) rfl]; rfl
theorem oIx_tw (l : List W) (y : W) (s : Sto) : oIx (.tw l) y s = ixW l y s := rfl
theorem oOr_n (i j : Nat) : oOr (.int i) (.int j) = .ok (.int ((i ||| j : Nat) : Int)) := by
  show need (decide ((0 : Int) ≤ i) && decide ((0 : Int) ≤ j)) (R.ok (D.int (((i : Int).toNat ||| (j : Int).toNat : Nat) : Int))) = _
  rw [decide_eq_true (Int.natCast_nonneg i), decide_eq_true (Int.natCast_nonneg j)]; rfl
theorem oIx_l (l : List D) (y : W) (s : Sto) : oIx (.d (.lst l)) y s = ixW (ws l) y s := rfl
theorem oIx_t (l : List D) (y : W) (s : Sto) : oIx (.d (.tup l)) y s = ixW (ws l) y s := rfl
theorem oIx_p (l : List D) (y : W) (s : Sto) : oIx (.d (.inp l)) y s = ixW (ws l) y s := rfl
theorem oIx_q (l : List D) (y : W) (s : Sto) : oIx (.d (.inq l)) y s = ixW (ws l) y s := rfl
theorem oIx_m (t : Bool) (l : List (D × D)) (y : W) (s : Sto) : oIx (.d (.dct t l)) y s = ixM t l y s := rfl
theorem oIx_lc (k : Nat) (y : W) (s : Sto) : oIx (.loc k) y s = match s[k]? with | some (.l l) => ixW (ws l) y s | some (.w l) => ixW l y s | some (.m t l) => ixM t l y s | some (.mw t l) => ixMW t l y s | _ => .stuck := rfl
theorem ixM_d (t : Bool) (l : List (D × D)) (x : D) (s : Sto) : ixM t l (.d x) s = need (keyOk t x) (match lookD l x with | some v => .ok (.d v, s) | none => .stuck) := by
  show need _ _ = _; cases lookD l x <;> rfl
theorem gSb_ap (o i : Ev) (w : W) (e : Env) (s : Sto) : gSb o i w e s = qt ((o e s).bind fun p => (i e p.2).bind fun q => (setAny p.1 q.1 w q.2).bind fun s' => .ok (e, s')) := rfl
theorem setAny_lc (k : Nat) (i v : D) (s : Sto) : setAny (.loc k) (.d i) (.d v) s = match s[k]? with
    | some (.l l) => (match i with
      | .int i => (ofO (ixN l.length i)).bind fun j => .ok (s.set k (.l (l.set j v)))
      | _ => .stuck)
    | some (.w l) => (match i with
      | .int i => (ofO (ixN l.length i)).bind fun j => .ok (s.set k (.w (l.set j (.d v))))
      | _ => .stuck)
    | some (.m t l) => need (keyOk t i && decide (l.length < sizeL)) (.ok (s.set k (.m t (putD l i v))))
    | some (.mw t l) => need (keyOk t i && decide (l.length < sizeL)) (.ok (s.set k (.mw t (putD l i (.d v)))))
    | _ => .stuck := by
  unfold setAny
  cases h : s[k]? with
  | none => simp only [h]
  | some c => cases c with
    | l xs => simp only [h]; cases i <;> rfl
    | w xs => simp only [h]; cases i <;> rfl
    | m _ _ => simp only [h, dat_dd, R.bind_ok]
    | mw _ _ => simp only [h, dat_dd, R.bind_ok]
    | o _ _ => simp only [h]
theorem callM_ap (f : Fn) (l : List W) (s : Sto) : callM f l s = f l s := rfl
def st :=
  And.intro @dat_lc (And.intro @dat_dd (And.intro @d1_lc (And.intro @d2_dlc (And.intro @d2_lcd (And.intro @d2_lclc (And.intro @isL_lc (And.intro @lws (And.intro @lAppend_lc (And.intro @lPop_lc (And.intro @lReverse_lc (And.intro @bLen_lc (And.intro @lstOf_lc (And.intro @bTup_lc (And.intro @tupW_ws0 (And.intro @bLst_lc (And.intro @mkC_ws0 (And.intro @lExtend_lc (And.intro @seqW_lc (And.intro @oIx_l (And.intro @oIx_t (And.intro @oIx_p (And.intro @oIx_q (And.intro @oIx_m (And.intro @oIx_lc (And.intro @ixM_d (And.intro @gSb_ap (And.intro @setAny_lc (And.intro @ws_app (And.intro @ixW0 (And.intro @ixW1 (And.intro @ixW2 (And.intro @ixW3 (And.intro @oIx_tw (True.intro))))))))))))))))))))))))))))))))))
theorem gEz (a : Option W) (l : List (Option W)) : (a :: l)[0]? = some a := rfl
theorem gEs (a : Option W) (l : List (Option W)) (n : Nat) : (a :: l)[n + 1]? = l[n]? := rfl
theorem sEz (a b : Option W) (l : List (Option W)) : (a :: l).set 0 b = b :: l := rfl
theorem sEs (a b : Option W) (l : List (Option W)) (n : Nat) : (a :: l).set (n + 1) b = a :: l.set n b := rfl
theorem lEn : ([] : List (Option W)).length = 0 := rfl
theorem lEc (a : Option W) (l : List (Option W)) : (a :: l).length = l.length + 1 := rfl
theorem aEn (l : List (Option W)) : [] ++ l = l := rfl
theorem aEc (a : Option W) (l m : List (Option W)) : a :: l ++ m = a :: (l ++ m) := rfl
theorem gCz (a : C) (l : List (C)) : (a :: l)[0]? = some a := rfl
theorem gCs (a : C) (l : List (C)) (n : Nat) : (a :: l)[n + 1]? = l[n]? := rfl
theorem sCz (a b : C) (l : List (C)) : (a :: l).set 0 b = b :: l := rfl
theorem sCs (a b : C) (l : List (C)) (n : Nat) : (a :: l).set (n + 1) b = a :: l.set n b := rfl
theorem lCn : ([] : List (C)).length = 0 := rfl
theorem lCc (a : C) (l : List (C)) : (a :: l).length = l.length + 1 := rfl
theorem aCn (l : List (C)) : [] ++ l = l := rfl
theorem aCc (a : C) (l m : List (C)) : a :: l ++ m = a :: (l ++ m) := rfl
theorem gWz (a : W) (l : List (W)) : (a :: l)[0]? = some a := rfl
theorem gWs (a : W) (l : List (W)) (n : Nat) : (a :: l)[n + 1]? = l[n]? := rfl
theorem sWz (a b : W) (l : List (W)) : (a :: l).set 0 b = b :: l := rfl
theorem sWs (a b : W) (l : List (W)) (n : Nat) : (a :: l).set (n + 1) b = a :: l.set n b := rfl
theorem lWn : ([] : List (W)).length = 0 := rfl
theorem lWc (a : W) (l : List (W)) : (a :: l).length = l.length + 1 := rfl
theorem aWn (l : List (W)) : [] ++ l = l := rfl
theorem aWc (a : W) (l m : List (W)) : a :: l ++ m = a :: (l ++ m) := rfl
theorem gDz (a : D) (l : List (D)) : (a :: l)[0]? = some a := rfl
theorem gDs (a : D) (l : List (D)) (n : Nat) : (a :: l)[n + 1]? = l[n]? := rfl
theorem sDz (a b : D) (l : List (D)) : (a :: l).set 0 b = b :: l := rfl
theorem sDs (a b : D) (l : List (D)) (n : Nat) : (a :: l).set (n + 1) b = a :: l.set n b := rfl
theorem lDn : ([] : List (D)).length = 0 := rfl
theorem lDc (a : D) (l : List (D)) : (a :: l).length = l.length + 1 := rfl
theorem aDn (l : List (D)) : [] ++ l = l := rfl
theorem aDc (a : D) (l m : List (D)) : a :: l ++ m = a :: (l ++ m) := rfl
theorem lMi (l : List Int) (f : Int → D) : (l.map f).length = l.length := List.length_map f
theorem lMs (l : List (List Nat)) (f : List Nat → D) : (l.map f).length = l.length := List.length_map f
theorem lMd (l : List D) (f : D → D) : (l.map f).length = l.length := List.length_map f
def en :=
  And.intro @gEz (And.intro @gEs (And.intro @sEz (And.intro @sEs (And.intro @lEn (And.intro @lEc (And.intro @aEn (And.intro @aEc (And.intro @gCz (And.intro @gCs (And.intro @sCz (And.intro @sCs (And.intro @lCn (And.intro @lCc (And.intro @aCn (And.intro @aCc (And.intro @gWz (And.intro @gWs (And.intro @sWz (And.intro @sWs (And.intro @lWn (And.intro @lWc (And.intro @aWn (And.intro @aWc (And.intro @gDz (And.intro @gDs (And.intro @sDz (And.intro @sDs (And.intro @lDn (And.intro @lDc (And.intro @aDn (And.intro @aDc (And.intro @lMi (And.intro @lMs (And.intro @lMd (True.intro)))))))))))))))))))))))))))))))))))
/-- the run of a B term: rules without premises -/
def ev :=
  And.intro @eV_ap (And.intro @eK_ap (And.intro @e1_ap (And.intro @e2_ap (And.intro @eN_ap (And.intro @eAs_nil (And.intro @eAs_cons (And.intro @d1_ap (And.intro @d2_ap (And.intro @tB_ap (And.intro @tAnd_ap (And.intro @tOr_ap (And.intro @tNot_ap (And.intro @tYes_ap (And.intro @eAnd_ap (And.intro @eOr_ap (And.intro @eNot_ap (And.intro @eIf_ap (And.intro @bind_ite (And.intro @bd_ite (And.intro @sSkip_ap (And.intro @sSeq_ap (And.intro @sAsg_ap (And.intro @sX_ap (And.intro @sRet_ap (And.intro @sRetN_ap (And.intro @sIf_ap (And.intro @sBrk_ap (And.intro @sCnt_ap (And.intro @sKill_ap (And.intro @kill_nil (And.intro @kill_cons (And.intro @sFor_ap (And.intro @loop_nil (And.intro @gN_ap (And.intro @gT_tup (And.intro @gT_tw (And.intro @gTs_nil (And.intro @gTs_cons (And.intro @ws_nil (And.intro @ws_cons (And.intro @turn_nx (And.intro @turn_ct (And.intro @turn_bk (And.intro @turn_rt (And.intro @turn_xx (And.intro @asDs_nil (And.intro @asDs_d (And.intro @asDs_loc (And.intro @asDs_tw (And.intro @oAdd_i (And.intro @oSub_i (And.intro @oAddI_i (And.intro @oNeg_i (And.intro @cLt_i (And.intro @cLe_i (And.intro @cGt_i (And.intro @cGe_i (And.intro @cEq_i (And.intro @cNe_i (And.intro @cEq_s (And.intro @cNe_s (And.intro @cIsN_d (And.intro @cNotN_d (And.intro @isN_int (And.intro @isN_str (And.intro @isN_tup (And.intro @isN_non (And.intro @fTup0 (And.intro @fTup1 (And.intro @fTup2 (And.intro @fTup3 (And.intro @fTup4 (And.intro @fLst0 (And.intro @fLst1 (And.intro @fLst2 (And.intro @fLst3 (And.intro @fLst4 (And.intro @fLst5 (And.intro @fLst6 (And.intro @fLstC0 (And.intro @fLstC1 (And.intro @eDct_ap (And.intro @bLen_lst (And.intro @bLen_tup (And.intro @bLen_inp (And.intro @bTup_lst (And.intro @bTup_tup (And.intro @bLst_tup (And.intro @bLst_lst (And.intro @bLstC_tup (And.intro @bLstC_lst (And.intro @bMin2_i (And.intro @bMax2_i (And.intro @bInt_b (And.intro @bInt_i (And.intro @bStr_s (And.intro @bSum_i (And.intro @bAny_b (And.intro @bSortI_l (And.intro @bSortI_t (And.intro @m0_ap (And.intro @m1_ap (And.intro @m2_ap (And.intro @seqW_tup (And.intro @seqW_lst (And.intro @iSeq_ap (And.intro @iR1_ap (And.intro @iR2_ap (And.intro @iStr_ap (And.intro @eSl_ap (And.intro @pt_none (And.intro @pt_some (And.intro @asI_i (And.intro @eComp_ap (And.intro @comp_nil (And.intro @qt_ok' (And.intro @qt_stuck' (And.intro @outOf_rt (And.intro @outOf_nx (And.intro @outOf_xx (And.intro @R.bind_ok (And.intro @R.bind_stuck (And.intro @R.bind_ex (And.intro @R.bd_ok (And.intro @R.bd_stuck (And.intro @R.bd_ex (And.intro @need_true (And.intro @ofO_some (True.intro)))))))))))))))))))))))))))))))))))))))))))))))))))))))))))))))))))))))))))))))))))))))))))))))))))))))))))))))))))))))))))))))))
end B
/-! Loops by an invariant, facts of plain data. -/
namespace B
theorem loop_inv {g : Tg} {b : Sx} (P : Nat → Env → Sto → Prop) : ∀ (xs : List W) (n : Nat) (e : Env) (s : Sto)
    (h : ∀ i x e s, xs[i]? = some x → P (n + i) e s → ∃ e1 s1 e2 s2, g x e s = .ok (e1, s1) ∧ (b e1 s1 = .ok (.nx e2 s2) ∨ b e1 s1 = .ok (.ct e2 s2)) ∧ P (n + i + 1) e2 s2),
    P n e s → ∃ e2 s2, loop g b xs e s = .ok (.nx e2 s2) ∧ P (n + xs.length) e2 s2
  | [], n, e, s, h, p => ⟨e, s, rfl, p⟩
  | x :: xs, n, e, s, h, p => by
    obtain ⟨e1, s1, e2, s2, h1, h2, h3⟩ := h 0 x e s rfl p
    obtain ⟨e3, s3, h4, h5⟩ := loop_inv P xs (n + 1) e2 s2 (fun i y e s hi hp => by
      have := h (i + 1) y e s (by simpa using hi) (by rw [show n + (i + 1) = n + 1 + i by omega]; exact hp)
      rw [show n + (i + 1) + 1 = n + 1 + i + 1 by omega] at this
      exact this) h3
    refine ⟨e3, s3, ?_, by rw [show n + (x :: xs).length = n + 1 + xs.length by simp; omega]; exact h5⟩
    rw [loop_cons, h1, R.bd_ok]
    rcases h2 with h2 | h2 <;> rw [h2, R.bind_ok]
    · rw [turn_nx]; exact h4
    · rw [turn_ct]; exact h4
/-- a for loop whose turns keep an invariant -/
theorem loop_run {g : Tg} {b : Sx} (P : Nat → Env → Sto → Prop) (xs : List W) (e : Env) (s : Sto) (p : P 0 e s)
    (h : ∀ i x e s, xs[i]? = some x → P i e s → ∃ e1 s1 e2 s2, g x e s = .ok (e1, s1) ∧ (b e1 s1 = .ok (.nx e2 s2) ∨ b e1 s1 = .ok (.ct e2 s2)) ∧ P (i + 1) e2 s2) :
    ∃ e2 s2, loop g b xs e s = .ok (.nx e2 s2) ∧ P xs.length e2 s2 := by
  have := loop_inv P xs 0 e s (fun i x e s hx hp => by
    rw [Nat.zero_add] at hp ⊢
    exact h i x e s hx hp) p
  rwa [Nat.zero_add] at this
/-- a name-target loop whose turns change nothing but the killed names -/
theorem loop_same {i : Nat} {b : Sx} {e : Env} {s : Sto} : ∀ (xs : List W), (∀ x ∈ xs, b (e.set i (some x)) s = .ok (.nx e s)) → loop (gN i) b xs e s = .ok (.nx e s)
  | [], _ => rfl
  | x :: xs, h => by
    rw [loop_cons, gN_ap, R.bd_ok, h x List.mem_cons_self, R.bind_ok, turn_nx]
    exact loop_same xs fun y hy => h y (List.mem_cons_of_mem _ hy)
theorem rngLen : ∀ (lo : Int) (n : Nat), (rng lo n).length = n
  | lo, 0 => rfl
  | lo, n + 1 => by show (rng (lo + 1) n).length + 1 = _; rw [rngLen]
theorem rngGet : ∀ (lo : Int) (n i : Nat) (x : W), (rng lo n)[i]? = some x → i < n ∧ x = .d (.int (lo + i))
  | lo, 0, i, x, h => by simp [rng] at h
  | lo, n + 1, 0, x, h => by
    have h : some (W.d (.int lo)) = some x := h
    exact ⟨Nat.succ_pos _, by rw [← Option.some.inj h]; simp⟩
  | lo, n + 1, i + 1, x, h => by
    have := rngGet (lo + 1) n i x h
    exact ⟨by omega, by rw [this.2]; congr 2; omega⟩
theorem rng_map (lo : Int) : ∀ n, rng lo n = (List.range n).map fun i => W.d (.int (lo + (i : Nat)))
  | n => by
    apply List.ext_getElem?
    intro i
    rw [List.getElem?_map]
    by_cases h : i < n
    · rw [List.getElem?_range h]
      cases q : (rng lo n)[i]? with
      | none => rw [List.getElem?_eq_none_iff, rngLen] at q; omega
      | some x => rw [(rngGet lo n i x q).2]; rfl
    · rw [List.getElem?_eq_none (by rw [rngLen]; omega), List.getElem?_eq_none (by simp; omega)]; rfl
theorem rngD_map (lo : Int) (n : Nat) : rngD lo n = (List.range n).map fun i => D.int (lo + (i : Nat)) := by
  induction n generalizing lo with
  | zero => rfl
  | succ n ih =>
    show D.int lo :: rngD (lo + 1) n = _
    rw [ih, List.range_succ_eq_map, List.map_cons, List.map_map]
    congr 1
    · simp
    · apply List.map_congr_left; intro a _; show D.int _ = D.int _; congr 1; simp; omega
theorem bLstR_i (n : Int) (s : Sto) (h : 0 ≤ n ∧ n ≤ 16777216) : bLstR (.d (.int n)) s = .ok (.d (.lst (((List.range n.toNat).map fun i => ((i : Nat) : Int)).map .int)), s) := by
  show need (small24 n) (R.ok (W.d (.lst (rngD 0 n.toNat)), s)) = _
  have : small24 n = true := by unfold small24; rw [Bool.and_eq_true]; exact ⟨decide_eq_true h.1, decide_eq_true h.2⟩
  rw [this, need_true, rngD_map, List.map_map]
  simp only [Int.zero_add, Function.comp_def]
theorem bTupR_i (n : Int) (s : Sto) (h : 0 ≤ n ∧ n ≤ 16777216) : bTupR (.d (.int n)) s = .ok (.d (.tup (((List.range n.toNat).map fun i => ((i : Nat) : Int)).map .int)), s) := by
  show need (small24 n) (R.ok (W.d (.tup (rngD 0 n.toNat)), s)) = _
  have : small24 n = true := by unfold small24; rw [Bool.and_eq_true]; exact ⟨decide_eq_true h.1, decide_eq_true h.2⟩
  rw [this, need_true, rngD_map, List.map_map]
  simp only [Int.zero_add, Function.comp_def]
theorem whl_step {t : Tx} {b : Sx} {n : Nat} {e : Env} {s : Sto} : whl t b (n + 1) e s = (t e s).bd e fun p => if p.1 then (b e p.2).bind fun o => turn o (whl t b n) else .ok (.nx e p.2) := rfl
theorem sWhl_ap (t : Tx) (b : Sx) (e : Env) (s : Sto) : sWhl t b e s = whl t b TURNS e s := rfl
theorem comp_all {α : Type} (g : Tg) (a : Ev) (own : List Nat) (e0 : Env) (s : Sto) (en : α → W) (f : α → D) (l : List α)
    (h : ∀ x ∈ l, ∃ e', g (en x) (kill own e0) s = .ok (e', s) ∧ a e' s = .ok (.d (f x), s)) : comp g tYes a own e0 (l.map en) s = .ok (ws (l.map f), s) := by
  refine (comp_map g tYes a own e0 s en (fun _ => true) f l fun x hx => ?_).trans (by rw [List.filter_eq_self.mpr (fun _ _ => rfl)])
  obtain ⟨e', h1, h2⟩ := h x hx
  exact ⟨e', h1, rfl, fun _ => h2⟩
theorem ws_map {α : Type} (f : α → D) (l : List α) : ws (l.map f) = l.map fun x => W.d (f x) := by simp [ws]
/-! plain data -/
theorem flat_ints (l : List Int) : (l.map D.int).all flat = true := by induction l with | nil => rfl | cons a l ih => exact ih
theorem flat_strs (l : List (List Nat)) : (l.map D.str).all flat = true := by induction l with | nil => rfl | cons a l ih => exact ih
theorem eqv_int (i j : Int) : eqv (.int i) (.int j) = decide (i = j) := beq_int i j
theorem eqv_str (i j : List Nat) : eqv (.str i) (.str j) = decide (i = j) := beq_str i j
theorem inL_ints (x : Int) (l : List Int) : inL (.int x) (l.map .int) = decide (x ∈ l) := by
  induction l with
  | nil => rfl
  | cons a l ih =>
    show (eqv (.int a) (.int x) || inL (.int x) (l.map .int)) = _
    rw [ih, eqv_int]
    by_cases h : a = x <;> by_cases h2 : x ∈ l <;> simp [h, h2, eq_comm]
    intro q; exact absurd q.symm h
theorem inL_strs (x : List Nat) (l : List (List Nat)) : inL (.str x) (l.map .str) = decide (x ∈ l) := by
  induction l with
  | nil => rfl
  | cons a l ih =>
    show (eqv (.str a) (.str x) || inL (.str x) (l.map .str)) = _
    rw [ih, eqv_str]
    by_cases h : a = x <;> by_cases h2 : x ∈ l <;> simp [h, h2, eq_comm]
    intro q; exact absurd q.symm h
theorem cIn_ints (x : Int) (l : List Int) : cIn (.int x) (.lst (l.map .int)) = .ok (.bl (decide (x ∈ l))) := by
  rw [cIn_lst _ _ (by rw [flat_ints]; rfl), inL_ints]
theorem cIn_intsT (x : Int) (l : List Int) : cIn (.int x) (.tup (l.map .int)) = .ok (.bl (decide (x ∈ l))) := by
  rw [cIn_tup _ _ (by rw [flat_ints]; rfl), inL_ints]
theorem cNin_ints (x : Int) (l : List Int) : cNin (.int x) (.lst (l.map .int)) = .ok (.bl (!decide (x ∈ l))) := by
  rw [cNin_lst _ _ (by rw [flat_ints]; rfl), inL_ints]
theorem cNin_intsT (x : Int) (l : List Int) : cNin (.int x) (.tup (l.map .int)) = .ok (.bl (!decide (x ∈ l))) := by
  rw [cNin_tup _ _ (by rw [flat_ints]; rfl), inL_ints]
theorem cIn_strs (x : List Nat) (l : List (List Nat)) : cIn (.str x) (.lst (l.map .str)) = .ok (.bl (decide (x ∈ l))) := by
  rw [cIn_lst _ _ (by rw [flat_strs]; rfl), inL_strs]
theorem cNin_strs (x : List Nat) (l : List (List Nat)) : cNin (.str x) (.lst (l.map .str)) = .ok (.bl (!decide (x ∈ l))) := by
  rw [cNin_lst _ _ (by rw [flat_strs]; rfl), inL_strs]
mutual
theorem eqv_self : ∀ (n : Nat) (x : D), okD n x = true → eqv x x = true
  | _, .non, _ => rfl
  | _, .bl a, _ => by show (a == a) = true; simp
  | _, .int a, _ => by show (a == a) = true; simp
  | _, .str a, _ => by show (a == a) = true; simp
  | n + 1, .tup l, h => by show eqvL l l = true; exact eqvL_self n l h
  | n + 1, .lst l, h => by show eqvL l l = true; exact eqvL_self n l h
  | 0, .tup l, h => by cases h
  | 0, .lst l, h => by cases h
  | n, .dct t l, h => by cases n <;> cases h
  | n, .inp l, h => by cases n <;> cases h
  | n, .inq l, h => by cases n <;> cases h
theorem eqvL_self : ∀ (n : Nat) (l : List D), okL n l = true → eqvL l l = true
  | _, [], _ => rfl
  | n, x :: l, h => by
    have h : (okD n x && okL n l) = true := by cases n <;> exact h
    rw [Bool.and_eq_true] at h
    show (eqv x x && eqvL l l) = true
    rw [eqv_self n x h.1, eqvL_self n l h.2]; rfl
end
theorem cEq_self {x : D} (h : okD 60 x = true) : cEq x x = .ok (.bl true) := by rw [cEq_of h h, eqv_self 60 x h]
theorem cNe_self {x : D} (h : okD 60 x = true) : cNe x x = .ok (.bl false) := by rw [cNe_of h h, eqv_self 60 x h]; rfl
theorem okL_all (n : Nat) (l : List D) (h : ∀ x ∈ l, okD n x = true) : okL n l = true := by
  induction l with
  | nil => cases n <;> rfl
  | cons x l ih =>
    have : (okD n x && okL n l) = true := by rw [h x List.mem_cons_self, ih fun y hy => h y (List.mem_cons_of_mem _ hy)]; rfl
    cases n <;> exact this
theorem okL_ints (n : Nat) (l : List Int) : okL n (l.map .int) = true := okL_all n _ fun x hx => by
  obtain ⟨i, _, rfl⟩ := List.mem_map.mp hx; cases n <;> rfl
theorem okD_lints (n : Nat) (l : List Int) : okD (n + 1) (.lst (l.map .int)) = true := okL_ints n l
theorem okD_tints (n : Nat) (l : List Int) : okD (n + 1) (.tup (l.map .int)) = true := okL_ints n l
theorem okD_lst (n : Nat) (l : List D) (h : ∀ x ∈ l, okD n x = true) : okD (n + 1) (.lst l) = true := okL_all n l h
theorem okD_tup (n : Nat) (l : List D) (h : ∀ x ∈ l, okD n x = true) : okD (n + 1) (.tup l) = true := okL_all n l h
theorem okD_int (n : Nat) (i : Int) : okD n (.int i) = true := by cases n <;> rfl
theorem okD_bl (n : Nat) (i : Bool) : okD n (.bl i) = true := by cases n <;> rfl
theorem eqvL_ints (a b : List Int) : eqvL (a.map .int) (b.map .int) = decide (a = b) := by
  induction a generalizing b with
  | nil => cases b <;> rfl
  | cons x a ih =>
    cases b with
    | nil => rfl
    | cons y b =>
      show (eqv (.int x) (.int y) && eqvL (a.map .int) (b.map .int)) = _
      rw [ih, eqv_int]
      by_cases h : x = y <;> by_cases h2 : a = b <;> simp [h, h2]
theorem cEq_ints (a b : List Int) : cEq (.lst (a.map .int)) (.lst (b.map .int)) = .ok (.bl (decide (a = b))) := by
  rw [cEq_of (okD_lints 59 a) (okD_lints 59 b)]; show R.ok (D.bl (eqvL _ _)) = _; rw [eqvL_ints]
theorem cNe_ints (a b : List Int) : cNe (.lst (a.map .int)) (.lst (b.map .int)) = .ok (.bl (!decide (a = b))) := by
  rw [cNe_of (okD_lints 59 a) (okD_lints 59 b)]; show R.ok (D.bl (!eqvL _ _)) = _; rw [eqvL_ints]
theorem cEq_intsT (a b : List Int) : cEq (.tup (a.map .int)) (.tup (b.map .int)) = .ok (.bl (decide (a = b))) := by
  rw [cEq_of (okD_tints 59 a) (okD_tints 59 b)]; show R.ok (D.bl (eqvL _ _)) = _; rw [eqvL_ints]
theorem cNe_intsT (a b : List Int) : cNe (.tup (a.map .int)) (.tup (b.map .int)) = .ok (.bl (!decide (a = b))) := by
  rw [cNe_of (okD_tints 59 a) (okD_tints 59 b)]; show R.ok (D.bl (!eqvL _ _)) = _; rw [eqvL_ints]
theorem sort_sorted (l : List Int) (h : l.Pairwise (· ≤ ·)) : l.mergeSort (fun a b => decide (a ≤ b)) = l := by
  apply List.mergeSort_of_pairwise
  exact h.imp fun h => decide_eq_true h
theorem range_sorted (n : Nat) : ((List.range n).map (fun i : Nat => (i : Int))).Pairwise (· ≤ ·) := by
  rw [List.pairwise_map]
  exact List.pairwise_lt_range.imp fun h => by omega
/-! the marks that do not fall twice -/
theorem php {α : Type} [DecidableEq α] : ∀ (xs ys : List α), xs.Nodup → (∀ x ∈ xs, x ∈ ys) → xs.length ≤ ys.length
  | [], _, _, _ => Nat.zero_le _
  | x :: xs, ys, hn, hs => by
    have hx := hs x List.mem_cons_self
    have hn := List.nodup_cons.mp hn
    have := php xs (ys.erase x) hn.2 fun y hy => (List.mem_erase_of_ne (fun (e : y = x) => hn.1 (by rw [← e]; exact hy))).mpr (hs y (List.mem_cons_of_mem _ hy))
    rw [List.length_erase_of_mem hx] at this
    have := List.length_pos_of_mem hx
    simp only [List.length_cons]; omega
end B
/-! Walks over lists of the store, run. -/
namespace B
theorem sForL_ap (a : Ev) (g : Tg) (b : Sx) (e : Env) (s : Sto) : sForL a g b e s = (a e s).bd e fun p => (locL p.1 p.2).bind fun y => loopC y.1 y.2.1 g b y.2.2 e p.2 := rfl
theorem eCompL_ap (a : Ev) (g : Tg) (t : Tx) (x : Ev) (own : List Nat) (e : Env) (s : Sto) : eCompL a g t x own e s = (a e s).bind fun p => (locL p.1 p.2).bind fun y => need (decide (y.2.2.length ≤ sizeL)) ((compC y.1 y.2.1 g t x own e y.2.2 p.2).bind fun q =>
  (ofO (asDs q.1)).bind fun l => .ok (.d (.lst l), q.2)) := rfl
theorem eCompLC_ap (a : Ev) (g : Tg) (t : Tx) (x : Ev) (own : List Nat) (e : Env) (s : Sto) : eCompLC a g t x own e s = (a e s).bind fun p => (locL p.1 p.2).bind fun y => need (decide (y.2.2.length ≤ sizeL)) ((compC y.1 y.2.1 g t x own e y.2.2 p.2).bind fun q => newL q.1 q.2) := rfl
theorem locL_lc (k : Nat) (s : Sto) : locL (.loc k) s = match s[k]? with
    | some (.l l) => .ok (k, .l l, ws l)
    | some (.w l) => .ok (k, .w l, l)
    | _ => .stuck := rfl
/-- a comprehension over a list of the store whose turns leave the store alone is one over its items -/
theorem compC_eq {k : Nat} {c : C} {g : Tg} {t : Tx} {a : Ev} {own : List Nat} {e0 : Env} {s : Sto} (hc : s[k]? = some c) (f : W → D) : ∀ (xs : List W),
    (∀ x ∈ xs, ∃ e', g x (kill own e0) s = .ok (e', s) ∧ t e' s = .ok (true, s) ∧ a e' s = .ok (.d (f x), s)) → compC k c g t a own e0 xs s = .ok (ws (xs.map f), s)
  | [], _ => by unfold compC; rw [if_pos hc]; rfl
  | x :: xs, h => by
    obtain ⟨e', h1, h2, h3⟩ := h x List.mem_cons_self
    unfold compC
    rw [if_pos hc, h1, qt_ok', R.bind_ok, h2, qt_ok', R.bind_ok]
    simp only [if_true]
    rw [h3, qt_ok', R.bind_ok, compC_eq hc f xs fun y hy => h y (List.mem_cons_of_mem _ hy)]
    rfl
/-- a for over a list of the store -/
theorem loopC_inv {k : Nat} {c : C} {g : Tg} {b : Sx} (P : Nat → Env → Sto → Prop) (hP : ∀ i e s, P i e s → s[k]? = some c) : ∀ (xs : List W) (n : Nat) (e : Env) (s : Sto)
    (h : ∀ i x e s, xs[i]? = some x → P (n + i) e s → ∃ e1 s1 e2 s2, g x e s = .ok (e1, s1) ∧ (b e1 s1 = .ok (.nx e2 s2) ∨ b e1 s1 = .ok (.ct e2 s2)) ∧ P (n + i + 1) e2 s2),
    P n e s → ∃ e2 s2, loopC k c g b xs e s = .ok (.nx e2 s2) ∧ P (n + xs.length) e2 s2
  | [], n, e, s, h, p => ⟨e, s, by unfold loopC; rw [if_pos (hP _ _ _ p)], p⟩
  | x :: xs, n, e, s, h, p => by
    obtain ⟨e1, s1, e2, s2, h1, h2, h3⟩ := h 0 x e s rfl p
    obtain ⟨e3, s3, h4, h5⟩ := loopC_inv P hP xs (n + 1) e2 s2 (fun i y e s hi hp => by
      have := h (i + 1) y e s (by simpa using hi) (by rw [show n + (i + 1) = n + 1 + i by omega]; exact hp)
      rw [show n + (i + 1) + 1 = n + 1 + i + 1 by omega] at this
      exact this) h3
    refine ⟨e3, s3, ?_, by rw [show n + (x :: xs).length = n + 1 + xs.length by simp; omega]; exact h5⟩
    unfold loopC
    rw [if_pos (hP _ _ _ p), h1, R.bd_ok]
    rcases h2 with h2 | h2 <;> rw [h2, R.bind_ok]
    · rw [turn_nx]; exact h4
    · rw [turn_ct]; exact h4
end B
/-! Runs with premises that arithmetic shows; calls as rules. -/
namespace B
abbrev ei (i : Int) : Option W := some (.d (.int i))
abbrev es (z : List Nat) : Option W := some (.d (.str z))
abbrev ed (x : D) : Option W := some (.d x)
abbrev el (k : Nat) : Option W := some (.loc k)
abbrev e_ : Option W := none
/-! premises that are tests -/
theorem need_lt {α : Type} {n : Nat} (h : n < 16777216) (r : R α) : need (decide (n < sizeL)) r = r := need_of (decide_eq_true h) r
theorem need_le {α : Type} {n : Nat} (h : n ≤ 16777216) (r : R α) : need (decide (n ≤ sizeL)) r = r := need_of (decide_eq_true h) r
theorem need_s62 {α : Type} {i : Int} (h : -4611686018427387904 ≤ i ∧ i < 4611686018427387904) (r : R α) : need (small62 i) r = r := need_of (s62_of h.1 h.2) r
theorem need_s62p {α : Type} {i : Int} (h : 0 ≤ i ∧ i < 4611686018427387904) (r : R α) : need (small62 i && decide (0 ≤ i)) r = r := need_of (by rw [s62_of (by omega) h.2, decide_eq_true h.1]; rfl) r
theorem rng2_c {i j : Int} (s : Sto) (h : -4611686018427387904 ≤ i ∧ i < 4611686018427387904 ∧ -4611686018427387904 ≤ j ∧ j < 4611686018427387904) : rng2 (.d (.int i)) (.d (.int j)) s = .ok (rng i (j - i).toNat, s) := rng2_i i j s (s62_of h.1 h.2.1) (s62_of h.2.2.1 h.2.2.2)
/-! arithmetic -/
theorem oMul_c {i j : Int} (h : (-18446744073709551616 < j ∧ j < 18446744073709551616) ∨ (-18446744073709551616 < i ∧ i < 18446744073709551616)) : oMul (.int i) (.int j) = .ok (.int (i * j)) := by
  rcases h with h | h
  · exact oMul_r _ _ (small_of h.1 h.2)
  · exact oMul_l _ _ (small_of h.1 h.2)
theorem divOk_s {j : Int} (h : 0 < j ∧ j < 18446744073709551616) : divOk j = true := by
  unfold divOk
  have h2 : j.natAbs.log2 < 9000 := by
    have : j.natAbs.log2 < 64 := (Nat.log2_lt (by omega)).mpr (by omega)
    omega
  rw [decide_eq_true h.1, decide_eq_true h2]; rfl
theorem oDiv_c {i j : Int} (h : 0 < j ∧ j < 18446744073709551616) : oDiv (.int i) (.int j) = .ok (.int (i / j)) := oDiv_i i j (divOk_s h)
theorem oMod_c {i j : Int} (h : 0 < j) : oMod (.int i) (.int j) = .ok (.int (i % j)) := oMod_i i j h
theorem oDivB_c {j : Int} (h : 0 < j ∧ j < 18446744073709551616) (i : Int) (s : Sto) : bDivmod (.d (.int i)) (.d (.int j)) s = .ok (.d (.tup [.int (i / j), .int (i % j)]), s) := bDivmod_i i j s (divOk_s h)
theorem oPow_l (i : Int) (n : Nat) (h : n ≤ 1000000 ∧ -18446744073709551616 < i ∧ i < 18446744073709551616) : oPow (.int i) (.int (no_index (OfNat.ofNat n))) = .ok (.int (i ^ n)) :=
  oPow_i i (n : Int) (by rw [decide_eq_true (show (0 : Int) ≤ (n : Int) by omega), decide_eq_true (show (n : Int) ≤ 1000000 by omega), decide_eq_true (show i.natAbs < 2 ^ 64 by omega)]; rfl)
theorem bStr_c {i : Int} (h : 0 ≤ i ∧ i < 18446744073709551616) : bStr (.int i) = .ok (.str (numL i.toNat)) := bStr_i i h.1 (by
  by_cases h0 : i.natAbs = 0
  · rw [h0]; decide
  · have : i.natAbs.log2 < 64 := (Nat.log2_lt h0).mpr (by omega)
    omega)
theorem bStr_big {i : Int} (h : 0 ≤ i ∧ i.toNat < 2 ^ 1900) : bStr (.int i) = .ok (.str (numL i.toNat)) := bStr_i i h.1 (by
  by_cases h0 : i.natAbs = 0
  · rw [h0]; decide
  · have : i.natAbs.log2 < 1900 := (Nat.log2_lt h0).mpr (by have := h.2; rw [show i.natAbs = i.toNat by omega]; exact this)
    omega)
theorem bLen_sc {z : List Nat} (h : z.length ≤ 16777216) (s : Sto) : bLen (.d (.str z)) s = .ok (.d (.int z.length), s) := bLen_str z s h
theorem oAdd_sc {x y : List Nat} (h : x.length + y.length ≤ 16777216) (s : Sto) : oAdd (.d (.str x)) (.d (.str y)) s = .ok (.d (.str (x ++ y)), s) := oAdd_s x y s h
theorem oAdd_lc {x y : List D} (h : x.length + y.length ≤ 16777216) (s : Sto) : oAdd (.d (.lst x)) (.d (.lst y)) s = .ok (.d (.lst (x ++ y)), s) := oAdd_l x y s h
theorem oAdd_tc {x y : List D} (h : x.length + y.length ≤ 16777216 ∧ 0 < x.length) (s : Sto) : oAdd (.d (.tup x)) (.d (.tup y)) s = .ok (.d (.tup (x ++ y)), s) := oAdd_t x y s h.1 h.2
theorem oMul_sc {z : List Nat} {j : Int} (h : 0 ≤ j ∧ j ≤ 1000 ∧ z.length ≤ 1000) : oMul (.str z) (.int j) = .ok (.str (List.replicate j.toNat z).flatten) := oMul_s z j h.1 h.2.1 h.2.2
/-! subscripts -/
theorem atI_c {α : Type} (l : List α) (d : α) {i : Int} (h : 0 ≤ i ∧ i < l.length) : atI l i = some (l.getD i.toNat d) := by
  refine atI_nat h.1 ?_
  rw [List.getD_eq_getElem?_getD]
  have : i.toNat < l.length := by omega
  rw [List.getElem?_eq_getElem this]; rfl
theorem ixW_c (l : List D) {i : Int} (h : 0 ≤ i ∧ i < l.length) (s : Sto) : ixW (ws l) (.d (.int i)) s = .ok (.d (l.getD i.toNat .non), s) := by
  rw [ixW_i, atI_c l .non h]
theorem ixW_int (l : List Int) {i : Int} (h : 0 ≤ i ∧ i < l.length) (s : Sto) : ixW (ws (l.map .int)) (.d (.int i)) s = .ok (.d (.int (l.getD i.toNat 0)), s) := by
  rw [ixW_c _ (by simpa using h)]
  congr 3
  have : i.toNat < l.length := by omega
  simp [List.getD_eq_getElem?_getD, this]
theorem ixW_str (l : List (List Nat)) {i : Int} (h : 0 ≤ i ∧ i < l.length) (s : Sto) : ixW (ws (l.map .str)) (.d (.int i)) s = .ok (.d (.str (l.getD i.toNat [])), s) := by
  rw [ixW_c _ (by simpa using h)]
  congr 3
  have : i.toNat < l.length := by omega
  simp [List.getD_eq_getElem?_getD, this]
theorem ixW_map {α : Type} (d : α) (f : α → D) (l : List α) {i : Int} (h : 0 ≤ i ∧ i < l.length) (s : Sto) : ixW (ws (l.map f)) (.d (.int i)) s = .ok (.d (f (l.getD i.toNat d)), s) := by
  rw [ixW_c _ (by simpa using h)]
  congr 3
  have : i.toNat < l.length := by omega
  simp [List.getD_eq_getElem?_getD, this]
theorem ixI2 (a b : Int) {i : Int} (h : 0 ≤ i ∧ i < 2) (s : Sto) : ixW [.d (.int a), .d (.int b)] (.d (.int i)) s = .ok (.d (.int ([a, b].getD i.toNat 0)), s) := ixW_int [a, b] h s
theorem ixI3 (a b c : Int) {i : Int} (h : 0 ≤ i ∧ i < 3) (s : Sto) : ixW [.d (.int a), .d (.int b), .d (.int c)] (.d (.int i)) s = .ok (.d (.int ([a, b, c].getD i.toNat 0)), s) := ixW_int [a, b, c] h s
theorem ixI4 (a b c d : Int) {i : Int} (h : 0 ≤ i ∧ i < 4) (s : Sto) : ixW [.d (.int a), .d (.int b), .d (.int c), .d (.int d)] (.d (.int i)) s = .ok (.d (.int ([a, b, c, d].getD i.toNat 0)), s) := ixW_int [a, b, c, d] h s
theorem ixI5 (a b c d e : Int) {i : Int} (h : 0 ≤ i ∧ i < 5) (s : Sto) : ixW [.d (.int a), .d (.int b), .d (.int c), .d (.int d), .d (.int e)] (.d (.int i)) s = .ok (.d (.int ([a, b, c, d, e].getD i.toNat 0)), s) := ixW_int [a, b, c, d, e] h s
theorem ixI6 (a b c d e f : Int) {i : Int} (h : 0 ≤ i ∧ i < 6) (s : Sto) : ixW [.d (.int a), .d (.int b), .d (.int c), .d (.int d), .d (.int e), .d (.int f)] (.d (.int i)) s = .ok (.d (.int ([a, b, c, d, e, f].getD i.toNat 0)), s) := ixW_int [a, b, c, d, e, f] h s
theorem ixS2 (a b : List Nat) {i : Int} (h : 0 ≤ i ∧ i < 2) (s : Sto) : ixW [.d (.str a), .d (.str b)] (.d (.int i)) s = .ok (.d (.str ([a, b].getD i.toNat [])), s) := ixW_str [a, b] h s
theorem ixS3 (a b c : List Nat) {i : Int} (h : 0 ≤ i ∧ i < 3) (s : Sto) : ixW [.d (.str a), .d (.str b), .d (.str c)] (.d (.int i)) s = .ok (.d (.str ([a, b, c].getD i.toNat [])), s) := ixW_str [a, b, c] h s
theorem ixS4 (a b c d : List Nat) {i : Int} (h : 0 ≤ i ∧ i < 4) (s : Sto) : ixW [.d (.str a), .d (.str b), .d (.str c), .d (.str d)] (.d (.int i)) s = .ok (.d (.str ([a, b, c, d].getD i.toNat [])), s) := ixW_str [a, b, c, d] h s
theorem ixSt (z : List Nat) {i : Int} (h : 0 ≤ i ∧ i < z.length ∧ z.length ≤ 16777216) (s : Sto) : oIx (.d (.str z)) (.d (.int i)) s = .ok (.d (.str [z.getD i.toNat 0]), s) :=
  oIx_str z i s _ h.2.2 (atI_c z 0 ⟨h.1, h.2.1⟩)
theorem need_and1 {α : Type} {b : Bool} (r : R α) : need (true && b) r = need b r := rfl
theorem isI_str (t : Ty) (z : List Nat) (s : Sto) : isI t (.d (.str z)) s = .ok (.d (.bl (tyD t (.str z))), s) := isI_d t _ s rfl
theorem isI_int (t : Ty) (z : Int) (s : Sto) : isI t (.d (.int z)) s = .ok (.d (.bl (tyD t (.int z))), s) := isI_d t _ s rfl
theorem isI_bl (t : Ty) (z : Bool) (s : Sto) : isI t (.d (.bl z)) s = .ok (.d (.bl (tyD t (.bl z))), s) := isI_d t _ s rfl
theorem isI_tup (t : Ty) (z : List D) (s : Sto) : isI t (.d (.tup z)) s = .ok (.d (.bl (tyD t (.tup z))), s) := isI_d t _ s rfl
theorem isI_lst (t : Ty) (z : List D) (s : Sto) : isI t (.d (.lst z)) s = .ok (.d (.bl (tyD t (.lst z))), s) := isI_d t _ s rfl
theorem isI_non (t : Ty) (s : Sto) : isI t (.d .non) s = .ok (.d (.bl (tyD t .non)), s) := isI_d t _ s rfl
theorem ty1 (z : List Nat) : tyD .str (.str z) = true := rfl
theorem ty2 (z : List Nat) : tyD .int (.str z) = false := rfl
theorem ty3 (z : List Nat) : tyD .bool (.str z) = false := rfl
theorem ty4 (z : List Nat) : tyD .tuple (.str z) = false := rfl
theorem ty5 (z : List Nat) : tyD .list (.str z) = false := rfl
theorem ty6 (z : Int) : tyD .str (.int z) = false := rfl
theorem ty7 (z : Int) : tyD .int (.int z) = true := rfl
theorem ty8 (z : Int) : tyD .bool (.int z) = false := rfl
theorem ty9 (z : Int) : tyD .tuple (.int z) = false := rfl
theorem ty10 (z : Int) : tyD .list (.int z) = false := rfl
theorem ty11 (z : List D) : tyD .tuple (.tup z) = true := rfl
theorem ty12 (z : List D) : tyD .list (.lst z) = true := rfl
theorem ty13 (z : List D) : tyD .str (.tup z) = false := rfl
theorem ty14 (z : List D) : tyD .int (.tup z) = false := rfl
theorem ty15 (z : List D) : tyD .list (.tup z) = false := rfl
theorem ty16 (z : List D) : tyD .tuple (.lst z) = false := rfl
theorem ty17 : tyD .str .non = false := rfl
theorem ty18 : tyD .int .non = false := rfl
theorem ty19 : tyD .tuple .non = false := rfl
theorem ty20 (z : List D) : tyD .str (.lst z) = false := rfl
/-! calls -/
def finC (r : VS) (s0 : Sto) : VS := match r with
  | .ok (.d x, _) => .ok (.d x, s0)
  | .ok (w, s) => (match frz 0 s w with | some (.d x) => .ok (.d x, s0) | _ => .stuck)
  | .ex x _ => .ex x s0
  | .stuck => .stuck
theorem finC_d (x : D) (s s0 : Sto) : finC (.ok (.d x, s)) s0 = .ok (.d x, s0) := rfl
theorem finC_ex (x : Exc) (s s0 : Sto) : finC (.ex x s) s0 = .ex x s0 := rfl
theorem finC_lc (k : Nat) (s s0 : Sto) : finC (.ok (.loc k, s)) s0 = match s[k]? with | some (.l xs) => .ok (.d (.lst xs), s0) | some (.m t kv) => .ok (.d (.dct t kv), s0) | _ => finC (.ok (.loc k, s)) s0 := by
  cases h : s[k]? with
  | none => rfl
  | some c => cases c with
    | l xs => simp [finC, frz, cl, toD, FU, h]
    | m t kv => simp [finC, frz, cl, toD, FU, h]
    | w _ => rfl
    | mw _ _ => rfl
    | o _ _ => rfl
theorem finC_ite (c : Prop) [Decidable c] (x y : VS) (s : Sto) : finC (if c then x else y) s = if c then finC x s else finC y s := by split <;> rfl
theorem outOf_ite (c : Prop) [Decidable c] (x y : R O) : outOf (if c then x else y) = if c then outOf x else outOf y := by split <;> rfl
theorem callD_fin (n : Nat) (b : Sx) (ds : List D) (s : Sto) : callD (mkF n b) ds s = finC (outOf (b (start n (ws ds)) [])) s := by
  unfold callD mkF
  show (match fin 0 (outOf (b (start n (ws ds)) [])) with | .ok (.d x, []) => R.ok (W.d x, s) | .ex x _ => .ex x s | _ => .stuck) = _
  cases outOf (b (start n (ws ds)) []) with
  | stuck => rfl
  | ex x t => rfl
  | ok p =>
    obtain ⟨w, t⟩ := p
    have key : ∀ w, (∀ x, w ≠ W.d x) → (match (match frz 0 t w with | some w' => if clS 0 (t.take 0) then R.ok (w', t.take 0) else .stuck | none => (.stuck : VS)) with | .ok (.d x, []) => R.ok (W.d x, s) | .ex x _ => .ex x s | _ => .stuck) = (match frz 0 t w with | some (.d x) => R.ok (W.d x, s) | _ => .stuck) := fun w hw => by
      cases frz 0 t w with
      | none => rfl
      | some w' => cases w' <;> rfl
    cases w with
    | d x => rfl
    | loc k => exact key (.loc k) fun x h => by cases h
    | tw l => exact key (.tw l) fun x h => by cases h
theorem callP_ws (f : Fn) (ds : List D) (s : Sto) : callP f (ws ds) s = callD f ds s := by unfold callP; rw [asDs_ws']
theorem callP0' (n : Nat) (b : Sx) (s : Sto) : callP (mkF n b) [] s = finC (outOf (b (start n []) [])) s := (callP_ws _ [] s).trans (callD_fin n b [] s)
theorem callP1 (n : Nat) (b : Sx) (x1 : D) (s : Sto) : callP (mkF n b) [.d x1] s = finC (outOf (b (start n [.d x1]) [])) s := (callP_ws _ [x1] s).trans (callD_fin n b [x1] s)
theorem callP2 (n : Nat) (b : Sx) (x1 x2 : D) (s : Sto) : callP (mkF n b) [.d x1, .d x2] s = finC (outOf (b (start n [.d x1, .d x2]) [])) s := (callP_ws _ [x1, x2] s).trans (callD_fin n b [x1, x2] s)
theorem callP3 (n : Nat) (b : Sx) (x1 x2 x3 : D) (s : Sto) : callP (mkF n b) [.d x1, .d x2, .d x3] s = finC (outOf (b (start n [.d x1, .d x2, .d x3]) [])) s := (callP_ws _ [x1, x2, x3] s).trans (callD_fin n b [x1, x2, x3] s)
theorem callP4 (n : Nat) (b : Sx) (x1 x2 x3 x4 : D) (s : Sto) : callP (mkF n b) [.d x1, .d x2, .d x3, .d x4] s = finC (outOf (b (start n [.d x1, .d x2, .d x3, .d x4]) [])) s := (callP_ws _ [x1, x2, x3, x4] s).trans (callD_fin n b [x1, x2, x3, x4] s)
theorem callP5 (n : Nat) (b : Sx) (x1 x2 x3 x4 x5 : D) (s : Sto) : callP (mkF n b) [.d x1, .d x2, .d x3, .d x4, .d x5] s = finC (outOf (b (start n [.d x1, .d x2, .d x3, .d x4, .d x5]) [])) s := (callP_ws _ [x1, x2, x3, x4, x5] s).trans (callD_fin n b [x1, x2, x3, x4, x5] s)
theorem callP6 (n : Nat) (b : Sx) (x1 x2 x3 x4 x5 x6 : D) (s : Sto) : callP (mkF n b) [.d x1, .d x2, .d x3, .d x4, .d x5, .d x6] s = finC (outOf (b (start n [.d x1, .d x2, .d x3, .d x4, .d x5, .d x6]) [])) s := (callP_ws _ [x1, x2, x3, x4, x5, x6] s).trans (callD_fin n b [x1, x2, x3, x4, x5, x6] s)
theorem start_c (n : Nat) (w : W) (a : List W) : start (n + 1) (w :: a) = some w :: start n a := by
  show some w :: (a.map some ++ List.replicate (n + 1 - (a.length + 1)) none) = _
  rw [Nat.add_sub_add_right]; rfl
theorem start_n (n : Nat) : start (n + 1) [] = none :: start n [] := by
  show ([] : Env) ++ List.replicate (n + 1 - 0) none = none :: ([] ++ List.replicate (n - 0) none)
  simp [List.replicate_succ]
theorem start_0 : start 0 [] = [] := rfl
/-- a list or dict of the store, lent to a def that returns data -/
def chkL (r : VS) : VS := match r with
  | .ok (.d x, s) => if noL x then .ok (.d x, s) else .stuck
  | _ => .stuck
theorem chkL_d (x : D) (s : Sto) : chkL (.ok (.d x, s)) = if noL x then .ok (.d x, s) else .stuck := rfl
theorem toDs_FU : ∀ (l : List W) (s : Sto), toDs FU (fun _ => true) s l = none ∨ ∃ ds, toDs FU (fun _ => true) s l = some ds := fun l s => by
  cases toDs FU (fun _ => true) s l with
  | none => exact .inl rfl
  | some ds => exact .inr ⟨ds, rfl⟩
theorem callP_chk {f : Fn} {l : List W} {ds : List D} {s : Sto} (hn : asDs l = none) (h : toDs FU (fun _ => true) s l = some ds) : callP f l s = chkL (callP f (ws ds) s) := by
  rw [callP_ws]
  unfold callP
  rw [hn]
  simp only [h]
  cases callD f ds s with
  | stuck => rfl
  | ex x t => rfl
  | ok p => obtain ⟨w, t⟩ := p; cases w <;> rfl
theorem law_run {n : Nat} {b : Sx} {x : D} {y : D} (h : finC (outOf (b (start n [.d x]) [])) [] = .ok (.d y, [])) : mkF n b [.d x] [] = .ok (.d y, []) := by
  have e : callD (mkF n b) [x] [] = .ok (.d y, []) := (callD_fin n b [x] []).trans h
  have e : (match mkF n b [.d x] [] with | .ok (.d x, []) => R.ok (W.d x, ([] : Sto)) | .ex x _ => .ex x [] | _ => .stuck) = .ok (.d y, []) := e
  cases q : mkF n b [.d x] [] with
  | stuck => rw [q] at e; cases e
  | ex x t => rw [q] at e; cases e
  | ok p =>
    obtain ⟨w, t⟩ := p
    rw [q] at e
    cases t with
    | cons _ _ => cases w <;> cases e
    | nil => cases w <;> first | (cases e; rfl) | cases e
theorem rng_zero (lo : Int) : rng lo 0 = [] := rfl
theorem rng_succ (lo : Int) (n : Nat) : rng lo (n + 1) = .d (.int lo) :: rng (lo + 1) n := rfl
theorem need_false {α : Type} (r : R α) : need false r = .stuck := rfl
def cl_ :=
  And.intro @finC_d (And.intro @finC_ex (And.intro @finC_lc (And.intro @finC_ite (And.intro @outOf_ite (And.intro @callP0' (And.intro @callP1 (And.intro @callP2 (And.intro @callP3 (And.intro @callP4 (And.intro @callP5 (And.intro @callP6 (And.intro @start_c (And.intro @start_n (And.intro @start_0 (And.intro @chkL_d True.intro)))))))))))))))
theorem ite_tt {α : Type} (x y : α) : (if (true = true) then x else y) = x := rfl
theorem ite_ff {α : Type} (x y : α) : (if (false = true) then x else y) = y := rfl
theorem ite_T {α : Type} {h : Decidable True} (x y : α) : (if True then x else y) = x := if_pos trivial
theorem ite_F {α : Type} {h : Decidable False} (x y : α) : (if False then x else y) = y := if_neg id
def lg :=
  And.intro @decide_eq_true_eq (And.intro @ite_tt (And.intro @ite_ff (And.intro @ite_T (And.intro @ite_F (And.intro @Bool.not_true (And.intro @Bool.not_false (And.intro @decide_true (And.intro @decide_false (And.intro @Bool.true_and (And.intro @Bool.false_and (And.intro @Bool.false_eq_true (And.intro @Bool.true_or (And.intro @Bool.false_or (And.intro @Bool.not_eq_true' (And.intro @Bool.not_eq_eq_eq_not True.intro)))))))))))))))
def cn :=
  And.intro @need_lt (And.intro @need_le (And.intro @need_s62 (And.intro @need_s62p (And.intro @rng2_c (And.intro @oMul_c (And.intro @oDiv_c (And.intro @oMod_c (And.intro @oDivB_c (And.intro @oPow_l (And.intro @bStr_c (And.intro @bLen_sc (And.intro @oAdd_sc (And.intro @oAdd_lc (And.intro @oAdd_tc (And.intro @oMul_sc (And.intro @ixI2 (And.intro @ixI3 (And.intro @ixI4 (And.intro @ixI5 (And.intro @ixI6 (And.intro @ixS2 (And.intro @ixS3 (And.intro @ixS4 (And.intro @ixSt (And.intro @ixW_int (And.intro @ixW_str (And.intro @bTupR_i (And.intro @bLstR_i (And.intro @sWhl_ap (And.intro @cIn_ints (And.intro @cIn_intsT (And.intro @cNin_ints (And.intro @cNin_intsT (And.intro @cIn_strs (And.intro @cNin_strs (And.intro @isI_str (And.intro @isI_int (And.intro @isI_bl (And.intro @isI_tup (And.intro @isI_lst (And.intro @isI_non (And.intro @ty1 (And.intro @ty2 (And.intro @ty3 (And.intro @ty4 (And.intro @ty5 (And.intro @ty6 (And.intro @ty7 (And.intro @ty8 (And.intro @ty9 (And.intro @ty10 (And.intro @ty11 (And.intro @ty12 (And.intro @ty13 (And.intro @ty14 (And.intro @ty15 (And.intro @ty16 (And.intro @ty17 (And.intro @ty18 (And.intro @ty19 (And.intro @ty20 True.intro)))))))))))))))))))))))))))))))))))))))))))))))))))))))))))))
end B
/-! Slices, joins, watched walks: how they are run. -/
namespace B
/-! watched walks -/
theorem watch_nil' (s : Sto) : watchOk [] s = True := eq_true (watch_nil s)
theorem watch_cons (k : Nat) (c : C) (r : Wt) (s : Sto) : watchOk ((k, c) :: r) s = (s[k]? = some c ∧ watchOk r s) := by
  apply propext
  constructor
  · exact fun h => ⟨h (k, c) List.mem_cons_self, fun p hp => h p (List.mem_cons_of_mem _ hp)⟩
  · rintro ⟨h1, h2⟩ p hp
    rcases List.mem_cons.mp hp with rfl | hp
    · exact h1
    · exact h2 p hp
theorem sForW_ap (i : WkW) (g : Tg) (b : Sx) (e : Env) (s : Sto) : sForW i g b e s = (i e s).bd e fun p => loopW p.2.1 g b p.1 e p.2.2 := rfl
theorem eCompW_ap (i : WkW) (g : Tg) (t : Tx) (a : Ev) (own : List Nat) (e : Env) (s : Sto) : eCompW i g t a own e s = (i e s).bind fun p => need (decide (p.1.length ≤ sizeL)) ((compW p.2.1 g t a own e p.1 p.2.2).bind fun q =>
  (ofO (asDs q.1)).bind fun l => .ok (.d (.lst l), q.2)) := rfl
theorem eCompWC_ap (i : WkW) (g : Tg) (t : Tx) (a : Ev) (own : List Nat) (e : Env) (s : Sto) : eCompWC i g t a own e s = (i e s).bind fun p => need (decide (p.1.length ≤ sizeL)) ((compW p.2.1 g t a own e p.1 p.2.2).bind fun q => newL q.1 q.2) := rfl
theorem eCompC_ap (i : Wk) (g : Tg) (t : Tx) (a : Ev) (own : List Nat) (e : Env) (s : Sto) : eCompC i g t a own e s = (i e s).bind fun p => need (decide (p.1.length ≤ sizeL)) ((comp g t a own e p.1 p.2).bind fun q => newL q.1 q.2) := rfl
theorem iEn_ap (a : Ev) (e : Env) (s : Sto) : iEn a e s = (a e s).bind fun p => (seqK p.1 p.2).bind fun q => .ok (enW 0 q.2.1, q.2.2, p.2) := rfl
theorem iZp_ap (a b : Ev) (e : Env) (s : Sto) : iZp a b e s = (a e s).bind fun p => (b e p.2).bind fun q => (seqK p.1 q.2).bind fun x => (seqK q.1 q.2).bind fun y => zpK x y q.2 := rfl
theorem iRv_ap (a : Ev) (e : Env) (s : Sto) : iRv a e s = (a e s).bind fun p => (seqK p.1 p.2).bind fun q => .ok (q.2.1.reverse, q.2.2, p.2) := rfl
theorem seqK_l (l : List D) (s : Sto) : seqK (.d (.lst l)) s = .ok (.li, ws l, []) := rfl
theorem seqK_p (l : List D) (s : Sto) : seqK (.d (.inp l)) s = .ok (.li, ws l, []) := rfl
theorem seqK_t (l : List D) (s : Sto) : seqK (.d (.tup l)) s = .ok (.tu, ws l, []) := rfl
theorem seqK_q (l : List D) (s : Sto) : seqK (.d (.inq l)) s = .ok (.tu, ws l, []) := rfl
theorem seqK_w (l : List W) (s : Sto) : seqK (.tw l) s = .ok (.tu, l, []) := rfl
theorem seqK_c (k : Nat) (s : Sto) : seqK (.loc k) s = match s[k]? with
    | some (.l l) => .ok (.li, ws l, [(k, .l l)])
    | some (.w l) => .ok (.li, l, [(k, .w l)])
    | _ => .stuck := rfl
theorem zpK_l (a b : List W) (u v : Wt) (s : Sto) : zpK (.li, a, u) (.li, b, v) s = .ok (zpW a b, u ++ v, s) := rfl
theorem zpK_t (a b : List W) (u v : Wt) (s : Sto) : zpK (.tu, a, u) (.tu, b, v) s = .ok (zpW a b, u ++ v, s) := rfl
theorem tupW_dd (a b : D) : tupW [.d a, .d b] = .d (.tup [a, b]) := rfl
theorem tupW_dl (a : D) (k : Nat) : tupW [.d a, .loc k] = .tw [.d a, .loc k] := rfl
theorem enW_nil (i : Nat) : enW i [] = [] := rfl
theorem enW_cons (i : Nat) (w : W) (l : List W) : enW i (w :: l) = tupW [.d (.int i), w] :: enW (i + 1) l := rfl
theorem zpW_nil (l : List W) : zpW [] l = [] := rfl
theorem zpW_cons (x y : W) (l m : List W) : zpW (x :: l) (y :: m) = tupW [x, y] :: zpW l m := rfl
theorem enW_ws : ∀ (l : List D) (i : Nat), enW i (ws l) = ws (l.mapIdx fun j d => .tup [.int ((i + j : Nat) : Int), d])
  | [], i => rfl
  | d :: l, i => by
    show tupW [.d (.int i), .d d] :: enW (i + 1) (ws l) = _
    rw [enW_ws l (i + 1), List.mapIdx_cons]
    show W.d (.tup [.int i, d]) :: ws _ = W.d (.tup [.int ((i + 0 : Nat) : Int), d]) :: ws _
    congr 2
    congr 1
    funext j d
    have : i + 1 + j = i + (j + 1) := by omega
    rw [this]
theorem zpW_ws : ∀ l m : List D, zpW (ws l) (ws m) = ws (List.zipWith (fun a b => .tup [a, b]) l m)
  | [], m => rfl
  | a :: l, [] => rfl
  | a :: l, b :: m => by
    show tupW [.d a, .d b] :: zpW (ws l) (ws m) = _
    rw [zpW_ws l m]; rfl
theorem rev_ws (l : List D) : (ws l).reverse = ws l.reverse := by simp [ws]
/-! slices -/
theorem slice_l (lo hi : Option Int) (l : List D) (s : Sto) : slice lo hi (.d (.lst l)) s = .ok (.d (.lst (cut l lo hi)), s) := by
  have e : cut (ws l) lo hi = ws (cut l lo hi) := by simp [cut, ws, List.map_drop, List.map_take]
  show ((lstOf s (.d (.lst l))).bind fun l => (ofO (asDs (cut l lo hi))).bind fun l => R.ok (W.d (.lst l), s)) = _
  simp only [lstOf, R.bind_ok, e, asDs_ws', ofO_some]
theorem slice_lc (lo hi : Option Int) (k : Nat) (s : Sto) : slice lo hi (.loc k) s = (lstOf s (.loc k)).bind fun l => (ofO (asDs (cut l lo hi))).bind fun l => .ok (.d (.lst l), s) := rfl
theorem slice_t (lo hi : Option Int) (l : List D) (s : Sto) : slice lo hi (.d (.tup l)) s = .ok (.d (.tup (cut l lo hi)), s) := rfl
theorem slice_p (lo hi : Option Int) (l : List D) (s : Sto) : slice lo hi (.d (.inp l)) s = .ok (.d (.lst (cut l lo hi)), s) := rfl
theorem slice_s {z : List Nat} (h : z.length ≤ 16777216) (lo hi : Option Int) (s : Sto) : slice lo hi (.d (.str z)) s = .ok (.d (.str (cut z lo hi)), s) := by
  show need (decide (z.length ≤ sizeL)) _ = _; exact need_le h _
theorem cut_map {α β : Type} (f : α → β) (l : List α) (lo hi : Option Int) : cut (l.map f) lo hi = (cut l lo hi).map f := by
  simp [cut, List.map_drop, List.map_take]
theorem cut_ws (l : List D) (lo hi : Option Int) : cut (ws l) lo hi = ws (cut l lo hi) := cut_map _ _ _ _
theorem cut_all {α : Type} (l : List α) : cut l none none = l := by simp [cut, sIx]
theorem cut_to {α : Type} (l : List α) {i : Int} (h : 0 ≤ i) : cut l none (some i) = l.take i.toNat := by
  show (l.drop 0).take ((if i < 0 then (i + l.length).toNat else min i.toNat l.length) - 0) = _
  rw [if_neg (by omega), List.drop_zero, Nat.sub_zero]
  by_cases h2 : i.toNat ≤ l.length
  · rw [Nat.min_eq_left h2]
  · rw [Nat.min_eq_right (by omega), List.take_of_length_le (Nat.le_refl _), List.take_of_length_le (by omega)]
theorem cut_from {α : Type} (l : List α) {i : Int} (h : 0 ≤ i) : cut l (some i) none = l.drop i.toNat := by
  show (l.drop (if i < 0 then (i + l.length).toNat else min i.toNat l.length)).take (l.length - (if i < 0 then (i + l.length).toNat else min i.toNat l.length)) = _
  rw [if_neg (by omega)]
  by_cases h2 : i.toNat ≤ l.length
  · rw [Nat.min_eq_left h2, List.take_of_length_le (by simp)]
  · rw [Nat.min_eq_right (by omega), List.drop_length, List.drop_of_length_le (by omega)]; simp
theorem cut_ft {α : Type} (l : List α) {i j : Int} (h : 0 ≤ i ∧ 0 ≤ j) : cut l (some i) (some j) = (l.drop i.toNat).take (j.toNat - i.toNat) := by
  show (l.drop (if i < 0 then (i + l.length).toNat else min i.toNat l.length)).take ((if j < 0 then (j + l.length).toNat else min j.toNat l.length) - (if i < 0 then (i + l.length).toNat else min i.toNat l.length)) = _
  rw [if_neg (by omega), if_neg (by omega)]
  by_cases h2 : i.toNat ≤ l.length
  · rw [Nat.min_eq_left h2]
    by_cases h3 : j.toNat ≤ l.length
    · rw [Nat.min_eq_left h3]
    · rw [Nat.min_eq_right (by omega), List.take_of_length_le (by simp), List.take_of_length_le (by simp; omega)]
  · rw [show min i.toNat l.length = l.length by omega, List.drop_length, List.drop_of_length_le (by omega)]; simp
theorem cut_last {α : Type} (l : List α) (x : α) : cut (l ++ [x]) none (some (-1)) = l := by
  show ((l ++ [x]).drop 0).take ((if (-1 : Int) < 0 then ((-1 : Int) + (l ++ [x]).length).toNat else min (-1 : Int).toNat (l ++ [x]).length) - 0) = _
  rw [if_pos (by decide)]
  have : (-1 + (((l ++ [x]).length : Nat) : Int)).toNat = l.length := by simp; omega
  rw [this]; simp
/-! join -/
theorem bJoin_l {z : List Nat} {l : List (List Nat)} (h : (l.map List.length).sum + z.length * l.length ≤ 16777216) : bJoin (.str z) (.lst (l.map .str)) = .ok (.str (joinL z l)) := by
  show ((seqOf (.lst (l.map .str))).bind fun l => (ofO (strsD l)).bind fun l => need (decide ((l.map List.length).sum + z.length * l.length ≤ sizeL)) (.ok (D.str (joinL z l)))) = _
  simp only [seqOf, R.bind_ok, strsD_map, ofO_some]
  exact need_le h _
theorem bJoin_t {z : List Nat} {l : List (List Nat)} (h : (l.map List.length).sum + z.length * l.length ≤ 16777216) : bJoin (.str z) (.tup (l.map .str)) = .ok (.str (joinL z l)) := by
  show ((seqOf (.tup (l.map .str))).bind fun l => (ofO (strsD l)).bind fun l => need (decide ((l.map List.length).sum + z.length * l.length ≤ sizeL)) (.ok (D.str (joinL z l)))) = _
  simp only [seqOf, R.bind_ok, strsD_map, ofO_some]
  exact need_le h _
theorem joinL_nil : ∀ l : List (List Nat), joinL [] l = l.flatten
  | [] => rfl
  | [x] => by simp [joinL]
  | x :: y :: r => by
    show x ++ [] ++ joinL [] (y :: r) = _
    rw [joinL_nil (y :: r), List.append_nil]; rfl
theorem bSplit_s {z : List Nat} {c : Nat} (h : z.length ≤ 16777000 ∧ c < 256) (s : Sto) : bSplit (.d (.str z)) (.d (.str [c])) s = .ok (.d (.lst ((splitC c [] z).map .str)), s) := by
  show need _ _ = _; rw [decide_eq_true h.1, decide_eq_true h.2]; rfl
theorem splitC_app (c : Nat) : ∀ (x acc r : List Nat), c ∉ x → splitC c acc (x ++ c :: r) = (acc ++ x) :: splitC c [] r
  | [], acc, r, h => by
    show (if c = c then _ else _) = _
    rw [if_pos rfl, List.append_nil]
  | a :: x, acc, r, h => by
    rw [List.cons_append]
    show (if a = c then _ else splitC c (acc ++ [a]) (x ++ c :: r)) = _
    rw [if_neg (fun e => h (by rw [e]; exact List.mem_cons_self)), splitC_app c x (acc ++ [a]) r (fun e => h (List.mem_cons_of_mem _ e))]
    simp
theorem splitC_none (c : Nat) : ∀ (x acc : List Nat), c ∉ x → splitC c acc x = [acc ++ x]
  | [], acc, h => by simp [splitC]
  | a :: x, acc, h => by
    show (if a = c then _ else splitC c (acc ++ [a]) x) = _
    rw [if_neg (fun e => h (by rw [e]; exact List.mem_cons_self)), splitC_none c x (acc ++ [a]) (fun e => h (List.mem_cons_of_mem _ e))]
    simp
/-- what is joined is split into the same -/
theorem split_join (c : Nat) : ∀ (l : List (List Nat)), l ≠ [] → (∀ x ∈ l, c ∉ x) → splitC c [] (joinL [c] l) = l
  | [], h, _ => absurd rfl h
  | [x], _, h => by
    show splitC c [] x = _
    rw [splitC_none c x [] (h x List.mem_cons_self)]; rfl
  | x :: y :: r, _, h => by
    show splitC c [] (x ++ [c] ++ joinL [c] (y :: r)) = _
    rw [List.append_assoc]
    show splitC c [] (x ++ c :: joinL [c] (y :: r)) = _
    rw [splitC_app c x [] _ (h x List.mem_cons_self), split_join c (y :: r) (by simp) fun z hz => h z (List.mem_cons_of_mem _ hz)]; rfl
theorem isS_s (z : List Nat) (s : Sto) : isS (.d (.str z)) s = true := rfl
theorem eCh_ap (f g : W → W → Sto → VS) (a b c : Ev) (e : Env) (s : Sto) : eCh f g a b c e s = (a e s).bind fun p => (b e p.2).bind fun q => (f p.1 q.1 q.2).bind fun r => match r.1 with
  | .d (.bl true) => (c e r.2).bind fun t => g q.1 t.1 t.2
  | .d (.bl false) => .ok (.d (.bl false), r.2)
  | _ => .stuck := rfl
theorem newL_d (l : List D) (s : Sto) : newL (ws l) s = .ok (.loc s.length, s ++ [.l l]) := by unfold newL; rw [asDs_ws']
theorem bTupQ_l (l : List D) (s : Sto) : bTupQ (.d (.lst l)) s = .ok (.d (.inq l), s) := by
  show (R.ok (ws l)).bind _ = _
  simp only [R.bind_ok, asDs_ws', ofO_some]
theorem comp_consY (g : Tg) (a : Ev) (own : List Nat) (e0 : Env) (x : W) (xs : List W) (s : Sto) : comp g tYes a own e0 (x :: xs) s = (qt (g x (kill own e0) s)).bind fun p => (qt (a p.1 p.2)).bind fun r => (comp g tYes a own e0 xs r.2).bind fun z => .ok (r.1 :: z.1, z.2) := by
  rw [comp_cons]
  cases qt (g x (kill own e0) s) with
  | stuck => rfl
  | ex _ _ => rfl
  | ok p => rfl
theorem tk_map {α β : Type} (f : α → β) (l : List α) (n : Nat) : (l.map f).take n = (l.take n).map f := List.map_take.symm
theorem dp_map {α β : Type} (f : α → β) (l : List α) (n : Nat) : (l.map f).drop n = (l.drop n).map f := List.map_drop.symm
def ev5 :=
  And.intro @tk_map (And.intro @dp_map (And.intro @asDs_ws' (And.intro @watch_nil' (And.intro @watch_cons (And.intro @sForW_ap (And.intro @eCompW_ap (And.intro @eCompWC_ap (And.intro @eCompC_ap (And.intro @iEn_ap (And.intro @iZp_ap (And.intro @iRv_ap (And.intro @seqK_l (And.intro @seqK_p (And.intro @seqK_t (And.intro @seqK_q (And.intro @seqK_w (And.intro @seqK_c (And.intro @zpK_l (And.intro @zpK_t (And.intro @enW_ws (And.intro @zpW_ws (And.intro @rev_ws (And.intro @slice_l (And.intro @slice_lc (And.intro @slice_t (And.intro @slice_p (And.intro @slice_s (And.intro @cut_map (And.intro @cut_ws (And.intro @isS_s (And.intro @eCh_ap (And.intro @newL_d (And.intro @bTupQ_l (And.intro @bSplit_s (And.intro @loopW_nil (And.intro @compW_nil True.intro))))))))))))))))))))))))))))))))))))
end B
/-! Loops as folds; defs that change the store; more operators. -/
namespace B
/-- one turn's target and body -/
def lstep (g : Tg) (b : Sx) (w : W) (e : Env) (s : Sto) : R O := (g w e s).bd e fun p => b p.1 p.2
theorem loop_step (g : Tg) (b : Sx) (x : W) (xs : List W) (e : Env) (s : Sto) : loop g b (x :: xs) e s = (lstep g b x e s).bind fun o => turn o (loop g b xs) := by
  unfold lstep; rw [loop_cons]; cases g x e s <;> rfl
theorem lstep_n (i : Nat) (b : Sx) (w : W) (e : Env) (s : Sto) : lstep (gN i) b w e s = b (e.set i (some w)) s := rfl
theorem lstep_t (gs : List Tg) (b : Sx) (l : List D) (e : Env) (s : Sto) : lstep (gT gs) b (.d (.tup l)) e s = (gTs gs (ws l) e s).bd e fun p => b p.1 p.2 := rfl
section
variable {α σ : Type} {g : Tg} {b : Sx}
/-- a for loop over encoded items: a fold over a state -/
theorem loop_foldW (en : α → W) (f : σ → α → σ) (E : σ → Env) (S : σ → Sto) (I : Nat → σ → Prop) : ∀ (l : List α) (n : Nat) (st : σ), I n st →
    (∀ x ∈ l, ∀ m st, n ≤ m → m < n + l.length → I m st → I (m + 1) (f st x) ∧ (lstep g b (en x) (E st) (S st) = .ok (.nx (E (f st x)) (S (f st x))) ∨ lstep g b (en x) (E st) (S st) = .ok (.ct (E (f st x)) (S (f st x))))) →
    loop g b (l.map en) (E st) (S st) = .ok (.nx (E (l.foldl f st)) (S (l.foldl f st))) ∧ I (n + l.length) (l.foldl f st)
  | [], n, st, h, _ => ⟨rfl, h⟩
  | x :: l, n, st, h, hs => by
    obtain ⟨i1, h1⟩ := hs x List.mem_cons_self n st (Nat.le_refl _) (by simp) h
    obtain ⟨r1, r2⟩ := loop_foldW en f E S I l (n + 1) (f st x) i1 fun y hy m st h1 h2 => hs y (List.mem_cons_of_mem _ hy) m st (by omega) (by simp; omega)
    refine ⟨?_, by rw [show n + (x :: l).length = n + 1 + l.length by simp; omega]; exact r2⟩
    rw [List.map_cons, loop_step, List.foldl_cons]
    rcases h1 with h1 | h1 <;> rw [h1, R.bind_ok]
    · rw [turn_nx]; exact r1
    · rw [turn_ct]; exact r1
theorem loop_fold (en : α → D) (f : σ → α → σ) (E : σ → Env) (S : σ → Sto) (I : Nat → σ → Prop) (l : List α) (st : σ) (h : I 0 st)
    (hs : ∀ x ∈ l, ∀ n st, n < l.length → I n st → I (n + 1) (f st x) ∧ (lstep g b (.d (en x)) (E st) (S st) = .ok (.nx (E (f st x)) (S (f st x))) ∨ lstep g b (.d (en x)) (E st) (S st) = .ok (.ct (E (f st x)) (S (f st x))))) :
    loop g b (ws (l.map en)) (E st) (S st) = .ok (.nx (E (l.foldl f st)) (S (l.foldl f st))) ∧ I l.length (l.foldl f st) := by
  have := loop_foldW (g := g) (b := b) (fun x => .d (en x)) f E S I l 0 st h (fun x hx m st _ h2 => hs x hx m st (by omega))
  rw [Nat.zero_add] at this
  rw [ws_map]; exact this
/-- over numbers -/
theorem loop_rngF (f : σ → Nat → σ) (E : σ → Env) (S : σ → Sto) (I : Nat → σ → Prop) : ∀ (n lo : Nat) (st : σ), I lo st →
    (∀ k, lo ≤ k → k < lo + n → ∀ st, I k st → I (k + 1) (f st k) ∧ (lstep g b (.d (.int (k : Nat))) (E st) (S st) = .ok (.nx (E (f st k)) (S (f st k))) ∨ lstep g b (.d (.int (k : Nat))) (E st) (S st) = .ok (.ct (E (f st k)) (S (f st k))))) →
    loop g b (rng (lo : Nat) n) (E st) (S st) = .ok (.nx (E ((List.range' lo n).foldl f st)) (S ((List.range' lo n).foldl f st))) ∧ I (lo + n) ((List.range' lo n).foldl f st)
  | 0, lo, st, h, _ => ⟨rfl, h⟩
  | n + 1, lo, st, h, hs => by
    obtain ⟨i1, h1⟩ := hs lo (Nat.le_refl _) (by omega) st h
    obtain ⟨r1, r2⟩ := loop_rngF f E S I n (lo + 1) (f st lo) i1 fun k hk hk2 => hs k (by omega) (by omega)
    have e : ((lo : Int) + 1) = ((lo + 1 : Nat) : Int) := by omega
    refine ⟨?_, by rw [show lo + (n + 1) = lo + 1 + n by omega]; exact r2⟩
    rw [rng_succ, loop_step, List.range'_succ, List.foldl_cons, e]
    rcases h1 with h1 | h1 <;> rw [h1, R.bind_ok]
    · rw [turn_nx]; exact r1
    · rw [turn_ct]; exact r1
/-- over numbers, the state told by the turn -/
theorem loop_rngK (E : Nat → Env) (S : Nat → Sto) : ∀ (n lo : Nat), (∀ k, lo ≤ k → k < lo + n → lstep g b (.d (.int (k : Nat))) (E k) (S k) = .ok (.nx (E (k + 1)) (S (k + 1)))) →
    loop g b (rng (lo : Nat) n) (E lo) (S lo) = .ok (.nx (E (lo + n)) (S (lo + n)))
  | 0, lo, _ => rfl
  | n + 1, lo, h => by
    have r := loop_rngK E S n (lo + 1) fun k h1 h2 => h k (by omega) (by omega)
    have e : ((lo : Int) + 1) = ((lo + 1 : Nat) : Int) := by omega
    rw [rng_succ, loop_step, e, h lo (Nat.le_refl _) (by omega), R.bind_ok, turn_nx, r, show lo + 1 + n = lo + (n + 1) by omega]
/-- over numbers, a state that is there -/
theorem loop_rngE {σ : Type} (E : σ → Env) (S : σ → Sto) (I : Nat → σ → Prop) : ∀ (n lo : Nat) (st : σ), I lo st →
    (∀ k, lo ≤ k → k < lo + n → ∀ st, I k st → ∃ st', lstep g b (.d (.int (k : Nat))) (E st) (S st) = .ok (.nx (E st') (S st')) ∧ I (k + 1) st') →
    ∃ st', loop g b (rng (lo : Nat) n) (E st) (S st) = .ok (.nx (E st') (S st')) ∧ I (lo + n) st'
  | 0, lo, st, h, _ => ⟨st, rfl, h⟩
  | n + 1, lo, st, h, hs => by
    obtain ⟨st1, h1, i1⟩ := hs lo (Nat.le_refl _) (by omega) st h
    obtain ⟨st2, r, i2⟩ := loop_rngE E S I n (lo + 1) st1 i1 fun k h1 h2 => hs k (by omega) (by omega)
    have e : ((lo : Int) + 1) = ((lo + 1 : Nat) : Int) := by omega
    refine ⟨st2, ?_, by rw [show lo + (n + 1) = lo + 1 + n by omega]; exact i2⟩
    rw [rng_succ, loop_step, e, h1, R.bind_ok, turn_nx, r]
/-- over a list, the state told by the turn -/
theorem loop_idx (en : α → D) (E : Nat → Env) (S : Nat → Sto) (l : List α) (h : ∀ k (hk : k < l.length), lstep g b (.d (en l[k])) (E k) (S k) = .ok (.nx (E (k + 1)) (S (k + 1)))) :
    loop g b (ws (l.map en)) (E 0) (S 0) = .ok (.nx (E l.length) (S l.length)) := by
  have key : ∀ (l : List α) (n : Nat), (∀ k (hk : k < l.length), lstep g b (.d (en l[k])) (E (n + k)) (S (n + k)) = .ok (.nx (E (n + k + 1)) (S (n + k + 1)))) → loop g b (ws (l.map en)) (E n) (S n) = .ok (.nx (E (n + l.length)) (S (n + l.length))) := by
    intro l
    induction l with
    | nil => intro n _; rfl
    | cons x l ih =>
      intro n h
      have h0 := h 0 (by simp)
      have r := ih (n + 1) fun k hk => by
        have := h (k + 1) (by simpa using hk)
        rw [show n + (k + 1) = n + 1 + k by omega] at this
        exact this
      simp only [List.getElem_cons_zero, Nat.add_zero] at h0
      rw [List.map_cons, ws_cons, loop_step, h0, R.bind_ok, turn_nx, r, List.length_cons, show n + 1 + l.length = n + (l.length + 1) by omega]
  have := key l 0 (fun k hk => by rw [Nat.zero_add]; exact h k hk)
  rwa [Nat.zero_add] at this
/-- over a list, a state that is there -/
theorem loop_ex {σ : Type} (en : α → D) (E : σ → Env) (S : σ → Sto) (I : List α → σ → Prop) : ∀ (l m : List α) (st : σ), I m st →
    (∀ x ∈ l, ∀ m st, I m st → ∃ st', lstep g b (.d (en x)) (E st) (S st) = .ok (.nx (E st') (S st')) ∧ I (m ++ [x]) st') →
    ∃ st', loop g b (ws (l.map en)) (E st) (S st) = .ok (.nx (E st') (S st')) ∧ I (m ++ l) st'
  | [], m, st, h, _ => ⟨st, rfl, by rw [List.append_nil]; exact h⟩
  | x :: l, m, st, h, hs => by
    obtain ⟨st1, h1, i1⟩ := hs x List.mem_cons_self m st h
    obtain ⟨st2, r, i2⟩ := loop_ex en E S I l (m ++ [x]) st1 i1 fun y hy => hs y (List.mem_cons_of_mem _ hy)
    refine ⟨st2, ?_, by rw [List.append_assoc] at i2; exact i2⟩
    rw [List.map_cons, ws_cons, loop_step, h1, R.bind_ok, turn_nx, r]
/-- a loop that returns at the first item of a kind -/
theorem loop_ret (en : α → D) (p : α → Bool) (r : α → W) (e : Env) (s : Sto) : ∀ (l : List α), (∀ x ∈ l, lstep g b (.d (en x)) e s = if p x = true then .ok (.nx e s) else .ok (.rt (r x) s)) →
    loop g b (ws (l.map en)) e s = match l.find? (fun x => !p x) with | none => .ok (.nx e s) | some x => .ok (.rt (r x) s)
  | [], _ => rfl
  | x :: l, h => by
    have h1 := h x List.mem_cons_self
    have h2 := loop_ret en p r e s l fun y hy => h y (List.mem_cons_of_mem _ hy)
    rw [List.map_cons, ws_cons, loop_step, h1, List.find?_cons]
    cases p x with
    | true => exact h2
    | false => rfl
end
/-! defs upon the store -/
theorem mkF_s {n : Nat} {b : Sx} {a : List W} {x : D} {s s' : Sto} (e : Env) (he : start n a = e) (h : outOf (b e s) = .ok (.d x, s')) (hl : s'.length = s.length) (hc : clS s.length s' = true) : mkF n b a s = .ok (.d x, s') := by
  show fin s.length (outOf (b (start n a) s)) = _
  rw [he, h]
  have e : s'.take s.length = s' := List.take_of_length_le (by omega)
  show (if clS s.length (s'.take s.length) then R.ok (W.d x, s'.take s.length) else .stuck) = _
  rw [e, hc]; rfl
/-! operators -/
theorem oAnd_n (i j : Nat) : oAnd (.int i) (.int j) = .ok (.int ((i &&& j : Nat) : Int)) := by
  simp [oAnd, I2, need]
theorem oXor_n (i j : Nat) : oXor (.int i) (.int j) = .ok (.int ((i ^^^ j : Nat) : Int)) := by
  simp [oXor, I2, need]
theorem oShl_n (i j : Nat) (h : i < 18446744073709551616 ∧ j ≤ 1000000) : oShl (.int i) (.int j) = .ok (.int ((i * 2 ^ j : Nat) : Int)) := by
  show need _ _ = _
  rw [decide_eq_true (show (0 : Int) ≤ (j : Int) by omega), decide_eq_true (show (j : Int) ≤ 1000000 by omega), decide_eq_true (show (i : Int).natAbs < 2 ^ 64 by omega)]
  simp
theorem oShl_one (i : Nat) (h : i < 18446744073709551616) : oShl (.int i) (.int 1) = .ok (.int ((i * 2 : Nat) : Int)) := oShl_n i 1 ⟨h, by omega⟩
/-! dict(..) -/
theorem bDictQ_q {l : List D} {ps : List (D × D)} (hp : pairsD l = some ps) (h : l.length ≤ 16777216) (s : Sto) : bDictQ (.d (.inq l)) s = .ok (.d (.dct false (dictL ps)), s) := by
  show need (decide (l.length ≤ sizeL)) ((ofO (pairsD l)).bind fun ps => .ok (W.d (.dct false (dictL ps)), s)) = _
  rw [need_le h, hp]; rfl
end B
/-! Rules by which a B term is run part by part: what comes behind is left alone until its turn. -/
namespace B
noncomputable def zk1 (f : W → Sto → VS) (rr : R (W × Sto)) : VS := rr.bind fun p => f p.1 p.2
theorem zk1_ok (f : W → Sto → VS) (w : W) (s : Sto) : zk1 f (.ok (w, s)) = f w s := rfl
theorem zk1_st (f : W → Sto → VS) : zk1 f .stuck = .stuck := rfl
theorem zk1_ex (f : W → Sto → VS) (xc : Exc) (tc : Sto) : zk1 f (.ex xc tc) = .ex xc tc := rfl
theorem zk1_if (f : W → Sto → VS) (cp : Prop) [Decidable cp] (ra rb : R (W × Sto)) : zk1 f (if cp then ra else rb) = if cp then zk1 f ra else zk1 f rb := by split <;> rfl
theorem e1_z (f : W → Sto → VS) (a : Ev) (e : Env) (s : Sto) : e1 f a e s = zk1 f (a e s) := rfl
noncomputable def zk2b (f : W → W → Sto → VS) (x : W) (rr : R (W × Sto)) : VS := rr.bind fun q => f x q.1 q.2
theorem zk2b_ok (f : W → W → Sto → VS) (x : W) (w : W) (s : Sto) : zk2b f x (.ok (w, s)) = f x w s := rfl
theorem zk2b_st (f : W → W → Sto → VS) (x : W) : zk2b f x .stuck = .stuck := rfl
theorem zk2b_ex (f : W → W → Sto → VS) (x : W) (xc : Exc) (tc : Sto) : zk2b f x (.ex xc tc) = .ex xc tc := rfl
theorem zk2b_if (f : W → W → Sto → VS) (x : W) (cp : Prop) [Decidable cp] (ra rb : R (W × Sto)) : zk2b f x (if cp then ra else rb) = if cp then zk2b f x ra else zk2b f x rb := by split <;> rfl
noncomputable def zk2 (f : W → W → Sto → VS) (b : Ev) (e : Env) (rr : R (W × Sto)) : VS := rr.bind fun p => zk2b f p.1 (b e p.2)
theorem zk2_ok (f : W → W → Sto → VS) (b : Ev) (e : Env) (w : W) (s : Sto) : zk2 f b e (.ok (w, s)) = zk2b f w (b e s) := rfl
theorem zk2_st (f : W → W → Sto → VS) (b : Ev) (e : Env) : zk2 f b e .stuck = .stuck := rfl
theorem zk2_ex (f : W → W → Sto → VS) (b : Ev) (e : Env) (xc : Exc) (tc : Sto) : zk2 f b e (.ex xc tc) = .ex xc tc := rfl
theorem zk2_if (f : W → W → Sto → VS) (b : Ev) (e : Env) (cp : Prop) [Decidable cp] (ra rb : R (W × Sto)) : zk2 f b e (if cp then ra else rb) = if cp then zk2 f b e ra else zk2 f b e rb := by split <;> rfl
theorem e2_z (f : W → W → Sto → VS) (a b : Ev) (e : Env) (s : Sto) : e2 f a b e s = zk2 f b e (a e s) := rfl
noncomputable def zkA2 (x : W) (rr : R (List W × Sto)) : R (List W × Sto) := rr.bind fun q => .ok (x :: q.1, q.2)
theorem zkA2_ok (x : W) (l : List W) (s : Sto) : zkA2 x (.ok (l, s)) = .ok (x :: l, s) := rfl
theorem zkA2_st (x : W) : zkA2 x .stuck = .stuck := rfl
theorem zkA2_ex (x : W) (xc : Exc) (tc : Sto) : zkA2 x (.ex xc tc) = .ex xc tc := rfl
theorem zkA2_if (x : W) (cp : Prop) [Decidable cp] (ra rb : R (List W × Sto)) : zkA2 x (if cp then ra else rb) = if cp then zkA2 x ra else zkA2 x rb := by split <;> rfl
noncomputable def zkA (as : List Ev) (e : Env) (rr : R (W × Sto)) : R (List W × Sto) := rr.bind fun p => zkA2 p.1 (eAs as e p.2)
theorem zkA_ok (as : List Ev) (e : Env) (w : W) (s : Sto) : zkA as e (.ok (w, s)) = zkA2 w (eAs as e s) := rfl
theorem zkA_st (as : List Ev) (e : Env) : zkA as e .stuck = .stuck := rfl
theorem zkA_ex (as : List Ev) (e : Env) (xc : Exc) (tc : Sto) : zkA as e (.ex xc tc) = .ex xc tc := rfl
theorem zkA_if (as : List Ev) (e : Env) (cp : Prop) [Decidable cp] (ra rb : R (W × Sto)) : zkA as e (if cp then ra else rb) = if cp then zkA as e ra else zkA as e rb := by split <;> rfl
theorem eAs_z (a : Ev) (as : List Ev) (e : Env) (s : Sto) : eAs (a :: as) e s = zkA as e (a e s) := rfl
noncomputable def zkN (f : Fn) (rr : R (List W × Sto)) : VS := rr.bind fun p => f p.1 p.2
theorem zkN_ok (f : Fn) (l : List W) (s : Sto) : zkN f (.ok (l, s)) = f l s := rfl
theorem zkN_st (f : Fn) : zkN f .stuck = .stuck := rfl
theorem zkN_ex (f : Fn) (xc : Exc) (tc : Sto) : zkN f (.ex xc tc) = .ex xc tc := rfl
theorem zkN_if (f : Fn) (cp : Prop) [Decidable cp] (ra rb : R (List W × Sto)) : zkN f (if cp then ra else rb) = if cp then zkN f ra else zkN f rb := by split <;> rfl
theorem eN_z (f : Fn) (as : List Ev) (e : Env) (s : Sto) : eN f as e s = zkN f (eAs as e s) := rfl
noncomputable def zkD (s : Sto) (rr : R D) : VS := rr.bind fun x => .ok (.d x, s)
theorem zkD_ok (s : Sto) (x : D) : zkD s (.ok x) = .ok (.d x, s) := rfl
theorem zkD_st (s : Sto) : zkD s .stuck = .stuck := rfl
theorem zkD_ex (s : Sto) (xc : Exc) (tc : Sto) : zkD s (.ex xc tc) = .ex xc tc := rfl
theorem zkD_if (s : Sto) (cp : Prop) [Decidable cp] (ra rb : R D) : zkD s (if cp then ra else rb) = if cp then zkD s ra else zkD s rb := by split <;> rfl
theorem d1_z (f : D → R D) (x : D) (s : Sto) : d1 f (.d x) s = zkD s (f x) := rfl
theorem d2_z (f : D → D → R D) (x y : D) (s : Sto) : d2 f (.d x) (.d y) s = zkD s (f x y) := rfl
noncomputable def zkD1 (f : D → R D) (s : Sto) (rr : R D) : VS := rr.bind fun x => zkD s (f x)
theorem zkD1_ok (f : D → R D) (s : Sto) (x : D) : zkD1 f s (.ok x) = zkD s (f x) := rfl
theorem zkD1_st (f : D → R D) (s : Sto) : zkD1 f s .stuck = .stuck := rfl
theorem zkD1_ex (f : D → R D) (s : Sto) (xc : Exc) (tc : Sto) : zkD1 f s (.ex xc tc) = .ex xc tc := rfl
theorem zkD1_if (f : D → R D) (s : Sto) (cp : Prop) [Decidable cp] (ra rb : R D) : zkD1 f s (if cp then ra else rb) = if cp then zkD1 f s ra else zkD1 f s rb := by split <;> rfl
noncomputable def zkDl (f : D → D → R D) (y : D) (s : Sto) (rr : R D) : VS := rr.bind fun x => zkD s (f x y)
theorem zkDl_ok (f : D → D → R D) (y : D) (s : Sto) (x : D) : zkDl f y s (.ok x) = zkD s (f x y) := rfl
theorem zkDl_st (f : D → D → R D) (y : D) (s : Sto) : zkDl f y s .stuck = .stuck := rfl
theorem zkDl_ex (f : D → D → R D) (y : D) (s : Sto) (xc : Exc) (tc : Sto) : zkDl f y s (.ex xc tc) = .ex xc tc := rfl
theorem zkDl_if (f : D → D → R D) (y : D) (s : Sto) (cp : Prop) [Decidable cp] (ra rb : R D) : zkDl f y s (if cp then ra else rb) = if cp then zkDl f y s ra else zkDl f y s rb := by split <;> rfl
noncomputable def zkDr (f : D → D → R D) (x : D) (s : Sto) (rr : R D) : VS := rr.bind fun y => zkD s (f x y)
theorem zkDr_ok (f : D → D → R D) (x : D) (s : Sto) (y : D) : zkDr f x s (.ok y) = zkD s (f x y) := rfl
theorem zkDr_st (f : D → D → R D) (x : D) (s : Sto) : zkDr f x s .stuck = .stuck := rfl
theorem zkDr_ex (f : D → D → R D) (x : D) (s : Sto) (xc : Exc) (tc : Sto) : zkDr f x s (.ex xc tc) = .ex xc tc := rfl
theorem zkDr_if (f : D → D → R D) (x : D) (s : Sto) (cp : Prop) [Decidable cp] (ra rb : R D) : zkDr f x s (if cp then ra else rb) = if cp then zkDr f x s ra else zkDr f x s rb := by split <;> rfl
noncomputable def zkDb (f : D → D → R D) (k : Nat) (s : Sto) (rr : R D) : VS := rr.bind fun x => zkDr f x s (dat s (.loc k))
theorem zkDb_ok (f : D → D → R D) (k : Nat) (s : Sto) (x : D) : zkDb f k s (.ok x) = zkDr f x s (dat s (.loc k)) := rfl
theorem zkDb_st (f : D → D → R D) (k : Nat) (s : Sto) : zkDb f k s .stuck = .stuck := rfl
theorem zkDb_ex (f : D → D → R D) (k : Nat) (s : Sto) (xc : Exc) (tc : Sto) : zkDb f k s (.ex xc tc) = .ex xc tc := rfl
theorem zkDb_if (f : D → D → R D) (k : Nat) (s : Sto) (cp : Prop) [Decidable cp] (ra rb : R D) : zkDb f k s (if cp then ra else rb) = if cp then zkDb f k s ra else zkDb f k s rb := by split <;> rfl
theorem d1_lz (f : D → R D) (k : Nat) (s : Sto) : d1 f (.loc k) s = zkD1 f s (dat s (.loc k)) := rfl
theorem d2_dlz (f : D → D → R D) (x : D) (k : Nat) (s : Sto) : d2 f (.d x) (.loc k) s = zkDr f x s (dat s (.loc k)) := rfl
theorem d2_ldz (f : D → D → R D) (x : D) (k : Nat) (s : Sto) : d2 f (.loc k) (.d x) s = zkDl f x s (dat s (.loc k)) := rfl
theorem d2_llz (f : D → D → R D) (j k : Nat) (s : Sto) : d2 f (.loc j) (.loc k) s = zkDb f k s (dat s (.loc j)) := rfl
noncomputable def zkT  (rr : R (W × Sto)) : R (Bool × Sto) := rr.bind fun p => match p.1 with | .d (.bl b) => .ok (b, p.2) | _ => .stuck
theorem zkT_ok  (b : Bool) (s : Sto) : zkT (.ok (.d (.bl b), s)) = .ok (b, s) := rfl
theorem zkT_st  : zkT .stuck = .stuck := rfl
theorem zkT_ex  (xc : Exc) (tc : Sto) : zkT (.ex xc tc) = .ex xc tc := rfl
theorem zkT_if  (cp : Prop) [Decidable cp] (ra rb : R (W × Sto)) : zkT (if cp then ra else rb) = if cp then zkT ra else zkT rb := by split <;> rfl
theorem tB_z (a : Ev) (e : Env) (s : Sto) : tB a e s = zkT (a e s) := rfl
noncomputable def zkAnd (b : Tx) (e : Env) (rr : R (Bool × Sto)) : R (Bool × Sto) := rr.bind fun p => if p.1 then b e p.2 else .ok (false, p.2)
theorem zkAnd_t (b : Tx) (e : Env) (s : Sto) : zkAnd b e (.ok (true, s)) = b e s := rfl
theorem zkAnd_f (b : Tx) (e : Env) (s : Sto) : zkAnd b e (.ok (false, s)) = .ok (false, s) := rfl
theorem zkAnd_d (b : Tx) (e : Env) (s : Sto) (cp : Prop) [Decidable cp] : zkAnd b e (.ok (decide cp, s)) = if cp then b e s else .ok (false, s) := by by_cases h : cp <;> simp [h] <;> rfl
theorem zkAnd_n (b : Tx) (e : Env) (s : Sto) (cp : Prop) [Decidable cp] : zkAnd b e (.ok (!decide cp, s)) = if cp then .ok (false, s) else b e s := by by_cases h : cp <;> simp [h] <;> rfl
theorem zkAnd_st (b : Tx) (e : Env) : zkAnd b e .stuck = .stuck := rfl
theorem zkAnd_if (b : Tx) (e : Env) (cp : Prop) [Decidable cp] (ra rb : R (Bool × Sto)) : zkAnd b e (if cp then ra else rb) = if cp then zkAnd b e ra else zkAnd b e rb := by split <;> rfl
noncomputable def zkOr (b : Tx) (e : Env) (rr : R (Bool × Sto)) : R (Bool × Sto) := rr.bind fun p => if p.1 then .ok (true, p.2) else b e p.2
theorem zkOr_t (b : Tx) (e : Env) (s : Sto) : zkOr b e (.ok (true, s)) = .ok (true, s) := rfl
theorem zkOr_f (b : Tx) (e : Env) (s : Sto) : zkOr b e (.ok (false, s)) = b e s := rfl
theorem zkOr_d (b : Tx) (e : Env) (s : Sto) (cp : Prop) [Decidable cp] : zkOr b e (.ok (decide cp, s)) = if cp then .ok (true, s) else b e s := by by_cases h : cp <;> simp [h] <;> rfl
theorem zkOr_n (b : Tx) (e : Env) (s : Sto) (cp : Prop) [Decidable cp] : zkOr b e (.ok (!decide cp, s)) = if cp then b e s else .ok (true, s) := by by_cases h : cp <;> simp [h] <;> rfl
theorem zkOr_st (b : Tx) (e : Env) : zkOr b e .stuck = .stuck := rfl
theorem zkOr_if (b : Tx) (e : Env) (cp : Prop) [Decidable cp] (ra rb : R (Bool × Sto)) : zkOr b e (if cp then ra else rb) = if cp then zkOr b e ra else zkOr b e rb := by split <;> rfl
noncomputable def zkNo  (rr : R (Bool × Sto)) : R (Bool × Sto) := rr.bind fun p => .ok (!p.1, p.2)
theorem zkNo_ok  (b : Bool) (s : Sto) : zkNo (.ok (b, s)) = .ok (!b, s) := rfl
theorem zkNo_st  : zkNo .stuck = .stuck := rfl
theorem zkNo_ex  (xc : Exc) (tc : Sto) : zkNo (.ex xc tc) = .ex xc tc := rfl
theorem zkNo_if  (cp : Prop) [Decidable cp] (ra rb : R (Bool × Sto)) : zkNo (if cp then ra else rb) = if cp then zkNo ra else zkNo rb := by split <;> rfl
theorem tAnd_z (a b : Tx) (e : Env) (s : Sto) : tAnd a b e s = zkAnd b e (a e s) := rfl
theorem tOr_z (a b : Tx) (e : Env) (s : Sto) : tOr a b e s = zkOr b e (a e s) := rfl
theorem tNot_z (a : Tx) (e : Env) (s : Sto) : tNot a e s = zkNo (a e s) := rfl
noncomputable def zkEA (b : Ev) (e : Env) (rr : R (W × Sto)) : VS := rr.bind fun p => match p.1 with | .d (.bl true) => b e p.2 | .d (.bl false) => .ok (.d (.bl false), p.2) | _ => .stuck
theorem zkEA_t (b : Ev) (e : Env) (s : Sto) : zkEA b e (.ok (.d (.bl (true)), s)) = b e s := rfl
theorem zkEA_f (b : Ev) (e : Env) (s : Sto) : zkEA b e (.ok (.d (.bl (false)), s)) = .ok (.d (.bl false), s) := rfl
theorem zkEA_d (b : Ev) (e : Env) (s : Sto) (cp : Prop) [Decidable cp] : zkEA b e (.ok (.d (.bl (decide cp)), s)) = if cp then b e s else .ok (.d (.bl false), s) := by by_cases h : cp <;> simp [h] <;> rfl
theorem zkEA_n (b : Ev) (e : Env) (s : Sto) (cp : Prop) [Decidable cp] : zkEA b e (.ok (.d (.bl (!decide cp)), s)) = if cp then .ok (.d (.bl false), s) else b e s := by by_cases h : cp <;> simp [h] <;> rfl
theorem zkEA_st (b : Ev) (e : Env) : zkEA b e .stuck = .stuck := rfl
theorem zkEA_if (b : Ev) (e : Env) (cp : Prop) [Decidable cp] (ra rb : R (W × Sto)) : zkEA b e (if cp then ra else rb) = if cp then zkEA b e ra else zkEA b e rb := by split <;> rfl
noncomputable def zkEO (b : Ev) (e : Env) (rr : R (W × Sto)) : VS := rr.bind fun p => match p.1 with | .d (.bl true) => .ok (.d (.bl true), p.2) | .d (.bl false) => b e p.2 | _ => .stuck
theorem zkEO_t (b : Ev) (e : Env) (s : Sto) : zkEO b e (.ok (.d (.bl (true)), s)) = .ok (.d (.bl true), s) := rfl
theorem zkEO_f (b : Ev) (e : Env) (s : Sto) : zkEO b e (.ok (.d (.bl (false)), s)) = b e s := rfl
theorem zkEO_d (b : Ev) (e : Env) (s : Sto) (cp : Prop) [Decidable cp] : zkEO b e (.ok (.d (.bl (decide cp)), s)) = if cp then .ok (.d (.bl true), s) else b e s := by by_cases h : cp <;> simp [h] <;> rfl
theorem zkEO_n (b : Ev) (e : Env) (s : Sto) (cp : Prop) [Decidable cp] : zkEO b e (.ok (.d (.bl (!decide cp)), s)) = if cp then b e s else .ok (.d (.bl true), s) := by by_cases h : cp <;> simp [h] <;> rfl
theorem zkEO_st (b : Ev) (e : Env) : zkEO b e .stuck = .stuck := rfl
theorem zkEO_if (b : Ev) (e : Env) (cp : Prop) [Decidable cp] (ra rb : R (W × Sto)) : zkEO b e (if cp then ra else rb) = if cp then zkEO b e ra else zkEO b e rb := by split <;> rfl
noncomputable def zkEN  (rr : R (W × Sto)) : VS := rr.bind fun p => match p.1 with | .d (.bl b) => .ok (.d (.bl (!b)), p.2) | _ => .stuck
theorem zkEN_ok  (b : Bool) (s : Sto) : zkEN (.ok (.d (.bl b), s)) = .ok (.d (.bl (!b)), s) := rfl
theorem zkEN_st  : zkEN .stuck = .stuck := rfl
theorem zkEN_ex  (xc : Exc) (tc : Sto) : zkEN (.ex xc tc) = .ex xc tc := rfl
theorem zkEN_if  (cp : Prop) [Decidable cp] (ra rb : R (W × Sto)) : zkEN (if cp then ra else rb) = if cp then zkEN ra else zkEN rb := by split <;> rfl
theorem eAnd_z (a b : Ev) (e : Env) (s : Sto) : eAnd a b e s = zkEA b e (a e s) := rfl
theorem eOr_z (a b : Ev) (e : Env) (s : Sto) : eOr a b e s = zkEO b e (a e s) := rfl
theorem eNot_z (a : Ev) (e : Env) (s : Sto) : eNot a e s = zkEN (a e s) := rfl
noncomputable def zkEI (a b : Ev) (e : Env) (rr : R (Bool × Sto)) : VS := rr.bind fun p => if p.1 then a e p.2 else b e p.2
theorem zkEI_t (a b : Ev) (e : Env) (s : Sto) : zkEI a b e (.ok (true, s)) = a e s := rfl
theorem zkEI_f (a b : Ev) (e : Env) (s : Sto) : zkEI a b e (.ok (false, s)) = b e s := rfl
theorem zkEI_d (a b : Ev) (e : Env) (s : Sto) (cp : Prop) [Decidable cp] : zkEI a b e (.ok (decide cp, s)) = if cp then a e s else b e s := by by_cases h : cp <;> simp [h] <;> rfl
theorem zkEI_n (a b : Ev) (e : Env) (s : Sto) (cp : Prop) [Decidable cp] : zkEI a b e (.ok (!decide cp, s)) = if cp then b e s else a e s := by by_cases h : cp <;> simp [h] <;> rfl
theorem zkEI_st (a b : Ev) (e : Env) : zkEI a b e .stuck = .stuck := rfl
theorem zkEI_if (a b : Ev) (e : Env) (cp : Prop) [Decidable cp] (ra rb : R (Bool × Sto)) : zkEI a b e (if cp then ra else rb) = if cp then zkEI a b e ra else zkEI a b e rb := by split <;> rfl
theorem eIf_z (t : Tx) (a b : Ev) (e : Env) (s : Sto) : eIf t a b e s = zkEI a b e (t e s) := rfl
noncomputable def zkC2 (g : W → W → Sto → VS) (y : W) (c : Ev) (e : Env) (rr : R (W × Sto)) : VS := rr.bind fun q => match q.1 with | .d (.bl true) => (c e q.2).bind fun t => g y t.1 t.2 | .d (.bl false) => .ok (.d (.bl false), q.2) | _ => .stuck
theorem zkC2_t (g : W → W → Sto → VS) (y : W) (c : Ev) (e : Env) (s : Sto) : zkC2 g y c e (.ok (.d (.bl (true)), s)) = zk2b g y (c e s) := rfl
theorem zkC2_f (g : W → W → Sto → VS) (y : W) (c : Ev) (e : Env) (s : Sto) : zkC2 g y c e (.ok (.d (.bl (false)), s)) = .ok (.d (.bl false), s) := rfl
theorem zkC2_d (g : W → W → Sto → VS) (y : W) (c : Ev) (e : Env) (s : Sto) (cp : Prop) [Decidable cp] : zkC2 g y c e (.ok (.d (.bl (decide cp)), s)) = if cp then zk2b g y (c e s) else .ok (.d (.bl false), s) := by by_cases h : cp <;> simp [h] <;> rfl
theorem zkC2_n (g : W → W → Sto → VS) (y : W) (c : Ev) (e : Env) (s : Sto) (cp : Prop) [Decidable cp] : zkC2 g y c e (.ok (.d (.bl (!decide cp)), s)) = if cp then .ok (.d (.bl false), s) else zk2b g y (c e s) := by by_cases h : cp <;> simp [h] <;> rfl
theorem zkC2_st (g : W → W → Sto → VS) (y : W) (c : Ev) (e : Env) : zkC2 g y c e .stuck = .stuck := rfl
theorem zkC2_if (g : W → W → Sto → VS) (y : W) (c : Ev) (e : Env) (cp : Prop) [Decidable cp] (ra rb : R (W × Sto)) : zkC2 g y c e (if cp then ra else rb) = if cp then zkC2 g y c e ra else zkC2 g y c e rb := by split <;> rfl
noncomputable def zkC1 (f g : W → W → Sto → VS) (x : W) (c : Ev) (e : Env) (rr : R (W × Sto)) : VS := rr.bind fun q => zkC2 g q.1 c e (f x q.1 q.2)
theorem zkC1_ok (f g : W → W → Sto → VS) (x : W) (c : Ev) (e : Env) (w : W) (s : Sto) : zkC1 f g x c e (.ok (w, s)) = zkC2 g w c e (f x w s) := rfl
theorem zkC1_st (f g : W → W → Sto → VS) (x : W) (c : Ev) (e : Env) : zkC1 f g x c e .stuck = .stuck := rfl
theorem zkC1_ex (f g : W → W → Sto → VS) (x : W) (c : Ev) (e : Env) (xc : Exc) (tc : Sto) : zkC1 f g x c e (.ex xc tc) = .ex xc tc := rfl
theorem zkC1_if (f g : W → W → Sto → VS) (x : W) (c : Ev) (e : Env) (cp : Prop) [Decidable cp] (ra rb : R (W × Sto)) : zkC1 f g x c e (if cp then ra else rb) = if cp then zkC1 f g x c e ra else zkC1 f g x c e rb := by split <;> rfl
noncomputable def zkC0 (f g : W → W → Sto → VS) (b c : Ev) (e : Env) (rr : R (W × Sto)) : VS := rr.bind fun p => zkC1 f g p.1 c e (b e p.2)
theorem zkC0_ok (f g : W → W → Sto → VS) (b c : Ev) (e : Env) (w : W) (s : Sto) : zkC0 f g b c e (.ok (w, s)) = zkC1 f g w c e (b e s) := rfl
theorem zkC0_st (f g : W → W → Sto → VS) (b c : Ev) (e : Env) : zkC0 f g b c e .stuck = .stuck := rfl
theorem zkC0_ex (f g : W → W → Sto → VS) (b c : Ev) (e : Env) (xc : Exc) (tc : Sto) : zkC0 f g b c e (.ex xc tc) = .ex xc tc := rfl
theorem zkC0_if (f g : W → W → Sto → VS) (b c : Ev) (e : Env) (cp : Prop) [Decidable cp] (ra rb : R (W × Sto)) : zkC0 f g b c e (if cp then ra else rb) = if cp then zkC0 f g b c e ra else zkC0 f g b c e rb := by split <;> rfl
theorem eCh_z (f g : W → W → Sto → VS) (a b c : Ev) (e : Env) (s : Sto) : eCh f g a b c e s = zkC0 f g b c e (a e s) := rfl
noncomputable def zkS (b : Sx) (rr : R O) : R O := rr.bind fun o => match o with | .nx e s => b e s | o => .ok o
theorem zkS_nx (b : Sx) (e : Env) (s : Sto) : zkS b (.ok (.nx e s)) = b e s := rfl
theorem zkS_rt (b : Sx) (w : W) (s : Sto) : zkS b (.ok (.rt w s)) = .ok (.rt w s) := rfl
theorem zkS_bk (b : Sx) (e : Env) (s : Sto) : zkS b (.ok (.bk e s)) = .ok (.bk e s) := rfl
theorem zkS_ct (b : Sx) (e : Env) (s : Sto) : zkS b (.ok (.ct e s)) = .ok (.ct e s) := rfl
theorem zkS_xx (b : Sx) (x : Exc) (e : Env) (s : Sto) : zkS b (.ok (.xx x e s)) = .ok (.xx x e s) := rfl
theorem zkS_st (b : Sx) : zkS b .stuck = .stuck := rfl
theorem zkS_ex (b : Sx) (xc : Exc) (tc : Sto) : zkS b (.ex xc tc) = .ex xc tc := rfl
theorem zkS_if (b : Sx) (cp : Prop) [Decidable cp] (ra rb : R O) : zkS b (if cp then ra else rb) = if cp then zkS b ra else zkS b rb := by split <;> rfl
theorem sSeq_z (a b : Sx) (e : Env) (s : Sto) : sSeq a b e s = zkS b (a e s) := rfl
noncomputable def zkGa (e0 : Env) (rr : R (Env × Sto)) : R O := rr.bd e0 fun q => .ok (.nx q.1 q.2)
theorem zkGa_ok (e0 : Env) (e : Env) (s : Sto) : zkGa e0 (.ok (e, s)) = .ok (.nx e s) := rfl
theorem zkGa_st (e0 : Env) : zkGa e0 .stuck = .stuck := rfl
theorem zkGa_ex (e0 : Env) (xc : Exc) (tc : Sto) : zkGa e0 (.ex xc tc) = .ok (.xx xc e0 tc) := rfl
theorem zkGa_if (e0 : Env) (cp : Prop) [Decidable cp] (ra rb : R (Env × Sto)) : zkGa e0 (if cp then ra else rb) = if cp then zkGa e0 ra else zkGa e0 rb := by split <;> rfl
noncomputable def zkG (g : Tg) (e : Env) (rr : R (W × Sto)) : R O := rr.bd e fun p => zkGa e (g p.1 e p.2)
theorem zkG_ok (g : Tg) (e : Env) (w : W) (s : Sto) : zkG g e (.ok (w, s)) = zkGa e (g w e s) := rfl
theorem zkG_st (g : Tg) (e : Env) : zkG g e .stuck = .stuck := rfl
theorem zkG_ex (g : Tg) (e : Env) (xc : Exc) (tc : Sto) : zkG g e (.ex xc tc) = .ok (.xx xc e tc) := rfl
theorem zkG_if (g : Tg) (e : Env) (cp : Prop) [Decidable cp] (ra rb : R (W × Sto)) : zkG g e (if cp then ra else rb) = if cp then zkG g e ra else zkG g e rb := by split <;> rfl
theorem sAsg_z (g : Tg) (a : Ev) (e : Env) (s : Sto) : sAsg g a e s = zkG g e (a e s) := rfl
noncomputable def zkX (e : Env) (rr : R (W × Sto)) : R O := rr.bd e fun p => .ok (.nx e p.2)
theorem zkX_ok (e : Env) (w : W) (s : Sto) : zkX e (.ok (w, s)) = .ok (.nx e s) := rfl
theorem zkX_st (e : Env) : zkX e .stuck = .stuck := rfl
theorem zkX_ex (e : Env) (xc : Exc) (tc : Sto) : zkX e (.ex xc tc) = .ok (.xx xc e tc) := rfl
theorem zkX_if (e : Env) (cp : Prop) [Decidable cp] (ra rb : R (W × Sto)) : zkX e (if cp then ra else rb) = if cp then zkX e ra else zkX e rb := by split <;> rfl
theorem sX_z (a : Ev) (e : Env) (s : Sto) : sX a e s = zkX e (a e s) := rfl
noncomputable def zkR (e : Env) (rr : R (W × Sto)) : R O := rr.bd e fun p => .ok (.rt p.1 p.2)
theorem zkR_ok (e : Env) (w : W) (s : Sto) : zkR e (.ok (w, s)) = .ok (.rt w s) := rfl
theorem zkR_st (e : Env) : zkR e .stuck = .stuck := rfl
theorem zkR_ex (e : Env) (xc : Exc) (tc : Sto) : zkR e (.ex xc tc) = .ok (.xx xc e tc) := rfl
theorem zkR_if (e : Env) (cp : Prop) [Decidable cp] (ra rb : R (W × Sto)) : zkR e (if cp then ra else rb) = if cp then zkR e ra else zkR e rb := by split <;> rfl
theorem sRet_z (a : Ev) (e : Env) (s : Sto) : sRet a e s = zkR e (a e s) := rfl
noncomputable def zkSI (a b : Sx) (e : Env) (rr : R (Bool × Sto)) : R O := rr.bd e fun p => if p.1 then a e p.2 else b e p.2
theorem zkSI_t (a b : Sx) (e : Env) (s : Sto) : zkSI a b e (.ok (true, s)) = a e s := rfl
theorem zkSI_f (a b : Sx) (e : Env) (s : Sto) : zkSI a b e (.ok (false, s)) = b e s := rfl
theorem zkSI_d (a b : Sx) (e : Env) (s : Sto) (cp : Prop) [Decidable cp] : zkSI a b e (.ok (decide cp, s)) = if cp then a e s else b e s := by by_cases h : cp <;> simp [h] <;> rfl
theorem zkSI_n (a b : Sx) (e : Env) (s : Sto) (cp : Prop) [Decidable cp] : zkSI a b e (.ok (!decide cp, s)) = if cp then b e s else a e s := by by_cases h : cp <;> simp [h] <;> rfl
theorem zkSI_st (a b : Sx) (e : Env) : zkSI a b e .stuck = .stuck := rfl
theorem zkSI_if (a b : Sx) (e : Env) (cp : Prop) [Decidable cp] (ra rb : R (Bool × Sto)) : zkSI a b e (if cp then ra else rb) = if cp then zkSI a b e ra else zkSI a b e rb := by split <;> rfl
theorem sIf_z (t : Tx) (a b : Sx) (e : Env) (s : Sto) : sIf t a b e s = zkSI a b e (t e s) := rfl
noncomputable def zkK (ks : List Nat) (rr : R O) : R O := rr.bind fun o => match o with | .nx e s => .ok (.nx (kill ks e) s) | .ct e s => .ok (.ct (kill ks e) s) | .bk e s => .ok (.bk (kill ks e) s) | o => .ok o
theorem zkK_nx (ks : List Nat) (e : Env) (s : Sto) : zkK ks (.ok (.nx e s)) = .ok (.nx (kill ks e) s) := rfl
theorem zkK_rt (ks : List Nat) (w : W) (s : Sto) : zkK ks (.ok (.rt w s)) = .ok (.rt w s) := rfl
theorem zkK_bk (ks : List Nat) (e : Env) (s : Sto) : zkK ks (.ok (.bk e s)) = .ok (.bk (kill ks e) s) := rfl
theorem zkK_ct (ks : List Nat) (e : Env) (s : Sto) : zkK ks (.ok (.ct e s)) = .ok (.ct (kill ks e) s) := rfl
theorem zkK_xx (ks : List Nat) (x : Exc) (e : Env) (s : Sto) : zkK ks (.ok (.xx x e s)) = .ok (.xx x e s) := rfl
theorem zkK_st (ks : List Nat) : zkK ks .stuck = .stuck := rfl
theorem zkK_ex (ks : List Nat) (xc : Exc) (tc : Sto) : zkK ks (.ex xc tc) = .ex xc tc := rfl
theorem zkK_if (ks : List Nat) (cp : Prop) [Decidable cp] (ra rb : R O) : zkK ks (if cp then ra else rb) = if cp then zkK ks ra else zkK ks rb := by split <;> rfl
theorem sKill_z (ks : List Nat) (a : Sx) (e : Env) (s : Sto) : sKill ks a e s = zkK ks (a e s) := rfl
noncomputable def zkF (g : Tg) (b : Sx) (e : Env) (rr : R (List W × Sto)) : R O := rr.bd e fun p => loop g b p.1 e p.2
theorem zkF_ok (g : Tg) (b : Sx) (e : Env) (l : List W) (s : Sto) : zkF g b e (.ok (l, s)) = loop g b l e s := rfl
theorem zkF_st (g : Tg) (b : Sx) (e : Env) : zkF g b e .stuck = .stuck := rfl
theorem zkF_ex (g : Tg) (b : Sx) (e : Env) (xc : Exc) (tc : Sto) : zkF g b e (.ex xc tc) = .ok (.xx xc e tc) := rfl
theorem zkF_if (g : Tg) (b : Sx) (e : Env) (cp : Prop) [Decidable cp] (ra rb : R (List W × Sto)) : zkF g b e (if cp then ra else rb) = if cp then zkF g b e ra else zkF g b e rb := by split <;> rfl
theorem sFor_z (i : Wk) (g : Tg) (b : Sx) (e : Env) (s : Sto) : sFor i g b e s = zkF g b e (i e s) := rfl
noncomputable def zkLs (b : Sx) (e0 : Env) (rr : R (Env × Sto)) : R O := rr.bd e0 fun p => b p.1 p.2
theorem zkLs_ok (b : Sx) (e0 : Env) (e : Env) (s : Sto) : zkLs b e0 (.ok (e, s)) = b e s := rfl
theorem zkLs_st (b : Sx) (e0 : Env) : zkLs b e0 .stuck = .stuck := rfl
theorem zkLs_ex (b : Sx) (e0 : Env) (xc : Exc) (tc : Sto) : zkLs b e0 (.ex xc tc) = .ok (.xx xc e0 tc) := rfl
theorem zkLs_if (b : Sx) (e0 : Env) (cp : Prop) [Decidable cp] (ra rb : R (Env × Sto)) : zkLs b e0 (if cp then ra else rb) = if cp then zkLs b e0 ra else zkLs b e0 rb := by split <;> rfl
theorem lstep_z (g : Tg) (b : Sx) (w : W) (e : Env) (s : Sto) : lstep g b w e s = zkLs b e (g w e s) := rfl
noncomputable def zkL (g : Tg) (b : Sx) (xs : List W) (rr : R O) : R O := rr.bind fun o => turn o (loop g b xs)
theorem zkL_nx (g : Tg) (b : Sx) (xs : List W) (e : Env) (s : Sto) : zkL g b xs (.ok (.nx e s)) = loop g b xs e s := rfl
theorem zkL_rt (g : Tg) (b : Sx) (xs : List W) (w : W) (s : Sto) : zkL g b xs (.ok (.rt w s)) = .ok (.rt w s) := rfl
theorem zkL_bk (g : Tg) (b : Sx) (xs : List W) (e : Env) (s : Sto) : zkL g b xs (.ok (.bk e s)) = .ok (.nx e s) := rfl
theorem zkL_ct (g : Tg) (b : Sx) (xs : List W) (e : Env) (s : Sto) : zkL g b xs (.ok (.ct e s)) = loop g b xs e s := rfl
theorem zkL_xx (g : Tg) (b : Sx) (xs : List W) (x : Exc) (e : Env) (s : Sto) : zkL g b xs (.ok (.xx x e s)) = .ok (.xx x e s) := rfl
theorem zkL_st (g : Tg) (b : Sx) (xs : List W) : zkL g b xs .stuck = .stuck := rfl
theorem zkL_ex (g : Tg) (b : Sx) (xs : List W) (xc : Exc) (tc : Sto) : zkL g b xs (.ex xc tc) = .ex xc tc := rfl
theorem zkL_if (g : Tg) (b : Sx) (xs : List W) (cp : Prop) [Decidable cp] (ra rb : R O) : zkL g b xs (if cp then ra else rb) = if cp then zkL g b xs ra else zkL g b xs rb := by split <;> rfl
theorem loop_cz (g : Tg) (b : Sx) (x : W) (xs : List W) (e : Env) (s : Sto) : loop g b (x :: xs) e s = zkL g b xs (zkLs b e (g x e s)) := loop_step g b x xs e s
noncomputable def zkW2 (t : Tx) (b : Sx) (n : Nat) (rr : R O) : R O := rr.bind fun o => turn o (whl t b n)
theorem zkW2_nx (t : Tx) (b : Sx) (n : Nat) (e : Env) (s : Sto) : zkW2 t b n (.ok (.nx e s)) = whl t b n e s := rfl
theorem zkW2_rt (t : Tx) (b : Sx) (n : Nat) (w : W) (s : Sto) : zkW2 t b n (.ok (.rt w s)) = .ok (.rt w s) := rfl
theorem zkW2_bk (t : Tx) (b : Sx) (n : Nat) (e : Env) (s : Sto) : zkW2 t b n (.ok (.bk e s)) = .ok (.nx e s) := rfl
theorem zkW2_ct (t : Tx) (b : Sx) (n : Nat) (e : Env) (s : Sto) : zkW2 t b n (.ok (.ct e s)) = whl t b n e s := rfl
theorem zkW2_xx (t : Tx) (b : Sx) (n : Nat) (x : Exc) (e : Env) (s : Sto) : zkW2 t b n (.ok (.xx x e s)) = .ok (.xx x e s) := rfl
theorem zkW2_st (t : Tx) (b : Sx) (n : Nat) : zkW2 t b n .stuck = .stuck := rfl
theorem zkW2_ex (t : Tx) (b : Sx) (n : Nat) (xc : Exc) (tc : Sto) : zkW2 t b n (.ex xc tc) = .ex xc tc := rfl
theorem zkW2_if (t : Tx) (b : Sx) (n : Nat) (cp : Prop) [Decidable cp] (ra rb : R O) : zkW2 t b n (if cp then ra else rb) = if cp then zkW2 t b n ra else zkW2 t b n rb := by split <;> rfl
noncomputable def zkW (t : Tx) (b : Sx) (n : Nat) (e : Env) (rr : R (Bool × Sto)) : R O := rr.bd e fun p => if p.1 then (b e p.2).bind fun o => turn o (whl t b n) else .ok (.nx e p.2)
theorem zkW_t (t : Tx) (b : Sx) (n : Nat) (e : Env) (s : Sto) : zkW t b n e (.ok (true, s)) = zkW2 t b n (b e s) := rfl
theorem zkW_f (t : Tx) (b : Sx) (n : Nat) (e : Env) (s : Sto) : zkW t b n e (.ok (false, s)) = .ok (.nx e s) := rfl
theorem zkW_d (t : Tx) (b : Sx) (n : Nat) (e : Env) (s : Sto) (cp : Prop) [Decidable cp] : zkW t b n e (.ok (decide cp, s)) = if cp then zkW2 t b n (b e s) else .ok (.nx e s) := by by_cases h : cp <;> simp [h] <;> rfl
theorem zkW_n (t : Tx) (b : Sx) (n : Nat) (e : Env) (s : Sto) (cp : Prop) [Decidable cp] : zkW t b n e (.ok (!decide cp, s)) = if cp then .ok (.nx e s) else zkW2 t b n (b e s) := by by_cases h : cp <;> simp [h] <;> rfl
theorem zkW_st (t : Tx) (b : Sx) (n : Nat) (e : Env) : zkW t b n e .stuck = .stuck := rfl
theorem zkW_if (t : Tx) (b : Sx) (n : Nat) (e : Env) (cp : Prop) [Decidable cp] (ra rb : R (Bool × Sto)) : zkW t b n e (if cp then ra else rb) = if cp then zkW t b n e ra else zkW t b n e rb := by split <;> rfl
theorem whl_cz (t : Tx) (b : Sx) (n : Nat) (e : Env) (s : Sto) : whl t b (n + 1) e s = zkW t b n e (t e s) := rfl
noncomputable def zkGs (gs : List Tg) (l : List W) (rr : R (Env × Sto)) : R (Env × Sto) := rr.bind fun p => gTs gs l p.1 p.2
theorem zkGs_ok (gs : List Tg) (l : List W) (e : Env) (s : Sto) : zkGs gs l (.ok (e, s)) = gTs gs l e s := rfl
theorem zkGs_st (gs : List Tg) (l : List W) : zkGs gs l .stuck = .stuck := rfl
theorem zkGs_ex (gs : List Tg) (l : List W) (xc : Exc) (tc : Sto) : zkGs gs l (.ex xc tc) = .ex xc tc := rfl
theorem zkGs_if (gs : List Tg) (l : List W) (cp : Prop) [Decidable cp] (ra rb : R (Env × Sto)) : zkGs gs l (if cp then ra else rb) = if cp then zkGs gs l ra else zkGs gs l rb := by split <;> rfl
theorem gTs_z (g : Tg) (gs : List Tg) (w : W) (l : List W) (e : Env) (s : Sto) : gTs (g :: gs) (w :: l) e s = zkGs gs l (g w e s) := rfl
noncomputable def zkNd (b : Bool) (f : W → Sto → VS) (x : W) (s : Sto) : VS := need b (f x s)
theorem zkNd_t (f : W → Sto → VS) (x : W) (s : Sto) : zkNd true f x s = f x s := rfl
noncomputable def zkM0 (p : W → Sto → Bool) (f : W → Sto → VS) (rr : R (W × Sto)) : VS := rr.bind fun q => zkNd (p q.1 q.2) f q.1 q.2
theorem zkM0_ok (p : W → Sto → Bool) (f : W → Sto → VS) (w : W) (s : Sto) : zkM0 p f (.ok (w, s)) = zkNd (p w s) f w s := rfl
theorem zkM0_st (p : W → Sto → Bool) (f : W → Sto → VS) : zkM0 p f .stuck = .stuck := rfl
theorem zkM0_ex (p : W → Sto → Bool) (f : W → Sto → VS) (xc : Exc) (tc : Sto) : zkM0 p f (.ex xc tc) = .ex xc tc := rfl
theorem zkM0_if (p : W → Sto → Bool) (f : W → Sto → VS) (cp : Prop) [Decidable cp] (ra rb : R (W × Sto)) : zkM0 p f (if cp then ra else rb) = if cp then zkM0 p f ra else zkM0 p f rb := by split <;> rfl
theorem m0_z (p : W → Sto → Bool) (f : W → Sto → VS) (a : Ev) (e : Env) (s : Sto) : m0 p f a e s = zkM0 p f (a e s) := rfl
noncomputable def zkNd1 (c : Bool) (f : W → W → Sto → VS) (b : Ev) (e : Env) (x : W) (s : Sto) : VS := need c (zk2b f x (b e s))
theorem zkNd1_t (f : W → W → Sto → VS) (b : Ev) (e : Env) (x : W) (s : Sto) : zkNd1 true f b e x s = zk2b f x (b e s) := rfl
noncomputable def zkM1 (p : W → Sto → Bool) (f : W → W → Sto → VS) (b : Ev) (e : Env) (rr : R (W × Sto)) : VS := rr.bind fun q => zkNd1 (p q.1 q.2) f b e q.1 q.2
theorem zkM1_ok (p : W → Sto → Bool) (f : W → W → Sto → VS) (b : Ev) (e : Env) (w : W) (s : Sto) : zkM1 p f b e (.ok (w, s)) = zkNd1 (p w s) f b e w s := rfl
theorem zkM1_st (p : W → Sto → Bool) (f : W → W → Sto → VS) (b : Ev) (e : Env) : zkM1 p f b e .stuck = .stuck := rfl
theorem zkM1_ex (p : W → Sto → Bool) (f : W → W → Sto → VS) (b : Ev) (e : Env) (xc : Exc) (tc : Sto) : zkM1 p f b e (.ex xc tc) = .ex xc tc := rfl
theorem zkM1_if (p : W → Sto → Bool) (f : W → W → Sto → VS) (b : Ev) (e : Env) (cp : Prop) [Decidable cp] (ra rb : R (W × Sto)) : zkM1 p f b e (if cp then ra else rb) = if cp then zkM1 p f b e ra else zkM1 p f b e rb := by split <;> rfl
theorem m1_z (p : W → Sto → Bool) (f : W → W → Sto → VS) (a b : Ev) (e : Env) (s : Sto) : m1 p f a b e s = zkM1 p f b e (a e s) := rfl
noncomputable def zk3c (f : W → W → W → Sto → VS) (x y : W) (rr : R (W × Sto)) : VS := rr.bind fun t => f x y t.1 t.2
theorem zk3c_ok (f : W → W → W → Sto → VS) (x y : W) (w : W) (s : Sto) : zk3c f x y (.ok (w, s)) = f x y w s := rfl
theorem zk3c_st (f : W → W → W → Sto → VS) (x y : W) : zk3c f x y .stuck = .stuck := rfl
theorem zk3c_ex (f : W → W → W → Sto → VS) (x y : W) (xc : Exc) (tc : Sto) : zk3c f x y (.ex xc tc) = .ex xc tc := rfl
theorem zk3c_if (f : W → W → W → Sto → VS) (x y : W) (cp : Prop) [Decidable cp] (ra rb : R (W × Sto)) : zk3c f x y (if cp then ra else rb) = if cp then zk3c f x y ra else zk3c f x y rb := by split <;> rfl
noncomputable def zk3b (f : W → W → W → Sto → VS) (x : W) (c : Ev) (e : Env) (rr : R (W × Sto)) : VS := rr.bind fun q => zk3c f x q.1 (c e q.2)
theorem zk3b_ok (f : W → W → W → Sto → VS) (x : W) (c : Ev) (e : Env) (w : W) (s : Sto) : zk3b f x c e (.ok (w, s)) = zk3c f x w (c e s) := rfl
theorem zk3b_st (f : W → W → W → Sto → VS) (x : W) (c : Ev) (e : Env) : zk3b f x c e .stuck = .stuck := rfl
theorem zk3b_ex (f : W → W → W → Sto → VS) (x : W) (c : Ev) (e : Env) (xc : Exc) (tc : Sto) : zk3b f x c e (.ex xc tc) = .ex xc tc := rfl
theorem zk3b_if (f : W → W → W → Sto → VS) (x : W) (c : Ev) (e : Env) (cp : Prop) [Decidable cp] (ra rb : R (W × Sto)) : zk3b f x c e (if cp then ra else rb) = if cp then zk3b f x c e ra else zk3b f x c e rb := by split <;> rfl
noncomputable def zkNd2 (t : Bool) (f : W → W → W → Sto → VS) (b c : Ev) (e : Env) (x : W) (s : Sto) : VS := need t (zk3b f x c e (b e s))
theorem zkNd2_t (f : W → W → W → Sto → VS) (b c : Ev) (e : Env) (x : W) (s : Sto) : zkNd2 true f b c e x s = zk3b f x c e (b e s) := rfl
noncomputable def zkM2 (p : W → Sto → Bool) (f : W → W → W → Sto → VS) (b c : Ev) (e : Env) (rr : R (W × Sto)) : VS := rr.bind fun q => zkNd2 (p q.1 q.2) f b c e q.1 q.2
theorem zkM2_ok (p : W → Sto → Bool) (f : W → W → W → Sto → VS) (b c : Ev) (e : Env) (w : W) (s : Sto) : zkM2 p f b c e (.ok (w, s)) = zkNd2 (p w s) f b c e w s := rfl
theorem zkM2_st (p : W → Sto → Bool) (f : W → W → W → Sto → VS) (b c : Ev) (e : Env) : zkM2 p f b c e .stuck = .stuck := rfl
theorem zkM2_ex (p : W → Sto → Bool) (f : W → W → W → Sto → VS) (b c : Ev) (e : Env) (xc : Exc) (tc : Sto) : zkM2 p f b c e (.ex xc tc) = .ex xc tc := rfl
theorem zkM2_if (p : W → Sto → Bool) (f : W → W → W → Sto → VS) (b c : Ev) (e : Env) (cp : Prop) [Decidable cp] (ra rb : R (W × Sto)) : zkM2 p f b c e (if cp then ra else rb) = if cp then zkM2 p f b c e ra else zkM2 p f b c e rb := by split <;> rfl
theorem m2_z (p : W → Sto → Bool) (f : W → W → W → Sto → VS) (a b c : Ev) (e : Env) (s : Sto) : m2 p f a b c e s = zkM2 p f b c e (a e s) := rfl
noncomputable def zkI  (rr : R (W × Sto)) : R (List W × Sto) := rr.bind fun p => match p.1 with | .d (.lst l) => .ok (ws l, p.2) | .d (.tup l) => .ok (ws l, p.2) | .d (.inp l) => .ok (ws l, p.2) | .d (.inq l) => .ok (ws l, p.2) | .tw l => .ok (l, p.2) | _ => .stuck
theorem zkI_lst  (l : List D) (s : Sto) : zkI (.ok (.d (.lst l), s)) = .ok (ws l, s) := rfl
theorem zkI_tup  (l : List D) (s : Sto) : zkI (.ok (.d (.tup l), s)) = .ok (ws l, s) := rfl
theorem zkI_inp  (l : List D) (s : Sto) : zkI (.ok (.d (.inp l), s)) = .ok (ws l, s) := rfl
theorem zkI_inq  (l : List D) (s : Sto) : zkI (.ok (.d (.inq l), s)) = .ok (ws l, s) := rfl
theorem zkI_tw  (l : List W) (s : Sto) : zkI (.ok (.tw l, s)) = .ok (l, s) := rfl
theorem zkI_st  : zkI .stuck = .stuck := rfl
theorem zkI_ex  (xc : Exc) (tc : Sto) : zkI (.ex xc tc) = .ex xc tc := rfl
theorem zkI_if  (cp : Prop) [Decidable cp] (ra rb : R (W × Sto)) : zkI (if cp then ra else rb) = if cp then zkI ra else zkI rb := by split <;> rfl
theorem iSeq_z (a : Ev) (e : Env) (s : Sto) : iSeq a e s = zkI (a e s) := rfl
noncomputable def zkI1  (rr : R (W × Sto)) : R (List W × Sto) := rr.bind fun p => match p.1 with | .d (.int i) => need (small62 i) (.ok (rng 0 i.toNat, p.2)) | _ => .stuck
theorem zkI1_ok  (i : Int) (s : Sto) : zkI1 (.ok (.d (.int i), s)) = need (small62 i) (.ok (rng 0 i.toNat, s)) := rfl
theorem zkI1_st  : zkI1 .stuck = .stuck := rfl
theorem zkI1_ex  (xc : Exc) (tc : Sto) : zkI1 (.ex xc tc) = .ex xc tc := rfl
theorem zkI1_if  (cp : Prop) [Decidable cp] (ra rb : R (W × Sto)) : zkI1 (if cp then ra else rb) = if cp then zkI1 ra else zkI1 rb := by split <;> rfl
theorem iR1_z (a : Ev) (e : Env) (s : Sto) : iR1 a e s = zkI1 (a e s) := rfl
noncomputable def zkI2b (x : W) (rr : R (W × Sto)) : R (List W × Sto) := rr.bind fun q => rng2 x q.1 q.2
theorem zkI2b_ok (x : W) (w : W) (s : Sto) : zkI2b x (.ok (w, s)) = rng2 x w s := rfl
theorem zkI2b_st (x : W) : zkI2b x .stuck = .stuck := rfl
theorem zkI2b_ex (x : W) (xc : Exc) (tc : Sto) : zkI2b x (.ex xc tc) = .ex xc tc := rfl
theorem zkI2b_if (x : W) (cp : Prop) [Decidable cp] (ra rb : R (W × Sto)) : zkI2b x (if cp then ra else rb) = if cp then zkI2b x ra else zkI2b x rb := by split <;> rfl
noncomputable def zkI2 (b : Ev) (e : Env) (rr : R (W × Sto)) : R (List W × Sto) := rr.bind fun p => zkI2b p.1 (b e p.2)
theorem zkI2_ok (b : Ev) (e : Env) (w : W) (s : Sto) : zkI2 b e (.ok (w, s)) = zkI2b w (b e s) := rfl
theorem zkI2_st (b : Ev) (e : Env) : zkI2 b e .stuck = .stuck := rfl
theorem zkI2_ex (b : Ev) (e : Env) (xc : Exc) (tc : Sto) : zkI2 b e (.ex xc tc) = .ex xc tc := rfl
theorem zkI2_if (b : Ev) (e : Env) (cp : Prop) [Decidable cp] (ra rb : R (W × Sto)) : zkI2 b e (if cp then ra else rb) = if cp then zkI2 b e ra else zkI2 b e rb := by split <;> rfl
theorem iR2_z (a b : Ev) (e : Env) (s : Sto) : iR2 a b e s = zkI2 b e (a e s) := rfl
noncomputable def zkIS  (rr : R (W × Sto)) : R (List W × Sto) := rr.bind fun p => match p.1 with | .d (.str z) => .ok (z.map (fun c => .d (.str [c])), p.2) | _ => .stuck
theorem zkIS_ok  (z : List Nat) (s : Sto) : zkIS (.ok (.d (.str z), s)) = .ok (z.map (fun c => .d (.str [c])), s) := rfl
theorem zkIS_st  : zkIS .stuck = .stuck := rfl
theorem zkIS_ex  (xc : Exc) (tc : Sto) : zkIS (.ex xc tc) = .ex xc tc := rfl
theorem zkIS_if  (cp : Prop) [Decidable cp] (ra rb : R (W × Sto)) : zkIS (if cp then ra else rb) = if cp then zkIS ra else zkIS rb := by split <;> rfl
theorem iStr_z (a : Ev) (e : Env) (s : Sto) : iStr a e s = zkIS (a e s) := rfl
noncomputable def zkP  (rr : R (W × Sto)) : R (Option Int × Sto) := rr.bind fun q => (asI q.1).bind fun i => .ok (i, q.2)
theorem zkP_ok  (i : Int) (s : Sto) : zkP (.ok (.d (.int i), s)) = .ok (some i, s) := rfl
theorem zkP_st  : zkP .stuck = .stuck := rfl
theorem zkP_ex  (xc : Exc) (tc : Sto) : zkP (.ex xc tc) = .ex xc tc := rfl
theorem zkP_if  (cp : Prop) [Decidable cp] (ra rb : R (W × Sto)) : zkP (if cp then ra else rb) = if cp then zkP ra else zkP rb := by split <;> rfl
theorem pt_z (b : Ev) (e : Env) (s : Sto) : pt (some b) e s = zkP (b e s) := rfl
noncomputable def zkSl3 (x : W) (lo : Option Int) (rr : R (Option Int × Sto)) : VS := rr.bind fun h => slice lo h.1 x h.2
theorem zkSl3_ok (x : W) (lo : Option Int) (h : Option Int) (s : Sto) : zkSl3 x lo (.ok (h, s)) = slice lo h x s := rfl
theorem zkSl3_st (x : W) (lo : Option Int) : zkSl3 x lo .stuck = .stuck := rfl
theorem zkSl3_ex (x : W) (lo : Option Int) (xc : Exc) (tc : Sto) : zkSl3 x lo (.ex xc tc) = .ex xc tc := rfl
theorem zkSl3_if (x : W) (lo : Option Int) (cp : Prop) [Decidable cp] (ra rb : R (Option Int × Sto)) : zkSl3 x lo (if cp then ra else rb) = if cp then zkSl3 x lo ra else zkSl3 x lo rb := by split <;> rfl
noncomputable def zkSl2 (hi : Option Ev) (e : Env) (x : W) (rr : R (Option Int × Sto)) : VS := rr.bind fun l => zkSl3 x l.1 (pt hi e l.2)
theorem zkSl2_ok (hi : Option Ev) (e : Env) (x : W) (l : Option Int) (s : Sto) : zkSl2 hi e x (.ok (l, s)) = zkSl3 x l (pt hi e s) := rfl
theorem zkSl2_st (hi : Option Ev) (e : Env) (x : W) : zkSl2 hi e x .stuck = .stuck := rfl
theorem zkSl2_ex (hi : Option Ev) (e : Env) (x : W) (xc : Exc) (tc : Sto) : zkSl2 hi e x (.ex xc tc) = .ex xc tc := rfl
theorem zkSl2_if (hi : Option Ev) (e : Env) (x : W) (cp : Prop) [Decidable cp] (ra rb : R (Option Int × Sto)) : zkSl2 hi e x (if cp then ra else rb) = if cp then zkSl2 hi e x ra else zkSl2 hi e x rb := by split <;> rfl
noncomputable def zkSl (lo hi : Option Ev) (e : Env) (rr : R (W × Sto)) : VS := rr.bind fun p => zkSl2 hi e p.1 (pt lo e p.2)
theorem zkSl_ok (lo hi : Option Ev) (e : Env) (w : W) (s : Sto) : zkSl lo hi e (.ok (w, s)) = zkSl2 hi e w (pt lo e s) := rfl
theorem zkSl_st (lo hi : Option Ev) (e : Env) : zkSl lo hi e .stuck = .stuck := rfl
theorem zkSl_ex (lo hi : Option Ev) (e : Env) (xc : Exc) (tc : Sto) : zkSl lo hi e (.ex xc tc) = .ex xc tc := rfl
theorem zkSl_if (lo hi : Option Ev) (e : Env) (cp : Prop) [Decidable cp] (ra rb : R (W × Sto)) : zkSl lo hi e (if cp then ra else rb) = if cp then zkSl lo hi e ra else zkSl lo hi e rb := by split <;> rfl
theorem eSl_z (a : Ev) (lo hi : Option Ev) (e : Env) (s : Sto) : eSl a lo hi e s = zkSl lo hi e (a e s) := rfl
noncomputable def zkCd (r : R (List W × Sto)) : VS := r.bind fun q => (ofO (asDs q.1)).bind fun l => .ok (.d (.lst l), q.2)
theorem zkCd_ok (l : List D) (s : Sto) : zkCd (.ok (ws l, s)) = .ok (.d (.lst l), s) := by unfold zkCd; rw [R.bind_ok]; show (ofO (asDs (ws l))).bind _ = _; rw [asDs_ws']; rfl
theorem zkCd_nil (s : Sto) : zkCd (.ok ([], s)) = .ok (.d (.lst []), s) := rfl
noncomputable def zkCn (r : R (List W × Sto)) : VS := r.bind fun q => newL q.1 q.2
theorem zkCn_ok (l : List W) (s : Sto) : zkCn (.ok (l, s)) = newL l s := rfl
noncomputable def zkCo (g : Tg) (t : Tx) (a : Ev) (own : List Nat) (e : Env) (rr : R (List W × Sto)) : VS := rr.bind fun p => need (decide (p.1.length ≤ sizeL)) (zkCd (comp g t a own e p.1 p.2))
theorem zkCo_ok (g : Tg) (t : Tx) (a : Ev) (own : List Nat) (e : Env) (l : List W) (s : Sto) : zkCo g t a own e (.ok (l, s)) = need (decide (l.length ≤ sizeL)) (zkCd (comp g t a own e l s)) := rfl
theorem zkCo_st (g : Tg) (t : Tx) (a : Ev) (own : List Nat) (e : Env) : zkCo g t a own e .stuck = .stuck := rfl
theorem zkCo_ex (g : Tg) (t : Tx) (a : Ev) (own : List Nat) (e : Env) (xc : Exc) (tc : Sto) : zkCo g t a own e (.ex xc tc) = .ex xc tc := rfl
theorem zkCo_if (g : Tg) (t : Tx) (a : Ev) (own : List Nat) (e : Env) (cp : Prop) [Decidable cp] (ra rb : R (List W × Sto)) : zkCo g t a own e (if cp then ra else rb) = if cp then zkCo g t a own e ra else zkCo g t a own e rb := by split <;> rfl
theorem eComp_z (i : Wk) (g : Tg) (t : Tx) (a : Ev) (own : List Nat) (e : Env) (s : Sto) : eComp i g t a own e s = zkCo g t a own e (i e s) := rfl
noncomputable def zkCoC (g : Tg) (t : Tx) (a : Ev) (own : List Nat) (e : Env) (rr : R (List W × Sto)) : VS := rr.bind fun p => need (decide (p.1.length ≤ sizeL)) (zkCn (comp g t a own e p.1 p.2))
theorem zkCoC_ok (g : Tg) (t : Tx) (a : Ev) (own : List Nat) (e : Env) (l : List W) (s : Sto) : zkCoC g t a own e (.ok (l, s)) = need (decide (l.length ≤ sizeL)) (zkCn (comp g t a own e l s)) := rfl
theorem zkCoC_st (g : Tg) (t : Tx) (a : Ev) (own : List Nat) (e : Env) : zkCoC g t a own e .stuck = .stuck := rfl
theorem zkCoC_ex (g : Tg) (t : Tx) (a : Ev) (own : List Nat) (e : Env) (xc : Exc) (tc : Sto) : zkCoC g t a own e (.ex xc tc) = .ex xc tc := rfl
theorem zkCoC_if (g : Tg) (t : Tx) (a : Ev) (own : List Nat) (e : Env) (cp : Prop) [Decidable cp] (ra rb : R (List W × Sto)) : zkCoC g t a own e (if cp then ra else rb) = if cp then zkCoC g t a own e ra else zkCoC g t a own e rb := by split <;> rfl
theorem eCompC_z (i : Wk) (g : Tg) (t : Tx) (a : Ev) (own : List Nat) (e : Env) (s : Sto) : eCompC i g t a own e s = zkCoC g t a own e (i e s) := rfl
noncomputable def zkSb3 (e : Env) (r : R Sto) : R (Env × Sto) := qt (r.bind fun s' => .ok (e, s'))
theorem zkSb3_ok (e : Env) (s : Sto) : zkSb3 e (.ok s) = .ok (e, s) := rfl
noncomputable def zkSb2 (e : Env) (v o : W) (r : VS) : R (Env × Sto) := qt (r.bind fun q => (setAny o q.1 v q.2).bind fun s' => .ok (e, s'))
theorem zkSb2_ok (e : Env) (v o w : W) (s : Sto) : zkSb2 e v o (.ok (w, s)) = zkSb3 e (setAny o w v s) := rfl
noncomputable def zkSb1 (i : Ev) (e : Env) (v : W) (r : VS) : R (Env × Sto) := qt (r.bind fun p => (i e p.2).bind fun q => (setAny p.1 q.1 v q.2).bind fun s' => .ok (e, s'))
theorem zkSb1_ok (i : Ev) (e : Env) (v w : W) (s : Sto) : zkSb1 i e v (.ok (w, s)) = zkSb2 e v w (i e s) := rfl
theorem gSb_z (o i : Ev) (v : W) (e : Env) (s : Sto) : gSb o i v e s = zkSb1 i e v (o e s) := rfl
noncomputable def zkFW (g : Tg) (b : Sx) (e : Env) (rr : R (List W × Wt × Sto)) : R O := rr.bd e fun p => loopW p.2.1 g b p.1 e p.2.2
theorem zkFW_ok (g : Tg) (b : Sx) (e : Env) (l : List W) (u : Wt) (s : Sto) : zkFW g b e (.ok (l, u, s)) = loopW u g b l e s := rfl
theorem zkFW_st (g : Tg) (b : Sx) (e : Env) : zkFW g b e .stuck = .stuck := rfl
theorem zkFW_ex (g : Tg) (b : Sx) (e : Env) (xc : Exc) (tc : Sto) : zkFW g b e (.ex xc tc) = .ok (.xx xc e tc) := rfl
theorem zkFW_if (g : Tg) (b : Sx) (e : Env) (cp : Prop) [Decidable cp] (ra rb : R (List W × Wt × Sto)) : zkFW g b e (if cp then ra else rb) = if cp then zkFW g b e ra else zkFW g b e rb := by split <;> rfl
theorem sForW_z (i : WkW) (g : Tg) (b : Sx) (e : Env) (s : Sto) : sForW i g b e s = zkFW g b e (i e s) := rfl
noncomputable def zkCoW (g : Tg) (t : Tx) (a : Ev) (own : List Nat) (e : Env) (rr : R (List W × Wt × Sto)) : VS := rr.bind fun p => need (decide (p.1.length ≤ sizeL)) (zkCd (compW p.2.1 g t a own e p.1 p.2.2))
theorem zkCoW_ok (g : Tg) (t : Tx) (a : Ev) (own : List Nat) (e : Env) (l : List W) (u : Wt) (s : Sto) : zkCoW g t a own e (.ok (l, u, s)) = need (decide (l.length ≤ sizeL)) (zkCd (compW u g t a own e l s)) := rfl
theorem zkCoW_st (g : Tg) (t : Tx) (a : Ev) (own : List Nat) (e : Env) : zkCoW g t a own e .stuck = .stuck := rfl
theorem zkCoW_ex (g : Tg) (t : Tx) (a : Ev) (own : List Nat) (e : Env) (xc : Exc) (tc : Sto) : zkCoW g t a own e (.ex xc tc) = .ex xc tc := rfl
theorem zkCoW_if (g : Tg) (t : Tx) (a : Ev) (own : List Nat) (e : Env) (cp : Prop) [Decidable cp] (ra rb : R (List W × Wt × Sto)) : zkCoW g t a own e (if cp then ra else rb) = if cp then zkCoW g t a own e ra else zkCoW g t a own e rb := by split <;> rfl
theorem eCompW_z (i : WkW) (g : Tg) (t : Tx) (a : Ev) (own : List Nat) (e : Env) (s : Sto) : eCompW i g t a own e s = zkCoW g t a own e (i e s) := rfl
noncomputable def zkEn (r : VS) : R (List W × Wt × Sto) := r.bind fun p => (seqK p.1 p.2).bind fun q => .ok (enW 0 q.2.1, q.2.2, p.2)
theorem zkEn_ok (w : W) (s : Sto) : zkEn (.ok (w, s)) = (seqK w s).bind fun q => .ok (enW 0 q.2.1, q.2.2, s) := rfl
theorem iEn_z (a : Ev) (e : Env) (s : Sto) : iEn a e s = zkEn (a e s) := rfl
noncomputable def zkZ2 (x : W) (r : VS) : R (List W × Wt × Sto) := r.bind fun q => (seqK x q.2).bind fun x => (seqK q.1 q.2).bind fun y => zpK x y q.2
theorem zkZ2_ok (x w : W) (s : Sto) : zkZ2 x (.ok (w, s)) = (seqK x s).bind fun x => (seqK w s).bind fun y => zpK x y s := rfl
noncomputable def zkZ1 (b : Ev) (e : Env) (r : VS) : R (List W × Wt × Sto) := r.bind fun p => zkZ2 p.1 (b e p.2)
theorem zkZ1_ok (b : Ev) (e : Env) (w : W) (s : Sto) : zkZ1 b e (.ok (w, s)) = zkZ2 w (b e s) := rfl
theorem iZp_z (a b : Ev) (e : Env) (s : Sto) : iZp a b e s = zkZ1 b e (a e s) := rfl
noncomputable def zkRv (r : VS) : R (List W × Wt × Sto) := r.bind fun p => (seqK p.1 p.2).bind fun q => .ok (q.2.1.reverse, q.2.2, p.2)
theorem zkRv_ok (w : W) (s : Sto) : zkRv (.ok (w, s)) = (seqK w s).bind fun q => .ok (q.2.1.reverse, q.2.2, s) := rfl
theorem iRv_z (a : Ev) (e : Env) (s : Sto) : iRv a e s = zkRv (a e s) := rfl
def ez0 := (And.intro @zk1_ok (And.intro @zk1_st (And.intro @zk1_ex (And.intro @zk1_if (And.intro @e1_z (And.intro @zk2b_ok (And.intro @zk2b_st (And.intro @zk2b_ex (And.intro @zk2b_if (And.intro @zk2_ok (And.intro @zk2_st (And.intro @zk2_ex (And.intro @zk2_if (And.intro @e2_z (And.intro @zkA2_ok (And.intro @zkA2_st (And.intro @zkA2_ex (And.intro @zkA2_if (And.intro @zkA_ok (And.intro @zkA_st (And.intro @zkA_ex (And.intro @zkA_if (And.intro @eAs_z (And.intro @zkN_ok (And.intro @zkN_st (And.intro @zkN_ex (And.intro @zkN_if (And.intro @eN_z (And.intro @zkD_ok (And.intro @zkD_st (And.intro @zkD_ex (And.intro @zkD_if (And.intro @d1_z (And.intro @d2_z (And.intro @zkD1_ok (And.intro @zkD1_st (And.intro @zkD1_ex (And.intro @zkD1_if (And.intro @zkDl_ok (And.intro @zkDl_st True.intro))))))))))))))))))))))))))))))))))))))))
def ez1 := (And.intro @zkDl_ex (And.intro @zkDl_if (And.intro @zkDr_ok (And.intro @zkDr_st (And.intro @zkDr_ex (And.intro @zkDr_if (And.intro @zkDb_ok (And.intro @zkDb_st (And.intro @zkDb_ex (And.intro @zkDb_if (And.intro @d1_lz (And.intro @d2_dlz (And.intro @d2_ldz (And.intro @d2_llz (And.intro @zkT_ok (And.intro @zkT_st (And.intro @zkT_ex (And.intro @zkT_if (And.intro @tB_z (And.intro @zkAnd_t (And.intro @zkAnd_f (And.intro @zkAnd_d (And.intro @zkAnd_n (And.intro @zkAnd_st (And.intro @zkAnd_if (And.intro @zkOr_t (And.intro @zkOr_f (And.intro @zkOr_d (And.intro @zkOr_n (And.intro @zkOr_st (And.intro @zkOr_if (And.intro @zkNo_ok (And.intro @zkNo_st (And.intro @zkNo_ex (And.intro @zkNo_if (And.intro @tAnd_z (And.intro @tOr_z (And.intro @tNot_z (And.intro @zkEA_t (And.intro @zkEA_f True.intro))))))))))))))))))))))))))))))))))))))))
def ez2 := (And.intro @zkEA_d (And.intro @zkEA_n (And.intro @zkEA_st (And.intro @zkEA_if (And.intro @zkEO_t (And.intro @zkEO_f (And.intro @zkEO_d (And.intro @zkEO_n (And.intro @zkEO_st (And.intro @zkEO_if (And.intro @zkEN_ok (And.intro @zkEN_st (And.intro @zkEN_ex (And.intro @zkEN_if (And.intro @eAnd_z (And.intro @eOr_z (And.intro @eNot_z (And.intro @zkEI_t (And.intro @zkEI_f (And.intro @zkEI_d (And.intro @zkEI_n (And.intro @zkEI_st (And.intro @zkEI_if (And.intro @eIf_z (And.intro @zkC2_t (And.intro @zkC2_f (And.intro @zkC2_d (And.intro @zkC2_n (And.intro @zkC2_st (And.intro @zkC2_if (And.intro @zkC1_ok (And.intro @zkC1_st (And.intro @zkC1_ex (And.intro @zkC1_if (And.intro @zkC0_ok (And.intro @zkC0_st (And.intro @zkC0_ex (And.intro @zkC0_if (And.intro @eCh_z (And.intro @zkS_nx True.intro))))))))))))))))))))))))))))))))))))))))
def ez3 := (And.intro @zkS_rt (And.intro @zkS_bk (And.intro @zkS_ct (And.intro @zkS_xx (And.intro @zkS_st (And.intro @zkS_ex (And.intro @zkS_if (And.intro @sSeq_z (And.intro @zkGa_ok (And.intro @zkGa_st (And.intro @zkGa_ex (And.intro @zkGa_if (And.intro @zkG_ok (And.intro @zkG_st (And.intro @zkG_ex (And.intro @zkG_if (And.intro @sAsg_z (And.intro @zkX_ok (And.intro @zkX_st (And.intro @zkX_ex (And.intro @zkX_if (And.intro @sX_z (And.intro @zkR_ok (And.intro @zkR_st (And.intro @zkR_ex (And.intro @zkR_if (And.intro @sRet_z (And.intro @zkSI_t (And.intro @zkSI_f (And.intro @zkSI_d (And.intro @zkSI_n (And.intro @zkSI_st (And.intro @zkSI_if (And.intro @sIf_z (And.intro @zkK_nx (And.intro @zkK_rt (And.intro @zkK_bk (And.intro @zkK_ct (And.intro @zkK_xx (And.intro @zkK_st True.intro))))))))))))))))))))))))))))))))))))))))
def ez4 := (And.intro @zkK_ex (And.intro @zkK_if (And.intro @sKill_z (And.intro @zkF_ok (And.intro @zkF_st (And.intro @zkF_ex (And.intro @zkF_if (And.intro @sFor_z (And.intro @zkLs_ok (And.intro @zkLs_st (And.intro @zkLs_ex (And.intro @zkLs_if (And.intro @lstep_z (And.intro @zkL_nx (And.intro @zkL_rt (And.intro @zkL_bk (And.intro @zkL_ct (And.intro @zkL_xx (And.intro @zkL_st (And.intro @zkL_ex (And.intro @zkL_if (And.intro @zkW2_nx (And.intro @zkW2_rt (And.intro @zkW2_bk (And.intro @zkW2_ct (And.intro @zkW2_xx (And.intro @zkW2_st (And.intro @zkW2_ex (And.intro @zkW2_if (And.intro @zkW_t (And.intro @zkW_f (And.intro @zkW_d (And.intro @zkW_n (And.intro @zkW_st (And.intro @zkW_if (And.intro @zkGs_ok (And.intro @zkGs_st (And.intro @zkGs_ex (And.intro @zkGs_if (And.intro @gTs_z True.intro))))))))))))))))))))))))))))))))))))))))
def ez5 := (And.intro @zkNd_t (And.intro @zkM0_ok (And.intro @zkM0_st (And.intro @zkM0_ex (And.intro @zkM0_if (And.intro @m0_z (And.intro @zkNd1_t (And.intro @zkM1_ok (And.intro @zkM1_st (And.intro @zkM1_ex (And.intro @zkM1_if (And.intro @m1_z (And.intro @zk3c_ok (And.intro @zk3c_st (And.intro @zk3c_ex (And.intro @zk3c_if (And.intro @zk3b_ok (And.intro @zk3b_st (And.intro @zk3b_ex (And.intro @zk3b_if (And.intro @zkNd2_t (And.intro @zkM2_ok (And.intro @zkM2_st (And.intro @zkM2_ex (And.intro @zkM2_if (And.intro @m2_z (And.intro @zkI_lst (And.intro @zkI_tup (And.intro @zkI_inp (And.intro @zkI_inq (And.intro @zkI_tw (And.intro @zkI_st (And.intro @zkI_ex (And.intro @zkI_if (And.intro @iSeq_z (And.intro @zkI1_ok (And.intro @zkI1_st (And.intro @zkI1_ex (And.intro @zkI1_if (And.intro @iR1_z True.intro))))))))))))))))))))))))))))))))))))))))
def ez6 := (And.intro @zkI2b_ok (And.intro @zkI2b_st (And.intro @zkI2b_ex (And.intro @zkI2b_if (And.intro @zkI2_ok (And.intro @zkI2_st (And.intro @zkI2_ex (And.intro @zkI2_if (And.intro @iR2_z (And.intro @zkIS_ok (And.intro @zkIS_st (And.intro @zkIS_ex (And.intro @zkIS_if (And.intro @iStr_z (And.intro @zkP_ok (And.intro @zkP_st (And.intro @zkP_ex (And.intro @zkP_if (And.intro @pt_z (And.intro @zkSl3_ok (And.intro @zkSl3_st (And.intro @zkSl3_ex (And.intro @zkSl3_if (And.intro @zkSl2_ok (And.intro @zkSl2_st (And.intro @zkSl2_ex (And.intro @zkSl2_if (And.intro @zkSl_ok (And.intro @zkSl_st (And.intro @zkSl_ex (And.intro @zkSl_if (And.intro @eSl_z (And.intro @zkCd_ok (And.intro @zkCd_nil (And.intro @zkCn_ok (And.intro @zkCo_ok (And.intro @zkCo_st (And.intro @zkCo_ex (And.intro @zkCo_if (And.intro @eComp_z True.intro))))))))))))))))))))))))))))))))))))))))
def ez7 := (And.intro @zkCoC_ok (And.intro @zkCoC_st (And.intro @zkCoC_ex (And.intro @zkCoC_if (And.intro @eCompC_z (And.intro @zkSb3_ok (And.intro @zkSb2_ok (And.intro @zkSb1_ok (And.intro @gSb_z (And.intro @zkFW_ok (And.intro @zkFW_st (And.intro @zkFW_ex (And.intro @zkFW_if (And.intro @sForW_z (And.intro @zkCoW_ok (And.intro @zkCoW_st (And.intro @zkCoW_ex (And.intro @zkCoW_if (And.intro @eCompW_z (And.intro @zkEn_ok (And.intro @iEn_z (And.intro @zkZ2_ok (And.intro @zkZ1_ok (And.intro @iZp_z (And.intro @zkRv_ok (And.intro @iRv_z True.intro))))))))))))))))))))))))))
def ek0 := (And.intro @eV_ap (And.intro @eK_ap (And.intro @eAs_nil (And.intro @tYes_ap (And.intro @sSkip_ap (And.intro @sRetN_ap (And.intro @sBrk_ap (And.intro @sCnt_ap (And.intro @kill_nil (And.intro @kill_cons (And.intro @loop_nil (And.intro @gN_ap (And.intro @gT_tup (And.intro @gT_tw (And.intro @gTs_nil (And.intro @ws_nil (And.intro @ws_cons (And.intro @asDs_nil (And.intro @asDs_d (And.intro @asDs_loc (And.intro @asDs_tw (And.intro @oAdd_i (And.intro @oSub_i (And.intro @oAddI_i (And.intro @oNeg_i (And.intro @cLt_i (And.intro @cLe_i (And.intro @cGt_i (And.intro @cGe_i (And.intro @cEq_i (And.intro @cNe_i (And.intro @cEq_s (And.intro @cNe_s (And.intro @cIsN_d (And.intro @cNotN_d (And.intro @isN_int (And.intro @isN_str (And.intro @isN_tup (And.intro @isN_non (And.intro @fTup0 True.intro))))))))))))))))))))))))))))))))))))))))
def ek1 := (And.intro @fTup1 (And.intro @fTup2 (And.intro @fTup3 (And.intro @fTup4 (And.intro @fLst0 (And.intro @fLst1 (And.intro @fLst2 (And.intro @fLst3 (And.intro @fLst4 (And.intro @fLst5 (And.intro @fLst6 (And.intro @fLstC0 (And.intro @fLstC1 (And.intro @eDct_ap (And.intro @bLen_lst (And.intro @bLen_tup (And.intro @bLen_inp (And.intro @bTup_lst (And.intro @bTup_tup (And.intro @bLst_tup (And.intro @bLst_lst (And.intro @bLstC_tup (And.intro @bLstC_lst (And.intro @bMin2_i (And.intro @bMax2_i (And.intro @bInt_b (And.intro @bInt_i (And.intro @bStr_s (And.intro @bSum_i (And.intro @bAny_b (And.intro @bSortI_l (And.intro @bSortI_t (And.intro @seqW_tup (And.intro @seqW_lst (And.intro @pt_none (And.intro @asI_i (And.intro @comp_nil (And.intro @qt_ok' (And.intro @qt_stuck' (And.intro @outOf_rt True.intro))))))))))))))))))))))))))))))))))))))))
def ek2 := (And.intro @outOf_nx (And.intro @outOf_xx (And.intro @R.bind_ok (And.intro @R.bind_stuck (And.intro @R.bind_ex (And.intro @R.bd_ok (And.intro @R.bd_stuck (And.intro @R.bd_ex (And.intro @need_true (And.intro @ofO_some (And.intro @tk_map (And.intro @dp_map (And.intro @asDs_ws' (And.intro @watch_nil' (And.intro @watch_cons (And.intro @eCompWC_ap (And.intro @seqK_l (And.intro @seqK_p (And.intro @seqK_t (And.intro @seqK_q (And.intro @seqK_w (And.intro @seqK_c (And.intro @zpK_l (And.intro @zpK_t (And.intro @enW_ws (And.intro @zpW_ws (And.intro @rev_ws (And.intro @slice_l (And.intro @slice_lc (And.intro @slice_t (And.intro @slice_p (And.intro @slice_s (And.intro @cut_map (And.intro @cut_ws (And.intro @isS_s (And.intro @newL_d (And.intro @bTupQ_l (And.intro @bSplit_s (And.intro @loopW_nil (And.intro @compW_nil True.intro))))))))))))))))))))))))))))))))))))))))
def ek3 := (And.intro @dat_lc (And.intro @dat_dd (And.intro @isL_lc (And.intro @lws (And.intro @lAppend_lc (And.intro @lPop_lc (And.intro @lReverse_lc (And.intro @bLen_lc (And.intro @lstOf_lc (And.intro @bTup_lc (And.intro @tupW_ws0 (And.intro @bLst_lc (And.intro @mkC_ws0 (And.intro @lExtend_lc (And.intro @seqW_lc (And.intro @oIx_l (And.intro @oIx_t (And.intro @oIx_p (And.intro @oIx_q (And.intro @oIx_m (And.intro @oIx_lc (And.intro @ixM_d (And.intro @setAny_lc (And.intro @ws_app (And.intro @ixW0 (And.intro @ixW1 (And.intro @ixW2 (And.intro @ixW3 (And.intro @oIx_tw True.intro)))))))))))))))))))))))))))))
end B
/-! While loops by a measure; loops that may return. -/
namespace B
theorem whl_inv {σ : Type} {t : Tx} {b : Sx} (E : σ → Env) (S : σ → Sto) (I : σ → Prop) (go : σ → Bool) (μ : σ → Nat)
    (ht : ∀ st, I st → t (E st) (S st) = .ok (go st, S st))
    (hb : ∀ st, I st → go st = true → ∃ st', b (E st) (S st) = .ok (.nx (E st') (S st')) ∧ I st' ∧ μ st' < μ st) :
    ∀ (n : Nat) (st : σ), I st → μ st < n → ∃ st', whl t b n (E st) (S st) = .ok (.nx (E st') (S st')) ∧ I st' ∧ go st' = false
  | 0, st, _, h => absurd h (Nat.not_lt_zero _)
  | n + 1, st, h, hm => by
    rw [whl_step, ht st h, R.bd_ok]
    cases g : go st with
    | false => exact ⟨st, rfl, h, g⟩
    | true =>
      obtain ⟨st1, h1, i1, m1⟩ := hb st h g
      obtain ⟨st2, h2, i2, g2⟩ := whl_inv E S I go μ ht hb n st1 i1 (by omega)
      refine ⟨st2, ?_, i2, g2⟩
      simp only [if_true]
      rw [h1, R.bind_ok, turn_nx, h2]
/-- a for loop in which nothing is changed -/
theorem loop_pass {α : Type} {g : Tg} {b : Sx} (en : α → D) (e : Env) (s : Sto) : ∀ (l : List α), (∀ x ∈ l, lstep g b (.d (en x)) e s = .ok (.nx e s)) → loop g b (ws (l.map en)) e s = .ok (.nx e s)
  | [], _ => rfl
  | x :: l, h => by
    rw [List.map_cons, ws_cons, loop_step, h x List.mem_cons_self, R.bind_ok, turn_nx]
    exact loop_pass en e s l fun y hy => h y (List.mem_cons_of_mem _ hy)
end B
/-! Dicts, by what they tell. -/
namespace B
structure KeyE {κ : Type} [DecidableEq κ] (en : κ → D) (t : Bool) : Prop where
  eq : ∀ a b, eqv (en a) (en b) = decide (a = b)
  ok : ∀ a, keyOk t (en a) = true
abbrev kS (z : List Nat) : D := .str z
abbrev kSS (p : List Nat × List Nat) : D := .tup [.str p.1, .str p.2]
abbrev kSI (p : List Nat × Int) : D := .tup [.str p.1, .int p.2]
theorem keyS : KeyE kS false := ⟨eqv_str, fun _ => rfl⟩
theorem keyI : KeyE D.int false := ⟨eqv_int, fun _ => rfl⟩
theorem keySS : KeyE kSS true := ⟨fun a b => by
  show (eqv (.str a.1) (.str b.1) && (eqv (.str a.2) (.str b.2) && true)) = _
  rw [eqv_str, eqv_str]
  obtain ⟨a1, a2⟩ := a
  obtain ⟨b1, b2⟩ := b
  by_cases h : a1 = b1 <;> by_cases h2 : a2 = b2 <;> simp [h, h2], fun _ => rfl⟩
theorem keySI : KeyE kSI true := ⟨fun a b => by
  show (eqv (.str a.1) (.str b.1) && (eqv (.int a.2) (.int b.2) && true)) = _
  rw [eqv_str, eqv_int]
  obtain ⟨a1, a2⟩ := a
  obtain ⟨b1, b2⟩ := b
  by_cases h : a1 = b1 <;> by_cases h2 : a2 = b2 <;> simp [h, h2], fun _ => rfl⟩
section
variable {κ υ : Type} [DecidableEq κ]
def dctE (en : κ → D) (ev : υ → D) (L : List (κ × υ)) : List (D × D) := L.map fun p => (en p.1, ev p.2)
def dPut (L : List (κ × υ)) (k : κ) (v : υ) : List (κ × υ) := if k ∈ L.map (·.1) then L.map (fun p => if p.1 = k then (p.1, v) else p) else L ++ [(k, v)]
def dGet (L : List (κ × υ)) (k : κ) : Option υ := (L.find? fun p => decide (p.1 = k)).map (·.2)
variable {en : κ → D} {t : Bool} {ev : υ → D}
theorem any_dct (h : KeyE en t) (L : List (κ × υ)) (k : κ) : ((dctE en ev L).any fun p => eqv p.1 (en k)) = decide (k ∈ L.map (·.1)) := by
  induction L with
  | nil => rfl
  | cons p L ih =>
    show (eqv (en p.1) (en k) || ((dctE en ev L).any fun p => eqv p.1 (en k))) = _
    rw [ih, h.eq, List.map_cons]
    by_cases c : p.1 = k
    · simp [c]
    · simp [c, Ne.symm c]
theorem putD_E (h : KeyE en t) (L : List (κ × υ)) (k : κ) (v : υ) : putD (dctE en ev L) (en k) (ev v) = dctE en ev (dPut L k v) := by
  unfold putD dPut
  rw [any_dct h]
  by_cases c : k ∈ L.map (·.1)
  · rw [if_pos (decide_eq_true c), if_pos c]
    unfold dctE
    rw [List.map_map, List.map_map]
    apply List.map_congr_left
    intro p _
    simp only [Function.comp, h.eq]
    by_cases e : p.1 = k <;> simp [e]
  · rw [if_neg (by simpa using c), if_neg c]
    simp [dctE]
theorem lookD_E (h : KeyE en t) (L : List (κ × υ)) (k : κ) : lookD (dctE en ev L) (en k) = (dGet L k).map ev := by
  induction L with
  | nil => rfl
  | cons p L ih =>
    unfold lookD dGet at ih ⊢
    show Option.map _ (List.find? _ ((en p.1, ev p.2) :: dctE en ev L)) = _
    rw [List.find?_cons, List.find?_cons]
    simp only [h.eq]
    by_cases c : p.1 = k
    · simp [c]
    · simp only [c, decide_false]
      simpa using ih
theorem dGet_nil (k : κ) : dGet ([] : List (κ × υ)) k = none := rfl
theorem dGet_cons (p : κ × υ) (L : List (κ × υ)) (k : κ) : dGet (p :: L) k = if p.1 = k then some p.2 else dGet L k := by
  unfold dGet
  rw [List.find?_cons]
  by_cases c : p.1 = k <;> simp [c]
theorem dGet_app (L M : List (κ × υ)) (k : κ) : dGet (L ++ M) k = (dGet L k).or (dGet M k) := by
  induction L with
  | nil => rfl
  | cons p L ih =>
    rw [List.cons_append, dGet_cons, dGet_cons, ih]
    by_cases c : p.1 = k <;> simp [c]
theorem dGet_none {L : List (κ × υ)} {k : κ} : dGet L k = none ↔ k ∉ L.map (·.1) := by
  induction L with
  | nil => simp [dGet_nil]
  | cons p L ih =>
    rw [dGet_cons, List.map_cons, List.mem_cons]
    by_cases c : p.1 = k
    · simp [c]
    · simp [c, Ne.symm c, ih]
theorem dGet_put (L : List (κ × υ)) (k : κ) (v : υ) (j : κ) : dGet (dPut L k v) j = if j = k then some v else dGet L j := by
  unfold dPut
  by_cases c : k ∈ L.map (·.1)
  · rw [if_pos c]
    have key : ∀ M : List (κ × υ), dGet (M.map fun p => if p.1 = k then (p.1, v) else p) j = if j = k then (if k ∈ M.map (·.1) then some v else none) else dGet M j := by
      intro M
      induction M with
      | nil => simp [dGet_nil]
      | cons p M ih =>
        rw [List.map_cons, dGet_cons, ih, dGet_cons, List.map_cons]
        by_cases e : p.1 = k
        · by_cases e2 : j = k
          · subst e2; simp [e]
          · have : ¬ k = j := fun q => e2 q.symm
            simp [e, e2, this]
        · by_cases e2 : j = k
          · subst e2
            have e3 : ¬ j = p.1 := fun q => e q.symm
            simp only [if_neg e, if_pos, List.mem_cons, e3, false_or]
          · simp [e, e2]
    rw [key, if_pos c]
  · rw [if_neg c, dGet_app]
    by_cases e : j = k
    · subst e
      rw [dGet_none.mpr c, dGet_cons]; simp
    · rw [dGet_cons]
      have : ¬ k = j := fun q => e q.symm
      simp [e, this, dGet_nil]
theorem dPut_keys (L : List (κ × υ)) (k : κ) (v : υ) : (dPut L k v).map (·.1) = if k ∈ L.map (·.1) then L.map (·.1) else L.map (·.1) ++ [k] := by
  unfold dPut
  by_cases c : k ∈ L.map (·.1)
  · rw [if_pos c, if_pos c, List.map_map]
    apply List.map_congr_left
    intro p _
    simp only [Function.comp]
    split <;> rfl
  · rw [if_neg c, if_neg c]; simp
theorem dPut_len (L : List (κ × υ)) (k : κ) (v : υ) : (dPut L k v).length ≤ L.length + 1 := by
  have := congrArg List.length (dPut_keys L k v)
  rw [List.length_map] at this
  rw [this]
  split <;> simp
theorem dPut_new {L : List (κ × υ)} {k : κ} (h : k ∉ L.map (·.1)) (v : υ) : dPut L k v = L ++ [(k, v)] := if_neg h
theorem dctE_len (L : List (κ × υ)) : (dctE en ev L).length = L.length := by simp [dctE]
theorem cIn_E (h : KeyE en t) (L : List (κ × υ)) (k : κ) : cIn (en k) (.dct t (dctE en ev L)) = .ok (.bl (dGet L k).isSome) := by
  rw [cIn_dct _ _ _ (h.ok k), lookD_E h, Option.isSome_map]
theorem cNin_E (h : KeyE en t) (L : List (κ × υ)) (k : κ) : cNin (en k) (.dct t (dctE en ev L)) = .ok (.bl (!(dGet L k).isSome)) := by
  rw [cNin_dct _ _ _ (h.ok k), lookD_E h, Option.isSome_map]
theorem ixM_E (h : KeyE en t) {L : List (κ × υ)} {k : κ} {v : υ} (e : dGet L k = some v) (s : Sto) : ixM t (dctE en ev L) (.d (en k)) s = .ok (.d (ev v), s) := by
  rw [ixM_d, h.ok, need_true, lookD_E h, e]; rfl
theorem setM_E (h : KeyE en t) {a : Nat} {L : List (κ × υ)} {s : Sto} (e : s[a]? = some (.m t (dctE en ev L))) (hl : L.length < 16777216) (k : κ) (v : υ) : setAny (.loc a) (.d (en k)) (.d (ev v)) s = .ok (s.set a (.m t (dctE en ev (dPut L k v)))) := by
  rw [setAny_lc]
  simp only [e]
  have hl2 : L.length < sizeL := hl
  rw [need_of (by rw [h.ok, dctE_len, decide_eq_true hl2]; rfl), putD_E h]
end
end B
/-! Rules for zip of any kinds, find, index, startswith, >>, max of three. -/
namespace B
noncomputable def zkY2 (x : W) (r : VS) : R (List W × Wt × Sto) := r.bind fun q => (seqK x q.2).bind fun x => (seqK q.1 q.2).bind fun y => zpM x y q.2
theorem zkY2_ok (x w : W) (s : Sto) : zkY2 x (.ok (w, s)) = (seqK x s).bind fun x => (seqK w s).bind fun y => zpM x y s := rfl
noncomputable def zkY1 (b : Ev) (e : Env) (r : VS) : R (List W × Wt × Sto) := r.bind fun p => zkY2 p.1 (b e p.2)
theorem zkY1_ok (b : Ev) (e : Env) (w : W) (s : Sto) : zkY1 b e (.ok (w, s)) = zkY2 w (b e s) := rfl
theorem iZm_z (a b : Ev) (e : Env) (s : Sto) : iZm a b e s = zkY1 b e (a e s) := rfl
theorem zpM_k (j k : Kd) (a b : List W) (u v : Wt) (s : Sto) : zpM (j, a, u) (k, b, v) s = .ok (zpW a b, u ++ v, s) := rfl
theorem bFind_s (z : List Nat) (c : Nat) : bFind (.str z) (.str [c]) = .ok (.int (match findC c z with | some i => (i : Int) | none => -1)) := rfl
theorem bSIdx_s {z : List Nat} {c i : Nat} (h : findC c z = some i) : bSIdx (.str z) (.str [c]) = .ok (.int (i : Nat)) := by
  show (ofO (findC c z)).bind _ = _
  rw [h]; rfl
theorem bStarts_s (x y : List Nat) : bStarts (.str x) (.str y) = .ok (.bl (decide (0 + y.length ≤ x.length) && ((x.drop 0).take y.length == y))) := rfl
theorem findC_some {c k : Nat} {l : List Nat} (h : l[k]? = some c) (hb : ∀ j, j < k → l[j]? ≠ some c) : findC c l = some k := by
  obtain ⟨hk, _⟩ := List.getElem?_eq_some_iff.mp h
  unfold findC
  have key : ∀ (n s : Nat), s ≤ k → k < s + n → (List.range' s n).find? (fun i => l[i]? == some c) = some k := by
    intro n
    induction n with
    | zero => intro s h1 h2; omega
    | succ n ih =>
      intro s h1 h2
      rw [List.range'_succ, List.find?_cons]
      by_cases e : s = k
      · subst e
        have : (l[s]? == some c) = true := by simpa using h
        rw [this]
      · have : (l[s]? == some c) = false := by simpa using hb s (by omega)
        rw [this]
        exact ih (s + 1) (by omega) (by omega)
  exact key _ 0 (Nat.zero_le _) (by omega)
theorem findC_none {c : Nat} {l : List Nat} (h : c ∉ l) : findC c l = none := by
  unfold findC
  rw [List.find?_eq_none]
  intro i _ hi
  have : l[i]? = some c := by simpa using hi
  exact h (List.mem_of_getElem? this)
theorem findC_of {c k : Nat} {l : List Nat} (h : findC c l = some k) : l[k]? = some c := by
  unfold findC at h
  have := List.find?_some h
  simpa using this
theorem oShr_n (i j : Nat) : oShr (.int i) (.int j) = .ok (.int ((i / 2 ^ j : Nat) : Int)) := by
  have h : oShr (.int i) (.int j) = need (decide ((0 : Int) ≤ (j : Int))) (R.ok (D.int ((i : Int) / 2 ^ (j : Int).toNat))) := rfl
  rw [h, decide_eq_true (show (0 : Int) ≤ (j : Int) by omega), need_true]
  simp
theorem bMax3_i (i j k : Int) : bMax3 (.int i) (.int j) (.int k) = .ok (.int (if k > (if j > i then j else i) then k else (if j > i then j else i))) := rfl
theorem e3_z (f : W → W → W → Sto → VS) (a b c : Ev) (e : Env) (s : Sto) : e3 f a b c e s = (a e s).bind fun p => zk3b f p.1 c e (b e p.2) := rfl
theorem d3_z (f : D → D → D → R D) (x y w : D) (s : Sto) : d3 f (.d x) (.d y) (.d w) s = zkD s (f x y w) := rfl
/-- the first place of an item -/
def ixOf {α : Type} [DecidableEq α] (x : α) : List α → Nat
  | [] => 0
  | y :: l => if y = x then 0 else ixOf x l + 1
theorem ixOf_get {α : Type} [DecidableEq α] {x : α} : ∀ {l : List α}, x ∈ l → l[ixOf x l]? = some x
  | y :: l, h => by
    unfold ixOf
    by_cases e : y = x
    · rw [if_pos e, e]; rfl
    · rw [if_neg e, List.getElem?_cons_succ]
      exact ixOf_get ((List.mem_cons.mp h).resolve_left fun q => e q.symm)
theorem ixOf_lt {α : Type} [DecidableEq α] {x : α} {l : List α} (h : x ∈ l) : ixOf x l < l.length := (List.getElem?_eq_some_iff.mp (ixOf_get h)).1
theorem ixOf_inj {α : Type} [DecidableEq α] {x y : α} {l : List α} (h : x ∈ l) (h' : y ∈ l) (e : ixOf x l = ixOf y l) : x = y := by
  have h1 := ixOf_get h
  rw [e, ixOf_get h'] at h1
  exact (Option.some.inj h1).symm
theorem idxD_map {α : Type} [DecidableEq α] (en : α → D) (he : ∀ a b, eqv (en a) (en b) = decide (a = b)) (x : α) : ∀ l : List α, idxD (en x) (l.map en) = if x ∈ l then some (ixOf x l) else none
  | [] => rfl
  | y :: l => by
    rw [List.map_cons]
    unfold idxD ixOf
    rw [he, idxD_map en he x l]
    by_cases h : y = x
    · subst h; simp
    · rw [if_neg (by simpa using h)]
      have : x ≠ y := fun e => h e.symm
      by_cases hx : x ∈ l
      · rw [if_pos hx, if_pos (List.mem_cons_of_mem _ hx), if_neg h]; rfl
      · rw [if_neg hx, if_neg (by simp [this, hx])]; rfl
theorem eqv_strD (a b : List Nat) : eqv (.str a) (.str b) = decide (a = b) := by
  show (a == b) = _
  by_cases h : a = b <;> simp [h]
theorem strs_flat (l : List (List Nat)) : (l.map D.str).all flat = true := by
  rw [List.all_map]; exact List.all_eq_true.mpr fun _ _ => rfl
theorem lIndex_str {x : List Nat} {l : List (List Nat)} (h : x ∈ l) (s : Sto) : lIndex (.d (.lst (l.map .str))) (.d (.str x)) s = .ok (.d (.int (ixOf x l : Nat)), s) := by
  unfold lIndex
  simp only [lstOf, R.bind_ok, asDs_ws', ofO_some, dat_d]
  rw [show (flat (D.str x) && (l.map D.str).all flat) = true by rw [strs_flat]; rfl, need_true, idxD_map D.str eqv_strD x l, if_pos h, ofO_some, R.bind_ok]
theorem zip_map {α β γ : Type} (f : α → γ) (g : β → γ) (h : γ → γ → γ) : ∀ (l : List α) (m : List β), List.zipWith h (l.map f) (m.map g) = (l.zip m).map fun p => h (f p.1) (g p.2)
  | [], _ => by simp
  | _ :: _, [] => by simp
  | a :: l, b :: m => by simp [zip_map f g h l m]
def ek4 := And.intro @zkY2_ok (And.intro @zkY1_ok (And.intro @iZm_z (And.intro @zpM_k (And.intro @bFind_s (And.intro @bStarts_s (And.intro @bMax3_i (And.intro @e3_z (And.intro @d3_z True.intro))))))))
end B
/-! Rules for unpacking a list. -/
namespace B
theorem gTL_l (gs : List Tg) (l : List D) (e : Env) (s : Sto) : gTL gs (.d (.lst l)) e s = gTs gs (ws l) e s := rfl
theorem bLenSet_i {ns : List Int} (h : ns.Nodup) (hl : ns.length ≤ 4000) : bLenSet (.lst (ns.map .int)) = .ok (.int (ns.length : Nat)) := by
  have e : intsD (ns.map .int) = some ns := by
    clear h hl
    induction ns with
    | nil => rfl
    | cons n ns ih => rw [List.map_cons]; show (intsD (ns.map .int)).map _ = _; rw [ih]; rfl
  show (ofO (intsD (ns.map .int))).bind (fun ns => need (decide ns.Nodup && decide (ns.length ≤ 4000)) (R.ok (D.int (ns.length : Nat)))) = _
  rw [e, ofO_some, R.bind_ok, decide_eq_true h, decide_eq_true hl]; rfl
end B
/-! The rules of the largest and the smallest. -/
namespace B
open PySem
theorem bMaxI_l {l : List Int} {m : Int} (h : mxI l = some m) : bMaxI (.lst (l.map .int)) = .ok (.int m) := by
  simp only [bMaxI, listD, R.bind_ok, intsD_map, Option.bind_some, h, ofO_some]
theorem bMinI_l {l : List Int} {m : Int} (h : mnI l = some m) : bMinI (.lst (l.map .int)) = .ok (.int m) := by
  simp only [bMinI, listD, R.bind_ok, intsD_map, Option.bind_some, h, ofO_some]
end B
namespace B
theorem lstD_e (t : Bool) (l : List (D × D)) (s : Sto) : bLstD (.d (.dct t l)) s = .ok (.d (.lst (l.map (·.1))), s) := rfl
section
variable {α : Type} {g : Tg} {b : Sx}
/-- over a list by its places, a state that is there -/
theorem loop_exI {σ : Type} (en : α → D) (E : σ → Env) (S : σ → Sto) (I : Nat → σ → Prop) (l : List α) (st : σ) (h : I 0 st)
    (hs : ∀ k (hk : k < l.length) st, I k st → ∃ st', lstep g b (.d (en l[k])) (E st) (S st) = .ok (.nx (E st') (S st')) ∧ I (k + 1) st') :
    ∃ st', loop g b (ws (l.map en)) (E st) (S st) = .ok (.nx (E st') (S st')) ∧ I l.length st' := by
  have key : ∀ (l : List α) (n : Nat) (st : σ), I n st → (∀ k (hk : k < l.length) st, I (n + k) st → ∃ st', lstep g b (.d (en l[k])) (E st) (S st) = .ok (.nx (E st') (S st')) ∧ I (n + k + 1) st') →
      ∃ st', loop g b (ws (l.map en)) (E st) (S st) = .ok (.nx (E st') (S st')) ∧ I (n + l.length) st' := by
    intro l
    induction l with
    | nil => intro n st h _; exact ⟨st, rfl, h⟩
    | cons x l ih =>
      intro n st h hs
      obtain ⟨st1, h1, i1⟩ := hs 0 (by simp) st h
      obtain ⟨st2, r, i2⟩ := ih (n + 1) st1 i1 fun k hk st i => by
        have := hs (k + 1) (by simpa using hk) st (by rw [show n + (k + 1) = n + 1 + k by omega]; exact i)
        rw [show n + (k + 1) = n + 1 + k by omega] at this
        exact this
      refine ⟨st2, ?_, by rw [List.length_cons, show n + (l.length + 1) = n + 1 + l.length by omega]; exact i2⟩
      simp only [List.getElem_cons_zero] at h1
      rw [List.map_cons, ws_cons, loop_step, h1, R.bind_ok, turn_nx, r]
  obtain ⟨st', h1, h2⟩ := key l 0 st h fun k hk st i => by
    rw [Nat.zero_add] at i ⊢; exact hs k hk st i
  rw [Nat.zero_add] at h2
  exact ⟨st', h1, h2⟩
end
end B
/-! raise and try, run. -/
namespace B
def zxT (i : Option Nat) (h : Exc → Sx) (x : Exc) (e1 : Env) (s1 : Sto) : Option Bool → R O
  | some true => need (inN i e1) (unb i (h x (setN i e1) s1))
  | some false => .ok (.xx x e1 s1)
  | none => .stuck
def zxTry (i : Option Nat) (tbl : List Bool) (h : Exc → Sx) : R O → R O
  | .ok (.xx x e1 s1) => zxT i h x e1 s1 tbl[x.cls]?
  | r => r
theorem sRaise_ap (c : Nat) (e : Env) (s : Sto) : sRaise c e s = .ok (.xx ⟨c, []⟩ e s) := rfl
theorem sTry_ap (i : Option Nat) (tbl : List Bool) (b : Sx) (h : Exc → Sx) (e : Env) (s : Sto) : sTry i tbl b h e s = zxTry i tbl h (b e s) := by
  unfold sTry zxTry
  cases b e s with
  | ok o => cases o with
    | xx x e1 s1 =>
      show (match tbl[x.cls]? with
        | some true => need (inN i e1) (unb i (h x (setN i e1) s1))
        | some false => .ok (.xx x e1 s1)
        | none => .stuck) = zxT i h x e1 s1 tbl[x.cls]?
      generalize tbl[x.cls]? = q
      cases q with
      | none => rfl
      | some b => cases b <;> rfl
    | _ => rfl
  | _ => rfl
section
variable (i : Option Nat) (tbl : List Bool) (h : Exc → Sx) (x : Exc) (e : Env) (s : Sto) (w : W)
theorem zxTry_nx : zxTry i tbl h (.ok (.nx e s)) = .ok (.nx e s) := rfl
theorem zxTry_bk : zxTry i tbl h (.ok (.bk e s)) = .ok (.bk e s) := rfl
theorem zxTry_ct : zxTry i tbl h (.ok (.ct e s)) = .ok (.ct e s) := rfl
theorem zxTry_rt : zxTry i tbl h (.ok (.rt w s)) = .ok (.rt w s) := rfl
theorem zxTry_xx : zxTry i tbl h (.ok (.xx x e s)) = zxT i h x e s tbl[x.cls]? := rfl
theorem zxT_t : zxT i h x e s (some true) = need (inN i e) (unb i (h x (setN i e) s)) := rfl
theorem zxT_f : zxT i h x e s (some false) = .ok (.xx x e s) := rfl
theorem unb_nx : unb i (.ok (.nx e s)) = .ok (.nx (setN i e) s) := rfl
theorem unb_bk : unb i (.ok (.bk e s)) = .ok (.bk (setN i e) s) := rfl
theorem unb_ct : unb i (.ok (.ct e s)) = .ok (.ct (setN i e) s) := rfl
theorem unb_rt : unb i (.ok (.rt w s)) = .ok (.rt w s) := rfl
theorem setN_s (j : Nat) : setN (some j) e = e.set j none := rfl
theorem setN_n : setN none e = e := rfl
theorem inN_s (j : Nat) : inN (some j) e = decide (j < e.length) := rfl
theorem inN_n : inN none e = true := rfl
end
theorem exc_cls (c : Nat) (fs : List (List Nat × D)) : (Exc.mk c fs).cls = c := rfl
theorem bl_get0 (b : Bool) (l : List Bool) : (b :: l)[0]? = some b := rfl
theorem bl_get1 (a b : Bool) (l : List Bool) : (a :: b :: l)[1]? = some b := rfl
theorem bl_get2 (a b c : Bool) (l : List Bool) : (a :: b :: c :: l)[2]? = some c := rfl
def zxX : Option Bool → Sto → VS
  | some b, s => .ok (.d (.bl b), s) | none, _ => .stuck
theorem eIsX_ap (tb : List Bool) (m : Nat) (e : Env) (s : Sto) : eIsX tb m e s = zxX tb[m]? s := by
  unfold eIsX zxX; cases tb[m]? <;> rfl
theorem zxX_s (b : Bool) (s : Sto) : zxX (some b) s = .ok (.d (.bl b), s) := rfl
def ex0 := And.intro @sRaise_ap (And.intro @sTry_ap (And.intro @zxTry_nx (And.intro @zxTry_bk (And.intro @zxTry_ct (And.intro @zxTry_rt (And.intro @zxTry_xx (And.intro @zxT_t (And.intro @zxT_f (And.intro @unb_nx (And.intro @unb_bk (And.intro @unb_ct (And.intro @unb_rt (And.intro @setN_s (And.intro @setN_n (And.intro @inN_s (And.intro @inN_n (And.intro @exc_cls (And.intro @bl_get0 (And.intro @bl_get1 (And.intro @bl_get2 (And.intro @eIsX_ap (And.intro @zxX_s True.intro))))))))))))))))))))))
theorem bLstRv_i (i : Int) (s : Sto) (h : small24 i = true) : bLstRv (.d (.int i)) s = .ok (.d (.lst (rngD 0 i.toNat).reverse), s) := by
  show need _ _ = _; rw [h]; rfl
end B
/-! Objects, run. -/
namespace B
def zkFl2 (f : List Nat) (s : Sto) (r : R (Nat × List (List Nat × W))) : VS := r.bind fun q => fldW f q.2 s
theorem zkFl2_ok (f : List Nat) (s : Sto) (k : Nat) (fs : List (List Nat × W)) : zkFl2 f s (.ok (k, fs)) = fldW f fs s := rfl
def zkFl (c : Nat) (f : List Nat) (r : VS) : VS := r.bind fun p => zkFl2 f p.2 (objO c p.1 p.2)
theorem zkFl_ok (c : Nat) (f : List Nat) (w : W) (s : Sto) : zkFl c f (.ok (w, s)) = zkFl2 f s (objO c w s) := rfl
theorem eFld_z (c : Nat) (f : List Nat) (a : Ev) (e : Env) (s : Sto) : eFld c f a e s = zkFl c f (a e s) := rfl
def zkFS3 (c : Nat) (f : List Nat) (x : W) (e : Env) (s : Sto) (r : R (Nat × List (List Nat × W))) : R O := r.bd e fun r => need (decide (r.2.length < 1000)) (.ok (.nx e (s.set r.1 (.o c (putB f x r.2)))))
theorem zkFS3_ok (c : Nat) (f : List Nat) (x : W) (e : Env) (s : Sto) (k : Nat) (fs : List (List Nat × W)) : zkFS3 c f x e s (.ok (k, fs)) = need (decide (fs.length < 1000)) (.ok (.nx e (s.set k (.o c (putB f x fs))))) := rfl
def zkFS2 (c : Nat) (f : List Nat) (x : W) (e : Env) (r : VS) : R O := r.bd e fun p => zkFS3 c f x e p.2 (objO c p.1 p.2)
theorem zkFS2_ok (c : Nat) (f : List Nat) (x : W) (e : Env) (w : W) (s : Sto) : zkFS2 c f x e (.ok (w, s)) = zkFS3 c f x e s (objO c w s) := rfl
def zkFS (c : Nat) (f : List Nat) (a : Ev) (e : Env) (r : VS) : R O := r.bd e fun q => zkFS2 c f q.1 e (a e q.2)
theorem zkFS_ok (c : Nat) (f : List Nat) (a : Ev) (e : Env) (w : W) (s : Sto) : zkFS c f a e (.ok (w, s)) = zkFS2 c f w e (a e s) := rfl
theorem sFldS_z (c : Nat) (f : List Nat) (a v : Ev) (e : Env) (s : Sto) : sFldS c f a v e s = zkFS c f a e (v e s) := rfl
theorem sFldA_r {c : Nat} {f : List Nat} {a v : Ev} {e : Env} {s : Sto} {o : W} {k : Nat} {fs : List (List Nat × W)} {i j : Int} (h1 : a e s = .ok (o, s)) (h2 : objO c o s = .ok (k, fs)) (h3 : fldW f fs s = .ok (.d (.int i), s)) (h4 : v e s = .ok (.d (.int j), s)) (hl : fs.length < 1000) :
    sFldA c f a v e s = .ok (.nx e (s.set k (.o c (putB f (.d (.int (i + j))) fs)))) := by
  unfold sFldA
  rw [h1, R.bd_ok]
  show (objO c o s).bd e _ = _
  rw [h2, R.bd_ok, h3, R.bd_ok]
  show (intW (.d (.int i))).bd e _ = _
  unfold intW
  rw [R.bd_ok, h4, R.bd_ok]
  show (R.ok j).bd e _ = _
  rw [R.bd_ok]
  show (objO c o s).bd e _ = _
  rw [h2, R.bd_ok, need_of (decide_eq_true hl)]
def zkMc (F : Fn) (w : W) (r : R (List W × Sto)) : VS := r.bind fun q => qv (F (w :: q.1) q.2)
theorem zkMc_ok (F : Fn) (w : W) (l : List W) (s : Sto) : zkMc F w (.ok (l, s)) = qv (F (w :: l) s) := rfl
def zkMb (m : List Nat) (F : Fn) (as : List Ev) (e : Env) (w : W) (s : Sto) (r : R (Nat × List (List Nat × W))) : VS := r.bind fun r => need (r.2.lookup m).isNone (zkMc F w (eAs as e s))
theorem zkMb_ok (m : List Nat) (F : Fn) (as : List Ev) (e : Env) (w : W) (s : Sto) (k : Nat) (fs : List (List Nat × W)) : zkMb m F as e w s (.ok (k, fs)) = need (fs.lookup m).isNone (zkMc F w (eAs as e s)) := rfl
def zkMa (c : Nat) (m : List Nat) (F : Fn) (as : List Ev) (e : Env) (r : VS) : VS := r.bind fun p => zkMb m F as e p.1 p.2 (objO c p.1 p.2)
theorem zkMa_ok (c : Nat) (m : List Nat) (F : Fn) (as : List Ev) (e : Env) (w : W) (s : Sto) : zkMa c m F as e (.ok (w, s)) = zkMb m F as e w s (objO c w s) := rfl
theorem eMeth_z (c : Nat) (m : List Nat) (F : Fn) (a : Ev) (as : List Ev) (e : Env) (s : Sto) : eMeth c m F a as e s = zkMa c m F as e (a e s) := rfl
theorem qv_ok (p : W × Sto) : qv (.ok p) = .ok p := rfl
def zkMk (c : Nat) (F : Fn) (r : R (List W × Sto)) : VS := r.bind fun q => mkO q.2.length (F (.loc q.2.length :: q.1) (q.2 ++ [.o c []]))
theorem zkMk_ok (c : Nat) (F : Fn) (l : List W) (s : Sto) : zkMk c F (.ok (l, s)) = mkO s.length (F (.loc s.length :: l) (s ++ [.o c []])) := rfl
theorem eMake_z (c : Nat) (F : Fn) (as : List Ev) (e : Env) (s : Sto) : eMake c F as e s = zkMk c F (eAs as e s) := rfl
theorem mkO_ok (k : Nat) (s : Sto) : mkO k (.ok (.d .non, s)) = .ok (.loc k, s) := rfl
def ob0 := And.intro @zkFl2_ok (And.intro @zkFl_ok (And.intro @eFld_z (And.intro @zkFS3_ok (And.intro @zkFS2_ok (And.intro @zkFS_ok (And.intro @sFldS_z (And.intro @zkMc_ok (And.intro @zkMb_ok (And.intro @zkMa_ok (And.intro @eMeth_z (And.intro @qv_ok (And.intro @zkMk_ok (And.intro @eMake_z (And.intro @mkO_ok True.intro))))))))))))))
/-! defs upon a store that stays -/
theorem mkF_x {n : Nat} {b : Sx} {a : List W} {x : D} {s s' t : Sto} (e : Env) (he : start n a = e) (h : outOf (b e s) = .ok (.d x, s' ++ t)) (hl : s'.length = s.length) (hc : clS s'.length s' = true) : mkF n b a s = .ok (.d x, s') := by
  show fin s.length (outOf (b (start n a) s)) = _
  rw [he, h, ← hl]
  have e : (s' ++ t).take s'.length = s' := by simp
  show (if clS s'.length ((s' ++ t).take s'.length) then R.ok (W.d x, (s' ++ t).take s'.length) else .stuck) = _
  rw [e, hc]; rfl
theorem mkF_xm {n : Nat} {b : Sx} {a : List W} {k : Bool} {l : List (D × D)} {s s' : Sto} (e : Env) (he : start n a = e) (h : outOf (b e s) = .ok (.loc s.length, s' ++ [C.m k l])) (hl : s'.length = s.length) (hc : clS s'.length s' = true) : mkF n b a s = .ok (.d (.dct k l), s') := by
  show fin s.length (outOf (b (start n a) s)) = _
  rw [he, h, ← hl]
  have e : (s' ++ [C.m k l]).take s'.length = s' := by simp
  have e2 : frz s'.length (s' ++ [C.m k l]) (.loc s'.length) = some (.d (.dct k l)) := by
    unfold frz
    have : cl s'.length (.loc s'.length) = false := by simp [cl]
    simp [this, toD, FU]
  show (match frz s'.length (s' ++ [C.m k l]) (.loc s'.length) with | some w' => if clS s'.length ((s' ++ [C.m k l]).take s'.length) then R.ok (w', (s' ++ [C.m k l]).take s'.length) else .stuck | none => .stuck) = _
  rw [e2, e]
  simp only [hc]; rfl
theorem fldW_h (f : List Nat) (w : W) (r : List (List Nat × W)) (s : Sto) : fldW f ((f, w) :: r) s = .ok (w, s) := by
  unfold fldW; rw [List.lookup_cons, beq_self_eq_true]
theorem fldW_t {f g : List Nat} (h : f ≠ g) (w : W) (r : List (List Nat × W)) (s : Sto) : fldW f ((g, w) :: r) s = fldW f r s := by
  unfold fldW; rw [List.lookup_cons, show (f == g) = false by simpa using h]
theorem oCatC_d (x y : List D) (s : Sto) (h : x.length + y.length ≤ 16777216) : oCatC (.d (.lst x)) (.d (.lst y)) s = .ok (.loc s.length, s ++ [.l (x ++ y)]) := by
  show need (decide ((ws x).length + (ws y).length ≤ sizeL)) (newL (ws x ++ ws y) s) = _
  rw [ws_app, newL_d, need_of]
  exact decide_eq_true (by rw [show (ws x).length = x.length by simp [ws], show (ws y).length = y.length by simp [ws]]; exact h)
theorem oRep_d (l : List D) (k : Int) (s : Sto) (h : (-1000 ≤ k ∧ k ≤ 1000) ∧ l.length ≤ 1000) : oRep (.d (.lst l)) (.d (.int k)) s = .ok (.d (.lst (List.replicate k.toNat l).flatten), s) := by
  show need _ _ = _
  rw [decide_eq_true h.1.1, decide_eq_true h.1.2, decide_eq_true h.2]; rfl
end B
namespace B
section
local macro_rules | `(tactic| simpa! only [$ts,*]) => `(tactic| simp +decide (disch := first | assumption | decide | omega | (simp only [rngLen, lws, List.length_map, List.length_append, List.length_cons, List.length_nil, List.length_replicate, List.length_reverse, List.length_range, List.length_take, List.length_drop]; omega)) only [ev, en, st, cn, cl_, lg, ev5, $ts,*])
local macro_rules | `(tactic| simp_all! only [$ts,*]) => `(tactic| simp +decide (disch := first | assumption | omega | decide | (simp only [rngLen, lws, List.length_map, List.length_append, List.length_cons, List.length_nil, List.length_replicate, List.length_reverse, List.length_range, List.length_take, List.length_drop]; omega)) only [ez0, ez1, ez2, ez3, ez4, ez5, ez6, ez7, ek0, ek1, ek2, ek3, ek4, en, cn, cl_, lg, $ts,*])

abbrev Nm := List Nat
/-- a text that may be compared -/
def GoodT (z : Nm) : Prop := z.length ≤ 1000 ∧ z.all (· < 0x110000) = true
inductive Th where
  | num (i : Int) | nm (z : Nm)
inductive Row where
  | bring (p : Nm) (ps : List (Nm × Nm)) | give (o g : Nm) | set (o : Nm) (t : List (Int × Th)) | take (o : Nm) | say (t : List (Int × Th)) (w : Option Nm) | need (t : List (Int × Th)) | ask (p : Nm) (w : Option Nm) | part (p : Nm) | doo (p : Nm)
def eTh : Th → D
  | .num i => .int i | .nm z => .str z
def eTm (p : Int × Th) : D := .tup [.int p.1, eTh p.2]
def eOn : Option Nm → D
  | none => .non | some z => .str z
def ePr (p : Nm × Nm) : D := .tup [.str p.1, .str p.2]
def eRow : Row → D
  | .bring p ps => .tup [.str [98, 114, 105, 110, 103], .str p, .tup (ps.map ePr)]
  | .give o g => .tup [.str [103, 105, 118, 101], .str o, .str g]
  | .set o t => .tup [.str [115, 101, 116], .str o, .tup (t.map eTm)]
  | .take o => .tup [.str [116, 97, 107, 101], .str o]
  | .say t w => .tup [.str [115, 97, 121], .tup (t.map eTm), eOn w]
  | .need t => .tup [.str [110, 101, 101, 100], .tup (t.map eTm)]
  | .ask p w => .tup [.str [97, 115, 107], .str p, eOn w]
  | .part p => .tup [.str [112, 97, 114, 116], .str p]
  | .doo p => .tup [.str [100, 111], .str p]
abbrev Part := Nm × List Row
def ePart (p : Part) : D := .tup [.str p.1, .tup (p.2.map eRow)]
def ePs (P : List Part) : List D := P.map ePart
/-- a tuple, known or not -/
def SeqD (x : D) (l : List D) : Prop := x = .tup l ∨ x = .inq l
theorem isN_eOn_s (z : Nm) : isN (eOn (some z)) = false := rfl
theorem isN_eOn_n : isN (eOn none) = true := rfl
/-! names as keys -/
def sD (ks : List Nm) : List (D × D) := ks.map fun k => (.str k, .bl true)
def addN (ks : List Nm) (k : Nm) : List Nm := if k ∈ ks then ks else ks ++ [k]
theorem any_sD (ks : List Nm) (k : Nm) : ((sD ks).any fun p => eqv p.1 (.str k)) = decide (k ∈ ks) := by
  induction ks with
  | nil => rfl
  | cons a l ih =>
    show (eqv (.str a) (.str k) || ((sD l).any fun p => eqv p.1 (.str k))) = _
    rw [ih, eqv_str]
    by_cases h : a = k <;> by_cases h2 : k ∈ l <;> simp [h, h2, eq_comm]
    intro q; exact absurd q.symm h
theorem putD_sD (ks : List Nm) (k : Nm) : putD (sD ks) (.str k) (.bl true) = sD (addN ks k) := by
  unfold putD addN
  rw [any_sD]
  by_cases h : k ∈ ks
  · rw [if_pos (decide_eq_true h), if_pos h]
    unfold sD
    rw [List.map_map]
    apply List.map_congr_left
    intro x _
    simp only [Function.comp]
    split <;> rfl
  · rw [if_neg (by simpa using h), if_neg h]
    simp [sD]
theorem look_find {α : Type} (l : List (D × α)) (x : D) : (lookD l x).isSome = l.any fun p => eqv p.1 x := by
  unfold lookD
  induction l with
  | nil => rfl
  | cons p l ih =>
    rw [List.find?_cons, List.any_cons]
    cases h : eqv p.1 x with
    | true => rfl
    | false => simpa using ih
theorem look_sD (ks : List Nm) (k : Nm) : (lookD (sD ks) (.str k)).isSome = decide (k ∈ ks) := by rw [look_find, any_sD]
theorem keyOk_s (k : Nm) : keyOk false (.str k) = true := rfl
theorem cIn_sD (ks : List Nm) (k : Nm) : cIn (.str k) (.dct false (sD ks)) = .ok (.bl (decide (k ∈ ks))) := by rw [cIn_dct _ _ _ rfl, look_sD]
theorem cNin_sD (ks : List Nm) (k : Nm) : cNin (.str k) (.dct false (sD ks)) = .ok (.bl (!decide (k ∈ ks))) := by rw [cNin_dct _ _ _ rfl, look_sD]
theorem sD_len (ks : List Nm) : (sD ks).length = ks.length := by simp [sD]
theorem addN_len (ks : List Nm) (k : Nm) : (addN ks k).length ≤ ks.length + 1 := by unfold addN; split <;> simp
theorem mem_addN {ks : List Nm} {k x : Nm} : x ∈ addN ks k ↔ x ∈ ks ∨ x = k := by
  unfold addN; split
  · rename_i h
    constructor
    · exact .inl
    · rintro (h2 | rfl)
      · exact h2
      · exact h
  · simp
theorem addN_nodup {ks : List Nm} {k : Nm} (h : ks.Nodup) : (addN ks k).Nodup := by
  unfold addN; split
  · exact h
  · rename_i hk
    rw [List.nodup_append]
    refine ⟨h, by simp, fun a ha b hb e => hk ?_⟩
    rw [List.mem_singleton] at hb
    subst hb; subst e; exact ha
theorem cNin_strsT (x : List Nat) (l : List (List Nat)) : cNin (.str x) (.tup (l.map .str)) = .ok (.bl (!decide (x ∈ l))) := by
  rw [cNin_tup _ _ (by rw [flat_strs]; rfl), inL_strs]
theorem cIn_strsT (x : List Nat) (l : List (List Nat)) : cIn (.str x) (.tup (l.map .str)) = .ok (.bl (decide (x ∈ l))) := by
  rw [cIn_tup _ _ (by rw [flat_strs]; rfl), inL_strs]
theorem strs_nil : ([] : List D) = ([] : List Nm).map .str := rfl
theorem strs_snoc (l : List Nm) (x : Nm) : l.map D.str ++ [.str x] = (l ++ [x]).map .str := by simp
theorem sum_ok (l : List Nm) (h : ∀ x ∈ l, GoodT x) (n : Nat) : okL n (l.map .str) = true := okL_all n _ fun x hx => by
  obtain ⟨y, hy, rfl⟩ := List.mem_map.mp hx
  have := (h y hy).2
  cases n <;> exact this
theorem eqvL_strs (a b : List Nm) : eqvL (a.map .str) (b.map .str) = decide (a = b) := by
  induction a generalizing b with
  | nil => cases b <;> rfl
  | cons x a ih =>
    cases b with
    | nil => rfl
    | cons y b =>
      show (eqv (.str x) (.str y) && eqvL (a.map .str) (b.map .str)) = _
      rw [ih, eqv_str]
      by_cases h : x = y <;> by_cases h2 : a = b <;> simp [h, h2]
theorem okT_strs (l : List Nm) (h : ∀ x ∈ l, GoodT x) : okD 60 (.tup (l.map .str)) = true := sum_ok l h 59
theorem okL_strs (l : List Nm) (h : ∀ x ∈ l, GoodT x) : okD 60 (.lst (l.map .str)) = true := sum_ok l h 59
theorem cEq_strsT (a b : List Nm) (ha : ∀ x ∈ a, GoodT x) (hb : ∀ x ∈ b, GoodT x) : cEq (.tup (a.map .str)) (.tup (b.map .str)) = .ok (.bl (decide (a = b))) := by
  rw [cEq_of (okT_strs a ha) (okT_strs b hb)]; show R.ok (D.bl (eqvL _ _)) = _; rw [eqvL_strs]
theorem cEq_strsL (a b : List Nm) (ha : ∀ x ∈ a, GoodT x) (hb : ∀ x ∈ b, GoodT x) : cEq (.lst (a.map .str)) (.lst (b.map .str)) = .ok (.bl (decide (a = b))) := by
  rw [cEq_of (okL_strs a ha) (okL_strs b hb)]; show R.ok (D.bl (eqvL _ _)) = _; rw [eqvL_strs]
theorem cEq_strsN (a : List Nm) (ha : ∀ x ∈ a, GoodT x) : cEq (.lst (a.map .str)) (.lst []) = .ok (.bl (decide (a = []))) := cEq_strsL a [] ha (by simp)
theorem cNe_strsN (a : List Nm) (ha : ∀ x ∈ a, GoodT x) : cNe (.lst (a.map .str)) (.lst []) = .ok (.bl (!decide (a = []))) := by
  rw [cNe_of (okL_strs a ha) rfl]; show R.ok (D.bl (!eqvL _ (([] : List Nm).map .str))) = _; rw [eqvL_strs]
theorem seq_iter {x : D} {l : List D} (h : SeqD x l) (a : Ev) (e : Env) (s s' : Sto) (ha : a e s = .ok (.d x, s')) : iSeq a e s = .ok (ws l, s') := by
  rw [iSeq_ap, ha]; rcases h with rfl | rfl <;> rfl
theorem seq_len {x : D} {l : List D} (h : SeqD x l) (s : Sto) : bLen (.d x) s = .ok (.d (.int l.length), s) := by
  rcases h with rfl | rfl <;> (show R.ok (W.d (.int (ws l).length), s) = _; simp [ws])
theorem seq_ix {x : D} {l : List D} (h : SeqD x l) (y : W) (s : Sto) : oIx (.d x) y s = ixW (ws l) y s := by
  rcases h with rfl | rfl <;> rfl
theorem dig_ok (n : Nat) : ∀ c ∈ Nat.toDigits 10 n, c.isDigit = true := fun c hc => Nat.isDigit_of_mem_toDigits (by decide) (by decide) hc
theorem numL_good (n : Nat) : ∀ c ∈ numL n, 48 ≤ c ∧ c ≤ 57 := fun c hc => by
  obtain ⟨d, hd, rfl⟩ := List.mem_map.mp hc
  have := dig_ok n d hd
  rw [Char.isDigit, Bool.and_eq_true] at this
  exact ⟨of_decide_eq_true this.1, of_decide_eq_true this.2⟩
theorem numL_len (n k : Nat) (hk : 0 < k) (h : n < 10 ^ k) : (numL n).length ≤ k := by
  have : (Nat.toDigits 10 n).length ≤ k := (Nat.length_toDigits_le_iff (by decide) hk).mpr h
  simpa [numL] using this
theorem goodT_num (a n : Nat) (ha : a < 256) (h : n < 10 ^ 100) : GoodT (a :: numL n) := by
  refine ⟨?_, ?_⟩
  · have := numL_len n 100 (by decide) h
    simp only [List.length_cons]; omega
  · rw [List.all_eq_true]
    intro x hx
    rcases List.mem_cons.mp hx with rfl | hx
    · exact decide_eq_true (by omega)
    · have := numL_good n x hx
      exact decide_eq_true (by omega)

noncomputable def p_rows_of_b1 (e : Env) (s : Sto) : R O := (sKill [2, 3] (sIf (tB (e2 (d2 cEq) (eV 2) (eV 1))) (sRet (eV 3)) sSkip)) e s
noncomputable def p_rows_of_r1 (e : Env) (s : Sto) : R O := (sRet (eN fTup [])) e s
def p_rows_of_u := And.intro @p_rows_of_b1.eq_1 (And.intro @p_rows_of_r1.eq_1 True.intro)
noncomputable def p_rows_of : Fn := mkF 4 (sSeq (sFor (iSeq (eV 0)) (gT [(gN 2), (gN 3)]) p_rows_of_b1) p_rows_of_r1)
noncomputable def p_called_b1 (e : Env) (s : Sto) : R O := (sKill [4] (sIf (tAnd (tB (e2 (d2 cEq) (e2 oIx (eV 4) (eK (.int 0))) (eV 2))) (tB (e2 (d2 cNin) (e2 oIx (eV 4) (eK (.int 1))) (eV 3)))) (sX (m1 isL lAppend (eV 3) (e2 oIx (eV 4) (eK (.int 1))))) sSkip)) e s
noncomputable def p_called_r1 (e : Env) (s : Sto) : R O := (sRet (e1 bTup (eV 3))) e s
def p_called_u := And.intro @p_called_b1.eq_1 (And.intro @p_called_r1.eq_1 True.intro)
noncomputable def p_called : Fn := mkF 5 (sSeq (sAsg (gN 3) (eN fLstC [])) (sSeq (sFor (iSeq (eN (callP p_rows_of) [(eV 0), (eV 1)])) (gN 4) p_called_b1) p_called_r1))
noncomputable def p_brings : Fn := mkF 2 (sRet (eN (callP p_called) [(eV 0), (eV 1), (eK (.str [98, 114, 105, 110, 103]))]))
noncomputable def p_asks : Fn := mkF 2 (sRet (eN (callP p_called) [(eV 0), (eV 1), (eK (.str [97, 115, 107]))]))
def rowsOf (P : List Part) (x : Nm) : List Row := match P.find? (fun p => decide (p.1 = x)) with
  | some p => p.2 | none => []
theorem p_rows_of_l (X : D) (x : Nm) : ∀ P : List Part, loop (gT [gN 2, gN 3]) p_rows_of_b1 (ws (ePs P)) [ed X, es x, e_, e_] [] = match P.find? (fun p => decide (p.1 = x)) with
    | some p => .ok (.rt (.d (.tup (p.2.map eRow))) []) | none => .ok (.nx [ed X, es x, e_, e_] [])
  | [] => rfl
  | p :: P => by
    have ih := p_rows_of_l X x P
    unfold ePs at ih ⊢
    rw [List.find?_cons]
    by_cases h : p.1 = x
    · simpa! only [List.map_cons, ePart, loop_cons, p_rows_of_b1, h]
    · simpa! only [List.map_cons, ePart, loop_cons, p_rows_of_b1, h, ih]
theorem p_rows_of_c {X : D} {P : List Part} (hX : SeqD X (ePs P)) (x : Nm) (s : Sto) : callP p_rows_of [.d X, .d (.str x)] s = .ok (.d (.tup ((rowsOf P x).map eRow)), s) := by
  have h := seq_iter hX (eV 0) [ed X, es x, e_, e_] [] [] rfl
  have h2 := p_rows_of_l X x P
  simp only [callP2, p_rows_of, p_rows_of_r1, cl_, sSeq_ap, sFor_ap, h, R.bd_ok, h2, rowsOf]
  cases P.find? (fun p => decide (p.1 = x)) with
  | none => simpa! only [List.map_nil, p_rows_of_r1]
  | some p => simpa! only []
/-- the part that a bring row, an ask row names -/
def brT : Row → Option Nm
  | .bring p _ => some p | _ => none
def akT : Row → Option Nm
  | .ask p _ => some p | _ => none
def foldN (f : Row → Option Nm) : List Row → List Nm → List Nm
  | [], acc => acc
  | r :: rs, acc => foldN f rs (match f r with | some p => addN acc p | none => acc)
theorem foldN_len (f : Row → Option Nm) : ∀ (rs : List Row) (acc : List Nm), (foldN f rs acc).length ≤ acc.length + rs.length
  | [], acc => by simp [foldN]
  | r :: rs, acc => by
    unfold foldN
    rw [List.length_cons]
    cases f r with
    | none => have := foldN_len f rs acc; simp only; omega
    | some p => have h := addN_len acc p; have := foldN_len f rs (addN acc p); simp only; omega
theorem mem_foldN {f : Row → Option Nm} {x : Nm} : ∀ {rs : List Row} {acc : List Nm}, x ∈ foldN f rs acc ↔ x ∈ acc ∨ ∃ r ∈ rs, f r = some x
  | [], acc => by simp [foldN]
  | r :: rs, acc => by
    unfold foldN
    rw [mem_foldN]
    cases h : f r with
    | none => simp [h]
    | some p =>
      simp only [mem_addN, List.mem_cons, exists_eq_or_imp, h, Option.some.injEq]
      constructor
      · rintro ((h | rfl) | h) <;> simp [*]
      · rintro (h | rfl | h) <;> simp [*]
theorem foldN_nodup {f : Row → Option Nm} : ∀ {rs : List Row} {acc : List Nm}, acc.Nodup → (foldN f rs acc).Nodup
  | [], acc, h => h
  | r :: rs, acc, h => by
    unfold foldN
    refine foldN_nodup ?_
    cases f r with
    | none => exact h
    | some p => exact addN_nodup h
theorem called_b (X : D) (x : Nm) : ∀ (rs : List Row) (acc : List Nm), acc.length + rs.length ≤ 100000 → loop (gN 4) p_called_b1 (ws (rs.map eRow)) [ed X, es x, es [98, 114, 105, 110, 103], el 0, e_] [.l (acc.map .str)] = .ok (.nx [ed X, es x, es [98, 114, 105, 110, 103], el 0, e_] [.l ((foldN brT rs acc).map .str)])
  | [], acc, _ => rfl
  | r :: rs, acc, hl => by
    simp only [List.length_cons] at hl
    cases r with
    | bring p ps =>
      have ih := called_b X x rs (addN acc p) (by have := addN_len acc p; omega)
      unfold foldN
      simp only [brT]
      by_cases h : p ∈ acc
      · have e : addN acc p = acc := if_pos h
        rw [e] at ih ⊢
        simpa! only [List.map_cons, loop_cons, p_called_b1, eRow, h, ih]
      · have e : addN acc p = acc ++ [p] := if_neg h
        rw [e] at ih ⊢
        simpa! only [List.map_cons, loop_cons, p_called_b1, eRow, h, strs_snoc, ih]
    | _ =>
      have ih := called_b X x rs acc (by omega)
      unfold foldN
      simpa! only [List.map_cons, loop_cons, p_called_b1, eRow, brT, ih]
theorem called_a (X : D) (x : Nm) : ∀ (rs : List Row) (acc : List Nm), acc.length + rs.length ≤ 100000 → loop (gN 4) p_called_b1 (ws (rs.map eRow)) [ed X, es x, es [97, 115, 107], el 0, e_] [.l (acc.map .str)] = .ok (.nx [ed X, es x, es [97, 115, 107], el 0, e_] [.l ((foldN akT rs acc).map .str)])
  | [], acc, _ => rfl
  | r :: rs, acc, hl => by
    simp only [List.length_cons] at hl
    cases r with
    | ask p w =>
      have ih := called_a X x rs (addN acc p) (by have := addN_len acc p; omega)
      unfold foldN
      simp only [akT]
      by_cases h : p ∈ acc
      · have e : addN acc p = acc := if_pos h
        rw [e] at ih ⊢
        simpa! only [List.map_cons, loop_cons, p_called_b1, eRow, h, ih]
      · have e : addN acc p = acc ++ [p] := if_neg h
        rw [e] at ih ⊢
        simpa! only [List.map_cons, loop_cons, p_called_b1, eRow, h, strs_snoc, ih]
    | _ =>
      have ih := called_a X x rs acc (by omega)
      unfold foldN
      simpa! only [List.map_cons, loop_cons, p_called_b1, eRow, akT, ih]
def bringsL (P : List Part) (x : Nm) : List Nm := foldN brT (rowsOf P x) []
def asksL (P : List Part) (x : Nm) : List Nm := foldN akT (rowsOf P x) []
/-- no part has too many rows -/
def Short (P : List Part) : Prop := P.length ≤ 100000 ∧ ∀ p ∈ P, p.2.length ≤ 100000
theorem rowsOf_len {P : List Part} (h : Short P) (x : Nm) : (rowsOf P x).length ≤ 100000 := by
  unfold rowsOf
  cases e : P.find? (fun p => decide (p.1 = x)) with
  | none => simp
  | some p => exact h.2 p (List.mem_of_find?_eq_some e)
theorem bringsL_len {P : List Part} (h : Short P) (x : Nm) : (bringsL P x).length ≤ 100000 := by
  have := foldN_len brT (rowsOf P x) []
  have := rowsOf_len h x
  unfold bringsL; simp at *; omega
theorem asksL_len {P : List Part} (h : Short P) (x : Nm) : (asksL P x).length ≤ 100000 := by
  have := foldN_len akT (rowsOf P x) []
  have := rowsOf_len h x
  unfold asksL; simp at *; omega
theorem p_brings_c {X : D} {P : List Part} (hX : SeqD X (ePs P)) (hP : Short P) (x : Nm) (s : Sto) : callP p_brings [.d X, .d (.str x)] s = .ok (.d (.tup ((bringsL P x).map .str)), s) := by
  have h := called_b X x (rowsOf P x) [] (by have := rowsOf_len hP x; simp; exact this)
  simp only [List.map_nil] at h
  simpa! only [p_brings, p_called, p_called_r1, p_rows_of_c hX, h, bringsL]
theorem p_asks_c {X : D} {P : List Part} (hX : SeqD X (ePs P)) (hP : Short P) (x : Nm) (s : Sto) : callP p_asks [.d X, .d (.str x)] s = .ok (.d (.tup ((asksL P x).map .str)), s) := by
  have h := called_a X x (rowsOf P x) [] (by have := rowsOf_len hP x; simp; exact this)
  simp only [List.map_nil] at h
  simpa! only [p_asks, p_called, p_called_r1, p_rows_of_c hX, h, asksL]
theorem foldN_foldl (f : Row → Option Nm) : ∀ (rs : List Row) (acc : List Nm), foldN f rs acc = rs.foldl (fun a r => match f r with | some p => addN a p | none => a) acc
  | [], acc => rfl
  | r :: rs, acc => by
    unfold foldN
    rw [foldN_foldl f rs]; show _ = List.foldl _ _ rs; rfl
theorem mem_brings {P : List Part} {x y : Nm} : y ∈ bringsL P x ↔ ∃ r ∈ rowsOf P x, brT r = some y := by
  unfold bringsL; rw [mem_foldN]; simp
theorem mem_foldA (l : List Nm) : ∀ (ks : List Nm) (x : Nm), x ∈ l.foldl addN ks ↔ x ∈ ks ∨ x ∈ l := by
  induction l with
  | nil => intro ks x; simp
  | cons y l ih => intro ks x; rw [List.foldl_cons, ih, mem_addN]; simp [or_assoc]
theorem foldA_nd (l : List Nm) : ∀ (ks : List Nm), ks.Nodup → (l.foldl addN ks).Nodup := by
  induction l with
  | nil => intro ks h; exact h
  | cons y l ih => intro ks h; exact ih _ (addN_nodup h)
theorem mem_asks {P : List Part} {x y : Nm} : y ∈ asksL P x ↔ ∃ r ∈ rowsOf P x, akT r = some y := by
  unfold asksL; rw [mem_foldN]; simp
theorem rowsOf_mem {P : List Part} (h : (P.map (·.1)).Nodup) {p : Part} (hp : p ∈ P) : rowsOf P p.1 = p.2 := by
  unfold rowsOf
  cases e : P.find? (fun q => decide (q.1 = p.1)) with
  | none => have := List.find?_eq_none.mp e p hp; simp at this
  | some q =>
    have h1 := List.find?_some e
    have h2 := List.mem_of_find?_eq_some e
    have h3 : q.1 = p.1 := of_decide_eq_true h1
    have : q = p := by
      obtain ⟨i, hi, ei⟩ := List.mem_iff_getElem.mp h2
      obtain ⟨j, hj, ej⟩ := List.mem_iff_getElem.mp hp
      have : i = j := by
        have hi' : i < (P.map (·.1)).length := by simpa using hi
        have hj' : j < (P.map (·.1)).length := by simpa using hj
        have : (P.map (·.1))[i] = (P.map (·.1))[j] := by simp [ei, ej, h3]
        exact (List.getElem_inj h).mp this
      subst this
      rw [← ei, ← ej]
    rw [this]
theorem rowsOf_of {P : List Part} {x : Nm} {r : Row} (h : r ∈ rowsOf P x) : ∃ p ∈ P, p.1 = x ∧ r ∈ p.2 := by
  unfold rowsOf at h
  cases e : P.find? (fun q => decide (q.1 = x)) with
  | none => rw [e] at h; cases h
  | some q =>
    rw [e] at h
    exact ⟨q, List.mem_of_find?_eq_some e, by simpa using List.find?_some e, h⟩

noncomputable def p_made_by_r1 (e : Env) (s : Sto) : R O := (sRet (eK .non)) e s
def p_made_by_u := And.intro @p_made_by_r1.eq_1 True.intro
noncomputable def p_made_by : Fn := mkF 1 (sSeq (sIf (tOr (tB (e2 (d2 cEq) (e2 oIx (eV 0) (eK (.int 0))) (eK (.str [115, 101, 116])))) (tB (e2 (d2 cEq) (e2 oIx (eV 0) (eK (.int 0))) (eK (.str [116, 97, 107, 101]))))) (sRet (e2 oIx (eV 0) (eK (.int 1)))) sSkip) p_made_by_r1)
noncomputable def p_made_in_b1 (e : Env) (s : Sto) : R O := (sKill [3, 4] (sIf (tB (e2 (d2 cEq) (eN (callP p_made_by) [(eV 4)]) (eV 2))) (sRet (eV 3)) sSkip)) e s
noncomputable def p_made_in_r1 (e : Env) (s : Sto) : R O := (sRet (eK .non)) e s
def p_made_in_u := And.intro @p_made_in_b1.eq_1 (And.intro @p_made_in_r1.eq_1 True.intro)
noncomputable def p_made_in : Fn := mkF 5 (sSeq (sForW (iEn (eN (callP p_rows_of) [(eV 0), (eV 1)])) (gT [(gN 3), (gN 4)]) p_made_in_b1) p_made_in_r1)
noncomputable def p_brought_from_b1 (e : Env) (s : Sto) : R O := (sKill [4, 5] (sIf (tB (e2 (d2 cEq) (eV 5) (eV 2))) (sRet (eN fTup [(e2 oIx (eV 3) (eK (.int 1))), (eV 4)])) sSkip)) e s
noncomputable def p_brought_from_b2 (e : Env) (s : Sto) : R O := (sKill [3, 4, 5] (sIf (tB (e2 (d2 cEq) (e2 oIx (eV 3) (eK (.int 0))) (eK (.str [98, 114, 105, 110, 103])))) (sFor (iSeq (e2 oIx (eV 3) (eK (.int 2)))) (gT [(gN 4), (gN 5)]) p_brought_from_b1) sSkip)) e s
noncomputable def p_brought_from_r1 (e : Env) (s : Sto) : R O := (sRet (eK .non)) e s
def p_brought_from_u := And.intro @p_brought_from_b1.eq_1 (And.intro @p_brought_from_b2.eq_1 (And.intro @p_brought_from_r1.eq_1 True.intro))
noncomputable def p_brought_from : Fn := mkF 6 (sSeq (sFor (iSeq (eN (callP p_rows_of) [(eV 0), (eV 1)])) (gN 3) p_brought_from_b2) p_brought_from_r1)
noncomputable def p_given_as_b1 (e : Env) (s : Sto) : R O := (sKill [3] (sIf (tAnd (tB (e2 (d2 cEq) (e2 oIx (eV 3) (eK (.int 0))) (eK (.str [103, 105, 118, 101])))) (tB (e2 (d2 cEq) (e2 oIx (eV 3) (eK (.int 2))) (eV 2)))) (sRet (e2 oIx (eV 3) (eK (.int 1)))) sSkip)) e s
noncomputable def p_given_as_r1 (e : Env) (s : Sto) : R O := (sRet (eK .non)) e s
def p_given_as_u := And.intro @p_given_as_b1.eq_1 (And.intro @p_given_as_r1.eq_1 True.intro)
noncomputable def p_given_as : Fn := mkF 4 (sSeq (sFor (iSeq (eN (callP p_rows_of) [(eV 0), (eV 1)])) (gN 3) p_given_as_b1) p_given_as_r1)
noncomputable def p_onward_r1 (e : Env) (s : Sto) : R O := (sSeq (sAsg (gT [(gN 3), (gN 4)]) (eN (callP p_brought_from) [(eV 0), (eV 1), (eV 2)])) (sRet (eN fTup [(eV 3), (eN (callP p_given_as) [(eV 0), (eV 3), (eV 4)])]))) e s
def p_onward_u := And.intro @p_onward_r1.eq_1 True.intro
noncomputable def p_onward : Fn := mkF 5 (sSeq (sIf (tB (e1 cNotN (eN (callP p_made_in) [(eV 0), (eV 1), (eV 2)]))) (sRet (eK .non)) sSkip) p_onward_r1)
noncomputable def p_maker_b1 (e : Env) (s : Sto) : R O := (sAsg (gT [(gN 1), (gN 2)]) (eN (callP p_onward) [(eV 0), (eV 1), (eV 2)])) e s
noncomputable def p_maker_w1 (e : Env) (s : Sto) : R (Bool × Sto) := (tB (e1 cIsN (eN (callP p_made_in) [(eV 0), (eV 1), (eV 2)]))) e s
noncomputable def p_maker_r1 (e : Env) (s : Sto) : R O := (sRet (eN fTup [(eV 1), (eN (callP p_made_in) [(eV 0), (eV 1), (eV 2)])])) e s
def p_maker_u := And.intro @p_maker_b1.eq_1 (And.intro @p_maker_w1.eq_1 (And.intro @p_maker_r1.eq_1 True.intro))
noncomputable def p_maker : Fn := mkF 3 (sSeq (sWhl p_maker_w1 p_maker_b1) p_maker_r1)
/-! who makes a name -/
def mkT : Row → Option Nm
  | .set o _ => some o | .take o => some o | _ => none
def madeIn (rs : List Row) (o : Nm) : Option Nat := rs.findIdx? fun r => decide (mkT r = some o)
def brR (o : Nm) : Row → Option (Nm × Nm)
  | .bring x ps => (ps.find? fun p => decide (p.2 = o)).map fun p => (x, p.1)
  | _ => none
def brF (rs : List Row) (o : Nm) : Option (Nm × Nm) := rs.findSome? (brR o)
def gvR (g : Nm) : Row → Option Nm
  | .give o h => if h = g then some o else none
  | _ => none
def gvF (rs : List Row) (g : Nm) : Option Nm := rs.findSome? (gvR g)
theorem p_made_by_c (r : Row) (s : Sto) : callP p_made_by [.d (eRow r)] s = .ok (.d (eOn (mkT r)), s) := by
  cases r <;> simp_all! only [p_made_by, p_made_by_r1, eRow, mkT, eOn]
theorem cEq_on (w : Option Nm) (z : Nm) : cEq (eOn w) (.str z) = .ok (.bl (decide (w = some z))) := by
  cases w with
  | none => rfl
  | some y =>
    show cEq (.str y) (.str z) = _
    rw [cEq_s]; simp
theorem made_in_l (w0 w1 : Option W) (o : Nm) : ∀ (rs : List Row) (n : Nat), loop (gT [gN 3, gN 4]) p_made_in_b1 (ws ((rs.map eRow).mapIdx fun j d => D.tup [.int ((n + j : Nat) : Int), d])) [w0, w1, es o, e_, e_] [] = match madeIn rs o with
    | some k => .ok (.rt (.d (.int ((n + k : Nat) : Int))) []) | none => .ok (.nx [w0, w1, es o, e_, e_] [])
  | [], n => rfl
  | r :: rs, n => by
    have ih := made_in_l w0 w1 o rs (n + 1)
    have e : ((rs.map eRow).mapIdx fun j d => D.tup [.int ((n + (j + 1) : Nat) : Int), d]) = (rs.map eRow).mapIdx fun j d => D.tup [.int ((n + 1 + j : Nat) : Int), d] := by
      congr 1; funext j d; congr 3; omega
    rw [List.map_cons, List.mapIdx_cons, e]
    unfold madeIn at ih ⊢
    rw [List.findIdx?_cons]
    by_cases c : mkT r = some o
    · simp_all! only [loop_cz, p_made_in_b1, p_made_by_c, cEq_on, c, Nat.add_zero]
    · have hd : decide (mkT r = some o) = false := decide_eq_false c
      simp_all! only [loop_cz, p_made_in_b1, p_made_by_c, cEq_on, c, ih]
      cases List.findIdx? (fun r => decide (mkT r = some o)) rs with
      | none => rfl
      | some k => simp only [Option.map_some]; rw [show n + 1 + k = n + (k + 1) by omega]
def eOi : Option Nat → D
  | none => .non | some k => .int (k : Nat)
theorem p_made_in_c {X : D} {P : List Part} (hX : SeqD X (ePs P)) (x o : Nm) (s : Sto) : callP p_made_in [.d X, .d (.str x), .d (.str o)] s = .ok (.d (eOi (madeIn (rowsOf P x) o)), s) := by
  have L := made_in_l (ed X) (es x) o (rowsOf P x) 0
  have R := fun s => p_rows_of_c hX x s
  simp only [Nat.zero_add] at L
  cases e : madeIn (rowsOf P x) o with
  | none => rw [e] at L; simp_all! only [p_made_in, p_made_in_r1, R, List.append_nil, Nat.zero_add, L, eOi]
  | some k => rw [e] at L; simp_all! only [p_made_in, p_made_in_r1, R, List.append_nil, Nat.zero_add, L, eOi]
theorem bf_b1 (w0 w1 : Option W) (o : Nm) (d : D) (x : Nm) (hd : ∀ s, oIx (.d d) (.d (.int 1)) s = .ok (.d (.str x), s)) : ∀ (ps : List (Nm × Nm)), loop (gT [gN 4, gN 5]) p_brought_from_b1 (ws (ps.map ePr)) [w0, w1, es o, ed d, e_, e_] [] = match ps.find? (fun p => decide (p.2 = o)) with
    | some p => .ok (.rt (.d (kSS (x, p.1))) []) | none => .ok (.nx [w0, w1, es o, ed d, e_, e_] [])
  | [] => rfl
  | p :: ps => by
    have ih := bf_b1 w0 w1 o d x hd ps
    rw [List.map_cons, List.find?_cons]
    by_cases c : p.2 = o
    · simp_all! only [loop_cz, ePr, p_brought_from_b1, hd, c]
    · have hdd : decide (p.2 = o) = false := decide_eq_false c
      simp_all! only [loop_cz, ePr, p_brought_from_b1, c, ih]
theorem bf_b2 (w0 w1 : Option W) (o : Nm) : ∀ (rs : List Row), loop (gN 3) p_brought_from_b2 (ws (rs.map eRow)) [w0, w1, es o, e_, e_, e_] [] = match brF rs o with
    | some p => .ok (.rt (.d (kSS p)) []) | none => .ok (.nx [w0, w1, es o, e_, e_, e_] [])
  | [] => rfl
  | r :: rs => by
    have ih := bf_b2 w0 w1 o rs
    unfold brF at ih ⊢
    rw [List.map_cons, List.findSome?_cons]
    cases r with
    | bring x ps =>
      have L := bf_b1 w0 w1 o (eRow (.bring x ps)) x (fun s => by simp only [eRow, oIx_t, ws_cons, ixW1]) ps
      simp only [brR]
      cases e : ps.find? (fun p => decide (p.2 = o)) with
      | none =>
        rw [e] at L
        simp only [eRow] at L ⊢
        simp_all! only [loop_cz, p_brought_from_b2, L, Option.map_none, ih]
      | some p =>
        rw [e] at L
        simp only [eRow] at L ⊢
        simp_all! only [loop_cz, p_brought_from_b2, L, Option.map_some]
    | _ => simp only [brR]; simp_all! only [loop_cz, p_brought_from_b2, eRow, ih]
def eOp : Option (Nm × Nm) → D
  | none => .non | some p => kSS p
theorem p_brought_from_c {X : D} {P : List Part} (hX : SeqD X (ePs P)) (x o : Nm) (s : Sto) : callP p_brought_from [.d X, .d (.str x), .d (.str o)] s = .ok (.d (eOp (brF (rowsOf P x) o)), s) := by
  have L := bf_b2 (ed X) (es x) o (rowsOf P x)
  have R := fun s => p_rows_of_c hX x s
  cases e : brF (rowsOf P x) o with
  | none => rw [e] at L; simp_all! only [p_brought_from, p_brought_from_r1, R, L, eOp]
  | some p => rw [e] at L; simp_all! only [p_brought_from, p_brought_from_r1, R, L, eOp]
theorem ga_b1 (w0 w1 : Option W) (g : Nm) : ∀ (rs : List Row), loop (gN 3) p_given_as_b1 (ws (rs.map eRow)) [w0, w1, es g, e_] [] = match gvF rs g with
    | some o => .ok (.rt (.d (.str o)) []) | none => .ok (.nx [w0, w1, es g, e_] [])
  | [] => rfl
  | r :: rs => by
    have ih := ga_b1 w0 w1 g rs
    unfold gvF at ih ⊢
    rw [List.map_cons, List.findSome?_cons]
    cases r with
    | give o h =>
      simp only [gvR]
      by_cases c : h = g
      · simp only [if_pos c]; simp_all! only [loop_cz, p_given_as_b1, eRow, c]
      · simp only [if_neg c]; simp_all! only [loop_cz, p_given_as_b1, eRow, c, ih]
    | _ => simp only [gvR]; simp_all! only [loop_cz, p_given_as_b1, eRow, ih]
theorem p_given_as_c {X : D} {P : List Part} (hX : SeqD X (ePs P)) (x g : Nm) (s : Sto) : callP p_given_as [.d X, .d (.str x), .d (.str g)] s = .ok (.d (eOn (gvF (rowsOf P x) g)), s) := by
  have L := ga_b1 (ed X) (es x) g (rowsOf P x)
  have R := fun s => p_rows_of_c hX x s
  cases e : gvF (rowsOf P x) g with
  | none => rw [e] at L; simp_all! only [p_given_as, p_given_as_r1, R, L, eOn]
  | some o => rw [e] at L; simp_all! only [p_given_as, p_given_as_r1, R, L, eOn]
/-- the next spot of a name that is brought in -/
def onw (P : List Part) (x o : Nm) : Option (Nm × Nm) := match madeIn (rowsOf P x) o with
  | some _ => none
  | none => match brF (rowsOf P x) o with
    | some (y, g) => (gvF (rowsOf P y) g).map fun o2 => (y, o2)
    | none => none
theorem isN_oi (w : Option Nat) : isN (eOi w) = !w.isSome := by cases w <;> rfl
theorem p_onward_c {X : D} {P : List Part} (hX : SeqD X (ePs P)) {x o y o2 : Nm} (h : onw P x o = some (y, o2)) (s : Sto) : callP p_onward [.d X, .d (.str x), .d (.str o)] s = .ok (.d (kSS (y, o2)), s) := by
  have M := fun s => p_made_in_c hX x o s
  have B := fun s => p_brought_from_c hX x o s
  unfold onw at h
  cases e : madeIn (rowsOf P x) o with
  | some k => rw [e] at h; cases h
  | none =>
    rw [e] at h M
    cases e2 : brF (rowsOf P x) o with
    | none => rw [e2] at h; cases h
    | some p =>
      obtain ⟨z, g⟩ := p
      rw [e2] at h B
      simp only at h
      cases e3 : gvF (rowsOf P z) g with
      | none => rw [e3] at h; cases h
      | some o3 =>
        rw [e3] at h
        cases h
        have G := fun s => p_given_as_c hX y g s
        rw [e3] at G
        simp only [eOi, eOp, eOn] at M B G
        simp_all! only [p_onward, p_onward_r1, M, B, G]
theorem p_onward_n {X : D} {P : List Part} (hX : SeqD X (ePs P)) {x o : Nm} {k : Nat} (h : madeIn (rowsOf P x) o = some k) (s : Sto) : callP p_onward [.d X, .d (.str x), .d (.str o)] s = .ok (.d .non, s) := by
  have M := fun s => p_made_in_c hX x o s
  rw [h] at M
  simp only [eOi] at M
  simp_all! only [p_onward, M]
/-- the maker, by a number of steps at most -/
def mkrF (P : List Part) : Nat → Nm → Nm → Nm × Nat
  | 0, x, _ => (x, 0)
  | n + 1, x, o => match madeIn (rowsOf P x) o with
    | some k => (x, k)
    | none => match onw P x o with
      | some (y, o2) => mkrF P n y o2
      | none => (x, 0)
def makerL (P : List Part) (x o : Nm) : Nm × Nat := mkrF P 1000 x o
theorem onw_none {P : List Part} {x o : Nm} {k : Nat} (h : madeIn (rowsOf P x) o = some k) : onw P x o = none := by unfold onw; rw [h]
theorem maker_w {X : D} {P : List Part} (hX : SeqD X (ePs P)) (rk : Nm → Nm → Nat) (Ok : Nm → Nm → Prop)
    (hO : ∀ x o, Ok x o → (∃ k, madeIn (rowsOf P x) o = some k) ∨ ∃ y o2, onw P x o = some (y, o2) ∧ Ok y o2 ∧ rk y o2 < rk x o) : ∀ (n m : Nat) (x o : Nm), Ok x o → rk x o < n → n ≤ m →
    ∃ y o2, whl p_maker_w1 p_maker_b1 m [ed X, es x, es o] [] = .ok (.nx [ed X, es y, es o2] []) ∧ Ok y o2 ∧ ∃ k, madeIn (rowsOf P y) o2 = some k ∧ mkrF P n x o = (y, k)
  | 0, m, x, o, _, h, _ => absurd h (Nat.not_lt_zero _)
  | n + 1, 0, x, o, _, _, h => by omega
  | n + 1, m + 1, x, o, ho, hr, hm => by
    have M := fun s => p_made_in_c hX x o s
    rcases hO x o ho with ⟨k, hk⟩ | ⟨y, o2, h1, h2, h3⟩
    · refine ⟨x, o, ?_, ho, k, hk, by unfold mkrF; rw [hk]⟩
      rw [hk] at M
      simp only [eOi] at M
      simp_all! only [whl_cz, p_maker_w1, M]
    · obtain ⟨z, o3, i1, i2, k, i3, i4⟩ := maker_w hX rk Ok hO n m y o2 h2 (by omega) (by omega)
      have hk : madeIn (rowsOf P x) o = none := by
        cases e : madeIn (rowsOf P x) o with
        | none => rfl
        | some k => rw [onw_none e] at h1; cases h1
      refine ⟨z, o3, ?_, i2, k, i3, by unfold mkrF; rw [hk, h1]; exact i4⟩
      have On := fun s => p_onward_c hX h1 s
      rw [hk] at M
      simp only [eOi] at M
      simp_all! only [whl_cz, p_maker_w1, M, p_maker_b1, On, i1]
theorem p_maker_c {X : D} {P : List Part} (hX : SeqD X (ePs P)) (rk : Nm → Nm → Nat) (Ok : Nm → Nm → Prop)
    (hO : ∀ x o, Ok x o → (∃ k, madeIn (rowsOf P x) o = some k) ∨ ∃ y o2, onw P x o = some (y, o2) ∧ Ok y o2 ∧ rk y o2 < rk x o) (x o : Nm) (h : Ok x o) (hr : rk x o < 1000) :
    (∀ s, callP p_maker [.d X, .d (.str x), .d (.str o)] s = .ok (.d (.tup [.str (makerL P x o).1, .int ((makerL P x o).2 : Nat)]), s)) ∧ ∃ o2, Ok (makerL P x o).1 o2 ∧ madeIn (rowsOf P (makerL P x o).1) o2 = some (makerL P x o).2 := by
  obtain ⟨y, o2, h1, h2, k, h3, h4⟩ := maker_w hX rk Ok hO 1000 TURNS x o h hr (by unfold TURNS; omega)
  have e : makerL P x o = (y, k) := h4
  rw [e]
  refine ⟨fun s => ?_, o2, h2, h3⟩
  have M := fun s => p_made_in_c hX y o2 s
  rw [h3] at M
  simp only [eOi] at M
  simp_all! only [p_maker, p_maker_r1, sWhl_ap, h1, M]
theorem madeIn_mem {rs : List Row} {o : Nm} {k : Nat} (h : madeIn rs o = some k) : k < rs.length ∧ ∃ r, rs[k]? = some r ∧ mkT r = some o := by
  unfold madeIn at h
  obtain ⟨h1, h2, _⟩ := List.findIdx?_eq_some_iff_getElem.mp h
  exact ⟨h1, rs[k], List.getElem?_eq_getElem h1, of_decide_eq_true h2⟩
theorem madeIn_none {rs : List Row} {o : Nm} (h : madeIn rs o = none) : ∀ r ∈ rs, mkT r ≠ some o := fun r hr e => by
  unfold madeIn at h
  have := List.findIdx?_eq_none_iff.mp h r hr
  simp [e] at this

noncomputable def p_sum_names_r1 (e : Env) (s : Sto) : R O := (sAsg (gN 1) (e2 oAdd (eV 1) (eK (.int 2)))) e s
noncomputable def p_sum_names_b1 (e : Env) (s : Sto) : R O := (sKill [3, 4] (sSeq (sIf (tB (e1 (isI .str) (eV 4))) (sX (m1 isL lAppend (eV 2) (eN fTup [(eV 1), (eV 4)]))) sSkip) p_sum_names_r1)) e s
noncomputable def p_sum_names_r2 (e : Env) (s : Sto) : R O := (sRet (eV 2)) e s
def p_sum_names_u := And.intro @p_sum_names_r1.eq_1 (And.intro @p_sum_names_b1.eq_1 (And.intro @p_sum_names_r2.eq_1 True.intro))
noncomputable def p_sum_names : Fn := mkF 5 (sSeq (sAsg (gN 2) (eN fLstC [])) (sSeq (sFor (iSeq (eV 0)) (gT [(gN 3), (gN 4)]) p_sum_names_b1) p_sum_names_r2))
noncomputable def p_read_names_r1 (e : Env) (s : Sto) : R O := (sRet (e1 bTup (eV 1))) e s
noncomputable def p_read_names_r2 (e : Env) (s : Sto) : R O := (sRet (eN fTup [])) e s
noncomputable def p_read_names_r3 (e : Env) (s : Sto) : R O := (sSeq (sIf (tAnd (tB (e2 (d2 cEq) (e2 oIx (eV 0) (eK (.int 0))) (eK (.str [97, 115, 107])))) (tB (e1 cNotN (e2 oIx (eV 0) (eK (.int 2)))))) (sRet (eN fTup [(eN fTup [(eK (.int 3)), (e2 oIx (eV 0) (eK (.int 2)))])])) sSkip) p_read_names_r2) e s
noncomputable def p_read_names_r4 (e : Env) (s : Sto) : R O := (sSeq (sIf (tB (e2 (d2 cEq) (e2 oIx (eV 0) (eK (.int 0))) (eK (.str [115, 97, 121])))) (sSeq (sAsg (gN 1) (eN (callP p_sum_names) [(e2 oIx (eV 0) (eK (.int 1))), (eK (.int 1))])) (sSeq (sIf (tB (e1 cNotN (e2 oIx (eV 0) (eK (.int 2))))) (sAsg (gN 1) (e2 oAdd (eN fLst [(eN fTup [(e2 oAdd (e2 (d2 oMul) (eK (.int 2)) (e1 bLen (e2 oIx (eV 0) (eK (.int 1))))) (eK (.int 1))), (e2 oIx (eV 0) (eK (.int 2)))])]) (eV 1))) sSkip) p_read_names_r1)) sSkip) p_read_names_r3) e s
noncomputable def p_read_names_r5 (e : Env) (s : Sto) : R O := (sSeq (sIf (tB (e2 (d2 cEq) (e2 oIx (eV 0) (eK (.int 0))) (eK (.str [110, 101, 101, 100])))) (sRet (e1 bTup (eN (callP p_sum_names) [(e2 oIx (eV 0) (eK (.int 1))), (eK (.int 1))]))) sSkip) p_read_names_r4) e s
def p_read_names_u := And.intro @p_read_names_r1.eq_1 (And.intro @p_read_names_r2.eq_1 (And.intro @p_read_names_r3.eq_1 (And.intro @p_read_names_r4.eq_1 (And.intro @p_read_names_r5.eq_1 True.intro))))
noncomputable def p_read_names : Fn := mkF 2 (sSeq (sIf (tB (e2 (d2 cEq) (e2 oIx (eV 0) (eK (.int 0))) (eK (.str [115, 101, 116])))) (sRet (e1 bTup (eN (callP p_sum_names) [(e2 oIx (eV 0) (eK (.int 2))), (eK (.int 3))]))) sSkip) p_read_names_r5)
/-! the terms' names -/
def sumN : Int → List (Int × Th) → List (Int × Nm)
  | _, [] => []
  | a, (_, .nm z) :: r => (a, z) :: sumN (a + 2) r
  | a, (_, .num _) :: r => sumN (a + 2) r
def nmsT (t : List (Int × Th)) : List Nm := t.filterMap fun q => match q.2 with | .nm z => some z | .num _ => none
theorem sumN_nms : ∀ (t : List (Int × Th)) (a : Int), (sumN a t).map (·.2) = nmsT t
  | [], _ => rfl
  | (s, .nm z) :: r, a => by
    show z :: (sumN (a + 2) r).map (·.2) = z :: nmsT r
    rw [sumN_nms r]
  | (s, .num i) :: r, a => by
    show (sumN (a + 2) r).map (·.2) = nmsT r
    rw [sumN_nms r]
theorem sumN_len : ∀ (t : List (Int × Th)) (a : Int), (sumN a t).length ≤ t.length
  | [], _ => Nat.le_refl _
  | (s, .nm z) :: r, a => by have := sumN_len r (a + 2); simp only [sumN, List.length_cons]; omega
  | (s, .num i) :: r, a => by have := sumN_len r (a + 2); simp only [sumN, List.length_cons]; omega
def ePN (p : Int × Nm) : D := .tup [.int p.1, .str p.2]
theorem sum_l (w0 : Option W) : ∀ (t : List (Int × Th)) (a : Int) (acc : List (Int × Nm)), acc.length + t.length ≤ 1000 → ∃ a2 : Int, loop (gT [gN 3, gN 4]) p_sum_names_b1 (ws (t.map eTm)) [w0, ei a, el 0, e_, e_] [.l (acc.map ePN)] = .ok (.nx [w0, ei a2, el 0, e_, e_] [.l ((acc ++ sumN a t).map ePN)])
  | [], a, acc, _ => ⟨a, by simp only [List.map_nil, ws_nil, loop_nil, sumN, List.append_nil]⟩
  | (s, .nm z) :: r, a, acc, h => by
    simp only [List.length_cons] at h
    obtain ⟨a2, ih⟩ := sum_l w0 r (a + 2) (acc ++ [(a, z)]) (by simp; omega)
    refine ⟨a2, ?_⟩
    have e : (acc ++ [(a, z)]).map ePN = acc.map ePN ++ [.tup [.int a, .str z]] := by simp [ePN]
    have e2 : acc ++ sumN a ((s, .nm z) :: r) = acc ++ [(a, z)] ++ sumN (a + 2) r := by simp [sumN]
    rw [e2]
    rw [e] at ih
    have fl : (acc.map ePN).length < 16777216 := by simp; omega
    simp_all! only [List.map_cons, loop_cz, eTm, eTh, p_sum_names_b1, p_sum_names_r1, fl, ih]
  | (s, .num i) :: r, a, acc, h => by
    simp only [List.length_cons] at h
    obtain ⟨a2, ih⟩ := sum_l w0 r (a + 2) acc (by omega)
    refine ⟨a2, ?_⟩
    have e2 : acc ++ sumN a ((s, .num i) :: r) = acc ++ sumN (a + 2) r := rfl
    rw [e2]
    simp_all! only [List.map_cons, loop_cz, eTm, eTh, p_sum_names_b1, p_sum_names_r1, ih]
theorem p_sum_names_c (t : List (Int × Th)) (h : t.length ≤ 100) (a : Int) (s : Sto) : callP p_sum_names [.d (.tup (t.map eTm)), .d (.int a)] s = .ok (.d (.lst ((sumN a t).map ePN)), s) := by
  obtain ⟨a2, L⟩ := sum_l (ed (.tup (t.map eTm))) t a [] (by simp; omega)
  simp only [List.map_nil, List.nil_append] at L
  simp_all! only [p_sum_names, p_sum_names_r2, L]
/-- the names that a row reads, each with its word -/
def rdN : Row → List (Int × Nm)
  | .set _ t => sumN 3 t
  | .need t => sumN 1 t
  | .say t (some z) => (2 * (t.length : Int) + 1, z) :: sumN 1 t
  | .say t none => sumN 1 t
  | .ask _ (some z) => [(3, z)]
  | _ => []
def tmL : Row → List (Int × Th)
  | .set _ t => t | .need t => t | .say t _ => t | _ => []
theorem p_read_names_c (r : Row) (h : (tmL r).length ≤ 100) (s : Sto) : callP p_read_names [.d (eRow r)] s = .ok (.d (.tup ((rdN r).map ePN)), s) := by
  cases r with
  | set o t =>
    have A := fun a s => p_sum_names_c t h a s
    simp only [eRow, rdN]
    simp_all! only [p_read_names, A]
  | need t =>
    have A := fun a s => p_sum_names_c t h a s
    simp only [eRow, rdN]
    simp_all! only [p_read_names, p_read_names_r5, A]
  | say t w =>
    have A := fun a s => p_sum_names_c t h a s
    have hs := sumN_len t 1
    have ht : t.length ≤ 100 := h
    have fl : ((sumN 1 t).map ePN).length ≤ 16777216 - 1 := by simp; omega
    have fl2 : 1 + ((sumN 1 t).map ePN).length ≤ 16777216 := by omega
    cases w with
    | none =>
      simp only [eRow, rdN, eOn]
      simp_all! only [p_read_names, p_read_names_r5, p_read_names_r4, p_read_names_r1, A]
    | some z =>
      simp only [eRow, rdN, eOn]
      simp_all! only [p_read_names, p_read_names_r5, p_read_names_r4, p_read_names_r1, A, List.length_map, List.map_cons, ePN, fl, fl2]
  | ask p w =>
    cases w with
    | none =>
      simp only [eRow, rdN, eOn]
      simp_all! only [p_read_names, p_read_names_r5, p_read_names_r4, p_read_names_r3, p_read_names_r2, List.map_nil]
    | some z =>
      simp only [eRow, rdN, eOn]
      simp_all! only [p_read_names, p_read_names_r5, p_read_names_r4, p_read_names_r3, List.map_cons, List.map_nil, ePN]
  | _ =>
    simp only [eRow, rdN]
    simp_all! only [p_read_names, p_read_names_r5, p_read_names_r4, p_read_names_r3, p_read_names_r2, List.map_nil]

noncomputable def p_value_of_b1 (e : Env) (s : Sto) : R O := (sKill [3, 4] (sIf (tB (e1 (isI .str) (eV 4))) (sAsg (gN 2) (e2 (d2 oAddI) (eV 2) (e2 (d2 oMul) (eV 3) (e2 oIx (eV 1) (eV 4))))) (sAsg (gN 2) (e2 (d2 oAddI) (eV 2) (e2 (d2 oMul) (eV 3) (eV 4)))))) e s
noncomputable def p_value_of_r1 (e : Env) (s : Sto) : R O := (sRet (eV 2)) e s
def p_value_of_u := And.intro @p_value_of_b1.eq_1 (And.intro @p_value_of_r1.eq_1 True.intro)
noncomputable def p_value_of : Fn := mkF 5 (sSeq (sAsg (gN 2) (eK (.int 0))) (sSeq (sFor (iSeq (eV 0)) (gT [(gN 3), (gN 4)]) p_value_of_b1) p_value_of_r1))
noncomputable def p_when_of_r1 (e : Env) (s : Sto) : R O := (sRet (eK .non)) e s
def p_when_of_u := And.intro @p_when_of_r1.eq_1 True.intro
noncomputable def p_when_of : Fn := mkF 1 (sSeq (sIf (tOr (tB (e2 (d2 cEq) (e2 oIx (eV 0) (eK (.int 0))) (eK (.str [115, 97, 121])))) (tB (e2 (d2 cEq) (e2 oIx (eV 0) (eK (.int 0))) (eK (.str [97, 115, 107]))))) (sRet (e2 oIx (eV 0) (eK (.int 2)))) sSkip) p_when_of_r1)
noncomputable def m_Trail___init__K : Fn := mkK 2 (sSeq (sFldS 0 [110, 117, 109, 98, 101, 114, 115] (eV 0) (eV 1)) (sSeq (sFldS 0 [116, 97, 107, 101, 110] (eV 0) (eK (.int 0))) (sSeq (sFldS 0 [107, 110, 111, 119, 110] (eV 0) (eDct true)) (sSeq (sFldS 0 [98, 101, 103, 117, 110] (eV 0) (eDct false)) (sSeq (sFldS 0 [108, 111, 97, 100, 101, 100] (eV 0) (eDct false)) (sSeq (sFldS 0 [116, 114, 97, 99, 101] (eV 0) (eN fLstC [])) (sFldS 0 [102, 97, 117, 108, 116] (eV 0) (eK .non))))))))
noncomputable def m_Trail_take_r1 (e : Env) (s : Sto) : R O := (sSeq (sFldA 0 [116, 97, 107, 101, 110] (eV 0) (eK (.int 1))) (sRet (e2 oIx (eFld 0 [110, 117, 109, 98, 101, 114, 115] (eV 0)) (e2 (d2 oSub) (eFld 0 [116, 97, 107, 101, 110] (eV 0)) (eK (.int 1)))))) e s
def m_Trail_take_u := And.intro @m_Trail_take_r1.eq_1 True.intro
noncomputable def m_Trail_take : Fn := mkF 1 (sSeq (sIf (tB (e2 (d2 cGe) (eFld 0 [116, 97, 107, 101, 110] (eV 0)) (e1 bLen (eFld 0 [110, 117, 109, 98, 101, 114, 115] (eV 0))))) (sRet (eK (.int 0))) sSkip) m_Trail_take_r1)
noncomputable def m_Trail_load_b1 (e : Env) (s : Sto) : R O := (sKill [2] (sIf (tB (e2 (d2 cNin) (eV 2) (eFld 0 [108, 111, 97, 100, 101, 100] (eV 0)))) (sSeq (sAsg (gSb (eFld 0 [108, 111, 97, 100, 101, 100] (eV 0)) (eV 2)) (eK (.bl true))) (sX (m1 isL lAppend (eFld 0 [116, 114, 97, 99, 101] (eV 0)) (eN fTup [(eK (.str [108, 111, 97, 100])), (eV 2)])))) sSkip)) e s
def m_Trail_load_u := And.intro @m_Trail_load_b1.eq_1 True.intro
noncomputable def m_Trail_load : Fn := mkF 3 (sFor (iSeq (eV 1)) (gN 2) m_Trail_load_b1)
noncomputable def m_PartsWalk___init__K : Fn := mkK 2 (sFldS 1 [112, 97, 114, 116, 115] (eV 0) (eV 1))
noncomputable def m_PartsWalk_rows_of_c1 (e : Env) (s : Sto) : VS := (eN fTup [(eV 1), (eV 4), (e2 oIx (eV 3) (eV 4))]) e s
noncomputable def m_PartsWalk_rows_of_b1 (e : Env) (s : Sto) : R O := (sKill [2, 3] (sIf (tB (e2 (d2 cEq) (eV 2) (eV 1))) (sRet (e1 bTup (eComp (iR1 (e1 bLen (eV 3))) (gN 4) tYes m_PartsWalk_rows_of_c1 [4]))) sSkip)) e s
noncomputable def m_PartsWalk_rows_of_r1 (e : Env) (s : Sto) : R O := (sRet (eN fTup [])) e s
def m_PartsWalk_rows_of_u := And.intro @m_PartsWalk_rows_of_c1.eq_1 (And.intro @m_PartsWalk_rows_of_b1.eq_1 (And.intro @m_PartsWalk_rows_of_r1.eq_1 True.intro))
noncomputable def m_PartsWalk_rows_of : Fn := mkF 5 (sSeq (sFor (iSeq (eFld 1 [112, 97, 114, 116, 115] (eV 0))) (gT [(gN 2), (gN 3)]) m_PartsWalk_rows_of_b1) m_PartsWalk_rows_of_r1)
noncomputable def m_PartsWalk_key_of : Fn := mkF 3 (sRet (eN (callP p_maker) [(eFld 1 [112, 97, 114, 116, 115] (eV 0)), (eV 1), (eV 2)]))
noncomputable def m_PartsWalk_loads_of : Fn := mkF 2 (sRet (eN fTup []))
noncomputable def m_PartsWalk_ahead_of : Fn := mkF 2 (sRet (eN fTup []))
noncomputable def m_PartsWalk_found_by_r1 (e : Env) (s : Sto) : R O := (sSeq (sAsg (gSb (eV 5) (eV 8)) (e2 oIx (eFld 0 [107, 110, 111, 119, 110] (eV 1)) (eV 9))) (sIf (tAnd (tB (e2 (d2 cEq) (eV 8) (eV 6))) (tB (e2 (d2 cLe) (e2 oIx (eV 5) (eV 8)) (eK (.int 0))))) (sRet (eK .non)) sSkip)) e s
noncomputable def m_PartsWalk_found_by_b1 (e : Env) (s : Sto) : R O := (sKill [7, 8, 9] (sSeq (sAsg (gN 9) (eMeth 1 [107, 101, 121, 95, 111, 102] m_PartsWalk_key_of (eV 0) [(eV 2), (eV 8)])) (sSeq (sIf (tB (e2 (d2 cNin) (eV 9) (eFld 0 [107, 110, 111, 119, 110] (eV 1)))) (sSeq (sFldS 0 [102, 97, 117, 108, 116] (eV 1) (eN fTup [(eK (.str [101, 97, 114, 108, 121])), (e2 oIx (eV 3) (eK (.int 0))), (e2 oIx (eV 3) (eK (.int 1))), (eV 7)])) (sRet (eK .non))) sSkip) m_PartsWalk_found_by_r1))) e s
noncomputable def m_PartsWalk_found_by_r2 (e : Env) (s : Sto) : R O := (sRet (eV 5)) e s
def m_PartsWalk_found_by_u := And.intro @m_PartsWalk_found_by_r1.eq_1 (And.intro @m_PartsWalk_found_by_b1.eq_1 (And.intro @m_PartsWalk_found_by_r2.eq_1 True.intro))
noncomputable def m_PartsWalk_found_by : Fn := mkF 10 (sSeq (sAsg (gN 5) (eDct false)) (sSeq (sAsg (gN 6) (eN (callP p_when_of) [(eV 4)])) (sSeq (sFor (iSeq (eN (callP p_read_names) [(eV 4)])) (gT [(gN 7), (gN 8)]) m_PartsWalk_found_by_b1) m_PartsWalk_found_by_r2)))
noncomputable def m_PartsWalk_done_r1 (n : Fn) (e : Env) (s : Sto) : R O := (sX (eMeth 1 [98, 101, 103, 105, 110] n (eV 0) [(eV 1), (e2 oIx (eV 4) (eK (.int 1)))])) e s
def m_PartsWalk_done_u := And.intro @m_PartsWalk_done_r1.eq_1 True.intro
noncomputable def m_PartsWalk_done (n : Fn) : Fn := mkF 8 (sSeq (sAsg (gN 6) (e2 oIx (eV 4) (eK (.int 0)))) (sIf (tB (e2 (d2 cEq) (eV 6) (eK (.str [115, 101, 116])))) (sAsg (gSb (eFld 0 [107, 110, 111, 119, 110] (eV 1)) (eMeth 1 [107, 101, 121, 95, 111, 102] m_PartsWalk_key_of (eV 0) [(eV 2), (e2 oIx (eV 4) (eK (.int 1)))])) (eN (callP p_value_of) [(e2 oIx (eV 4) (eK (.int 2))), (eV 5)])) (sIf (tB (e2 (d2 cEq) (eV 6) (eK (.str [116, 97, 107, 101])))) (sSeq (sAsg (gN 7) (eMeth 0 [116, 97, 107, 101] m_Trail_take (eV 1) [])) (sSeq (sAsg (gSb (eFld 0 [107, 110, 111, 119, 110] (eV 1)) (eMeth 1 [107, 101, 121, 95, 111, 102] m_PartsWalk_key_of (eV 0) [(eV 2), (e2 oIx (eV 4) (eK (.int 1)))])) (eV 7)) (sX (m1 isL lAppend (eFld 0 [116, 114, 97, 99, 101] (eV 1)) (eN fTup [(eK (.str [116, 97, 107, 101])), (eV 7), (e2 oIx (eV 3) (eK (.int 0))), (e2 oIx (eV 3) (eK (.int 1)))]))))) (sIf (tB (e2 (d2 cEq) (eV 6) (eK (.str [115, 97, 121])))) (sX (m1 isL lAppend (eFld 0 [116, 114, 97, 99, 101] (eV 1)) (eN fTup [(eK (.str [115, 97, 121])), (eN (callP p_value_of) [(e2 oIx (eV 4) (eK (.int 1))), (eV 5)]), (e2 oIx (eV 3) (eK (.int 0))), (e2 oIx (eV 3) (eK (.int 1)))]))) (sIf (tB (e2 (d2 cEq) (eV 6) (eK (.str [110, 101, 101, 100])))) (sIf (tB (e2 (d2 cLe) (eN (callP p_value_of) [(e2 oIx (eV 4) (eK (.int 1))), (eV 5)]) (eK (.int 0)))) (sFldS 0 [102, 97, 117, 108, 116] (eV 1) (eN fTup [(eK (.str [110, 101, 101, 100])), (e2 oIx (eV 3) (eK (.int 0))), (e2 oIx (eV 3) (eK (.int 1))), (eK (.int 0))])) sSkip) (sIf (tB (e2 (d2 cEq) (eV 6) (eK (.str [97, 115, 107])))) (sSeq (sIf (tB (e2 (d2 cNin) (e2 oIx (eV 4) (eK (.int 1))) (eFld 0 [98, 101, 103, 117, 110] (eV 1)))) (sX (eMeth 0 [108, 111, 97, 100] m_Trail_load (eV 1) [(eMeth 1 [108, 111, 97, 100, 115, 95, 111, 102] m_PartsWalk_loads_of (eV 0) [(e2 oIx (eV 4) (eK (.int 1)))])])) sSkip) (m_PartsWalk_done_r1 n)) (sIf (tB (e2 (d2 cIn) (eV 6) (eN fTup [(eK (.str [98, 114, 105, 110, 103])), (eK (.str [100, 111]))]))) (sX (eMeth 1 [98, 101, 103, 105, 110] n (eV 0) [(eV 1), (e2 oIx (eV 4) (eK (.int 1)))])) sSkip)))))))
noncomputable def m_PartsWalk_begin_r1 (n : Fn) (e : Env) (s : Sto) : R O := (sIf (tB (e1 cNotN (eFld 0 [102, 97, 117, 108, 116] (eV 1)))) sRetN sSkip) e s
noncomputable def m_PartsWalk_begin_b1 (n : Fn) (e : Env) (s : Sto) : R O := (sKill [3, 4, 5, 6] (sSeq (sAsg (gN 6) (eMeth 1 [102, 111, 117, 110, 100, 95, 98, 121] m_PartsWalk_found_by (eV 0) [(eV 1), (eV 2), (eN fTup [(eV 3), (eV 4)]), (eV 5)])) (sSeq (sIf (tB (e1 cNotN (eV 6))) (sX (eMeth 1 [100, 111, 110, 101] (m_PartsWalk_done n) (eV 0) [(eV 1), (eV 2), (eN fTup [(eV 3), (eV 4)]), (eV 5), (eV 6)])) sSkip) (m_PartsWalk_begin_r1 n)))) e s
noncomputable def m_PartsWalk_begin_r2 (n : Fn) (e : Env) (s : Sto) : R O := (sSeq (sAsg (gSb (eFld 0 [98, 101, 103, 117, 110] (eV 1)) (eV 2)) (eK (.bl true))) (sFor (iSeq (eMeth 1 [114, 111, 119, 115, 95, 111, 102] m_PartsWalk_rows_of (eV 0) [(eV 2)])) (gT [(gN 3), (gN 4), (gN 5)]) (m_PartsWalk_begin_b1 n))) e s
def m_PartsWalk_begin_u := And.intro @m_PartsWalk_begin_r1.eq_1 (And.intro @m_PartsWalk_begin_b1.eq_1 (And.intro @m_PartsWalk_begin_r2.eq_1 True.intro))
noncomputable def m_PartsWalk_begin_s (n : Fn) : Fn := mkF 7 (sSeq (sIf (tB (e2 (d2 cIn) (eV 2) (eFld 0 [98, 101, 103, 117, 110] (eV 1)))) sRetN sSkip) (m_PartsWalk_begin_r2 n))
noncomputable def m_PartsWalk_begin : Nat → Fn
  | 0 => fun _ _ => .stuck
  | n + 1 => m_PartsWalk_begin_s (m_PartsWalk_begin n)
noncomputable def m_PartsWalk_go : Fn := mkF 4 (sSeq (sAsg (gN 3) (eMake 0 m_Trail___init__K [(eV 2)])) (sSeq (sX (eMeth 0 [108, 111, 97, 100] m_Trail_load (eV 3) [(eMeth 1 [108, 111, 97, 100, 115, 95, 111, 102] m_PartsWalk_loads_of (eV 0) [(eV 1)])])) (sSeq (sX (eMeth 0 [108, 111, 97, 100] m_Trail_load (eV 3) [(eMeth 1 [97, 104, 101, 97, 100, 95, 111, 102] m_PartsWalk_ahead_of (eV 0) [(eV 1)])])) (sSeq (sX (eMeth 1 [98, 101, 103, 105, 110] (m_PartsWalk_begin 30) (eV 0) [(eV 3), (eV 1)])) (sRet (eN fTup [(e1 bTup (eFld 0 [116, 114, 97, 99, 101] (eV 3))), (eFld 0 [102, 97, 117, 108, 116] (eV 3))]))))))
noncomputable def p_run : Fn := mkF 3 (sRet (eMeth 1 [103, 111] m_PartsWalk_go (eMake 1 m_PartsWalk___init__K [(eV 0)]) [(eV 1), (eV 2)]))
/-! ### the walk: the store of a run -/
structure Tr where
  tk : Nat
  kn : List ((Nm × Int) × Int)
  bg : List Nm
  tc : List D
  ft : D
def trF (t : Nat) (N : List Int) (tk : Nat) (ft : D) : List (List Nat × W) := [([110, 117, 109, 98, 101, 114, 115], .d (.tup (N.map .int))), ([116, 97, 107, 101, 110], .d (.int (tk : Nat))), ([107, 110, 111, 119, 110], .loc (t + 1)), ([98, 101, 103, 117, 110], .loc (t + 2)), ([108, 111, 97, 100, 101, 100], .loc (t + 3)), ([116, 114, 97, 99, 101], .loc (t + 4)), ([102, 97, 117, 108, 116], .d ft)]
section
variable (t : Nat) (N : List Int) (tk : Nat) (ft : D) (s : Sto)
theorem tf_num : fldW [110, 117, 109, 98, 101, 114, 115] (trF t N tk ft) s = .ok (.d (.tup (N.map .int)), s) := rfl
theorem tf_tk : fldW [116, 97, 107, 101, 110] (trF t N tk ft) s = .ok (.d (.int (tk : Nat)), s) := rfl
theorem tf_kn : fldW [107, 110, 111, 119, 110] (trF t N tk ft) s = .ok (.loc (t + 1), s) := rfl
theorem tf_bg : fldW [98, 101, 103, 117, 110] (trF t N tk ft) s = .ok (.loc (t + 2), s) := rfl
theorem tf_ld : fldW [108, 111, 97, 100, 101, 100] (trF t N tk ft) s = .ok (.loc (t + 3), s) := rfl
theorem tf_tc : fldW [116, 114, 97, 99, 101] (trF t N tk ft) s = .ok (.loc (t + 4), s) := rfl
theorem tf_ft : fldW [102, 97, 117, 108, 116] (trF t N tk ft) s = .ok (.d ft, s) := rfl
theorem tp_tk (i : Nat) : putB [116, 97, 107, 101, 110] (.d (.int (i : Nat))) (trF t N tk ft) = trF t N i ft := rfl
theorem tp_ft (g : D) : putB [102, 97, 117, 108, 116] (.d g) (trF t N tk ft) = trF t N tk g := rfl
theorem tl_len : (trF t N tk ft).length = 7 := rfl
theorem tm_take : ((trF t N tk ft).lookup [116, 97, 107, 101]).isNone = true := rfl
theorem tm_load : ((trF t N tk ft).lookup [108, 111, 97, 100]).isNone = true := rfl
end
def tfs := And.intro @tf_num (And.intro @tf_tk (And.intro @tf_kn (And.intro @tf_bg (And.intro @tf_ld (And.intro @tf_tc (And.intro @tf_ft (And.intro @tp_tk (And.intro @tp_ft (And.intro @tl_len (And.intro @tm_take (And.intro @tm_load True.intro)))))))))))
def TS (s0 : Sto) (N : List Int) (tk : Nat) (kn : List ((Nm × Int) × Int)) (bg : List Nm) (tc : List D) (ft : D) (u : Sto) : Sto := s0 ++ (.o 0 (trF s0.length N tk ft) :: .m true (dctE kSI .int kn) :: .m false (sD bg) :: .m false [] :: .l tc :: u)
section
variable (s0 : Sto) (N : List Int) (tk : Nat) (kn : List ((Nm × Int) × Int)) (bg : List Nm) (tc : List D) (ft : D) (u : Sto)
theorem ts_0 : (TS s0 N tk kn bg tc ft u)[s0.length]? = some (.o 0 (trF s0.length N tk ft)) := by unfold TS; simp
theorem ts_o : objO 0 (.loc s0.length) (TS s0 N tk kn bg tc ft u) = .ok (s0.length, trF s0.length N tk ft) := by unfold objO; simp only [ts_0]; rfl
theorem ts_w {a : Nat} {c : Nat} {fs : List (List Nat × W)} (h : s0[a]? = some (.o c fs)) : objO c (.loc a) (TS s0 N tk kn bg tc ft u) = .ok (a, fs) := by
  have h2 := (List.getElem?_eq_some_iff.mp h).1
  have : (TS s0 N tk kn bg tc ft u)[a]? = some (.o c fs) := by unfold TS; rw [List.getElem?_append_left h2]; exact h
  unfold objO; simp [this]
theorem app_at {α : Type} (l m : List α) (i : Nat) : (l ++ m)[l.length + i]? = m[i]? := by
  rw [List.getElem?_append_right (by omega)]; congr 1; omega
theorem ts_1 : (TS s0 N tk kn bg tc ft u)[s0.length + 1]? = some (.m true (dctE kSI .int kn)) := by unfold TS; rw [app_at]; rfl
theorem ts_2 : (TS s0 N tk kn bg tc ft u)[s0.length + 2]? = some (.m false (sD bg)) := by unfold TS; rw [app_at]; rfl
theorem ts_3 : (TS s0 N tk kn bg tc ft u)[s0.length + 3]? = some (.m false []) := by unfold TS; rw [app_at]; rfl
theorem ts_4 : (TS s0 N tk kn bg tc ft u)[s0.length + 4]? = some (.l tc) := by unfold TS; rw [app_at]; rfl
theorem ts_5 (c : C) : (TS s0 N tk kn bg tc ft (c :: u))[s0.length + 5]? = some c := by unfold TS; rw [app_at]; rfl
theorem app_set {α : Type} (l m : List α) (i : Nat) (x : α) : (l ++ m).set (l.length + i) x = l ++ m.set i x := by
  rw [List.set_append, if_neg (by omega), Nat.add_sub_cancel_left]
theorem tt_0 (tk2 : Nat) (ft2 : D) : (TS s0 N tk kn bg tc ft u).set s0.length (.o 0 (trF s0.length N tk2 ft2)) = TS s0 N tk2 kn bg tc ft2 u := by
  unfold TS; have := app_set s0 (.o 0 (trF s0.length N tk ft) :: .m true (dctE kSI .int kn) :: .m false (sD bg) :: .m false [] :: .l tc :: u) 0 (.o 0 (trF s0.length N tk2 ft2)); rw [Nat.add_zero] at this; rw [this]; rfl
theorem tt_1 (kn2 : List ((Nm × Int) × Int)) : (TS s0 N tk kn bg tc ft u).set (s0.length + 1) (.m true (dctE kSI .int kn2)) = TS s0 N tk kn2 bg tc ft u := by unfold TS; rw [app_set]; rfl
theorem tt_2 (bg2 : List Nm) : (TS s0 N tk kn bg tc ft u).set (s0.length + 2) (.m false (sD bg2)) = TS s0 N tk kn bg2 tc ft u := by unfold TS; rw [app_set]; rfl
theorem tt_4 (tc2 : List D) : (TS s0 N tk kn bg tc ft u).set (s0.length + 4) (.l tc2) = TS s0 N tk kn bg tc2 ft u := by unfold TS; rw [app_set]; rfl
theorem tt_5 (c c2 : C) : (TS s0 N tk kn bg tc ft (c :: u)).set (s0.length + 5) c2 = TS s0 N tk kn bg tc ft (c2 :: u) := by unfold TS; rw [app_set]; rfl
theorem ts_app (v : Sto) : TS s0 N tk kn bg tc ft u ++ v = TS s0 N tk kn bg tc ft (u ++ v) := by unfold TS; simp
theorem ts_len : (TS s0 N tk kn bg tc ft u).length = s0.length + 5 + u.length := by unfold TS; simp; omega
end
mutual
theorem cl_mono {m n : Nat} (h : m ≤ n) : ∀ w : W, cl m w = true → cl n w = true
  | .d _, _ => rfl
  | .loc k, e => by simp only [cl, decide_eq_true_eq] at e ⊢; omega
  | .tw l, e => cls_mono h l e
theorem cls_mono {m n : Nat} (h : m ≤ n) : ∀ l : List W, cls m l = true → cls n l = true
  | [], _ => rfl
  | w :: r, e => by
    simp only [cls, Bool.and_eq_true] at e ⊢
    exact ⟨cl_mono h w e.1, cls_mono h r e.2⟩
end
theorem clS_mono {m n : Nat} (h : m ≤ n) {s : Sto} (e : clS m s = true) : clS n s = true := by
  unfold clS at e ⊢
  rw [List.all_eq_true] at e ⊢
  intro c hc
  have := e c hc
  cases c <;> simp only [clC] at this ⊢ <;> exact cls_mono h _ this
theorem ts_cl {s0 : Sto} (h : clS s0.length s0 = true) (N : List Int) (tk : Nat) (kn : List ((Nm × Int) × Int)) (bg : List Nm) (tc : List D) (ft : D) : clS (TS s0 N tk kn bg tc ft []).length (TS s0 N tk kn bg tc ft []) = true := by
  rw [ts_len]
  have h1 := clS_mono (n := s0.length + 5 + ([] : Sto).length) (by omega) h
  unfold clS at h1 ⊢
  unfold TS
  rw [List.all_append, h1]
  simp [clC, trF, cls, cl]

/-! ### plain parts -/
def thV (th : List (Nm × Int)) : Th → Int
  | .num i => i | .nm z => (dGet th z).getD 0
def valT (th : List (Nm × Int)) (t : List (Int × Th)) : Int := t.foldl (fun a q => a + q.1 * thV th q.2) 0
theorem val_l (w0 : Option W) (th : List (Nm × Int)) : ∀ (t : List (Int × Th)) (a : Int), (∀ q ∈ t, small q.1 = true) → (∀ z ∈ nmsT t, (dGet th z).isSome = true) →
    loop (gT [gN 3, gN 4]) p_value_of_b1 (ws (t.map eTm)) [w0, ed (.dct false (dctE kS .int th)), ei a, e_, e_] [] = .ok (.nx [w0, ed (.dct false (dctE kS .int th)), ei (t.foldl (fun a q => a + q.1 * thV th q.2) a), e_, e_] [])
  | [], a, _, _ => rfl
  | (g, .num i) :: r, a, hs, hn => by
    have ih := val_l w0 th r (a + g * i) (fun q hq => hs q (List.mem_cons_of_mem _ hq)) hn
    have m := oMul_l g i (hs _ List.mem_cons_self)
    have e : ((g, Th.num i) :: r).foldl (fun a q => a + q.1 * thV th q.2) a = r.foldl (fun a q => a + q.1 * thV th q.2) (a + g * i) := rfl
    rw [e]
    simp_all! only [List.map_cons, loop_cz, eTm, eTh, p_value_of_b1, m, ih]
  | (g, .nm z) :: r, a, hs, hn => by
    have hz : (dGet th z).isSome = true := hn z (by unfold nmsT; rw [List.filterMap_cons]; exact List.mem_cons_self)
    obtain ⟨v, hv⟩ := Option.isSome_iff_exists.mp hz
    have ih := val_l w0 th r (a + g * v) (fun q hq => hs q (List.mem_cons_of_mem _ hq)) fun y hy => hn y (by unfold nmsT at hy ⊢; rw [List.filterMap_cons]; exact List.mem_cons_of_mem _ hy)
    have m := oMul_l g v (hs _ List.mem_cons_self)
    have e : ((g, Th.nm z) :: r).foldl (fun a q => a + q.1 * thV th q.2) a = r.foldl (fun a q => a + q.1 * thV th q.2) (a + g * v) := by
      show r.foldl _ (a + g * thV th (.nm z)) = _
      have : thV th (.nm z) = v := by show (dGet th z).getD 0 = v; rw [hv]; rfl
      rw [this]
    have ix := fun s => ixM_E (ev := D.int) keyS hv s
    rw [e]
    simp_all! only [List.map_cons, loop_cz, eTm, eTh, p_value_of_b1, m, ix, ih]
theorem p_value_of_c {th : List (Nm × Int)} {t : List (Int × Th)} (hs : ∀ q ∈ t, small q.1 = true) (hn : ∀ z ∈ nmsT t, (dGet th z).isSome = true) (s : Sto) :
    callP p_value_of [.d (.tup (t.map eTm)), .d (.dct false (dctE kS .int th))] s = .ok (.d (.int (valT th t)), s) := by
  have L := val_l (ed (.tup (t.map eTm))) th t 0 hs hn
  have e : valT th t = t.foldl (fun a q => a + q.1 * thV th q.2) 0 := rfl
  rw [e]
  simp_all! only [p_value_of, p_value_of_r1, L]
def whR : Row → Option Nm
  | .say _ w => w | .ask _ w => w | _ => none
theorem p_when_of_c (r : Row) (s : Sto) : callP p_when_of [.d (eRow r)] s = .ok (.d (eOn (whR r)), s) := by
  cases r <;> simp_all! only [p_when_of, p_when_of_r1, eRow, whR, eOn]
/-- the rows, each with its number -/
def numR (rs : List Row) : List (Nat × Row) := (List.range rs.length).map fun i => (i, rs.getD i (.take []))
def eNR (x : Nm) (p : Nat × Row) : D := .tup [.str x, .int (p.1 : Nat), eRow p.2]
theorem rows_l (w0 : Option W) (x : Nm) (S : Sto) : ∀ P : List Part, (∀ p ∈ P, p.2.length ≤ 1000) → loop (gT [gN 2, gN 3]) m_PartsWalk_rows_of_b1 (ws (ePs P)) [w0, es x, e_, e_, e_] S = match P.find? (fun p => decide (p.1 = x)) with
    | some p => .ok (.rt (.d (.tup ((numR p.2).map (eNR x)))) S) | none => .ok (.nx [w0, es x, e_, e_, e_] S)
  | [], _ => rfl
  | p :: P, h => by
    have ih := rows_l w0 x S P fun q hq => h q (List.mem_cons_of_mem _ hq)
    have hl := h p List.mem_cons_self
    have e : ws (ePs (p :: P)) = .d (ePart p) :: ws (ePs P) := rfl
    rw [List.find?_cons, e]
    by_cases c : p.1 = x
    · have nn : ((p.2.length : Nat) : Int).toNat = p.2.length := by omega
      have C := fun (w0 : Option W) s => comp_all (gN 4) m_PartsWalk_rows_of_c1 [4] [w0, es x, es x, ed (.tup (p.2.map eRow)), e_] s (fun i : Nat => .d (.int (i : Nat))) (fun i => eNR x (i, p.2.getD i (.take []))) (List.range p.2.length) fun i hi => by
        have hi := List.mem_range.mp hi
        have ix := fun s => ixW_map (.take []) eRow p.2 (i := ((i : Nat) : Int)) ⟨by omega, by omega⟩ s
        simp only [Int.toNat_natCast] at ix
        exact ⟨_, rfl, by simp_all! only [m_PartsWalk_rows_of_c1, ix, eNR]⟩
      have rE : rng 0 p.2.length = (List.range p.2.length).map fun i => W.d (.int ((i : Nat) : Int)) := by rw [rng_map]; simp
      rw [← rE] at C
      have eN : ((List.range p.2.length).map fun i => eNR x (i, p.2.getD i (.take []))) = (numR p.2).map (eNR x) := by unfold numR; rw [List.map_map]; rfl
      rw [eN] at C
      have hd : decide (p.1 = x) = true := decide_eq_true c
      simp_all! only [loop_cz, ePart, m_PartsWalk_rows_of_b1, c, hd, List.length_map, nn, C]
    · have hd : decide (p.1 = x) = false := decide_eq_false c
      simp_all! only [loop_cz, ePart, m_PartsWalk_rows_of_b1, c, hd, ih]


section
variable {s0 : Sto} {a : Nat} {X : D} {P : List Part} (hA : s0[a]? = some (.o 1 [([112, 97, 114, 116, 115], .d X)])) (hcl : clS s0.length s0 = true) (hX : SeqD X (ePs P)) (N : List Int)
include hA hcl
theorem m_rows_of_c (hX : SeqD X (ePs P)) (hP : ∀ p ∈ P, p.2.length ≤ 1000) (x : Nm) (tk : Nat) (kn : List ((Nm × Int) × Int)) (bg : List Nm) (tc : List D) (ft : D) :
    m_PartsWalk_rows_of [.loc a, .d (.str x)] (TS s0 N tk kn bg tc ft []) = .ok (.d (.tup ((numR (rowsOf P x)).map (eNR x))), TS s0 N tk kn bg tc ft []) := by
  have ow := ts_w s0 N tk kn bg tc ft [] hA
  have fp := fun (s : Sto) => fldW_h [112, 97, 114, 116, 115] (.d X) [] s
  have L := rows_l (some (.loc a)) x (TS s0 N tk kn bg tc ft []) P hP
  refine mkF_x (t := []) [some (.loc a), es x, e_, e_, e_] rfl ?_ rfl (ts_cl hcl N tk kn bg tc ft)
  rw [List.append_nil]
  unfold rowsOf
  cases e : P.find? (fun p => decide (p.1 = x)) with
  | none =>
    rw [e] at L
    rcases hX with hX | hX <;> subst hX <;> simp_all! only [ob0, ow, fp, L, m_PartsWalk_rows_of_r1] <;> rfl
  | some p =>
    rw [e] at L
    rcases hX with hX | hX <;> subst hX <;> simp_all! only [ob0, ow, fp, L]
theorem m_key_of_c {x z : Nm} {k : Nm × Int} (hk : ∀ s, callP p_maker [.d X, .d (.str x), .d (.str z)] s = .ok (.d (kSI k), s)) (tk : Nat) (kn : List ((Nm × Int) × Int)) (bg : List Nm) (tc : List D) (ft : D) (u : Sto) (hu : clS (TS s0 N tk kn bg tc ft u).length (TS s0 N tk kn bg tc ft u) = true) :
    m_PartsWalk_key_of [.loc a, .d (.str x), .d (.str z)] (TS s0 N tk kn bg tc ft u) = .ok (.d (kSI k), TS s0 N tk kn bg tc ft u) := by
  have ow := ts_w s0 N tk kn bg tc ft u hA
  have fp := fun (s : Sto) => fldW_h [112, 97, 114, 116, 115] (.d X) [] s
  refine mkF_x (t := []) [some (.loc a), es x, es z] rfl ?_ rfl hu
  rw [List.append_nil]
  simp_all! only [ob0, ow, fp, hk]
end
theorem m_loads_c (w w2 : W) (s : Sto) (hc : clS s.length s = true) : m_PartsWalk_loads_of [w, w2] s = .ok (.d (.tup []), s) :=
  mkF_x (t := []) [some w, some w2] rfl (by rw [List.append_nil]; simp_all! only [] <;> rfl) rfl hc
theorem m_ahead_c (w w2 : W) (s : Sto) (hc : clS s.length s = true) : m_PartsWalk_ahead_of [w, w2] s = .ok (.d (.tup []), s) :=
  mkF_x (t := []) [some w, some w2] rfl (by rw [List.append_nil]; simp_all! only [] <;> rfl) rfl hc
theorem m_load_c (w : W) (s : Sto) (hc : clS s.length s = true) : m_Trail_load [w, .d (.tup [])] s = .ok (.d .non, s) :=
  mkF_x (t := []) [some w, ed (.tup []), none] rfl (by rw [List.append_nil]; simp_all! only []) rfl hc
theorem m_take_c {s0 : Sto} (hcl : clS s0.length s0 = true) (N : List Int) (tk : Nat) (kn : List ((Nm × Int) × Int)) (bg : List Nm) (tc : List D) (ft : D) :
    m_Trail_take [.loc s0.length] (TS s0 N tk kn bg tc ft []) = .ok (.d (.int (N.getD tk 0)), TS s0 N (if tk < N.length then tk + 1 else tk) kn bg tc ft []) := by
  have ow := fun tk => ts_o s0 N tk kn bg tc ft []
  by_cases c : tk < N.length
  · rw [if_pos c]
    refine mkF_x (t := []) [some (.loc s0.length)] rfl ?_ (by rw [ts_len, ts_len]) (ts_cl hcl N _ kn bg tc ft)
    rw [List.append_nil]
    have fa := fun (e : Env) (he : e = [some (.loc s0.length)]) => sFldA_r (c := 0) (f := [116, 97, 107, 101, 110]) (a := eV 0) (v := eK (.int 1)) (e := e) (s := TS s0 N tk kn bg tc ft []) (o := .loc s0.length) (by subst he; rfl) (ow tk) (tf_tk _ _ _ _ _) rfl (by rw [tl_len]; decide)
    have fa := fa _ rfl
    have e1 : ((tk : Nat) : Int) + 1 = ((tk + 1 : Nat) : Int) := by omega
    rw [e1, tp_tk, tt_0] at fa
    have e2 : (((tk + 1 : Nat) : Int) - 1) = ((tk : Nat) : Int) := by omega
    have ix := fun s => ixW_map 0 D.int N (i := ((tk : Nat) : Int)) ⟨by omega, by omega⟩ s
    simp only [Int.toNat_natCast] at ix
    have c2 : ¬ ((N.length : Nat) : Int) ≤ ((tk : Nat) : Int) := by omega
    simp_all! only [ob0, ow, tfs, List.length_map, c2, m_Trail_take_r1, fa, e2, ix]
  · rw [if_neg c]
    refine mkF_x (t := []) [some (.loc s0.length)] rfl ?_ rfl (ts_cl hcl N _ kn bg tc ft)
    rw [List.append_nil]
    have c2 : ((N.length : Nat) : Int) ≤ ((tk : Nat) : Int) := by omega
    have e : N.getD tk 0 = 0 := by rw [List.getD_eq_getElem?_getD, List.getElem?_eq_none (by omega)]; rfl
    rw [e]
    simp_all! only [ob0, ow, tfs, List.length_map, c2]

/-! ### the values that a row finds -/
inductive Fd where
  | early (w : Int) | no | yes (th : List (Nm × Int))
def fdL (key : Nm → Nm × Int) (kn : List ((Nm × Int) × Int)) (wh : Option Nm) : List (Int × Nm) → List (Nm × Int) → Fd
  | [], th => .yes th
  | (w, z) :: l, th => match dGet kn (key z) with
    | none => .early w
    | some v => if wh = some z ∧ v ≤ 0 then .no else fdL key kn wh l (dPut th z v)
def eFd : Fd → D
  | .yes th => .dct false (dctE kS .int th) | _ => .non
def ftE (x : Nm) (k : Nat) (w : Int) : D := .tup [.str [101, 97, 114, 108, 121], .str x, .int (k : Nat), .int w]
def ftN (x : Nm) (k : Nat) : D := .tup [.str [110, 101, 101, 100], .str x, .int (k : Nat), .int 0]
theorem cEq_onR (z : Nm) (w : Option Nm) : cEq (.str z) (eOn w) = .ok (.bl (decide (w = some z))) := by
  cases w with
  | none => rfl
  | some y =>
    show cEq (.str z) (.str y) = _
    rw [cEq_s]
    by_cases h : z = y <;> simp [h, eq_comm]
section
variable {s0 : Sto} {a : Nat} {X : D} {P : List Part} (hA : s0[a]? = some (.o 1 [([112, 97, 114, 116, 115], .d X)])) (hcl : clS s0.length s0 = true) (N : List Int)
include hA hcl
theorem ts_clm (N : List Int) (tk : Nat) (kn : List ((Nm × Int) × Int)) (bg : List Nm) (tc : List D) (ft : D) (k : Bool) (l : List (D × D)) : clS (TS s0 N tk kn bg tc ft [.m k l]).length (TS s0 N tk kn bg tc ft [.m k l]) = true := by
  have h1 := clS_mono (n := s0.length + 5 + 1) (by omega) hcl
  rw [ts_len]
  show clS (s0.length + 5 + 1) _ = true
  unfold clS at h1 ⊢
  unfold TS
  rw [List.all_append, h1]
  simp [clC, trF, cls, cl]
theorem fd_l (x : Nm) (key : Nm → Nm × Int) (d : D) (k : Nat) (tk : Nat) (kn : List ((Nm × Int) × Int)) (bg : List Nm) (tc : List D) (ft : D) (wh : Option Nm) : ∀ (l : List (Int × Nm)) (th : List (Nm × Int)), (∀ q ∈ l, ∀ s, callP p_maker [.d X, .d (.str x), .d (.str q.2)] s = .ok (.d (kSI (key q.2)), s)) → th.length + l.length ≤ 1000 → ∃ u,
    loop (gT [gN 7, gN 8]) m_PartsWalk_found_by_b1 (ws (l.map ePN)) [some (.loc a), some (.loc s0.length), es x, ed (.tup [.str x, .int (k : Nat)]), ed d, some (.loc (s0.length + 5)), ed (eOn wh), e_, e_, e_] (TS s0 N tk kn bg tc ft [.m false (dctE kS .int th)]) = match fdL key kn wh l th with
      | .early w => .ok (.rt (.d .non) (TS s0 N tk kn bg tc (ftE x k w) u))
      | .no => .ok (.rt (.d .non) (TS s0 N tk kn bg tc ft u))
      | .yes th => .ok (.nx [some (.loc a), some (.loc s0.length), es x, ed (.tup [.str x, .int (k : Nat)]), ed d, some (.loc (s0.length + 5)), ed (eOn wh), e_, e_, e_] (TS s0 N tk kn bg tc ft [.m false (dctE kS .int th)]))
  | [], th, _, _ => ⟨[], rfl⟩
  | (w, z) :: l, th, hk, hl => by
    have ow := fun l => ts_w s0 N tk kn bg tc ft [.m false (dctE kS .int l)] hA
    have oo := fun tk kn bg tc ft u => ts_o s0 N tk kn bg tc ft u
    have o1 := fun tk kn bg tc ft u => ts_1 s0 N tk kn bg tc ft u
    have o5 := fun tk kn bg tc ft u c => ts_5 s0 N tk kn bg tc ft u c
    have t0 := fun tk kn bg tc ft u tk2 ft2 => tt_0 s0 N tk kn bg tc ft u tk2 ft2
    have t5 := fun tk kn bg tc ft u c c2 => tt_5 s0 N tk kn bg tc ft u c c2
    have K := m_key_of_c hA hcl N (hk (w, z) List.mem_cons_self) tk kn bg tc ft [.m false (dctE kS .int th)] (ts_clm hA hcl N tk kn bg tc ft false _)
    have ni := cNin_E (ev := D.int) keySI kn (key z)
    have hl2 : th.length < 16777216 := by simp only [List.length_cons] at hl; omega
    have lk : (([([112, 97, 114, 116, 115], W.d X)] : List (List Nat × W)).lookup [107, 101, 121, 95, 111, 102]).isNone = true := rfl
    cases e : dGet kn (key z) with
    | none =>
      refine ⟨[.m false (dctE kS .int th)], ?_⟩
      have ef : fdL key kn wh ((w, z) :: l) th = .early w := by rw [fdL, e]
      rw [ef]
      rw [e] at ni
      simp only [Option.isSome_none, Bool.not_false] at ni
      simp_all! only [List.map_cons, loop_cz, ePN, m_PartsWalk_found_by_b1, ob0, ow, oo, o1, o5, t0, tfs, lk, K, ni, ftE]
    | some v =>
      obtain ⟨u, ih⟩ := fd_l x key d k tk kn bg tc ft wh l (dPut th z v) (fun q hq => hk q (List.mem_cons_of_mem _ hq)) (by have := dPut_len th z v; simp only [List.length_cons] at hl; omega)
      rw [e] at ni
      simp only [Option.isSome_some, Bool.not_true] at ni
      have ix := fun s => ixM_E (ev := D.int) keySI e s
      have sm := setM_E (ev := D.int) keyS (o5 tk kn bg tc ft [] (.m false (dctE kS .int th))) hl2 z v
      have ix2 := fun s => ixM_E (ev := D.int) keyS (L := dPut th z v) (k := z) (v := v) (by rw [dGet_put, if_pos rfl]) s
      rw [t5] at sm
      have ce := cEq_onR z wh
      by_cases c : wh = some z
      · have ce2 : cEq (.str z) (eOn (some z)) = .ok (.bl true) := by rw [cEq_onR]; simp
        by_cases c2 : v ≤ 0
        · refine ⟨[.m false (dctE kS .int (dPut th z v))], ?_⟩
          have ef : fdL key kn wh ((w, z) :: l) th = .no := by rw [fdL, e]; simp only; rw [if_pos ⟨c, c2⟩]
          rw [ef]
          clear ce
          subst c
          simp_all! only [List.map_cons, loop_cz, ePN, m_PartsWalk_found_by_b1, m_PartsWalk_found_by_r1, ob0, ow, oo, o1, o5, t0, tfs, lk, K, ni, ix, sm, ix2, ce2, c2]
        · refine ⟨u, ?_⟩
          have ef : fdL key kn wh ((w, z) :: l) th = fdL key kn wh l (dPut th z v) := by rw [fdL, e]; simp only; rw [if_neg (fun h => c2 h.2)]
          rw [ef, ← ih]
          clear ce
          subst c
          simp_all! only [List.map_cons, loop_cz, ePN, m_PartsWalk_found_by_b1, m_PartsWalk_found_by_r1, ob0, ow, oo, o1, o5, t0, tfs, lk, K, ni, ix, sm, ix2, ce2, c2]
      · refine ⟨u, ?_⟩
        have ef : fdL key kn wh ((w, z) :: l) th = fdL key kn wh l (dPut th z v) := by rw [fdL, e]; simp only; rw [if_neg (fun h => c h.1)]
        rw [ef, ← ih]
        simp_all! only [List.map_cons, loop_cz, ePN, m_PartsWalk_found_by_b1, m_PartsWalk_found_by_r1, ob0, ow, oo, o1, o5, t0, tfs, lk, K, ni, ix, sm, ix2, ce, c]
theorem m_found_c {x : Nm} {key : Nm → Nm × Int} {r : Row} (hk : ∀ q ∈ rdN r, ∀ s, callP p_maker [.d X, .d (.str x), .d (.str q.2)] s = .ok (.d (kSI (key q.2)), s)) (ht : (tmL r).length ≤ 100) (hrn : (rdN r).length ≤ 1000) (k : Nat) (tk : Nat) (kn : List ((Nm × Int) × Int)) (bg : List Nm) (tc : List D) (ft : D) :
    m_PartsWalk_found_by [.loc a, .loc s0.length, .d (.str x), .d (.tup [.str x, .int (k : Nat)]), .d (eRow r)] (TS s0 N tk kn bg tc ft []) = match fdL key kn (whR r) (rdN r) [] with
      | .early w => .ok (.d .non, TS s0 N tk kn bg tc (ftE x k w) [])
      | .no => .ok (.d .non, TS s0 N tk kn bg tc ft [])
      | .yes th => .ok (.d (.dct false (dctE kS .int th)), TS s0 N tk kn bg tc ft []) := by
  obtain ⟨u, L⟩ := fd_l hA hcl N x key (eRow r) k tk kn bg tc ft (whR r) (rdN r) [] hk (by simpa using hrn)
  have W := fun s => p_when_of_c r s
  have Rn := fun s => p_read_names_c r ht s
  have sl : (TS s0 N tk kn bg tc ft []).length = s0.length + 5 := by rw [ts_len]; rfl
  have ea : TS s0 N tk kn bg tc ft [] ++ [.m false []] = TS s0 N tk kn bg tc ft [.m false (dctE kS .int [])] := by rw [ts_app]; rfl
  have en0 : start 10 [.loc a, .loc s0.length, .d (.str x), .d (.tup [.str x, .int (k : Nat)]), .d (eRow r)] = [some (.loc a), some (.loc s0.length), es x, ed (.tup [.str x, .int (k : Nat)]), ed (eRow r), e_, e_, e_, e_, e_] := rfl
  generalize hY : (eRow r) = Y at *
  generalize hZ : (rdN r).map ePN = Z at *
  cases e : fdL key kn (whR r) (rdN r) [] with
  | early w =>
    rw [e] at L
    refine mkF_x (t := u) _ en0 ?_ (by rw [ts_len, ts_len]) (ts_cl hcl N tk kn bg tc (ftE x k w))
    have ea2 : TS s0 N tk kn bg tc (ftE x k w) [] ++ u = TS s0 N tk kn bg tc (ftE x k w) u := by rw [ts_app]; rfl
    rw [ea2]
    simp_all! only [W, Rn, sl, ea, L]
  | no =>
    rw [e] at L
    refine mkF_x (t := u) _ en0 ?_ rfl (ts_cl hcl N tk kn bg tc ft)
    have ea2 : TS s0 N tk kn bg tc ft [] ++ u = TS s0 N tk kn bg tc ft u := by rw [ts_app]; rfl
    rw [ea2]
    simp_all! only [W, Rn, sl, ea, L]
  | yes th =>
    rw [e] at L
    refine mkF_xm _ en0 ?_ rfl (ts_cl hcl N tk kn bg tc ft)
    have ea2 : TS s0 N tk kn bg tc ft [] ++ [.m false (dctE kS .int th)] = TS s0 N tk kn bg tc ft [.m false (dctE kS .int th)] := by rw [ts_app]; rfl
    rw [ea2, sl]
    simp_all! only [W, Rn, sl, ea, L, m_PartsWalk_found_by_r2]
end


/-! ### a row done -/
theorem lkP {m : List Nat} {w : W} (h : (m == [112, 97, 114, 116, 115]) = false) : (([([112, 97, 114, 116, 115], w)] : List (List Nat × W)).lookup m).isNone = true := by
  rw [List.lookup_cons, h]; rfl
def tkE (v : Int) (x : Nm) (k : Nat) : D := .tup [.str [116, 97, 107, 101], .int v, .str x, .int (k : Nat)]
def sayE (v : Int) (x : Nm) (k : Nat) : D := .tup [.str [115, 97, 121], .int v, .str x, .int (k : Nat)]
def doF (beg : Nm → Tr → Tr) (key : Nm → Nm × Int) (N : List Int) (x : Nm) (k : Nat) (r : Row) (th : List (Nm × Int)) (st : Tr) : Tr := match r with
  | .set o t => ⟨st.tk, dPut st.kn (key o) (valT th t), st.bg, st.tc, st.ft⟩
  | .take o => ⟨if st.tk < N.length then st.tk + 1 else st.tk, dPut st.kn (key o) (N.getD st.tk 0), st.bg, st.tc ++ [tkE (N.getD st.tk 0) x k], st.ft⟩
  | .say t _ => ⟨st.tk, st.kn, st.bg, st.tc ++ [sayE (valT th t) x k], st.ft⟩
  | .need t => if valT th t ≤ 0 then ⟨st.tk, st.kn, st.bg, st.tc, ftN x k⟩ else st
  | .ask y _ => beg y st
  | .bring y _ => beg y st
  | .doo y => beg y st
  | _ => st
def rowF (beg : Nm → Tr → Tr) (key : Nm → Nm × Int) (N : List Int) (x : Nm) (k : Nat) (r : Row) (st : Tr) : Tr := match fdL key st.kn (whR r) (rdN r) [] with
  | .early w => ⟨st.tk, st.kn, st.bg, st.tc, ftE x k w⟩
  | .no => st
  | .yes th => doF beg key N x k r th st
def rowsF (beg : Nm → Tr → Tr) (key : Nm → Nm × Int) (N : List Int) (x : Nm) : List (Nat × Row) → Tr → Tr
  | [], st => st
  | (k, r) :: l, st => if isN (rowF beg key N x k r st).ft = true then rowsF beg key N x l (rowF beg key N x k r st) else rowF beg key N x k r st
def begF (P : List Part) (key : Nm → Nm → Nm × Int) (N : List Int) : Nat → Nm → Tr → Tr
  | 0, _, st => st
  | n + 1, x, st => if x ∈ st.bg then st else rowsF (begF P key N n) (key x) N x (numR (rowsOf P x)) ⟨st.tk, st.kn, st.bg ++ [x], st.tc, st.ft⟩
abbrev TT (s0 : Sto) (N : List Int) (st : Tr) : Sto := TS s0 N st.tk st.kn st.bg st.tc st.ft []
def tgt : Row → Option Nm
  | .ask y _ => some y | .bring y _ => some y | .doo y => some y | _ => none
structure RowK (X : D) (x : Nm) (key : Nm → Nm × Int) (r : Row) : Prop where
  len : (tmL r).length ≤ 100
  sg : ∀ q ∈ tmL r, small q.1 = true
  kr : ∀ q ∈ rdN r, ∀ s, callP p_maker [.d X, .d (.str x), .d (.str q.2)] s = .ok (.d (kSI (key q.2)), s)
  km : ∀ z, mkT r = some z → ∀ s, callP p_maker [.d X, .d (.str x), .d (.str z)] s = .ok (.d (kSI (key z)), s)
theorem rdN_len (r : Row) : (rdN r).length ≤ (tmL r).length + 1 := by
  cases r with
  | set o t => have := sumN_len t 3; simp only [rdN, tmL]; omega
  | need t => have := sumN_len t 1; simp only [rdN, tmL]; omega
  | say t w =>
    have := sumN_len t 1
    cases w with
    | none => simp only [rdN, tmL]; omega
    | some z => simp only [rdN, tmL, List.length_cons]; omega
  | ask p w => cases w <;> simp [rdN]
  | _ => simp [rdN]
theorem rdN_nms (r : Row) : ∀ z ∈ nmsT (tmL r), z ∈ (rdN r).map (·.2) := fun z hz => by
  cases r with
  | set o t => simp only [rdN]; rw [sumN_nms]; exact hz
  | need t => simp only [rdN]; rw [sumN_nms]; exact hz
  | say t w =>
    cases w with
    | none => simp only [rdN]; rw [sumN_nms]; exact hz
    | some y => simp only [rdN, List.map_cons]; rw [sumN_nms]; exact List.mem_cons_of_mem _ hz
  | _ => cases hz
theorem fdL_yes (key : Nm → Nm × Int) (kn : List ((Nm × Int) × Int)) (wh : Option Nm) : ∀ (l : List (Int × Nm)) (th0 th : List (Nm × Int)), fdL key kn wh l th0 = .yes th →
    (∀ q ∈ l, dGet th q.2 = dGet kn (key q.2) ∧ (dGet th q.2).isSome = true) ∧ ∀ z, z ∉ l.map (·.2) → dGet th z = dGet th0 z
  | [], th0, th, h => by
    cases h; exact ⟨fun q hq => (by cases hq), fun _ _ => rfl⟩
  | (w, z) :: l, th0, th, h => by
    rw [fdL] at h
    cases e : dGet kn (key z) with
    | none => rw [e] at h; cases h
    | some v =>
      rw [e] at h
      simp only at h
      by_cases c : wh = some z ∧ v ≤ 0
      · rw [if_pos c] at h; cases h
      · rw [if_neg c] at h
        obtain ⟨h1, h2⟩ := fdL_yes key kn wh l _ th h
        have hz : dGet th z = some v := by
          by_cases d : z ∈ l.map (·.2)
          · obtain ⟨q, hq, rfl⟩ := List.mem_map.mp d
            rw [(h1 q hq).1, e]
          · rw [h2 z d, dGet_put, if_pos rfl]
        refine ⟨fun q hq => ?_, fun y hy => ?_⟩
        · rcases List.mem_cons.mp hq with rfl | hq
          · exact ⟨by rw [hz, e], by rw [hz]; rfl⟩
          · exact h1 q hq
        · rw [List.map_cons, List.mem_cons, not_or] at hy
          rw [h2 y hy.2, dGet_put, if_neg hy.1]
section
variable {s0 : Sto} {a : Nat} {X : D} {P : List Part} (hA : s0[a]? = some (.o 1 [([112, 97, 114, 116, 115], .d X)])) (hcl : clS s0.length s0 = true) (N : List Int)
include hA hcl
theorem m_done_c (n : Fn) (beg : Nm → Tr → Tr) {x : Nm} {key : Nm → Nm × Int} {r : Row} (hr : RowK X x key r) (k : Nat) (th : List (Nm × Int)) (hth : ∀ z ∈ nmsT (tmL r), (dGet th z).isSome = true) (st : Tr) (hkl : st.kn.length < 16777216) (htl : st.tc.length < 16777216)
    (hn : ∀ y, tgt r = some y → n [.loc a, .loc s0.length, .d (.str y)] (TT s0 N st) = .ok (.d .non, TT s0 N (beg y st))) :
    m_PartsWalk_done n [.loc a, .loc s0.length, .d (.str x), .d (.tup [.str x, .int (k : Nat)]), .d (eRow r), .d (.dct false (dctE kS .int th))] (TT s0 N st) = .ok (.d .non, TT s0 N (doF beg key N x k r th st)) := by
  have en0 : start 8 [.loc a, .loc s0.length, .d (.str x), .d (.tup [.str x, .int (k : Nat)]), .d (eRow r), .d (.dct false (dctE kS .int th))] = [some (.loc a), some (.loc s0.length), es x, ed (.tup [.str x, .int (k : Nat)]), ed (eRow r), ed (.dct false (dctE kS .int th)), e_, e_] := rfl
  refine mkF_x (t := []) _ en0 ?_ (by rw [ts_len, ts_len]) (ts_cl hcl N _ _ _ _ _)
  rw [List.append_nil]
  obtain ⟨tk, kn, bg, tc, ft⟩ := st
  have ow := fun tk kn bg tc ft u => ts_w s0 N tk kn bg tc ft u hA
  have oo := fun tk kn bg tc ft u => ts_o s0 N tk kn bg tc ft u
  have o1 := fun tk kn bg tc ft u => ts_1 s0 N tk kn bg tc ft u
  have o2 := fun tk kn bg tc ft u => ts_2 s0 N tk kn bg tc ft u
  have o4 := fun tk kn bg tc ft u => ts_4 s0 N tk kn bg tc ft u
  have t0 := fun tk kn bg tc ft u tk2 ft2 => tt_0 s0 N tk kn bg tc ft u tk2 ft2
  have t4 := fun tk kn bg tc ft u tc2 => tt_4 s0 N tk kn bg tc ft u tc2
  have V := fun s => p_value_of_c (th := th) hr.sg hth s
  have hkl : kn.length < 16777216 := hkl
  have htl : tc.length < 16777216 := htl
  have hcl2 := fun tk kn bg tc ft => ts_cl hcl N tk kn bg tc ft
  have K := fun z (h : mkT r = some z) tk kn bg tc ft => m_key_of_c hA hcl N (hr.km z h) tk kn bg tc ft [] (hcl2 tk kn bg tc ft)
  have SM := fun tk kn bg tc ft u (h : kn.length < 16777216) k v => setM_E (ev := D.int) keySI (ts_1 s0 N tk kn bg tc ft u) h k v
  simp only [tt_1] at SM
  have ld := fun tk kn bg tc ft w w2 => m_loads_c w w2 (TS s0 N tk kn bg tc ft []) (hcl2 tk kn bg tc ft)
  have lo := fun tk kn bg tc ft w => m_load_c w (TS s0 N tk kn bg tc ft []) (hcl2 tk kn bg tc ft)
  cases r with
  | set o t =>
    have K := K o rfl
    have e : TT s0 N (doF beg key N x k (.set o t) th ⟨tk, kn, bg, tc, ft⟩) = TS s0 N tk (dPut kn (key o) (valT th t)) bg tc ft [] := rfl
    have SM := SM tk kn bg tc ft [] hkl (key o) (valT th t)
    rw [e]
    simp only [eRow, tmL] at V ⊢
    simp_all! only [ob0, ow, oo, o1, tfs, lkP, V, K, SM]
  | take o =>
    have K := K o rfl
    have T := m_take_c hcl N tk kn bg tc ft
    have e : TT s0 N (doF beg key N x k (.take o) th ⟨tk, kn, bg, tc, ft⟩) = TS s0 N (if tk < N.length then tk + 1 else tk) (dPut kn (key o) (N.getD tk 0)) bg (tc ++ [tkE (N.getD tk 0) x k]) ft [] := rfl
    generalize (if tk < N.length then tk + 1 else tk) = tk' at T e
    generalize N.getD tk 0 = v at T e
    have SM := SM tk' kn bg tc ft [] hkl (key o) v
    rw [e]
    simp only [eRow, tmL, tkE] at V ⊢
    simp_all! only [ob0, ow, oo, o1, o4, t4, tfs, lkP, V, K, SM, T, wl]
  | say t w =>
    have e : TT s0 N (doF beg key N x k (.say t w) th ⟨tk, kn, bg, tc, ft⟩) = TS s0 N tk kn bg (tc ++ [sayE (valT th t) x k]) ft [] := rfl
    rw [e]
    simp only [eRow, tmL, sayE] at V ⊢
    simp_all! only [ob0, ow, oo, o1, o4, t4, tfs, lkP, V, wl]
  | need t =>
    by_cases c : valT th t ≤ 0
    · have e : TT s0 N (doF beg key N x k (.need t) th ⟨tk, kn, bg, tc, ft⟩) = TS s0 N tk kn bg tc (ftN x k) [] := by
        unfold TT doF; simp only [if_pos c]
      rw [e]
      simp only [eRow, tmL, ftN] at V ⊢
      simp_all! only [ob0, ow, oo, o1, t0, tfs, lkP, V, c]
    · have e : TT s0 N (doF beg key N x k (.need t) th ⟨tk, kn, bg, tc, ft⟩) = TS s0 N tk kn bg tc ft [] := by
        unfold TT doF; simp only [if_neg c]
      rw [e]
      simp only [eRow, tmL, ftN] at V ⊢
      simp_all! only [ob0, ow, oo, o1, t0, tfs, lkP, V, c]
  | ask y w =>
    have hn := hn y rfl
    have e : doF beg key N x k (.ask y w) th ⟨tk, kn, bg, tc, ft⟩ = beg y ⟨tk, kn, bg, tc, ft⟩ := rfl
    have ci := cNin_sD bg y
    rw [e]
    generalize beg y ⟨tk, kn, bg, tc, ft⟩ = st2 at hn ⊢
    simp only [eRow] at V ⊢
    by_cases c : y ∈ bg
    · simp_all! only [ob0, ow, oo, o2, tfs, lkP, m_PartsWalk_done_r1, ci, c, hn]
    · simp_all! only [ob0, ow, oo, o2, tfs, lkP, m_PartsWalk_done_r1, ci, c, hn, ld, lo]
  | bring y ps =>
    have hn := hn y rfl
    have e : doF beg key N x k (.bring y ps) th ⟨tk, kn, bg, tc, ft⟩ = beg y ⟨tk, kn, bg, tc, ft⟩ := rfl
    have ci := cIn_strsT [98, 114, 105, 110, 103] [[98, 114, 105, 110, 103], [100, 111]]
    simp only [List.map_cons, List.map_nil] at ci
    rw [e]
    generalize beg y ⟨tk, kn, bg, tc, ft⟩ = st2 at hn ⊢
    simp only [eRow] at V ⊢
    simp_all! only [ob0, ow, oo, o2, tfs, lkP, ci, hn]
  | doo y =>
    have hn := hn y rfl
    have e : doF beg key N x k (.doo y) th ⟨tk, kn, bg, tc, ft⟩ = beg y ⟨tk, kn, bg, tc, ft⟩ := rfl
    have ci := cIn_strsT [100, 111] [[98, 114, 105, 110, 103], [100, 111]]
    simp only [List.map_cons, List.map_nil] at ci
    rw [e]
    generalize beg y ⟨tk, kn, bg, tc, ft⟩ = st2 at hn ⊢
    simp only [eRow] at V ⊢
    simp_all! only [ob0, ow, oo, o2, tfs, lkP, ci, hn]
  | give o g =>
    have e : doF beg key N x k (.give o g) th ⟨tk, kn, bg, tc, ft⟩ = ⟨tk, kn, bg, tc, ft⟩ := rfl
    have ci := cIn_strsT [103, 105, 118, 101] [[98, 114, 105, 110, 103], [100, 111]]
    simp only [List.map_cons, List.map_nil] at ci
    rw [e]
    simp only [eRow] at V ⊢
    simp_all! only [ob0, ow, oo, o2, tfs, lkP, ci]
  | part p =>
    have e : doF beg key N x k (.part p) th ⟨tk, kn, bg, tc, ft⟩ = ⟨tk, kn, bg, tc, ft⟩ := rfl
    have ci := cIn_strsT [112, 97, 114, 116] [[98, 114, 105, 110, 103], [100, 111]]
    simp only [List.map_cons, List.map_nil] at ci
    rw [e]
    simp only [eRow] at V ⊢
    simp_all! only [ob0, ow, oo, o2, tfs, lkP, ci]
end


/-! ### parts begun -/
def todo (P : List Part) (w : Part → Nat) (bg : List Nm) : Nat := ((P.filter fun p => !decide (p.1 ∈ bg)).map w).sum
theorem todo_mono {w : Part → Nat} {bg bg2 : List Nm} (h : ∀ y ∈ bg, y ∈ bg2) : ∀ P : List Part, todo P w bg2 ≤ todo P w bg
  | [] => Nat.le_refl _
  | p :: P => by
    have ih := todo_mono (w := w) h P
    unfold todo at ih ⊢
    by_cases c : p.1 ∈ bg
    · have c2 := h _ c
      simpa [List.filter_cons, c, c2] using ih
    · by_cases c2 : p.1 ∈ bg2
      · simp only [List.filter_cons, c, c2, decide_true, decide_false, Bool.not_true, Bool.not_false, if_true, Bool.false_eq_true, if_false, List.map_cons, List.sum_cons]; omega
      · simp only [List.filter_cons, c, c2, decide_true, decide_false, Bool.not_true, Bool.not_false, if_true, Bool.false_eq_true, if_false, List.map_cons, List.sum_cons]; omega
theorem todo_step {w : Part → Nat} {bg : List Nm} {x : Nm} (hx : x ∉ bg) : ∀ P : List Part, todo P w (bg ++ [x]) + (match P.find? (fun p => decide (p.1 = x)) with | some p => w p | none => 0) ≤ todo P w bg
  | [] => Nat.le_refl _
  | p :: P => by
    have ih := todo_step (w := w) hx P
    have mono := todo_mono (w := w) (bg := bg) (bg2 := bg ++ [x]) (fun y hy => List.mem_append_left _ hy) P
    unfold todo at ih mono ⊢
    rw [List.find?_cons]
    by_cases c : p.1 = x
    · have c1 : p.1 ∉ bg := by rw [c]; exact hx
      have c2 : p.1 ∈ bg ++ [x] := by rw [c]; simp
      have hd : decide (p.1 = x) = true := decide_eq_true c
      rw [hd]
      simp only [List.filter_cons, c1, c2, decide_true, decide_false, Bool.not_true, Bool.not_false, if_true, Bool.false_eq_true, if_false, List.map_cons, List.sum_cons]
      omega
    · have hd : decide (p.1 = x) = false := decide_eq_false c
      rw [hd]
      simp only
      by_cases c1 : p.1 ∈ bg
      · have c2 : p.1 ∈ bg ++ [x] := List.mem_append_left _ c1
        simp only [List.filter_cons, c1, c2, decide_true, decide_false, Bool.not_true, Bool.not_false, if_true, Bool.false_eq_true, if_false]
        exact ih
      · have c2 : p.1 ∉ bg ++ [x] := fun h => by
          rcases List.mem_append.mp h with h | h
          · exact c1 h
          · exact c (List.mem_singleton.mp h)
        simp only [List.filter_cons, c1, c2, decide_true, decide_false, Bool.not_true, Bool.not_false, if_true, Bool.false_eq_true, if_false, List.map_cons, List.sum_cons]
        omega
def sz (st : Tr) : Nat := st.kn.length + st.tc.length + st.bg.length
def rls (p : Part) : Nat := p.2.length
/-- what stays within bounds -/
def Bnd (P : List Part) (st st2 : Tr) (k : Nat) : Prop := sz st2 + 2 * todo P rls st2.bg ≤ sz st + k + 2 * todo P rls st.bg ∧ ∀ y ∈ st.bg, y ∈ st2.bg
theorem rowF_ok {P : List Part} {beg : Nm → Tr → Tr} {key : Nm → Nm × Int} {N : List Int} {x : Nm} {k : Nat} {r : Row} {st : Tr} (h : ∀ y, tgt r = some y → Bnd P st (beg y st) 1) : Bnd P st (rowF beg key N x k r st) 2 := by
  have rf : Bnd P st st 2 := ⟨by omega, fun _ h => h⟩
  unfold rowF
  split
  · exact ⟨by simp only [sz]; omega, fun _ h => h⟩
  · exact rf
  · rename_i th _
    cases r with
    | set o t => exact ⟨by have := dPut_len st.kn (key o) (valT th t); simp only [doF, sz] at this ⊢; omega, fun _ h => h⟩
    | take o => exact ⟨by have := dPut_len st.kn (key o) (N.getD st.tk 0); simp only [doF, sz, List.length_append, List.length_cons, List.length_nil] at this ⊢; omega, fun _ h => h⟩
    | say t w => exact ⟨by simp only [doF, sz, List.length_append, List.length_cons, List.length_nil]; omega, fun _ h => h⟩
    | need t =>
      simp only [doF]
      split
      · exact ⟨by simp only [sz]; omega, fun _ h => h⟩
      · exact rf
    | ask y w => have := h y rfl; exact ⟨by have := this.1; simp only [doF]; omega, this.2⟩
    | bring y ps => have := h y rfl; exact ⟨by have := this.1; simp only [doF]; omega, this.2⟩
    | doo y => have := h y rfl; exact ⟨by have := this.1; simp only [doF]; omega, this.2⟩
    | _ => exact rf
theorem isN_dct (b : Bool) (l : List (D × D)) : isN (.dct b l) = false := rfl
theorem isN_ftE (x : Nm) (k : Nat) (w : Int) : isN (ftE x k w) = false := rfl
section
variable {s0 : Sto} {a : Nat} {X : D} {P : List Part} (hA : s0[a]? = some (.o 1 [([112, 97, 114, 116, 115], .d X)])) (hcl : clS s0.length s0 = true) (N : List Int)
include hA hcl
theorem begin_l (n : Nat) (beg : Nm → Tr → Tr) (M : Nat) (hM : M ≤ 16777000) (ok : Tr → Prop) (x : Nm) (key : Nm → Nm × Int)
    (hn : ∀ y st, ok st → sz st + 1 + 2 * todo P rls st.bg ≤ M → m_PartsWalk_begin n [.loc a, .loc s0.length, .d (.str y)] (TT s0 N st) = .ok (.d .non, TT s0 N (beg y st)) ∧ Bnd P st (beg y st) 1)
    (hok : ∀ st st2, ok st → (∀ y ∈ st.bg, y ∈ st2.bg) → ok st2) : ∀ (l : List (Nat × Row)) (st : Tr), (∀ p ∈ l, RowK X x key p.2) → ok st → sz st + 2 * l.length + 2 * todo P rls st.bg ≤ M →
    outOf (loop (gT [gN 3, gN 4, gN 5]) (m_PartsWalk_begin_b1 (m_PartsWalk_begin n)) (ws (l.map (eNR x))) [some (.loc a), some (.loc s0.length), es x, e_, e_, e_, e_] (TT s0 N st)) = .ok (.d .non, TT s0 N (rowsF beg key N x l st)) ∧ Bnd P st (rowsF beg key N x l st) (2 * l.length)
  | [], st, _, _, _ => ⟨rfl, ⟨by simp only [rowsF, List.length_nil]; omega, fun _ h => h⟩⟩
  | (k, r) :: l, st, hl, ho, hs => by
    have hr : RowK X x key r := hl (k, r) List.mem_cons_self
    simp only [List.length_cons] at hs
    have F := m_found_c hA hcl N hr.kr hr.len (by have := rdN_len r; have := hr.len; omega) k st.tk st.kn st.bg st.tc st.ft
    have hb := fun y => hn y st ho (by omega)
    have rk := rowF_ok (P := P) (key := key) (N := N) (x := x) (k := k) (r := r) (st := st) (beg := beg) fun y _ => (hb y).2
    have ow := fun tk kn bg tc ft u => ts_w s0 N tk kn bg tc ft u hA
    have oo := fun tk kn bg tc ft u => ts_o s0 N tk kn bg tc ft u
    have ih := begin_l n beg M hM ok x key hn hok l (rowF beg key N x k r st) (fun p hp => hl p (List.mem_cons_of_mem _ hp)) (hok _ _ ho rk.2) (by have := rk.1; omega)
    have hsz : sz st = st.kn.length + st.tc.length + st.bg.length := rfl
    have D := fun th hth => m_done_c hA hcl N (m_PartsWalk_begin n) beg hr k th hth st (by omega) (by omega) fun y _ => (hb y).1
    have e2 : rowsF beg key N x ((k, r) :: l) st = if isN (rowF beg key N x k r st).ft = true then rowsF beg key N x l (rowF beg key N x k r st) else rowF beg key N x k r st := rfl
    rw [e2]
    refine ⟨?_, ?_⟩
    · rw [List.map_cons, ws_cons]
      have ih := ih.1
      cases e : fdL key st.kn (whR r) (rdN r) [] with
      | early w =>
        have er : rowF beg key N x k r st = ⟨st.tk, st.kn, st.bg, st.tc, ftE x k w⟩ := by unfold rowF; rw [e]
        rw [e] at F
        rw [er]
        simp_all! only [loop_cz, eNR, m_PartsWalk_begin_b1, m_PartsWalk_begin_r1, ob0, ow, oo, tfs, lkP, F, isN_ftE]
      | no =>
        have er : rowF beg key N x k r st = st := by unfold rowF; rw [e]
        rw [e] at F
        rw [er] at ih ⊢
        clear rk e2 hsz er hr hl hb hn D
        by_cases c : isN st.ft = true
        · rw [if_pos c]
          simp_all! only [loop_cz, eNR, m_PartsWalk_begin_b1, m_PartsWalk_begin_r1, ob0, ow, oo, tfs, lkP, F, c, ih]
        · have c : isN st.ft = false := by simpa using c
          rw [if_neg (by rw [c]; decide)]
          simp_all! only [loop_cz, eNR, m_PartsWalk_begin_b1, m_PartsWalk_begin_r1, ob0, ow, oo, tfs, lkP, F, c]
      | yes th =>
        have er : rowF beg key N x k r st = doF beg key N x k r th st := by unfold rowF; rw [e]
        rw [e] at F
        obtain ⟨y1, y2⟩ := fdL_yes key st.kn (whR r) (rdN r) [] th e
        have D := D th fun z hz => by
          obtain ⟨q, hq, rfl⟩ := List.mem_map.mp (rdN_nms r z hz)
          exact (y1 q hq).2
        rw [er] at ih ⊢
        clear rk e2 hsz er hr hl hb hn
        generalize doF beg key N x k r th st = st2 at D ih ⊢
        by_cases c : isN st2.ft = true
        · rw [if_pos c]
          simp_all! only [loop_cz, eNR, m_PartsWalk_begin_b1, m_PartsWalk_begin_r1, ob0, ow, oo, tfs, lkP, F, c, isN_dct, D, ih]
        · have c : isN st2.ft = false := by simpa using c
          rw [if_neg (by rw [c]; decide)]
          simp_all! only [loop_cz, eNR, m_PartsWalk_begin_b1, m_PartsWalk_begin_r1, ob0, ow, oo, tfs, lkP, F, c, isN_dct, D]
    · have ih := ih.2
      split
      · exact ⟨by have := ih.1; have := rk.1; simp only [List.length_cons]; omega, fun y hy => ih.2 y (rk.2 y hy)⟩
      · exact ⟨by have := rk.1; simp only [List.length_cons]; omega, rk.2⟩
theorem m_begin_c (hX : SeqD X (ePs P)) (hP : ∀ p ∈ P, p.2.length ≤ 1000) (key : Nm → Nm → Nm × Int) (hR : ∀ x, ∀ r ∈ rowsOf P x, RowK X x (key x) r) (M : Nat) (hM : M ≤ 16777000) : ∀ (n : Nat) (x : Nm) (st : Tr), todo P (fun _ => 1) st.bg < n → sz st + 1 + 2 * todo P rls st.bg ≤ M →
    m_PartsWalk_begin n [.loc a, .loc s0.length, .d (.str x)] (TT s0 N st) = .ok (.d .non, TT s0 N (begF P key N n x st)) ∧ Bnd P st (begF P key N n x st) 1
  | 0, x, st, h, _ => absurd h (Nat.not_lt_zero _)
  | n + 1, x, st, h, hs => by
    have ow := fun tk kn bg tc ft u => ts_w s0 N tk kn bg tc ft u hA
    have oo := fun tk kn bg tc ft u => ts_o s0 N tk kn bg tc ft u
    have o2 := fun tk kn bg tc ft u => ts_2 s0 N tk kn bg tc ft u
    have ci := cIn_sD st.bg x
    have en0 : start 7 [.loc a, .loc s0.length, .d (.str x)] = [some (.loc a), some (.loc s0.length), es x, e_, e_, e_, e_] := rfl
    have eB : m_PartsWalk_begin (n + 1) = m_PartsWalk_begin_s (m_PartsWalk_begin n) := rfl
    rw [eB]
    by_cases c : x ∈ st.bg
    · have e : begF P key N (n + 1) x st = st := by rw [begF, if_pos c]
      rw [e]
      refine ⟨mkF_x (t := []) _ en0 ?_ rfl (ts_cl hcl N _ _ _ _ _), ⟨by omega, fun _ h => h⟩⟩
      rw [List.append_nil]
      simp_all! only [ob0, ow, oo, o2, tfs, lkP, ci, c]
    · have e : begF P key N (n + 1) x st = rowsF (begF P key N n) (key x) N x (numR (rowsOf P x)) ⟨st.tk, st.kn, st.bg ++ [x], st.tc, st.ft⟩ := by rw [begF, if_neg c]
      rw [e]
      have ad : addN st.bg x = st.bg ++ [x] := by unfold addN; rw [if_neg c]
      have w1 := todo_step (w := fun _ => 1) c P
      have w2 := todo_step (w := rls) c P
      have hsz : sz st = st.kn.length + st.tc.length + st.bg.length := rfl
      have hsz2 : sz ⟨st.tk, st.kn, st.bg ++ [x], st.tc, st.ft⟩ = sz st + 1 := by simp only [sz, List.length_append, List.length_cons, List.length_nil]; omega
      have nl : (numR (rowsOf P x)).length = (rowsOf P x).length := by unfold numR; simp
      have R := m_rows_of_c hA hcl N hX hP x st.tk st.kn (st.bg ++ [x]) st.tc st.ft
      have sm : setAny (.loc (s0.length + 2)) (.d (.str x)) (.d (.bl true)) (TS s0 N st.tk st.kn st.bg st.tc st.ft []) = .ok (TS s0 N st.tk st.kn (st.bg ++ [x]) st.tc st.ft []) := by
        rw [setAny_lc]
        simp only [o2]
        have hl : st.bg.length < sizeL := by show _ < 16777216; omega
        rw [need_of (by rw [keyOk_s, sD_len, decide_eq_true hl]; rfl), putD_sD, ad, tt_2]
      have L : outOf (loop (gT [gN 3, gN 4, gN 5]) (m_PartsWalk_begin_b1 (m_PartsWalk_begin n)) (ws ((numR (rowsOf P x)).map (eNR x))) [some (.loc a), some (.loc s0.length), es x, e_, e_, e_, e_] (TT s0 N ⟨st.tk, st.kn, st.bg ++ [x], st.tc, st.ft⟩)) = .ok (.d .non, TT s0 N (rowsF (begF P key N n) (key x) N x (numR (rowsOf P x)) ⟨st.tk, st.kn, st.bg ++ [x], st.tc, st.ft⟩)) ∧ Bnd P ⟨st.tk, st.kn, st.bg ++ [x], st.tc, st.ft⟩ (rowsF (begF P key N n) (key x) N x (numR (rowsOf P x)) ⟨st.tk, st.kn, st.bg ++ [x], st.tc, st.ft⟩) (2 * (numR (rowsOf P x)).length) := by
        cases e3 : P.find? (fun p => decide (p.1 = x)) with
        | none =>
          have er : rowsOf P x = [] := by unfold rowsOf; rw [e3]
          rw [er]
          exact ⟨rfl, ⟨by show _ ≤ _; exact Nat.le_refl _, fun _ h => h⟩⟩
        | some p =>
          have er : rowsOf P x = p.2 := by unfold rowsOf; rw [e3]
          rw [e3] at w1 w2
          simp only at w1 w2
          have hrl : rls p = (rowsOf P x).length := by rw [er]; rfl
          refine begin_l hA hcl N n (begF P key N n) M hM (fun st => todo P (fun _ => 1) st.bg < n) x (key x) (fun y st h1 h2 => m_begin_c hX hP key hR M hM n y st h1 h2) (fun st st2 h1 h2 => Nat.lt_of_le_of_lt (todo_mono h2 P) h1) _ _ (fun q hq => ?_) ?_ ?_
          · unfold numR at hq
            obtain ⟨i, hi, rfl⟩ := List.mem_map.mp hq
            refine hR x _ ?_
            show (rowsOf P x).getD i (.take []) ∈ rowsOf P x
            have hi := List.mem_range.mp hi
            rw [List.getD_eq_getElem?_getD, List.getElem?_eq_getElem hi]; exact List.getElem_mem hi
          · show todo P (fun _ => 1) (st.bg ++ [x]) < n
            omega
          · rw [nl, hsz2]
            show _ + _ + 2 * todo P rls (st.bg ++ [x]) ≤ M
            omega
      refine ⟨mkF_x (t := []) _ en0 ?_ (by rw [ts_len, ts_len]) (ts_cl hcl N _ _ _ _ _), ⟨?_, fun y hy => L.2.2 y (List.mem_append_left _ hy)⟩⟩
      · rw [List.append_nil]
        have L := L.1
        generalize rowsF (begF P key N n) (key x) N x (numR (rowsOf P x)) ⟨st.tk, st.kn, st.bg ++ [x], st.tc, st.ft⟩ = st2 at L ⊢
        clear w1 w2 nl hsz hsz2 e eB hR
        simp_all! only [ob0, ow, oo, o2, tfs, lkP, ci, c, sm, R, L, m_PartsWalk_begin_r2]
      · have := L.2.1
        rw [hsz2, nl] at this
        have h4 : (rowsOf P x).length = (match P.find? (fun p => decide (p.1 = x)) with | some p => rls p | none => 0) := by
          unfold rowsOf; cases P.find? (fun p => decide (p.1 = x)) <;> rfl
        have h5 : todo P rls (st.bg ++ [x]) = todo P rls (Tr.mk st.tk st.kn (st.bg ++ [x]) st.tc st.ft).bg := rfl
        omega
end
theorem nw_o (s0 : Sto) (fs : List (List Nat × W)) (u : Sto) : objO 0 (.loc s0.length) (s0 ++ (.o 0 fs :: u)) = .ok (s0.length, fs) := by unfold objO; simp
theorem nw_s (s0 : Sto) (c c2 : C) (u : Sto) : (s0 ++ (c :: u)).set s0.length c2 = s0 ++ (c2 :: u) := by
  have := app_set s0 (c :: u) 0 c2; rw [Nat.add_zero] at this; rw [this]; rfl
theorem nw_a (s0 : Sto) (c : C) (u v : Sto) : s0 ++ (c :: u) ++ v = s0 ++ (c :: (u ++ v)) := by simp
theorem nw_l (s0 : Sto) (c : C) (u : Sto) : (s0 ++ (c :: u)).length = s0.length + (u.length + 1) := by simp
theorem putB_nil (f : List Nat) (w : W) : putB f w [] = [(f, w)] := rfl
theorem putB_cons (f g : List Nat) (w x : W) (r : List (List Nat × W)) : putB f w ((g, x) :: r) = if g = f then (g, w) :: r else (g, x) :: putB f w r := rfl
theorem m_init_c (s0 : Sto) (N : List Int) : m_Trail___init__K [.loc s0.length, .d (.tup (N.map .int))] (s0 ++ [.o 0 []]) = .ok (.d .non, TS s0 N 0 [] [] [] .non []) := by
  have mk : ∀ (n : Nat) (b : Sx) (a : List W) (s : Sto), mkK n b a s = outOf (b (start n a) s) := fun _ _ _ _ => rfl
  have en0 : start 2 [.loc s0.length, .d (.tup (N.map .int))] = [some (.loc s0.length), ed (.tup (N.map .int))] := rfl
  unfold m_Trail___init__K
  rw [mk, en0]
  have e : TS s0 N 0 [] [] [] .non [] = s0 ++ [.o 0 [([110, 117, 109, 98, 101, 114, 115], .d (.tup (N.map .int))), ([116, 97, 107, 101, 110], .d (.int 0)), ([107, 110, 111, 119, 110], .loc (s0.length + 1)), ([98, 101, 103, 117, 110], .loc (s0.length + 2)), ([108, 111, 97, 100, 101, 100], .loc (s0.length + 3)), ([116, 114, 97, 99, 101], .loc (s0.length + 4)), ([102, 97, 117, 108, 116], .d .non)], .m true [], .m false [], .m false [], .l []] := rfl
  rw [e]
  simp_all! only [ob0, nw_o, nw_s, nw_a, nw_l, putB_nil, putB_cons, List.length_nil, List.length_cons, List.nil_append, List.cons_append]
def stA : Tr := ⟨0, [], [], [], .non⟩
section
variable {s0 : Sto} {a : Nat} {X : D} {P : List Part} (hA : s0[a]? = some (.o 1 [([112, 97, 114, 116, 115], .d X)])) (hcl : clS s0.length s0 = true) (N : List Int)
include hA hcl
theorem m_go_c (hX : SeqD X (ePs P)) (hP : ∀ p ∈ P, p.2.length ≤ 1000) (key : Nm → Nm → Nm × Int) (hR : ∀ x, ∀ r ∈ rowsOf P x, RowK X x (key x) r) (hl : P.length < 30) (x : Nm) :
    m_PartsWalk_go [.loc a, .d (.str x), .d (.tup (N.map .int))] s0 = .ok (.d (.tup [.tup (begF P key N 30 x stA).tc, (begF P key N 30 x stA).ft]), s0) := by
  have h1 : todo P (fun _ => 1) stA.bg < 30 := by
    have : ∀ P : List Part, todo P (fun _ => 1) [] = P.length := fun P => by
      unfold todo; induction P with
      | nil => rfl
      | cons p P ih => simp at ih ⊢; omega
    show todo P (fun _ => 1) [] < 30
    rw [this]; exact hl
  have h2 : todo P rls [] ≤ 1000 * P.length := by
    have : ∀ P : List Part, (∀ p ∈ P, p.2.length ≤ 1000) → todo P rls [] ≤ 1000 * P.length := fun P => by
      unfold todo; induction P with
      | nil => intro _; exact Nat.le_refl _
      | cons p P ih =>
        intro h
        have := h p List.mem_cons_self
        have := ih fun q hq => h q (List.mem_cons_of_mem _ hq)
        simp [rls] at this ⊢; omega
    exact this P hP
  have B := (m_begin_c hA hcl N hX hP key hR 16777000 (Nat.le_refl _) 30 x stA h1 (by show 0 + 1 + 2 * todo P rls [] ≤ _; omega)).1
  have hA2 := hA
  have I := m_init_c s0 N
  have ow := fun tk kn bg tc ft u => ts_w s0 N tk kn bg tc ft u hA
  have oo := fun tk kn bg tc ft u => ts_o s0 N tk kn bg tc ft u
  have o4 := fun tk kn bg tc ft u => ts_4 s0 N tk kn bg tc ft u
  have hcl2 := fun tk kn bg tc ft => ts_cl hcl N tk kn bg tc ft
  have ld := fun tk kn bg tc ft w w2 => m_loads_c w w2 (TS s0 N tk kn bg tc ft []) (hcl2 tk kn bg tc ft)
  have la := fun tk kn bg tc ft w w2 => m_ahead_c w w2 (TS s0 N tk kn bg tc ft []) (hcl2 tk kn bg tc ft)
  have lo := fun tk kn bg tc ft w => m_load_c w (TS s0 N tk kn bg tc ft []) (hcl2 tk kn bg tc ft)
  have en0 : start 4 [.loc a, .d (.str x), .d (.tup (N.map .int))] = [some (.loc a), es x, ed (.tup (N.map .int)), e_] := rfl
  have B : m_PartsWalk_begin 30 [.loc a, .loc s0.length, .d (.str x)] (TS s0 N 0 [] [] [] .non []) = .ok (.d .non, TT s0 N (begF P key N 30 x stA)) := B
  generalize begF P key N 30 x stA = st2 at B ⊢
  refine mkF_x (t := .o 0 (trF s0.length N st2.tk st2.ft) :: .m true (dctE kSI .int st2.kn) :: .m false (sD st2.bg) :: .m false [] :: .l st2.tc :: []) _ en0 ?_ rfl hcl
  have e2 : s0 ++ (.o 0 (trF s0.length N st2.tk st2.ft) :: .m true (dctE kSI .int st2.kn) :: .m false (sD st2.bg) :: .m false [] :: .l st2.tc :: []) = TT s0 N st2 := rfl
  rw [e2]
  simp_all! only [ob0, ow, oo, o4, tfs, lkP, I, ld, la, lo, B]
end
theorem m_pinit_c (X : D) : m_PartsWalk___init__K [.loc 0, .d X] [.o 1 []] = .ok (.d .non, [.o 1 [([112, 97, 114, 116, 115], .d X)]]) := rfl
theorem p_run_c {X : D} {P : List Part} (hX : SeqD X (ePs P)) (hP : ∀ p ∈ P, p.2.length ≤ 1000) (key : Nm → Nm → Nm × Int) (hR : ∀ x, ∀ r ∈ rowsOf P x, RowK X x (key x) r) (hl : P.length < 30) (x : Nm) (N : List Int) (s : Sto) :
    callP p_run [.d X, .d (.str x), .d (.tup (N.map .int))] s = .ok (.d (.tup [.tup (begF P key N 30 x stA).tc, (begF P key N 30 x stA).ft]), s) := by
  have G := m_go_c (s0 := [.o 1 [([112, 97, 114, 116, 115], .d X)]]) (a := 0) (X := X) (P := P) rfl rfl N hX hP key hR hl x
  have I := m_pinit_c X
  have oo : objO 1 (.loc 0) [.o 1 [([112, 97, 114, 116, 115], .d X)]] = .ok (0, [([112, 97, 114, 116, 115], .d X)]) := rfl
  simp_all! only [p_run, ob0, List.length_nil, List.nil_append, oo, lkP, I, G]


/-! ### runs, plainly -/
def thA (va : Nm → Int) : Th → Int
  | .num i => i | .nm z => va z
def vaT (va : Nm → Int) (t : List (Int × Th)) : Int := t.foldl (fun a q => a + q.1 * thA va q.2) 0
theorem foldl_congr' {α β : Type} {f g : β → α → β} : ∀ (l : List α) (b : β), (∀ x ∈ l, ∀ b, f b x = g b x) → l.foldl f b = l.foldl g b
  | [], _, _ => rfl
  | x :: l, b, h => by
    rw [List.foldl_cons, List.foldl_cons, h x List.mem_cons_self, foldl_congr' l _ fun y hy => h y (List.mem_cons_of_mem _ hy)]
theorem nmsT_mem {t : List (Int × Th)} {z : Nm} : z ∈ nmsT t ↔ ∃ s, (s, Th.nm z) ∈ t := by
  unfold nmsT
  rw [List.mem_filterMap]
  constructor
  · rintro ⟨⟨s, q⟩, h1, h2⟩
    cases q with
    | num i => cases h2
    | nm y => cases h2; exact ⟨s, h1⟩
  · rintro ⟨s, h⟩; exact ⟨_, h, rfl⟩
theorem valT_eq {th : List (Nm × Int)} {va : Nm → Int} {t : List (Int × Th)} (h : ∀ z ∈ nmsT t, dGet th z = some (va z)) : valT th t = vaT va t := by
  unfold valT vaT
  refine foldl_congr' t 0 fun q hq b => ?_
  obtain ⟨s, q⟩ := q
  cases q with
  | num i => rfl
  | nm z =>
    have := h z (nmsT_mem.mpr ⟨s, hq⟩)
    show b + s * (dGet th z).getD 0 = b + s * va z
    rw [this]; rfl
theorem fdL_all {key : Nm → Nm × Int} {kn : List ((Nm × Int) × Int)} {wh : Option Nm} {va : Nm → Int} (hw : ∀ z, wh = some z → 0 < va z) : ∀ (l : List (Int × Nm)) (th0 : List (Nm × Int)), (∀ q ∈ l, dGet kn (key q.2) = some (va q.2)) → ∃ th, fdL key kn wh l th0 = .yes th
  | [], th0, _ => ⟨th0, rfl⟩
  | (w, z) :: l, th0, h => by
    obtain ⟨th, ih⟩ := fdL_all hw l (dPut th0 z (va z)) fun q hq => h q (List.mem_cons_of_mem _ hq)
    refine ⟨th, ?_⟩
    have h1 : dGet kn (key z) = some (va z) := h (w, z) List.mem_cons_self
    rw [fdL, h1]
    simp only
    rw [if_neg (fun c => by have := hw z c.1; omega)]
    exact ih
section
variable {beg : Nm → Tr → Tr} {key : Nm → Nm × Int} {N : List Int} {x : Nm} {k : Nat} {r : Row} {st : Tr} {va : Nm → Int}
/-- a row all whose names are known -/
theorem rowF_all (h : ∀ q ∈ rdN r, dGet st.kn (key q.2) = some (va q.2)) (hw : ∀ z, whR r = some z → 0 < va z) : ∃ th, rowF beg key N x k r st = doF beg key N x k r th st ∧ valT th (tmL r) = vaT va (tmL r) := by
  obtain ⟨th, e⟩ := fdL_all hw (rdN r) [] h
  refine ⟨th, by unfold rowF; rw [e], valT_eq fun z hz => ?_⟩
  obtain ⟨q, hq, rfl⟩ := List.mem_map.mp (rdN_nms r z hz)
  rw [((fdL_yes _ _ _ _ _ _ e).1 q hq).1, h q hq]
theorem rowF_set {o : Nm} {t : List (Int × Th)} (h : ∀ z ∈ nmsT t, dGet st.kn (key z) = some (va z)) : rowF beg key N x k (.set o t) st = ⟨st.tk, dPut st.kn (key o) (vaT va t), st.bg, st.tc, st.ft⟩ := by
  obtain ⟨th, e1, e2⟩ := rowF_all (beg := beg) (N := N) (x := x) (k := k) (r := .set o t) (st := st) (key := key) (va := va) (fun q hq => h _ (by rw [← sumN_nms t 3]; exact List.mem_map_of_mem hq)) (fun z hz => by cases hz)
  rw [e1]
  have e2 : valT th t = vaT va t := e2
  show Tr.mk _ (dPut st.kn (key o) (valT th t)) _ _ _ = _
  rw [e2]
theorem rowF_say {t : List (Int × Th)} (h : ∀ z ∈ nmsT t, dGet st.kn (key z) = some (va z)) : rowF beg key N x k (.say t none) st = ⟨st.tk, st.kn, st.bg, st.tc ++ [sayE (vaT va t) x k], st.ft⟩ := by
  obtain ⟨th, e1, e2⟩ := rowF_all (beg := beg) (N := N) (x := x) (k := k) (r := .say t none) (st := st) (key := key) (va := va) (fun q hq => h _ (by rw [← sumN_nms t 1]; exact List.mem_map_of_mem hq)) (fun z hz => by cases hz)
  rw [e1]
  have e2 : valT th t = vaT va t := e2
  show Tr.mk _ _ _ (st.tc ++ [sayE (valT th t) x k]) _ = _
  rw [e2]
theorem rowF_take {o : Nm} : rowF beg key N x k (.take o) st = ⟨if st.tk < N.length then st.tk + 1 else st.tk, dPut st.kn (key o) (N.getD st.tk 0), st.bg, st.tc ++ [tkE (N.getD st.tk 0) x k], st.ft⟩ := rfl
theorem rowF_bring {y : Nm} {ps : List (Nm × Nm)} : rowF beg key N x k (.bring y ps) st = beg y st := rfl
theorem rowF_give {o g : Nm} : rowF beg key N x k (.give o g) st = st := rfl
theorem rowF_ask {y : Nm} : rowF beg key N x k (.ask y none) st = beg y st := rfl
/-- rows by their places -/
theorem rowsF_run (S : Nat → Tr) : ∀ (l : List (Nat × Row)) (n : Nat), (∀ i (hi : i < l.length), rowF beg key N x l[i].1 l[i].2 (S (n + i)) = S (n + i + 1)) → (∀ i, isN (S i).ft = true) → rowsF beg key N x l (S n) = S (n + l.length)
  | [], n, _, _ => rfl
  | (k, r) :: l, n, h, hf => by
    have h0 := h 0 (by simp)
    simp only [List.getElem_cons_zero, Nat.add_zero] at h0
    have ih := rowsF_run S l (n + 1) (fun i hi => by
      have := h (i + 1) (by simpa using hi)
      simp only [List.getElem_cons_succ] at this
      rw [show n + (i + 1) = n + 1 + i by omega] at this
      exact this) hf
    rw [rowsF, h0, if_pos (hf _), ih, List.length_cons, show n + 1 + l.length = n + (l.length + 1) by omega]
end
theorem numR_get (rs : List Row) (i : Nat) (h : i < (numR rs).length) : (numR rs)[i] = (i, rs[i]'(by unfold numR at h; simpa using h)) := by
  unfold numR at h ⊢
  have h2 : i < rs.length := by simpa using h
  rw [List.getElem_map, List.getElem_range, List.getD_eq_getElem?_getD, List.getElem?_eq_getElem h2]; rfl
theorem numR_len (rs : List Row) : (numR rs).length = rs.length := by unfold numR; simp
/-- a name that its part makes -/
theorem maker_here {X : D} {P : List Part} (hX : SeqD X (ePs P)) {x o : Nm} {k : Nat} (h : madeIn (rowsOf P x) o = some k) (s : Sto) : callP p_maker [.d X, .d (.str x), .d (.str o)] s = .ok (.d (kSI (x, (k : Nat))), s) := by
  obtain ⟨h1, _⟩ := p_maker_c hX (fun _ _ => 0) (fun x o => ∃ k, madeIn (rowsOf P x) o = some k) (fun x o h => .inl h) x o ⟨k, h⟩ (by decide)
  have e : makerL P x o = (x, k) := by unfold makerL mkrF; rw [h]
  rw [e] at h1
  exact h1 s
def keyH (P : List Part) (x z : Nm) : Nm × Int := (x, (((madeIn (rowsOf P x) z).getD 0 : Nat) : Int))
theorem keyH_c {X : D} {P : List Part} (hX : SeqD X (ePs P)) {x o : Nm} (h : (madeIn (rowsOf P x) o).isSome = true) (s : Sto) : callP p_maker [.d X, .d (.str x), .d (.str o)] s = .ok (.d (kSI (keyH P x o)), s) := by
  obtain ⟨k, e⟩ := Option.isSome_iff_exists.mp h
  unfold keyH
  rw [e]; exact maker_here hX e s
theorem madeIn_some {rs : List Row} {r : Row} {o : Nm} (h : r ∈ rs) (e : mkT r = some o) : (madeIn rs o).isSome = true := by
  unfold madeIn
  rw [List.findIdx?_isSome, List.any_eq_true]
  exact ⟨r, h, decide_eq_true e⟩
/-- rows whose names are all made in their part -/
theorem rowK_here {X : D} {P : List Part} (hX : SeqD X (ePs P)) {x : Nm} {r : Row} (hr : r ∈ rowsOf P x) (hl : (tmL r).length ≤ 100) (hs : ∀ q ∈ tmL r, q.1 = 1 ∨ q.1 = -1) (hn : ∀ q ∈ rdN r, ∃ r2 ∈ rowsOf P x, mkT r2 = some q.2) : RowK X x (keyH P x) r :=
  ⟨hl, fun q hq => by rcases hs q hq with h | h <;> rw [h] <;> decide, fun q hq s => by
    obtain ⟨r2, h1, h2⟩ := hn q hq
    exact keyH_c hX (madeIn_some h1 h2) s, fun z hz s => keyH_c hX (madeIn_some hr hz) s⟩
theorem keyH_inj {P : List Part} {x z y : Nm} (hz : ∃ r ∈ rowsOf P x, mkT r = some z) (hy : ∃ r ∈ rowsOf P x, mkT r = some y) (e : keyH P x z = keyH P x y) : z = y := by
  obtain ⟨r1, a1, b1⟩ := hz
  obtain ⟨r2, a2, b2⟩ := hy
  obtain ⟨k1, e1⟩ := Option.isSome_iff_exists.mp (madeIn_some a1 b1)
  obtain ⟨k2, e2⟩ := Option.isSome_iff_exists.mp (madeIn_some a2 b2)
  unfold keyH at e
  rw [e1, e2] at e
  have e3 : k1 = k2 := by
    have : ((k1 : Nat) : Int) = ((k2 : Nat) : Int) := congrArg Prod.snd e
    omega
  subst e3
  obtain ⟨_, r3, c1, c2⟩ := madeIn_mem e1
  obtain ⟨_, r4, d1, d2⟩ := madeIn_mem e2
  rw [c1] at d1
  cases d1
  rw [c2] at d2
  exact Option.some.inj d2
theorem rowsOf_one (x y : Nm) (rs : List Row) : rowsOf [(x, rs)] y = if x = y then rs else [] := by
  unfold rowsOf
  rw [List.find?_cons]
  by_cases h : x = y <;> simp [h]
/-- how a run begins -/
theorem begF_start (P : List Part) (key : Nm → Nm → Nm × Int) (N : List Int) (n : Nat) (x : Nm) : begF P key N (n + 1) x stA = rowsF (begF P key N n) (key x) N x (numR (rowsOf P x)) ⟨0, [], [x], [], .non⟩ := by
  rw [begF, if_neg (by simp [stA])]; rfl
theorem rowsF_bnd {P : List Part} {beg : Nm → Tr → Tr} {key : Nm → Nm × Int} {N : List Int} {x : Nm} (h : ∀ y st, Bnd P st (beg y st) 1) : ∀ (l : List (Nat × Row)) (st : Tr), Bnd P st (rowsF beg key N x l st) (2 * l.length)
  | [], st => ⟨by simp only [rowsF, List.length_nil]; omega, fun _ h => h⟩
  | (k, r) :: l, st => by
    have a := rowF_ok (P := P) (key := key) (N := N) (x := x) (k := k) (r := r) (st := st) (beg := beg) fun y _ => h y st
    have b := rowsF_bnd (key := key) (N := N) (x := x) h l (rowF beg key N x k r st)
    rw [rowsF]
    split
    · exact ⟨by have := a.1; have := b.1; simp only [List.length_cons]; omega, fun y hy => b.2 y (a.2 y hy)⟩
    · exact ⟨by have := a.1; simp only [List.length_cons]; omega, a.2⟩
theorem begF_bnd (P : List Part) (key : Nm → Nm → Nm × Int) (N : List Int) : ∀ (n : Nat) (x : Nm) (st : Tr), Bnd P st (begF P key N n x st) 1
  | 0, x, st => ⟨by simp only [begF]; omega, fun _ h => h⟩
  | n + 1, x, st => by
    rw [begF]
    by_cases c : x ∈ st.bg
    · rw [if_pos c]; exact ⟨by omega, fun _ h => h⟩
    · rw [if_neg c]
      have a := rowsF_bnd (key := key x) (N := N) (x := x) (begF_bnd P key N n) (numR (rowsOf P x)) ⟨st.tk, st.kn, st.bg ++ [x], st.tc, st.ft⟩
      have w2 := todo_step (w := rls) c P
      have h4 : todo P rls (st.bg ++ [x]) + (rowsOf P x).length ≤ todo P rls st.bg := by
        unfold rowsOf
        cases e : P.find? (fun p => decide (p.1 = x)) with
        | none => rw [e] at w2; exact w2
        | some p => rw [e] at w2; exact w2
      have hsz2 : sz ⟨st.tk, st.kn, st.bg ++ [x], st.tc, st.ft⟩ = sz st + 1 := by simp only [sz, List.length_append, List.length_cons, List.length_nil]; omega
      have h5 : todo P rls (st.bg ++ [x]) = todo P rls (Tr.mk st.tk st.kn (st.bg ++ [x]) st.tc st.ft).bg := rfl
      refine ⟨?_, fun y hy => a.2 y (List.mem_append_left _ hy)⟩
      have := a.1
      rw [hsz2, numR_len] at this
      omega
/-- rows none of which ends the run -/
theorem rowsF_fold {beg : Nm → Tr → Tr} {key : Nm → Nm × Int} {N : List Int} {x : Nm} {I : Tr → Prop} (hf : ∀ st, I st → isN st.ft = true) : ∀ (l : List (Nat × Row)) (st : Tr), (∀ p ∈ l, ∀ st, I st → I (rowF beg key N x p.1 p.2 st)) → I st → rowsF beg key N x l st = l.foldl (fun st p => rowF beg key N x p.1 p.2 st) st
  | [], st, _, _ => rfl
  | (k, r) :: l, st, h, i => by
    have i1 := h (k, r) List.mem_cons_self st i
    rw [rowsF, if_pos (hf _ i1), List.foldl_cons]
    exact rowsF_fold hf l _ (fun p hp => h p (List.mem_cons_of_mem _ hp)) i1
theorem numR_fold {σ : Type} (f : σ → Nat × Row → σ) (rs : List Row) (st : σ) : (numR rs).foldl f st = (List.range' 0 rs.length).foldl (fun st i => f st (i, rs.getD i (.take []))) st := by
  unfold numR; rw [List.foldl_map, List.range_eq_range']
theorem dGet_rows {P : List Part} {x : Nm} (h : x ∈ P.map (·.1)) : dGet P x = some (rowsOf P x) := by
  unfold dGet rowsOf
  cases e : P.find? (fun p => decide (p.1 = x)) with
  | none =>
    obtain ⟨p, hp, hx⟩ := List.mem_map.mp h
    have := List.find?_eq_none.mp e p hp
    simp at this; exact absurd hx this
  | some p => rfl

noncomputable def l_cell_at_r1 (e : Env) (s : Sto) : R O := (sRet (eK (.int 0))) e s
def l_cell_at_u := And.intro @l_cell_at_r1.eq_1 True.intro
noncomputable def l_cell_at : Fn := mkF 2 (sSeq (sIf (tB (e2 (d2 cLt) (eV 1) (e1 bLen (eV 0)))) (sRet (e2 oIx (eV 0) (eV 1))) sSkip) l_cell_at_r1)
def cellAt (ns : List Int) (k : Int) : Int := ns.getD k.toNat 0
theorem l_cell_at_c (ns : List Int) (k : Int) (h : 0 ≤ k) (s : Sto) : callP l_cell_at [.d (.inp (ns.map .int)), .d (.int k)] s = .ok (.d (.int (cellAt ns k)), s) := by
  by_cases hk : k < ns.length
  · simpa! only [l_cell_at, l_cell_at_u, hk, cellAt]
  · have : cellAt ns k = 0 := by unfold cellAt; rw [List.getD_eq_getElem?_getD, List.getElem?_eq_none (by omega)]; rfl
    simpa! only [l_cell_at, l_cell_at_u, hk, this]


/-! ### drawn names: a text with a letter put into it -/
def bsD (bs : List Nm) (form : Int) : Nm := bs.getD (form % 5).toNat []
def atD (bs : List Nm) (form : Int) : Int := form / 5 % (((bsD bs form).length : Nat) + 1)
def nmB (bs : List Nm) (form k : Int) : Nm := (bsD bs form).take (atD bs form).toNat ++ [97 + k.toNat] ++ (bsD bs form).drop (atD bs form).toNat
theorem nmB_inj {bs : List Nm} {form k j : Int} (hk : 0 ≤ k) (hj : 0 ≤ j) (e : nmB bs form k = nmB bs form j) : k = j := by
  unfold nmB at e
  rw [List.append_assoc, List.append_assoc] at e
  have e := List.append_cancel_left e
  have := (List.cons.inj e).1
  omega
theorem nmB_ok {bs : List Nm} (hb : ∀ z ∈ bs, z.length ≤ 20 ∧ ∀ c ∈ z, c < 0x110000) (form : Int) {k : Int} (hk : 0 ≤ k ∧ k < 26) : GoodT (nmB bs form k) := by
  have h : (bsD bs form).length ≤ 20 ∧ ∀ c ∈ bsD bs form, c < 0x110000 := by
    unfold bsD
    rw [List.getD_eq_getElem?_getD]
    cases e : bs[(form % 5).toNat]? with
    | none => simp
    | some z => exact hb z (List.mem_of_getElem? e)
  obtain ⟨h1, h2⟩ := h
  refine ⟨?_, List.all_eq_true.mpr fun c hc => ?_⟩
  · unfold nmB; simp only [List.length_append, List.length_take, List.length_drop, List.length_cons, List.length_nil]; omega
  · unfold nmB at hc
    rw [List.mem_append, List.mem_append, List.mem_singleton] at hc
    apply decide_eq_true
    rcases hc with (hc | hc) | hc
    · exact h2 c (List.mem_of_mem_take hc)
    · omega
    · exact h2 c (List.mem_of_mem_drop hc)
theorem bsD_len {bs : List Nm} (hb : ∀ z ∈ bs, z.length ≤ 20) (form : Int) : (bsD bs form).length ≤ 20 := by
  unfold bsD
  rw [List.getD_eq_getElem?_getD]
  cases e : bs[(form % 5).toNat]? with
  | none => simp
  | some z => exact hb z (List.mem_of_getElem? e)
theorem okD_good {z : Nm} (h : GoodT z) (n : Nat) : okD n (.str z) = true := by
  cases n <;> exact h.2
/-! ### lists of rows in the store -/
def lcsD (k n : Nat) : List W := (List.range' k n).map W.loc
def RSto (n : Nat) (R : List (List Row)) (u : Sto) : Sto := (R.map fun r => C.l (r.map eRow)) ++ (C.w (lcsD 0 n) :: u)
section
variable {n : Nat} {R : List (List Row)} {u : Sto} (h : R.length = n)
include h
theorem rs_len : (RSto n R u).length = n + 1 + u.length := by unfold RSto; simp [h]; omega
theorem rs_w : (RSto n R u)[n]? = some (C.w (lcsD 0 n)) := by
  unfold RSto
  rw [List.getElem?_append_right (by simp; omega)]; simp [h]
theorem rs_r {i : Nat} (hi : i < n) : (RSto n R u)[i]? = some (.l ((R.getD i []).map eRow)) := by
  unfold RSto
  rw [List.getElem?_append_left (by simp; omega), List.getElem?_map, List.getElem?_eq_getElem (by omega)]
  simp [List.getD_eq_getElem?_getD, show i < R.length by omega]
theorem rs_s {i : Nat} (hi : i < n) (r : List Row) : (RSto n R u).set i (.l (r.map eRow)) = RSto n (R.set i r) u := by
  unfold RSto
  rw [List.set_append_left _ _ (by simp; omega), List.map_set]
theorem rs_u (j : Nat) : (RSto n R u)[n + 1 + j]? = u[j]? := by
  unfold RSto
  rw [List.getElem?_append_right (by simp; omega), List.length_map, h, show n + 1 + j - n = j + 1 by omega, List.getElem?_cons_succ]
end
theorem clsD (k m N : Nat) (h : k + m ≤ N) : cls N (lcsD k m) = true := by
  unfold lcsD
  induction m generalizing k with
  | zero => rfl
  | succ m ih =>
    rw [List.range'_succ, List.map_cons]
    show (decide (k < N) && cls N _) = true
    rw [ih (k + 1) (by omega), decide_eq_true (by omega)]; rfl
theorem ixD {k n : Nat} {i : Int} (h : 0 ≤ i ∧ i < n) (s : Sto) : ixW (lcsD k n) (.d (.int i)) s = .ok (.loc (k + i.toNat), s) := by
  have h2 : i.toNat < n := by omega
  have e : atI (lcsD k n) i = some (.loc (k + i.toNat)) := by
    have hl : (lcsD k n).length = n := by simp [lcsD]
    have hx : ixN (lcsD k n).length i = some i.toNat := by
      rw [hl]; unfold ixN; rw [if_pos h.1, if_pos h.2]
    unfold atI
    rw [hx]
    show (lcsD k n)[i.toNat]? = _
    unfold lcsD
    rw [List.getElem?_map, List.getElem?_range' h2]; simp
  show (ofO (atI (lcsD k n) i)).bind _ = _
  rw [e]; rfl
/-- lists of the store, all empty -/
theorem comp_newD {v : Nat} (a : Ev) (ha : ∀ e s, a e s = .ok (.loc s.length, s ++ [.l []])) (E : Env) : ∀ (l : List W) (s : Sto), comp (gN v) tYes a [v] E l s = .ok (lcsD s.length l.length, s ++ List.replicate l.length (.l []))
  | [], s => by simp only [comp_nil, List.length_nil, List.replicate_zero, List.append_nil]; rfl
  | x :: l, s => by
    have ih := comp_newD (v := v) a ha E l (s ++ [.l []])
    rw [comp_consY, gN_ap, qt_ok', R.bind_ok, ha, qt_ok', R.bind_ok, ih, R.bind_ok]
    rw [List.length_append, List.length_singleton, List.length_cons]
    have e : lcsD s.length (l.length + 1) = .loc s.length :: lcsD (s.length + 1) l.length := by unfold lcsD; rw [List.range'_succ]; rfl
    rw [e, List.append_assoc]; rfl
theorem newL_D {k n : Nat} (hn : 1 ≤ n) (s : Sto) : newL (lcsD k n) s = .ok (.loc s.length, s ++ [.w (lcsD k n)]) := by
  cases n with
  | zero => omega
  | succ n =>
    have e : lcsD k (n + 1) = .loc k :: lcsD (k + 1) n := by unfold lcsD; rw [List.range'_succ]; rfl
    rw [e]; rfl
theorem RSto_0 (n : Nat) : List.replicate n (C.l []) ++ [C.w (lcsD 0 n)] = RSto n (List.replicate n []) [] := by unfold RSto; simp
theorem lInsert_D {k : Nat} {l : List D} {s : Sto} (h : s[k]? = some (.l l)) {i : Int} (hi : 0 ≤ i ∧ i < 4611686018427387904) (hl : l.length < 16777216) (x : D) : lInsert (.loc k) (.d (.int i)) (.d x) s = .ok (.d .non, s.set k (.l (ins l i.toNat x))) := by
  unfold lInsert
  have h1 : (small62 i && decide (0 ≤ i)) = true := by unfold small62; simp; omega
  simp only [h1, need_true, h]
  rw [need_of (decide_eq_true (show l.length < sizeL from hl))]
theorem ins_map {α β : Type} (f : α → β) (l : List α) (i : Nat) (x : α) : ins (l.map f) i (f x) = (ins l i x).map f := by unfold ins; simp [List.map_take, List.map_drop]
theorem ins_len {α : Type} (l : List α) (i : Nat) (x : α) : (ins l i x).length = l.length + 1 := by unfold ins; simp; omega
theorem mem_ins {α : Type} {l : List α} {i : Nat} {x y : α} : y ∈ ins l i x ↔ y ∈ l ∨ y = x := by
  unfold ins
  have : y ∈ l ↔ y ∈ l.take i ∨ y ∈ l.drop i := by
    rw [← List.mem_append, List.take_append_drop]
  rw [this]
  simp only [List.mem_append, List.mem_singleton]
  constructor
  · rintro ((h | h) | h)
    · exact .inl (.inl h)
    · exact .inr h
    · exact .inl (.inr h)
  · rintro ((h | h) | h)
    · exact .inl (.inl h)
    · exact .inr h
    · exact .inl (.inr h)
theorem getDm {α : Type} {l : List α} {i : Nat} {d : α} (h : i < l.length) : l.getD i d ∈ l := by
  simp [List.getD_eq_getElem?_getD, h]

noncomputable def l_cell_of : Fn := mkF 2 (sRet (e2 oAdd (eN (callP l_cell_at) [(eV 0), (e2 oAdd (eK (.int 6)) (e2 (d2 oMod) (eV 1) (e2 (d2 bMax2) (eK (.int 1)) (e2 (d2 oSub) (e1 bLen (eV 0)) (eK (.int 6))))))]) (e2 (d2 oMul) (e2 (d2 oMul) (eK (.int 7)) (eV 1)) (eV 1))))
noncomputable def l_number : Fn := mkF 2 (sRet (e2 (d2 oMod) (e2 (d2 oMul) (eN (callP l_cell_of) [(eV 0), (eV 1)]) (eK (.int 982451653))) (e2 (d2 oPow) (eK (.int 10)) (eK (.int 60)))))
noncomputable def l_name : Fn := mkF 4 (sSeq (sAsg (gN 2) (e2 oIx (eN fLst [(eK (.str [])), (eK (.str [97, 115])), (eK (.str [110, 97, 109, 101])), (eK (.str [120, 49, 121])), (eK (.str [116, 97, 107, 101]))]) (e2 (d2 oMod) (eV 0) (eK (.int 5))))) (sSeq (sAsg (gN 3) (e2 (d2 oMod) (e2 (d2 oDiv) (eV 0) (eK (.int 5))) (e2 oAdd (e1 bLen (eV 2)) (eK (.int 1))))) (sRet (e2 oAdd (e2 oAdd (eSl (eV 2) none (some (eV 3))) (e2 oIx (eK (.str [97, 98, 99, 100, 101, 102, 103, 104, 105, 106, 107, 108, 109, 110, 111, 112, 113, 114, 115, 116, 117, 118, 119, 120, 121, 122])) (eV 1))) (eSl (eV 2) (some (eV 3)) none)))))
noncomputable def l_own : Fn := mkF 2 (sRet (eN (callP l_name) [(eN (callP l_cell_at) [(eV 0), (eK (.int 1))]), (e2 (d2 oMod) (eN (callP l_cell_of) [(eV 0), (eV 1)]) (e2 oIx (eN fLst [(eK (.int 2)), (eK (.int 26))]) (e2 (d2 oMod) (eN (callP l_cell_at) [(eV 0), (eK (.int 2))]) (eK (.int 2)))))]))
noncomputable def l_given : Fn := mkF 2 (sRet (eN (callP l_name) [(eN (callP l_cell_at) [(eV 0), (eK (.int 1))]), (e2 (d2 oMod) (e2 (d2 oDiv) (eN (callP l_cell_of) [(eV 0), (eV 1)]) (eK (.int 26))) (e2 oIx (eN fLst [(eK (.int 2)), (eK (.int 26))]) (e2 (d2 oMod) (eN (callP l_cell_at) [(eV 0), (eK (.int 2))]) (eK (.int 2)))))]))
noncomputable def l_rows_r1 (e : Env) (s : Sto) : R O := (sRet (eN fTup [(eV 6), (eN fTup [(eK (.str [115, 97, 121])), (eN fTup [(eN fTup [(eK (.int 1)), (eK (.int 1))])]), (eK .non)]), (eV 7), (eV 5)])) e s
noncomputable def l_rows_r2 (e : Env) (s : Sto) : R O := (sSeq (sIf (tB (e2 (d2 cEq) (e2 (d2 oMod) (e2 (d2 oDiv) (eN (callP l_cell_at) [(eV 0), (eK (.int 3))]) (eK (.int 2))) (eK (.int 2))) (eK (.int 0)))) (sRet (eN fTup [(eN fTup [(eK (.str [98, 114, 105, 110, 103])), (eN (callP l_name) [(eN (callP l_cell_at) [(eV 0), (eK (.int 0))]), (eK (.int 0))]), (eN fTup [])]), (eV 6), (eV 7), (eV 5)])) sSkip) l_rows_r1) e s
noncomputable def l_rows_r3 (e : Env) (s : Sto) : R O := (sSeq (sAsg (gN 7) (eN fTup [(eK (.str [115, 101, 116])), (eV 3), (eN fTup [(eN fTup [(eK (.int 1)), (eV 4)])])])) (sSeq (sIf (tB (e2 (d2 cEq) (e2 (d2 oMod) (eN (callP l_cell_at) [(eV 0), (eK (.int 3))]) (eK (.int 2))) (eK (.int 0)))) (sAsg (gN 7) (eN fTup [(eK (.str [116, 97, 107, 101])), (eV 3)])) sSkip) l_rows_r2)) e s
def l_rows_u := And.intro @l_rows_r1.eq_1 (And.intro @l_rows_r2.eq_1 (And.intro @l_rows_r3.eq_1 True.intro))
noncomputable def l_rows : Fn := mkF 8 (sSeq (sAsg (gN 3) (eN (callP l_own) [(eV 0), (eV 1)])) (sSeq (sAsg (gN 4) (eN (callP l_number) [(eV 0), (eV 1)])) (sSeq (sAsg (gN 5) (eN fTup [(eK (.str [115, 97, 121])), (eN fTup [(eN fTup [(eK (.int 1)), (eV 3)]), (eN fTup [(eK (.int 1)), (eV 4)]), (eN fTup [(e1 (d1 oNeg) (eK (.int 1))), (eV 4)])]), (eK .non)])) (sSeq (sAsg (gN 6) (eN fTup [(eK (.str [103, 105, 118, 101])), (eV 3), (eN (callP l_given) [(eV 0), (eV 1)])])) (sSeq (sIf (tB (e2 (d2 cLt) (eV 1) (e2 (d2 oSub) (eV 2) (eK (.int 1))))) (sRet (eN fTup [(eN fTup [(eK (.str [98, 114, 105, 110, 103])), (eN (callP l_name) [(eN (callP l_cell_at) [(eV 0), (eK (.int 0))]), (e2 oAdd (eV 1) (eK (.int 1)))]), (eN fTup [(eN fTup [(eN (callP l_given) [(eV 0), (e2 oAdd (eV 1) (eK (.int 1)))]), (eV 3)])])]), (eV 5), (eV 6)])) sSkip) l_rows_r3)))))
noncomputable def l_whole : Fn := mkF 1 (sRet (eAnd (e1 (isI .int) (eV 0)) (eNot (e1 (isI .bool) (eV 0)))))
noncomputable def l_kinds_b1 (e : Env) (s : Sto) : R O := (sKill [1] (sIf (tOr (tNot (tB (e1 (isI .tuple) (eV 1)))) (tOr (tB (e2 (d2 cNe) (e1 bLen (eV 1)) (eK (.int 4)))) (tOr (tNot (tB (eN (callP l_whole) [(e2 oIx (eV 1) (eK (.int 1)))]))) (tNot (tB (eN (callP l_whole) [(e2 oIx (eV 1) (eK (.int 3)))])))))) (sRet (eK (.bl false))) sSkip)) e s
noncomputable def l_kinds_r1 (e : Env) (s : Sto) : R O := (sRet (eAnd (e1 (isI .tuple) (e2 oIx (eV 0) (eK (.int 1)))) (eAnd (e2 (d2 cEq) (e1 bLen (e2 oIx (eV 0) (eK (.int 1)))) (eK (.int 4))) (eAnd (eN (callP l_whole) [(e2 oIx (e2 oIx (eV 0) (eK (.int 1))) (eK (.int 2)))]) (eN (callP l_whole) [(e2 oIx (e2 oIx (eV 0) (eK (.int 1))) (eK (.int 3)))]))))) e s
noncomputable def l_kinds_r2 (e : Env) (s : Sto) : R O := (sSeq (sIf (tB (e1 cIsN (e2 oIx (eV 0) (eK (.int 1))))) (sRet (eK (.bl true))) sSkip) l_kinds_r1) e s
noncomputable def l_kinds_r3 (e : Env) (s : Sto) : R O := (sSeq (sFor (iSeq (e2 oIx (eV 0) (eK (.int 0)))) (gN 1) l_kinds_b1) l_kinds_r2) e s
def l_kinds_u := And.intro @l_kinds_b1.eq_1 (And.intro @l_kinds_r1.eq_1 (And.intro @l_kinds_r2.eq_1 (And.intro @l_kinds_r3.eq_1 True.intro)))
noncomputable def l_kinds : Fn := mkF 2 (sSeq (sIf (tOr (tNot (tB (e1 (isI .tuple) (eV 0)))) (tOr (tB (e2 (d2 cNe) (e1 bLen (eV 0)) (eK (.int 2)))) (tNot (tB (e1 (isI .tuple) (e2 oIx (eV 0) (eK (.int 0)))))))) (sRet (eK (.bl false))) sSkip) l_kinds_r3)
noncomputable def l_due_c1 (e : Env) (s : Sto) : VS := (eN (callP l_name) [(eN (callP l_cell_at) [(eV 0), (eK (.int 0))]), (eV 6)]) e s
noncomputable def l_due_b1 (e : Env) (s : Sto) : R O := (sKill [6] (sX (m1 isL lAppend (eV 5) (eN fTup [(eK (.str [115, 97, 121])), (eV 3), (e2 oIx (eV 4) (e2 (d2 oSub) (e2 (d2 oSub) (e2 oAdd (eV 1) (eV 2)) (eK (.int 2))) (eV 6))), (eK (.int 1))])))) e s
noncomputable def l_due_r1 (e : Env) (s : Sto) : R O := (sRet (eN fTup [(e1 bTup (eV 5)), (eK .non)])) e s
noncomputable def l_due_r2 (e : Env) (s : Sto) : R O := (sSeq (sX (m1 isL lAppend (eV 5) (eN fTup [(eK (.str [115, 97, 121])), (eV 3), (e2 oIx (eV 4) (e2 (d2 oSub) (eV 2) (eK (.int 1)))), (eK (.int 3))]))) (sSeq (sFor (iR2 (eV 1) (e2 (d2 oSub) (eV 2) (eK (.int 1)))) (gN 6) l_due_b1) l_due_r1)) e s
noncomputable def l_due_r3 (e : Env) (s : Sto) : R O := (sSeq (sIf (tB (e2 (d2 cEq) (e2 (d2 oMod) (eN (callP l_cell_at) [(eV 0), (eK (.int 3))]) (eK (.int 2))) (eK (.int 0)))) (sX (m1 isL lAppend (eV 5) (eN fTup [(eK (.str [116, 97, 107, 101])), (eV 3), (e2 oIx (eV 4) (e2 (d2 oSub) (eV 2) (eK (.int 1)))), (eK (.int 2))]))) sSkip) l_due_r2) e s
noncomputable def l_due_r4 (e : Env) (s : Sto) : R O := (sSeq (sAsg (gN 5) (eN fLstC [])) (sSeq (sIf (tB (e2 (d2 cEq) (e2 (d2 oMod) (e2 (d2 oDiv) (eN (callP l_cell_at) [(eV 0), (eK (.int 3))]) (eK (.int 2))) (eK (.int 2))) (eK (.int 1)))) (sX (m1 isL lAppend (eV 5) (eN fTup [(eK (.str [115, 97, 121])), (eK (.int 1)), (e2 oIx (eV 4) (e2 (d2 oSub) (eV 2) (eK (.int 1)))), (eK (.int 1))]))) sSkip) l_due_r3)) e s
def l_due_u := And.intro @l_due_c1.eq_1 (And.intro @l_due_b1.eq_1 (And.intro @l_due_r1.eq_1 (And.intro @l_due_r2.eq_1 (And.intro @l_due_r3.eq_1 (And.intro @l_due_r4.eq_1 True.intro)))))
noncomputable def l_due : Fn := mkF 7 (sSeq (sAsg (gN 4) (eComp (iR1 (eV 2)) (gN 6) tYes l_due_c1 [6])) (sSeq (sIf (tAnd (tB (e2 (d2 cEq) (e2 (d2 oMod) (e2 (d2 oDiv) (eN (callP l_cell_at) [(eV 0), (eK (.int 3))]) (eK (.int 2))) (eK (.int 2))) (eK (.int 0)))) (tB (e2 (d2 cGt) (eV 1) (eK (.int 0))))) (sRet (eN fTup [(eN fTup []), (eN fTup [(eK (.str [101, 97, 114, 108, 121])), (e2 oIx (eV 4) (e2 (d2 oSub) (eV 1) (eK (.int 1)))), (eK (.int 1)), (eK (.int 1))])])) sSkip) l_due_r4))
noncomputable def law__c1 (e : Env) (s : Sto) : VS := (eN fTup [(eN (callP l_name) [(eN (callP l_cell_at) [(eV 0), (eK (.int 0))]), (eV 8)]), (eN (callP l_rows) [(eV 0), (eV 8), (eV 1)])]) e s
noncomputable def law__c2 (e : Env) (s : Sto) : VS := (eN (callP l_name) [(eN (callP l_cell_at) [(eV 0), (eK (.int 0))]), (eV 8)]) e s
noncomputable def law__b1 (e : Env) (s : Sto) : R O := (sKill [8, 9] (sSeq (sAsg (gN 9) (eMeth 1 [107, 101, 121, 95, 111, 102] m_PartsWalk_key_of (eV 7) [(e2 oIx (eV 6) (eV 8)), (eN (callP l_own) [(eV 0), (eV 8)])])) (sIf (tOr (tNot (tB (e1 (isI .tuple) (eV 9)))) (tOr (tB (e2 (d2 cNe) (eV 9) (eN fTup [(e2 oIx (eV 6) (e2 (d2 oSub) (eV 1) (eK (.int 1)))), (eK (.int 2))]))) (tNot (tB (eN (callP l_whole) [(e2 oIx (eV 9) (eK (.int 1)))]))))) (sRet (eK (.bl false))) sSkip))) e s
noncomputable def law__b2 (e : Env) (s : Sto) : R O := (sKill [8, 10] (sSeq (sAsg (gN 10) (eN (callP p_run) [(e1 bTup (eV 2)), (e2 oIx (eV 6) (eV 8)), (eN fTup [(eV 3), (eK (.int 3))])])) (sIf (tOr (tNot (tB (eN (callP l_kinds) [(eV 10)]))) (tB (e2 (d2 cNe) (eV 10) (eN (callP l_due) [(eV 0), (eV 8), (eV 1), (eV 4)])))) (sRet (eK (.bl false))) sSkip))) e s
noncomputable def law__r1 (e : Env) (s : Sto) : R O := (sRet (eK (.bl true))) e s
noncomputable def law__r2 (e : Env) (s : Sto) : R O := (sSeq (sFor (iSeq (eN fLst [(eV 5), (e2 (d2 oMod) (e2 oAdd (eV 5) (eK (.int 1))) (eV 1)), (eV 5)])) (gN 8) law__b2) law__r1) e s
noncomputable def law__r3 (e : Env) (s : Sto) : R O := (sSeq (sAsg (gN 6) (eComp (iR1 (eV 1)) (gN 8) tYes law__c2 [8])) (sSeq (sAsg (gN 7) (eMake 1 m_PartsWalk___init__K [(e1 bTup (eV 2))])) (sSeq (sFor (iR1 (eV 1)) (gN 8) law__b1) law__r2))) e s
noncomputable def law__r4 (e : Env) (s : Sto) : R O := (sSeq (sAsg (gN 5) (e2 (d2 oMod) (eN (callP l_cell_at) [(eV 0), (eK (.int 5))]) (eV 1))) (sSeq (sIf (tB (e2 (d2 cEq) (e2 (d2 oMod) (e2 (d2 oDiv) (eN (callP l_cell_at) [(eV 0), (eK (.int 5))]) (eK (.int 24))) (eK (.int 2))) (eK (.int 1)))) (sX (m0 isL lReverse (eV 2))) sSkip) law__r3)) e s
noncomputable def law__r5 (e : Env) (s : Sto) : R O := (sSeq (sAsg (gN 2) (eCompC (iR1 (eV 1)) (gN 8) tYes law__c1 [8])) (sSeq (sAsg (gN 3) (e2 oAdd (e2 (d2 oSub) (e2 (d2 oMod) (e2 (d2 oDiv) (eN (callP l_cell_at) [(eV 0), (eK (.int 3))]) (eK (.int 4))) (e2 (d2 oSub) (e2 (d2 oMul) (eK (.int 2)) (e2 (d2 oPow) (eK (.int 10)) (eK (.int 60)))) (eK (.int 1)))) (e2 (d2 oPow) (eK (.int 10)) (eK (.int 60)))) (eK (.int 1)))) (sSeq (sAsg (gN 4) (eN (callP l_number) [(eV 0), (e2 (d2 oSub) (eV 1) (eK (.int 1)))])) (sSeq (sIf (tB (e2 (d2 cEq) (e2 (d2 oMod) (eN (callP l_cell_at) [(eV 0), (eK (.int 3))]) (eK (.int 2))) (eK (.int 0)))) (sAsg (gN 4) (eV 3)) sSkip) law__r4)))) e s
def law__u := And.intro @law__c1.eq_1 (And.intro @law__c2.eq_1 (And.intro @law__b1.eq_1 (And.intro @law__b2.eq_1 (And.intro @law__r1.eq_1 (And.intro @law__r2.eq_1 (And.intro @law__r3.eq_1 (And.intro @law__r4.eq_1 (And.intro @law__r5.eq_1 True.intro))))))))
noncomputable def law_ : Fn := mkF 11 (sSeq (sAsg (gN 1) (e2 oAdd (eK (.int 2)) (e2 (d2 oMod) (eN (callP l_cell_at) [(eV 0), (eK (.int 4))]) (eK (.int 7))))) (sSeq (sIf (tB (e2 (d2 cEq) (e2 (d2 oMod) (e2 (d2 oDiv) (eN (callP l_cell_at) [(eV 0), (eK (.int 4))]) (eK (.int 7))) (eK (.int 8))) (eK (.int 1)))) (sAsg (gN 1) (eK (.int 24))) sSkip) law__r5))
theorem l_whole_i (i : Int) (s : Sto) : callP l_whole [.d (.int i)] s = .ok (.d (.bl true), s) := by
  simp_all! only [l_whole]
theorem tyT (l : List D) : tyD .tuple (.tup l) = true := rfl
def dueD (q : List Nat × Int × Nm × Nat) : D := .tup [.str q.1, .int q.2.1, .str q.2.2.1, .int (q.2.2.2 : Nat)]
def bs_ : List Nm := [[], [97, 115], [110, 97, 109, 101], [120, 49, 121], [116, 97, 107, 101]]
theorem bs_ok : ∀ z ∈ bs_, z.length ≤ 20 ∧ ∀ c ∈ z, c < 0x110000 := by decide
theorem l_name_c (form k : Int) (hk : 0 ≤ k ∧ k < 26) (s : Sto) : callP l_name [.d (.int form), .d (.int k)] s = .ok (.d (.str (nmB bs_ form k)), s) := by
  have h5 : 0 ≤ form % 5 ∧ form % 5 < 5 := by omega
  have g1 : ∀ s, ixW [.d (.str []), .d (.str [97, 115]), .d (.str [110, 97, 109, 101]), .d (.str [120, 49, 121]), .d (.str [116, 97, 107, 101])] (.d (.int (form % 5))) s = .ok (.d (.str (bsD bs_ form)), s) := fun s => ixW_str bs_ ⟨h5.1, h5.2⟩ s
  have gd : ([97, 98, 99, 100, 101, 102, 103, 104, 105, 106, 107, 108, 109, 110, 111, 112, 113, 114, 115, 116, 117, 118, 119, 120, 121, 122] : List Nat).getD k.toNat 0 = 97 + k.toNat := by
    have : ∀ n : Nat, n < 26 → ([97, 98, 99, 100, 101, 102, 103, 104, 105, 106, 107, 108, 109, 110, 111, 112, 113, 114, 115, 116, 117, 118, 119, 120, 121, 122] : List Nat).getD n 0 = 97 + n := by decide
    exact this _ (by omega)
  have hl := bsD_len (fun z hz => (bs_ok z hz).1) form
  unfold nmB atD
  generalize bsD bs_ form = z at g1 hl ⊢
  have hz : (0 : Int) < (z.length : Int) + 1 := by omega
  have ha : 0 ≤ form / 5 % ((z.length : Int) + 1) := Int.emod_nonneg _ (by omega)
  generalize hA : form / 5 % ((z.length : Int) + 1) = a at ha
  have l1 : (z.take a.toNat).length ≤ 20 := by simp; omega
  have l2 : (z.drop a.toNat).length ≤ 20 := by simp; omega
  have zl : z.length ≤ 16777216 := by omega
  have c1 := cut_to z ha
  have c2 := cut_from z ha
  generalize z.take a.toNat = u at c1 l1 ⊢
  generalize z.drop a.toNat = v at c2 l2 ⊢
  simp_all! only [l_name, g1, gd, oMod_c, oDiv_c, hA, slice_s, zl, c1, c2]
/-- what is told -/
def DOk (d : D) : Prop := ∃ q : List Nat × Int × Nm × Nat, d = dueD q ∧ okD 58 (.str q.1) = true ∧ okD 58 (.str q.2.2.1) = true
def I1 (st : Tr) : Prop := (st.ft = .non ∨ (∃ x k w, GoodT x ∧ st.ft = ftE x k w) ∨ ∃ x k, GoodT x ∧ st.ft = ftN x k) ∧ ∀ d ∈ st.tc, DOk d
/-- the kinds of what is found -/
theorem l_kinds_c (st : Tr) (h : I1 st) (s : Sto) : callP l_kinds [.d (.tup [.tup st.tc, st.ft])] s = .ok (.d (.bl true), s) := by
  obtain ⟨h1, h2⟩ := h
  have Wh := l_whole_i
  have L := fun w0 s => loop_pass (g := gN 1) (b := l_kinds_b1) (fun d : D => d) [w0, e_] s st.tc fun d hd => by
    obtain ⟨q, rfl, _, _⟩ := h2 d hd
    simp only [dueD]
    simp_all! only [lstep_n, l_kinds_b1, Wh, tyT]
  simp only [List.map_id'] at L
  rcases h1 with h1 | ⟨x, k, w, _, h1⟩ | ⟨x, k, _, h1⟩
  · rw [h1]
    generalize st.tc = TC at *
    simp_all! only [l_kinds, l_kinds_r3, l_kinds_r2, L, tyT]
  · rw [h1]
    simp only [ftE]
    generalize st.tc = TC at *
    simp_all! only [l_kinds, l_kinds_r3, l_kinds_r2, l_kinds_r1, L, tyT, Wh]
  · rw [h1]
    simp only [ftN]
    generalize st.tc = TC at *
    simp_all! only [l_kinds, l_kinds_r3, l_kinds_r2, l_kinds_r1, L, tyT, Wh]

/-! ### the cells -/
section
variable (ns : List Int)
def cf (k : Nat) : Int := cellAt ns (6 + (k : Int) % (if ((ns.length : Nat) : Int) - 6 > 1 then ((ns.length : Nat) : Int) - 6 else 1)) + 7 * (k : Int) * (k : Int)
def mdF : Int := ([2, 26] : List Int).getD (cellAt ns 2 % 2).toNat 0
def own (k : Nat) : Nm := nmB bs_ (cellAt ns 1) (cf ns k % mdF ns)
def giv (k : Nat) : Nm := nmB bs_ (cellAt ns 1) (cf ns k / 26 % mdF ns)
def num (k : Nat) : Int := cf ns k * 982451653 % 10 ^ 60
def pn (k : Nat) : Nm := nmB bs_ (cellAt ns 0) (k : Nat)
theorem md_rng : mdF ns = 2 ∨ mdF ns = 26 := by
  unfold mdF
  have h : cellAt ns 2 % 2 = 0 ∨ cellAt ns 2 % 2 = 1 := by omega
  rcases h with h | h <;> rw [h]
  · exact .inl rfl
  · exact .inr rfl
theorem l_cell_of_c (k : Nat) (hk : k < 1000) (s : Sto) : callP l_cell_of [.d (.inp (ns.map .int)), .d (.int (k : Nat))] s = .ok (.d (.int (cf ns k)), s) := by
  have hm : 0 < (if ((ns.length : Nat) : Int) - 6 > 1 then ((ns.length : Nat) : Int) - 6 else 1) := by split <;> omega
  have bm : bMax2 (.int 1) (.int (((ns.length : Nat) : Int) - 6)) = .ok (.int (if ((ns.length : Nat) : Int) - 6 > 1 then ((ns.length : Nat) : Int) - 6 else 1)) := rfl
  have e : cf ns k = cellAt ns (6 + (k : Int) % (if ((ns.length : Nat) : Int) - 6 > 1 then ((ns.length : Nat) : Int) - 6 else 1)) + 7 * (k : Int) * (k : Int) := rfl
  rw [e]
  generalize (if ((ns.length : Nat) : Int) - 6 > 1 then ((ns.length : Nat) : Int) - 6 else 1) = m at *
  have p1 := Int.emod_nonneg ((k : Nat) : Int) (b := m) (by omega)
  have C := fun s => l_cell_at_c ns (6 + (k : Int) % m) (by omega) s
  have m1 := oMul_l 7 ((k : Nat) : Int) (by decide)
  have m2 := oMul_r (7 * ((k : Nat) : Int)) ((k : Nat) : Int) (small_of (by omega) (by omega))
  have om := oMod_i ((k : Nat) : Int) m hm
  generalize (k : Int) % m = q at *
  simp_all! only [l_cell_of, List.length_map, bm, om, C, m1, m2]
theorem l_own_c (k : Nat) (hk : k < 1000) (s : Sto) : callP l_own [.d (.inp (ns.map .int)), .d (.int (k : Nat))] s = .ok (.d (.str (own ns k)), s) := by
  have C1 := fun s => l_cell_at_c ns 1 (by decide) s
  have C2 := fun s => l_cell_at_c ns 2 (by decide) s
  have Cf := fun s => l_cell_of_c ns k hk s
  have hm := md_rng ns
  have ix : ∀ s, ixW [.d (.int 2), .d (.int 26)] (.d (.int (cellAt ns 2 % 2))) s = .ok (.d (.int (mdF ns)), s) := fun s => ixI2 2 26 ⟨by omega, by omega⟩ s
  unfold own
  generalize mdF ns = m at *
  have p1 := Int.emod_nonneg (cf ns k) (b := m) (by omega)
  have p2 := Int.emod_lt_of_pos (cf ns k) (b := m) (by omega)
  have om := oMod_i (cf ns k) m (by omega)
  have Nn := fun s => l_name_c (cellAt ns 1) (cf ns k % m) ⟨p1, by omega⟩ s
  generalize nmB bs_ (cellAt ns 1) (cf ns k % m) = z at *
  generalize cf ns k % m = q at *
  generalize cf ns k = c at *
  generalize cellAt ns 1 = c1 at *
  generalize cellAt ns 2 = c2 at *
  simp_all! only [l_own, C1, C2, Cf, oMod_c, ix, om, Nn]
theorem l_given_c (k : Nat) (hk : k < 1000) (s : Sto) : callP l_given [.d (.inp (ns.map .int)), .d (.int (k : Nat))] s = .ok (.d (.str (giv ns k)), s) := by
  have C1 := fun s => l_cell_at_c ns 1 (by decide) s
  have C2 := fun s => l_cell_at_c ns 2 (by decide) s
  have Cf := fun s => l_cell_of_c ns k hk s
  have hm := md_rng ns
  have ix : ∀ s, ixW [.d (.int 2), .d (.int 26)] (.d (.int (cellAt ns 2 % 2))) s = .ok (.d (.int (mdF ns)), s) := fun s => ixI2 2 26 ⟨by omega, by omega⟩ s
  unfold giv
  generalize mdF ns = m at *
  have p1 := Int.emod_nonneg (cf ns k / 26) (b := m) (by omega)
  have p2 := Int.emod_lt_of_pos (cf ns k / 26) (b := m) (by omega)
  have om := oMod_i (cf ns k / 26) m (by omega)
  have Nn := fun s => l_name_c (cellAt ns 1) (cf ns k / 26 % m) ⟨p1, by omega⟩ s
  generalize nmB bs_ (cellAt ns 1) (cf ns k / 26 % m) = z at *
  generalize cf ns k / 26 % m = q at *
  generalize cf ns k = c at *
  generalize cellAt ns 1 = c1 at *
  generalize cellAt ns 2 = c2 at *
  simp_all! only [l_given, C1, C2, Cf, oMod_c, oDiv_c, ix, om, Nn]
theorem l_number_c (k : Nat) (hk : k < 1000) (s : Sto) : callP l_number [.d (.inp (ns.map .int)), .d (.int (k : Nat))] s = .ok (.d (.int (num ns k)), s) := by
  have Cf := fun s => l_cell_of_c ns k hk s
  have hpw : oPow (.int 10) (.int 60) = .ok (.int (10 ^ 60)) := oPow_l 10 60 (by decide)
  have hp60 : (0 : Int) < 10 ^ 60 := by decide +kernel
  unfold num
  generalize (10 : Int) ^ 60 = P60 at *
  have m1 := oMul_r (cf ns k) 982451653 (by decide)
  generalize cf ns k = c at *
  simp_all! only [l_number, Cf, m1, hpw, hp60, oMod_c]
theorem pn_c (k : Nat) (hk : k < 26) (s : Sto) : callP l_name [.d (.int (cellAt ns 0)), .d (.int (k : Nat))] s = .ok (.d (.str (pn ns k)), s) := l_name_c (cellAt ns 0) (k : Nat) ⟨by omega, by omega⟩ s
/-! ### the rows of a part -/
def sayR (k : Nat) : Row := .say [(1, .nm (own ns k)), (1, .num (num ns k)), (-1, .num (num ns k))] none
def givR (k : Nat) : Row := .give (own ns k) (giv ns k)
def madR (k : Nat) : Row := if cellAt ns 3 % 2 = 0 then .take (own ns k) else .set (own ns k) [(1, .num (num ns k))]
def rws (n k : Nat) : List Row := if k + 1 < n then [.bring (pn ns (k + 1)) [(giv ns (k + 1), own ns k)], sayR ns k, givR ns k]
  else if cellAt ns 3 / 2 % 2 = 0 then [.bring (pn ns 0) [], givR ns k, madR ns k, sayR ns k]
  else [givR ns k, .say [(1, .num 1)] none, madR ns k, sayR ns k]
theorem l_rows_c (n k : Nat) (hn : 2 ≤ n ∧ n ≤ 24) (hk : k < n) (s : Sto) : callP l_rows [.d (.inp (ns.map .int)), .d (.int (k : Nat)), .d (.int (n : Nat))] s = .ok (.d (.tup ((rws ns n k).map eRow)), s) := by
  have C0 := fun s => l_cell_at_c ns 0 (by decide) s
  have C3 := fun s => l_cell_at_c ns 3 (by decide) s
  have Ow := fun s => l_own_c ns k (by omega) s
  have Nu := fun s => l_number_c ns k (by omega) s
  have Gi := fun s => l_given_c ns k (by omega) s
  have Gi2 := fun s => l_given_c ns (k + 1) (by omega) s
  have Pn2 := fun s => pn_c ns (k + 1) (by omega) s
  have Pn0 := fun s => pn_c ns 0 (by omega) s
  have e1 : (((k + 1 : Nat)) : Int) = ((k : Nat) : Int) + 1 := by omega
  have e0 : ((0 : Nat) : Int) = 0 := rfl
  rw [e1] at Gi2 Pn2
  rw [e0] at Pn0
  unfold rws sayR givR madR
  generalize own ns k = o at *
  generalize num ns k = v at *
  generalize giv ns k = g at *
  generalize giv ns (k + 1) = g2 at *
  generalize pn ns (k + 1) = p2 at *
  generalize pn ns 0 = p0 at *
  generalize cellAt ns 0 = c0 at *
  generalize cellAt ns 3 = c3 at *
  by_cases c : k + 1 < n
  · have c' : ((k : Nat) : Int) < ((n : Nat) : Int) - 1 := by omega
    rw [if_pos c]
    simp only [List.map_cons, List.map_nil, eRow, ePr, eTm, eTh, eOn]
    simp_all! only [l_rows, Ow, Nu, Gi, Gi2, Pn2, C0, c']
  · have c' : ¬ ((k : Nat) : Int) < ((n : Nat) : Int) - 1 := by omega
    rw [if_neg c]
    by_cases d : c3 / 2 % 2 = 0
    · rw [if_pos d]
      by_cases f : c3 % 2 = 0
      · rw [if_pos f]
        simp only [List.map_cons, List.map_nil, eRow, ePr, eTm, eTh, eOn]
        simp_all! only [l_rows, l_rows_r3, l_rows_r2, Ow, Nu, Gi, Pn0, C0, C3, c', oMod_c, oDiv_c, d, f]
      · rw [if_neg f]
        simp only [List.map_cons, List.map_nil, eRow, ePr, eTm, eTh, eOn]
        simp_all! only [l_rows, l_rows_r3, l_rows_r2, Ow, Nu, Gi, Pn0, C0, C3, c', oMod_c, oDiv_c, d, f]
    · rw [if_neg d]
      by_cases f : c3 % 2 = 0
      · rw [if_pos f]
        simp only [List.map_cons, List.map_nil, eRow, ePr, eTm, eTh, eOn]
        simp_all! only [l_rows, l_rows_r3, l_rows_r2, l_rows_r1, Ow, Nu, Gi, C0, C3, c', oMod_c, oDiv_c, d, f]
      · rw [if_neg f]
        simp only [List.map_cons, List.map_nil, eRow, ePr, eTm, eTh, eOn]
        simp_all! only [l_rows, l_rows_r3, l_rows_r2, l_rows_r1, Ow, Nu, Gi, C0, C3, c', oMod_c, oDiv_c, d, f]
end
/-! ### the chain -/
def chain (ns : List Int) (n : Nat) : List Part := (List.range n).map fun k => (pn ns k, rws ns n k)
structure Ch (ns : List Int) (n : Nat) (P : List Part) : Prop where
  rows : ∀ k, k < n → rowsOf P (pn ns k) = rws ns n k
  none_ : ∀ x, (∀ k, k < n → x ≠ pn ns k) → rowsOf P x = []
  len : ∀ p ∈ P, p.2.length ≤ 4
  pl : P.length = n
theorem pn_inj (ns : List Int) {i j : Nat} (h : pn ns i = pn ns j) : i = j := by
  have := nmB_inj (k := (i : Nat)) (j := (j : Nat)) (by omega) (by omega) h
  omega
theorem rws_len (ns : List Int) (n k : Nat) : (rws ns n k).length ≤ 4 := by
  unfold rws; split
  · simp
  · split <;> simp
theorem ch_of (ns : List Int) (n : Nat) {P : List Part} (hp : ∀ p, p ∈ P ↔ p ∈ chain ns n) (hn : (P.map (·.1)).Nodup) (hl : P.length = n) : Ch ns n P := by
  refine ⟨fun k hk => ?_, fun x hx => ?_, fun p h => ?_, hl⟩
  · have : (pn ns k, rws ns n k) ∈ P := (hp _).mpr (List.mem_map.mpr ⟨k, List.mem_range.mpr hk, rfl⟩)
    exact rowsOf_mem hn this
  · unfold rowsOf
    cases e : P.find? (fun p => decide (p.1 = x)) with
    | none => rfl
    | some p =>
      have h1 := (hp p).mp (List.mem_of_find?_eq_some e)
      obtain ⟨k, hk, e2⟩ := List.mem_map.mp h1
      have h2 : p.1 = x := by simpa using List.find?_some (p := fun p : Part => decide (p.1 = x)) e
      subst e2
      exact absurd h2.symm (hx k (List.mem_range.mp hk))
  · obtain ⟨k, hk, e2⟩ := List.mem_map.mp ((hp p).mp h)
    subst e2; exact rws_len ns n k
theorem ch_fw (ns : List Int) (n : Nat) : Ch ns n (chain ns n) ∧ Ch ns n (chain ns n).reverse := by
  have nd : ((chain ns n).map (·.1)).Nodup := by
    unfold chain
    rw [List.map_map]
    refine List.Pairwise.map _ (R := fun a b => a ≠ b) (fun a b h e => ?_) (List.nodup_range)
    exact h (pn_inj ns e)
  refine ⟨ch_of ns n (fun p => Iff.rfl) nd (by unfold chain; simp), ch_of ns n (fun p => List.mem_reverse) ?_ (by unfold chain; simp)⟩
  rw [List.map_reverse]; exact (List.reverse_perm _).nodup_iff.mpr nd
section
variable {ns : List Int} {n : Nat} (hn : 2 ≤ n ∧ n ≤ 24) {P : List Part} (C : Ch ns n P)
include hn
theorem mad_no {k : Nat} (hk : k + 1 < n) (o : Nm) : madeIn (rws ns n k) o = none := by
  unfold rws sayR givR madeIn
  rw [if_pos hk]
  simp [mkT]
theorem mad_yes : madeIn (rws ns n (n - 1)) (own ns (n - 1)) = some 2 := by
  have h : ¬ n - 1 + 1 < n := by omega
  unfold rws madeIn
  rw [if_neg h]
  by_cases d : cellAt ns 3 / 2 % 2 = 0 <;> by_cases f : cellAt ns 3 % 2 = 0 <;> simp [List.findIdx?_cons, mkT, givR, madR, d, f]
theorem br_c {k : Nat} (hk : k + 1 < n) : brF (rws ns n k) (own ns k) = some (pn ns (k + 1), giv ns (k + 1)) := by
  unfold rws brF
  rw [if_pos hk]
  simp [brR]
theorem gv_c {k : Nat} (hk : k < n) : gvF (rws ns n k) (giv ns k) = some (own ns k) := by
  unfold rws gvF givR sayR madR
  by_cases h : k + 1 < n
  · rw [if_pos h]; simp [List.findSome?, gvR]
  · rw [if_neg h]
    split <;> simp [List.findSome?, gvR]
include C
theorem onw_c {k : Nat} (hk : k + 1 < n) : onw P (pn ns k) (own ns k) = some (pn ns (k + 1), own ns (k + 1)) := by
  unfold onw
  rw [C.rows k (by omega), mad_no hn hk, br_c hn hk]
  simp only
  rw [C.rows (k + 1) hk, gv_c hn hk]; rfl
omit hn C in
theorem idx_pn {k : Nat} (hk : k < n) : (List.range n).find? (fun j => decide (pn ns j = pn ns k)) = some k := by
  have key : ∀ m s, s ≤ k → k < s + m → (List.range' s m).find? (fun j => decide (pn ns j = pn ns k)) = some k := by
    intro m
    induction m with
    | zero => intro s h1 h2; omega
    | succ m ih =>
      intro s h1 h2
      rw [List.range'_succ, List.find?_cons]
      by_cases e : s = k
      · subst e; simp
      · have : decide (pn ns s = pn ns k) = false := decide_eq_false fun h => e (pn_inj ns h)
        rw [this]; exact ih (s + 1) (by omega) (by omega)
  rw [List.range_eq_range']
  exact key n 0 (Nat.zero_le _) (by omega)
theorem maker_k {X : D} (hX : SeqD X (ePs P)) {k : Nat} (hk : k < n) (s : Sto) : callP p_maker [.d X, .d (.str (pn ns k)), .d (.str (own ns k))] s = .ok (.d (kSI (pn ns (n - 1), 2)), s) := by
  obtain ⟨h1, o2, ⟨j, hj, e1, e2⟩, h3⟩ := p_maker_c hX (fun x _ => match (List.range n).find? (fun j => decide (pn ns j = x)) with | some j => n - j | none => 0) (fun x o => ∃ k, k < n ∧ x = pn ns k ∧ o = own ns k) (fun x o ⟨k, hk, e1, e2⟩ => by
    subst e1; subst e2
    by_cases c : k + 1 < n
    · refine .inr ⟨pn ns (k + 1), own ns (k + 1), onw_c hn C c, ⟨k + 1, c, rfl, rfl⟩, ?_⟩
      rw [idx_pn c, idx_pn hk]
      show n - (k + 1) < n - k
      omega
    · have : k = n - 1 := by omega
      subst this
      exact .inl ⟨2, by rw [C.rows _ hk]; exact mad_yes hn⟩) (pn ns k) (own ns k) ⟨k, hk, rfl, rfl⟩ (by
    rw [idx_pn hk]
    show n - k < 1000
    omega)
  have hj2 : j = n - 1 := by
    apply Classical.byContradiction
    intro h
    rw [e1, C.rows j hj, mad_no hn (by omega)] at h3
    cases h3
  rw [e1, e2, hj2, C.rows _ (by omega), mad_yes hn] at h3
  have h4 := h1 s
  rw [h4, e1, hj2, ← Option.some.inj h3]; rfl
theorem rowK_k {X : D} (hX : SeqD X (ePs P)) (x : Nm) (r : Row) (hr : r ∈ rowsOf P x) : RowK X x (fun _ => (pn ns (n - 1), 2)) r := by
  by_cases c : ∃ k, k < n ∧ x = pn ns k
  · obtain ⟨k, hk, rfl⟩ := c
    rw [C.rows k hk] at hr
    have mk := fun s => maker_k hn C hX hk s
    have hs : RowK X (pn ns k) (fun _ => (pn ns (n - 1), 2)) (sayR ns k) := ⟨by simp [tmL, sayR], fun q hq => by
      have hq : q ∈ [((1 : Int), Th.nm (own ns k)), (1, .num (num ns k)), (-1, .num (num ns k))] := hq
      simp only [List.mem_cons, List.not_mem_nil, or_false] at hq
      rcases hq with rfl | rfl | rfl <;> first | exact (by decide : small 1 = true) | exact (by decide : small (-1) = true), fun q hq s => by
      have hq : q ∈ [((1 : Int), own ns k)] := hq
      rw [List.mem_singleton] at hq; rw [hq]; exact mk s, fun z hz => by cases hz⟩
    have hg : RowK X (pn ns k) (fun _ => (pn ns (n - 1), 2)) (givR ns k) := ⟨by simp [tmL, givR], fun q hq => (by cases hq), fun q hq => (by cases hq), fun z hz => (by cases hz)⟩
    have hb : ∀ y ps, RowK X (pn ns k) (fun _ => (pn ns (n - 1), 2)) (.bring y ps) := fun y ps => ⟨by simp [tmL], fun q hq => (by cases hq), fun q hq => (by cases hq), fun z hz => (by cases hz)⟩
    have h1 : RowK X (pn ns k) (fun _ => (pn ns (n - 1), 2)) (.say [(1, .num 1)] none) := ⟨by simp [tmL], fun q hq => by
      have hq : q ∈ [((1 : Int), Th.num 1)] := hq
      rw [List.mem_singleton] at hq; rw [hq]; exact (by decide : small 1 = true), fun q hq => (by cases hq), fun z hz => (by cases hz)⟩
    have hm : RowK X (pn ns k) (fun _ => (pn ns (n - 1), 2)) (madR ns k) := by
      unfold madR
      split
      · exact ⟨by simp [tmL], fun q hq => (by cases hq), fun q hq => (by cases hq), fun z hz s => (by cases hz; exact mk s)⟩
      · exact ⟨by simp [tmL], fun q hq => (by
          have hq : q ∈ [((1 : Int), Th.num (num ns k))] := hq
          rw [List.mem_singleton] at hq; rw [hq]; exact (by decide : small 1 = true)), fun q hq => (by cases hq), fun z hz s => (by cases hz; exact mk s)⟩
    unfold rws at hr
    split at hr
    · simp only [List.mem_cons, List.not_mem_nil, or_false] at hr
      rcases hr with rfl | rfl | rfl
      · exact hb _ _
      · exact hs
      · exact hg
    · split at hr
      · simp only [List.mem_cons, List.not_mem_nil, or_false] at hr
        rcases hr with rfl | rfl | rfl | rfl
        · exact hb _ _
        · exact hg
        · exact hm
        · exact hs
      · simp only [List.mem_cons, List.not_mem_nil, or_false] at hr
        rcases hr with rfl | rfl | rfl | rfl
        · exact hg
        · exact h1
        · exact hm
        · exact hs
  · rw [C.none_ x fun k hk e => c ⟨k, hk, e⟩] at hr; cases hr
end
/-! ### the run -/
section
variable {ns : List Int} {n : Nat} (hn : 2 ≤ n ∧ n ≤ 24) {P : List Part} (C : Ch ns n P) (told : Int)
def vl (ns : List Int) (n : Nat) (told : Int) : Int := if cellAt ns 3 % 2 = 0 then told else num ns (n - 1)
def base (ns : List Int) (n : Nat) (told : Int) : List D := (if cellAt ns 3 / 2 % 2 = 0 then [] else [sayE 1 (pn ns (n - 1)) 1]) ++ (if cellAt ns 3 % 2 = 0 then [tkE told (pn ns (n - 1)) 2] else []) ++ [sayE (vl ns n told) (pn ns (n - 1)) 3]
def Tm (ns : List Int) (n : Nat) (told : Int) (m : Nat) : List D := base ns n told ++ (List.range m).map fun i => sayE (vl ns n told) (pn ns (n - 2 - i)) 1
def kK (ns : List Int) (n : Nat) : Nm → Nm → Nm × Int := fun _ _ => (pn ns (n - 1), 2)
def bgs (ns : List Int) (r m : Nat) : List Nm := (List.range' r m).map (pn ns)
theorem bgs_not {r m k : Nat} (h : r + m ≤ k) : pn ns k ∉ bgs ns r m := fun h2 => by
  obtain ⟨j, hj, e⟩ := List.mem_map.mp h2
  have := pn_inj ns e
  rw [List.mem_range'_1] at hj
  omega
theorem bgs_snoc (r m : Nat) : bgs ns r m ++ [pn ns (r + m)] = bgs ns r (m + 1) := by
  unfold bgs
  rw [List.range'_concat, List.map_append]; simp
theorem say_v (k : Nat) {beg : Nm → Tr → Tr} {key : Nm → Nm × Int} {N : List Int} {x : Nm} {i : Nat} {st : Tr} {v : Int} (h : dGet st.kn (key (own ns k)) = some v) : rowF beg key N x i (sayR ns k) st = ⟨st.tk, st.kn, st.bg, st.tc ++ [sayE v x i], st.ft⟩ := by
  unfold sayR
  rw [rowF_say (va := fun _ => v) fun z hz => (by
    have hz : z ∈ [own ns k] := hz
    rw [List.mem_singleton] at hz; rw [hz]; exact h)]
  have : vaT (fun _ => v) [((1 : Int), Th.nm (own ns k)), (1, .num (num ns k)), (-1, .num (num ns k))] = v := by
    show 0 + 1 * v + 1 * num ns k + -1 * num ns k = v
    omega
  rw [this]
include hn C in
theorem up_c (r : Nat) (hr : cellAt ns 3 / 2 % 2 = 0 → r = 0) : ∀ (m k f : Nat), k + m = n - 1 → r ≤ k → m < f →
    begF P (kK ns n) [told, 3] f (pn ns k) ⟨0, [], bgs ns r (k - r), [], .non⟩ = ⟨if cellAt ns 3 % 2 = 0 then 1 else 0, [((pn ns (n - 1), 2), vl ns n told)], bgs ns r (n - r), Tm ns n told m, .non⟩
  | m, k, 0, _, _, h => absurd h (Nat.not_lt_zero _)
  | 0, k, f + 1, hk, hrk, _ => by
    have hk : k = n - 1 := by omega
    subst hk
    have ht : Tm ns n told 0 = base ns n told := by unfold Tm; simp
    have eb : bgs ns r (n - 1 - r) ++ [pn ns (n - 1)] = bgs ns r (n - r) := by
      have := bgs_snoc (ns := ns) r (n - 1 - r)
      rw [show r + (n - 1 - r) = n - 1 by omega, show n - 1 - r + 1 = n - r by omega] at this
      exact this
    rw [begF, if_neg (bgs_not (by omega)), C.rows _ (by omega), ht]
    unfold rws
    rw [if_neg (by omega)]
    simp only [eb]
    have made : ∀ (beg : Nm → Tr → Tr) (tc : List D) (i : Nat), rowF beg (kK ns n (pn ns (n - 1))) [told, 3] (pn ns (n - 1)) i (madR ns (n - 1)) ⟨0, [], bgs ns r (n - r), tc, .non⟩ = ⟨if cellAt ns 3 % 2 = 0 then 1 else 0, [((pn ns (n - 1), 2), vl ns n told)], bgs ns r (n - r), tc ++ (if cellAt ns 3 % 2 = 0 then [tkE told (pn ns (n - 1)) i] else []), .non⟩ := fun beg tc i => by
      unfold madR vl
      by_cases f : cellAt ns 3 % 2 = 0
      · rw [if_pos f, if_pos f, if_pos f, if_pos f, rowF_take]; rfl
      · rw [if_neg f, if_neg f, if_neg f, if_neg f, rowF_set (va := fun _ => 0) fun z hz => (by cases hz)]
        have : vaT (fun _ => 0) [((1 : Int), Th.num (num ns (n - 1)))] = num ns (n - 1) := by show 0 + 1 * num ns (n - 1) = num ns (n - 1); omega
        rw [this, List.append_nil]; rfl
    have last : ∀ (beg : Nm → Tr → Tr) (tk : Nat) (tc : List D) (i : Nat), rowF beg (kK ns n (pn ns (n - 1))) [told, 3] (pn ns (n - 1)) i (sayR ns (n - 1)) ⟨tk, [((pn ns (n - 1), 2), vl ns n told)], bgs ns r (n - r), tc, .non⟩ = ⟨tk, [((pn ns (n - 1), 2), vl ns n told)], bgs ns r (n - r), tc ++ [sayE (vl ns n told) (pn ns (n - 1)) i], .non⟩ := fun beg tk tc i => say_v (n - 1) (by
      show dGet [((pn ns (n - 1), 2), vl ns n told)] (pn ns (n - 1), 2) = _
      rw [dGet_cons, if_pos rfl])
    have nn : isN (D.non) = true := rfl
    by_cases d : cellAt ns 3 / 2 % 2 = 0
    · have r0 := hr d
      subst r0
      have e4 : numR [Row.bring (pn ns 0) [], givR ns (n - 1), madR ns (n - 1), sayR ns (n - 1)] = [(0, .bring (pn ns 0) []), (1, givR ns (n - 1)), (2, madR ns (n - 1)), (3, sayR ns (n - 1))] := rfl
      have hin : pn ns 0 ∈ bgs ns 0 (n - 0) := List.mem_map.mpr ⟨0, by rw [List.mem_range'_1]; omega, rfl⟩
      have b0 : begF P (kK ns n) [told, 3] f (pn ns 0) ⟨0, [], bgs ns 0 (n - 0), [], .non⟩ = ⟨0, [], bgs ns 0 (n - 0), [], .non⟩ := by
        cases f with
        | zero => rfl
        | succ f => rw [begF, if_pos hin]
      have gv : ∀ st, rowF (begF P (kK ns n) [told, 3] f) (kK ns n (pn ns (n - 1))) [told, 3] (pn ns (n - 1)) 1 (givR ns (n - 1)) st = st := fun st => rfl
      rw [if_pos d, e4, rowsF, rowF_bring, b0]
      simp only [nn, if_true]
      rw [rowsF, gv]
      simp only [nn, if_true]
      rw [rowsF, made]
      simp only [nn, if_true]
      rw [rowsF, last]
      simp only [nn, if_true]
      rw [rowsF]
      unfold base
      rw [if_pos d]
    · have e4 : numR [givR ns (n - 1), Row.say [(1, .num 1)] none, madR ns (n - 1), sayR ns (n - 1)] = [(0, givR ns (n - 1)), (1, .say [(1, .num 1)] none), (2, madR ns (n - 1)), (3, sayR ns (n - 1))] := rfl
      have gv : ∀ st, rowF (begF P (kK ns n) [told, 3] f) (kK ns n (pn ns (n - 1))) [told, 3] (pn ns (n - 1)) 0 (givR ns (n - 1)) st = st := fun st => rfl
      have s1 : ∀ st : Tr, rowF (begF P (kK ns n) [told, 3] f) (kK ns n (pn ns (n - 1))) [told, 3] (pn ns (n - 1)) 1 (.say [(1, .num 1)] none) st = ⟨st.tk, st.kn, st.bg, st.tc ++ [sayE 1 (pn ns (n - 1)) 1], st.ft⟩ := fun st => by
        rw [rowF_say (va := fun _ => 0) fun z hz => (by cases hz)]; rfl
      rw [if_neg d, e4, rowsF, gv]
      simp only [nn, if_true]
      rw [rowsF, s1]
      simp only [nn, if_true]
      rw [rowsF, made]
      simp only [nn, if_true]
      rw [rowsF, last]
      simp only [nn, if_true]
      rw [rowsF]
      unfold base
      rw [if_neg d]
      rfl
  | m + 1, k, f + 1, hk, hrk, hf => by
    have ih := up_c r hr m (k + 1) f (by omega) (by omega) (by omega)
    have eb : bgs ns r (k - r) ++ [pn ns k] = bgs ns r (k + 1 - r) := by
      have := bgs_snoc (ns := ns) r (k - r)
      rw [show r + (k - r) = k by omega, show k - r + 1 = k + 1 - r by omega] at this
      exact this
    rw [begF, if_neg (bgs_not (by omega)), C.rows _ (by omega)]
    unfold rws
    rw [if_pos (by omega)]
    simp only [eb]
    have e3 : numR [Row.bring (pn ns (k + 1)) [(giv ns (k + 1), own ns k)], sayR ns k, givR ns k] = [(0, .bring (pn ns (k + 1)) [(giv ns (k + 1), own ns k)]), (1, sayR ns k), (2, givR ns k)] := rfl
    have nn : isN (D.non) = true := rfl
    have gv : ∀ st, rowF (begF P (kK ns n) [told, 3] f) (kK ns n (pn ns k)) [told, 3] (pn ns k) 2 (givR ns k) st = st := fun st => rfl
    rw [e3, rowsF, rowF_bring, ih]
    simp only [nn, if_true]
    rw [rowsF, say_v k (v := vl ns n told) (by
      show dGet [((pn ns (n - 1), 2), vl ns n told)] (pn ns (n - 1), 2) = _
      rw [dGet_cons, if_pos rfl])]
    simp only [nn, if_true]
    rw [rowsF, gv]
    simp only [nn, if_true]
    rw [rowsF]
    have et : Tm ns n told m ++ [sayE (vl ns n told) (pn ns k) 1] = Tm ns n told (m + 1) := by
      unfold Tm
      rw [List.range_succ, List.map_append, List.append_assoc]
      simp only [List.map_cons, List.map_nil]
      rw [show n - 2 - m = k by omega]
    rw [et]
include hn C in
theorem dn2 (r : Nat) (hr : 0 < r ∧ r < n) : ∀ (m k f : Nat) (bg : List Nm), k + m = r - 1 → m < f → pn ns r ∈ bg → (∀ j, k ≤ j → j < r → pn ns j ∉ bg) →
    (begF P (kK ns n) [told, 3] f (pn ns k) ⟨0, [], bg, [], .non⟩).tc = [] ∧ (begF P (kK ns n) [told, 3] f (pn ns k) ⟨0, [], bg, [], .non⟩).ft = ftE (pn ns (r - 1)) 1 1
  | m, k, 0, _, _, h, _, _ => absurd h (Nat.not_lt_zero _)
  | m, k, f + 1, bg, hk, hf, hb, hj => by
    have e3 : numR [Row.bring (pn ns (k + 1)) [(giv ns (k + 1), own ns k)], sayR ns k, givR ns k] = [(0, .bring (pn ns (k + 1)) [(giv ns (k + 1), own ns k)]), (1, sayR ns k), (2, givR ns k)] := rfl
    rw [begF, if_neg (hj k (Nat.le_refl _) (by omega)), C.rows _ (by omega)]
    unfold rws
    rw [if_pos (by omega), e3, rowsF, rowF_bring]
    match m, hk, hf with
    | 0, hk, hf =>
      have hkr : k + 1 = r := by omega
      have b0 : begF P (kK ns n) [told, 3] f (pn ns (k + 1)) ⟨0, [], bg ++ [pn ns k], [], .non⟩ = ⟨0, [], bg ++ [pn ns k], [], .non⟩ := by
        have hin : pn ns (k + 1) ∈ bg ++ [pn ns k] := by rw [hkr]; exact List.mem_append_left _ hb
        cases f with
        | zero => rfl
        | succ f => rw [begF, if_pos hin]
      simp only [b0]
      have nn : isN (D.non) = true := rfl
      simp only [nn, if_true]
      have es : rowF (begF P (kK ns n) [told, 3] f) (kK ns n (pn ns k)) [told, 3] (pn ns k) 1 (sayR ns k) ⟨0, [], bg ++ [pn ns k], [], .non⟩ = ⟨0, [], bg ++ [pn ns k], [], ftE (pn ns k) 1 1⟩ := rfl
      rw [rowsF, es]
      simp only [isN_ftE, Bool.false_eq_true, if_false]
      rw [show r - 1 = k by omega]
      exact ⟨trivial, rfl⟩
    | m + 1, hk, hf =>
      obtain ⟨i1, i2⟩ := dn2 r hr m (k + 1) f (bg ++ [pn ns k]) (by omega) (by omega) (List.mem_append_left _ hb) (fun j h1 h2 h3 => by
        rcases List.mem_append.mp h3 with h | h
        · exact hj j (by omega) h2 h
        · rw [List.mem_singleton] at h
          have := pn_inj ns h
          omega)
      rw [if_neg (by rw [i2, isN_ftE]; decide)]
      exact ⟨i1, i2⟩
include hn C in
theorem dn1 (hd : cellAt ns 3 / 2 % 2 = 0) (r : Nat) (hr : 0 < r ∧ r < n) : ∀ (m k f : Nat), k + m = n - 1 → r ≤ k → m + r < f →
    (begF P (kK ns n) [told, 3] f (pn ns k) ⟨0, [], bgs ns r (k - r), [], .non⟩).tc = [] ∧ (begF P (kK ns n) [told, 3] f (pn ns k) ⟨0, [], bgs ns r (k - r), [], .non⟩).ft = ftE (pn ns (r - 1)) 1 1
  | m, k, 0, _, _, h => absurd h (Nat.not_lt_zero _)
  | 0, k, f + 1, hk, hrk, hf => by
    have eb : bgs ns r (k - r) ++ [pn ns k] = bgs ns r (k + 1 - r) := by
      have := bgs_snoc (ns := ns) r (k - r)
      rw [show r + (k - r) = k by omega, show k - r + 1 = k + 1 - r by omega] at this
      exact this
    have e4 : numR [Row.bring (pn ns 0) [], givR ns k, madR ns k, sayR ns k] = [(0, .bring (pn ns 0) []), (1, givR ns k), (2, madR ns k), (3, sayR ns k)] := rfl
    rw [begF, if_neg (bgs_not (by omega)), C.rows _ (by omega)]
    unfold rws
    rw [if_neg (by omega), if_pos hd, e4, rowsF, rowF_bring]
    simp only [eb]
    obtain ⟨i1, i2⟩ := dn2 hn C told r hr (r - 1) 0 f (bgs ns r (k + 1 - r)) (by omega) (by omega) (List.mem_map.mpr ⟨r, by rw [List.mem_range'_1]; omega, rfl⟩) (fun j _ h2 h3 => by
      obtain ⟨i, hi, e⟩ := List.mem_map.mp h3
      have := pn_inj ns e
      rw [List.mem_range'_1] at hi
      omega)
    rw [if_neg (by rw [i2, isN_ftE]; decide)]
    exact ⟨i1, i2⟩
  | m + 1, k, f + 1, hk, hrk, hf => by
    have eb : bgs ns r (k - r) ++ [pn ns k] = bgs ns r (k + 1 - r) := by
      have := bgs_snoc (ns := ns) r (k - r)
      rw [show r + (k - r) = k by omega, show k - r + 1 = k + 1 - r by omega] at this
      exact this
    have e3 : numR [Row.bring (pn ns (k + 1)) [(giv ns (k + 1), own ns k)], sayR ns k, givR ns k] = [(0, .bring (pn ns (k + 1)) [(giv ns (k + 1), own ns k)]), (1, sayR ns k), (2, givR ns k)] := rfl
    obtain ⟨i1, i2⟩ := dn1 hd r hr m (k + 1) f (by omega) (by omega) (by omega)
    rw [begF, if_neg (bgs_not (by omega)), C.rows _ (by omega)]
    unfold rws
    rw [if_pos (by omega), e3, rowsF, rowF_bring]
    simp only [eb]
    rw [if_neg (by rw [i2, isN_ftE]; decide)]
    exact ⟨i1, i2⟩
/-- what is told of a run from a root -/
def fnd (ns : List Int) (n : Nat) (told : Int) (r : Nat) : D := if cellAt ns 3 / 2 % 2 = 0 ∧ 0 < r then .tup [.tup [], ftE (pn ns (r - 1)) 1 1] else .tup [.tup (Tm ns n told (n - 1 - r)), .non]
include hn C in
theorem run_c {X : D} (hX : SeqD X (ePs P)) (r : Nat) (hr : r < n) (s : Sto) : callP p_run [.d X, .d (.str (pn ns r)), .d (.tup [.int told, .int 3])] s = .ok (.d (fnd ns n told r), s) := by
  have R := p_run_c hX (fun p hp => by have := C.len p hp; omega) (kK ns n) (fun x q hq => rowK_k hn C hX x q hq) (by rw [C.pl]; omega) (pn ns r) [told, 3] s
  have es : stA = ⟨0, [], bgs ns r (r - r), [], .non⟩ := by rw [Nat.sub_self]; rfl
  unfold fnd
  by_cases c : cellAt ns 3 / 2 % 2 = 0 ∧ 0 < r
  · rw [if_pos c]
    obtain ⟨i1, i2⟩ := dn1 hn C told c.1 r ⟨c.2, hr⟩ (n - 1 - r) r 30 (by omega) (Nat.le_refl _) (by omega)
    rw [← es] at i1 i2
    rw [i1, i2] at R
    exact R
  · rw [if_neg c]
    have U := up_c hn C told r (fun h => by apply Classical.byContradiction; intro h2; exact c ⟨h, by omega⟩) (n - 1 - r) r 30 (by omega) (Nat.le_refl _) (by omega)
    rw [← es] at U
    rw [U] at R
    exact R
end

/-! ### what is due -/
section
variable (ns : List Int) {n : Nat} (hn : 2 ≤ n ∧ n ≤ 24) (told : Int)
include hn
theorem due_c (hv : cellAt ns 3 % 2 = 0 → vl ns n told = told) (r : Nat) (hr : r < n) (s : Sto) : callP l_due [.d (.inp (ns.map .int)), .d (.int (r : Nat)), .d (.int (n : Nat)), .d (.int (vl ns n told))] s = .ok (.d (fnd ns n told r), s) := by
  have C0 := fun s => l_cell_at_c ns 0 (by decide) s
  have C3 := fun s => l_cell_at_c ns 3 (by decide) s
  have CN := fun (w1 w3 : Option W) s => comp_all (gN 6) l_due_c1 [6] [ed (.inp (ns.map .int)), w1, ei (n : Nat), w3, e_, e_, e_] s (fun i : Nat => .d (.int (i : Nat))) (fun i => .str (pn ns i)) (List.range n) fun i hi => by
    have hi := List.mem_range.mp hi
    have Pn := fun s => pn_c ns i (by omega) s
    generalize pn ns i = z at *
    generalize cellAt ns 0 = c0 at *
    exact ⟨_, rfl, by simp_all! only [l_due_c1, C0, Pn]⟩
  have rngE : rng 0 n = (List.range n).map fun i => W.d (.int ((i : Nat) : Int)) := by rw [rng_map]; simp
  rw [← rngE] at CN
  have ix : ∀ (i : Int) (j : Nat), i = (j : Nat) → j < n → ∀ s, ixW (ws ((List.range n).map fun i => D.str (pn ns i))) (.d (.int i)) s = .ok (.d (.str (pn ns j)), s) := fun i j e hj s => by
    have := ixW_map 0 (fun i => D.str (pn ns i)) (List.range n) (i := i) ⟨by omega, by simp; omega⟩ s
    rw [this]
    have : (List.range n).getD i.toNat 0 = j := by
      rw [e, Int.toNat_natCast, List.getD_eq_getElem?_getD, List.getElem?_range hj]; rfl
    rw [this]
  have nn : ((n : Nat) : Int).toNat = n := by omega
  have ixl := ix (((n : Nat) : Int) - 1) (n - 1) (by omega) (by omega)
  generalize hNS : ((List.range n).map fun i => D.str (pn ns i)) = NS at *
  have h62 : (-4611686018427387904 ≤ ((r : Nat) : Int) ∧ ((r : Nat) : Int) < 4611686018427387904) := by omega
  unfold fnd
  by_cases c : cellAt ns 3 / 2 % 2 = 0 ∧ 0 < r
  · rw [if_pos c]
    obtain ⟨c1, c2⟩ := c
    have c2' : (0 : Int) < ((r : Nat) : Int) := by omega
    have ixr := ix (((r : Nat) : Int) - 1) (r - 1) (by omega) (by omega)
    simp only [ftE]
    have e1 : ((1 : Nat) : Int) = 1 := rfl
    rw [e1]
    clear ix
    generalize cellAt ns 3 = c3 at *
    generalize vl ns n told = v at *
    simp_all! only [l_due, nn, CN, C3, oMod_c, oDiv_c, c1, c2', ixr]
  · rw [if_neg c]
    -- the loop
    have L := loop_rngK (g := gN 6) (b := l_due_b1) (fun _ => [ed (.inp (ns.map .int)), ei (r : Nat), ei (n : Nat), ei (vl ns n told), ed (.lst NS), el 0, e_]) (fun k => [.l (base ns n told ++ (List.range (k - r)).map fun i => sayE (vl ns n told) (pn ns (n - 2 - i)) 1)]) (n - 1 - r) r fun k h1 h2 => by
      have ixk := ix (((r : Nat) : Int) + ((n : Nat) : Int) - 2 - ((k : Nat) : Int)) (n - 2 - (k - r)) (by omega) (by omega)
      have bl : (base ns n told).length ≤ 3 := by unfold base; split <;> split <;> simp
      have tl : (base ns n told ++ (List.range (k - r)).map fun i => sayE (vl ns n told) (pn ns (n - 2 - i)) 1).length < 16777216 := by simp; omega
      have ee : (List.range (k + 1 - r)).map (fun i => sayE (vl ns n told) (pn ns (n - 2 - i)) 1) = (List.range (k - r)).map (fun i => sayE (vl ns n told) (pn ns (n - 2 - i)) 1) ++ [.tup [.str [115, 97, 121], .int (vl ns n told), .str (pn ns (n - 2 - (k - r))), .int 1]] := by
        rw [show k + 1 - r = k - r + 1 by omega, List.range_succ, List.map_append]; rfl
      rw [ee, ← List.append_assoc]
      clear ix ixl
      generalize base ns n told ++ (List.range (k - r)).map (fun i => sayE (vl ns n told) (pn ns (n - 2 - i)) 1) = B at *
      generalize vl ns n told = v at *
      generalize pn ns (n - 2 - (k - r)) = z at *
      simp_all! only [lstep_n, l_due_b1, ixk, wl, tl]
    rw [show r + (n - 1 - r) = n - 1 by omega, Nat.sub_self] at L
    simp only [List.range_zero, List.map_nil, List.append_nil] at L
    have eT : base ns n told ++ (List.range (n - 1 - r)).map (fun i => sayE (vl ns n told) (pn ns (n - 2 - i)) 1) = Tm ns n told (n - 1 - r) := rfl
    rw [eT] at L
    have nk : (((n : Nat) : Int) - 1 - ((r : Nat) : Int)).toNat = n - 1 - r := by omega
    have h62b : (-4611686018427387904 ≤ ((n : Nat) : Int) - 1 ∧ ((n : Nat) : Int) - 1 < 4611686018427387904) := by omega
    have e1 : ((1 : Nat) : Int) = 1 := rfl
    have e2 : ((2 : Nat) : Int) = 2 := rfl
    have e3 : ((3 : Nat) : Int) = 3 := rfl
    unfold base sayE tkE at L
    rw [e1, e2, e3] at L
    clear ix
    generalize Tm ns n told (n - 1 - r) = TT at *
    by_cases d : cellAt ns 3 / 2 % 2 = 0
    · have r0 : ¬ (0 : Int) < ((r : Nat) : Int) := fun h => c ⟨d, by omega⟩
      have d1 : ¬ cellAt ns 3 / 2 % 2 = 1 := by omega
      rw [if_pos d] at L
      by_cases f : cellAt ns 3 % 2 = 0
      · rw [if_pos f] at L
        have hv := hv f
        rw [hv] at L ⊢
        generalize cellAt ns 3 = c3 at *
        generalize pn ns (n - 1) = z at *
        simp only [List.nil_append, List.cons_append, List.append_nil] at L
        simp_all! only [l_due, l_due_r4, l_due_r3, l_due_r2, l_due_r1, nn, CN, C3, oMod_c, oDiv_c, d, r0, d1, f, ixl, nk, h62, h62b, wl, L, List.nil_append, List.cons_append]
      · rw [if_neg f] at L
        generalize cellAt ns 3 = c3 at *
        generalize vl ns n told = v at *
        generalize pn ns (n - 1) = z at *
        simp only [List.nil_append, List.cons_append, List.append_nil] at L
        simp_all! only [l_due, l_due_r4, l_due_r3, l_due_r2, l_due_r1, nn, CN, C3, oMod_c, oDiv_c, d, r0, d1, f, ixl, nk, h62, h62b, wl, L, List.nil_append, List.cons_append]
    · have d1 : cellAt ns 3 / 2 % 2 = 1 := by omega
      rw [if_neg d] at L
      by_cases f : cellAt ns 3 % 2 = 0
      · rw [if_pos f] at L
        have hv := hv f
        rw [hv] at L ⊢
        generalize cellAt ns 3 = c3 at *
        generalize pn ns (n - 1) = z at *
        simp only [List.nil_append, List.cons_append, List.append_nil] at L
        simp_all! only [l_due, l_due_r4, l_due_r3, l_due_r2, l_due_r1, nn, CN, C3, oMod_c, oDiv_c, d1, f, ixl, nk, h62, h62b, wl, L, List.nil_append, List.cons_append]
      · rw [if_neg f] at L
        generalize cellAt ns 3 = c3 at *
        generalize vl ns n told = v at *
        generalize pn ns (n - 1) = z at *
        simp only [List.nil_append, List.cons_append, List.append_nil] at L
        simp_all! only [l_due, l_due_r4, l_due_r3, l_due_r2, l_due_r1, nn, CN, C3, oMod_c, oDiv_c, d1, f, ixl, nk, h62, h62b, wl, L, List.nil_append, List.cons_append]
end
theorem key_s {s0 : Sto} {a : Nat} {X : D} (hA : s0[a]? = some (.o 1 [([112, 97, 114, 116, 115], .d X)])) (hcl : clS s0.length s0 = true) {x z : Nm} {k : Nm × Int} (hk : ∀ s, callP p_maker [.d X, .d (.str x), .d (.str z)] s = .ok (.d (kSI k), s)) : m_PartsWalk_key_of [.loc a, .d (.str x), .d (.str z)] s0 = .ok (.d (kSI k), s0) := by
  have ow : objO 1 (.loc a) s0 = .ok (a, [([112, 97, 114, 116, 115], .d X)]) := by unfold objO; simp only [hA]; rfl
  have fp := fun (s : Sto) => fldW_h [112, 97, 114, 116, 115] (.d X) [] s
  refine mkF_x (t := []) [some (.loc a), es x, es z] rfl ?_ rfl hcl
  rw [List.append_nil]
  simp_all! only [ob0, ow, fp, hk]
theorem good_pn (ns : List Int) {k : Nat} (hk : k < 26) : GoodT (pn ns k) := nmB_ok bs_ok _ ⟨by omega, by omega⟩
theorem fnd_ok (ns : List Int) {n : Nat} (hn : 2 ≤ n ∧ n ≤ 24) (told : Int) (r : Nat) (hr : r < n) : okD 60 (fnd ns n told r) = true ∧ ∀ s, callP l_kinds [.d (fnd ns n told r)] s = .ok (.d (.bl true), s) := by
  have dok : ∀ (v : Int) (j k : Nat), j < n → DOk (sayE v (pn ns j) k) := fun v j k hj => ⟨([115, 97, 121], v, pn ns j, k), rfl, rfl, okD_good (good_pn ns (by omega)) 58⟩
  have dkt : ∀ (v : Int) (j k : Nat), j < n → DOk (tkE v (pn ns j) k) := fun v j k hj => ⟨([116, 97, 107, 101], v, pn ns j, k), rfl, rfl, okD_good (good_pn ns (by omega)) 58⟩
  have tm : ∀ m, m ≤ n - 1 → ∀ d ∈ Tm ns n told m, DOk d := fun m hm d hd => by
    unfold Tm base at hd
    rcases List.mem_append.mp hd with hd | hd
    · rcases List.mem_append.mp hd with hd | hd
      · rcases List.mem_append.mp hd with hd | hd
        · split at hd
          · cases hd
          · rw [List.mem_singleton] at hd; rw [hd]; exact dok _ _ _ (by omega)
        · split at hd
          · rw [List.mem_singleton] at hd; rw [hd]; exact dkt _ _ _ (by omega)
          · cases hd
      · rw [List.mem_singleton] at hd; rw [hd]; exact dok _ _ _ (by omega)
    · obtain ⟨i, _, rfl⟩ := List.mem_map.mp hd
      exact dok _ _ _ (by omega)
  have okl : ∀ l : List D, (∀ d ∈ l, DOk d) → okD 59 (.tup l) = true := fun l h => okD_tup 58 _ fun d hd => by
    obtain ⟨q, rfl, a1, a2⟩ := h d hd
    refine okD_tup 57 _ fun y hy => ?_
    simp only [List.mem_cons, List.not_mem_nil, or_false] at hy
    rcases hy with rfl | rfl | rfl | rfl
    · exact a1
    · rfl
    · exact a2
    · rfl
  unfold fnd
  by_cases c : cellAt ns 3 / 2 % 2 = 0 ∧ 0 < r
  · rw [if_pos c]
    have hg := good_pn ns (k := r - 1) (by omega)
    refine ⟨okD_tup 59 _ fun d hd => ?_, fun s => l_kinds_c ⟨0, [], [], [], ftE (pn ns (r - 1)) 1 1⟩ ⟨.inr (.inl ⟨_, _, _, hg, rfl⟩), fun d hd => by cases hd⟩ s⟩
    simp only [List.mem_cons, List.not_mem_nil, or_false] at hd
    rcases hd with rfl | rfl
    · rfl
    · refine okD_tup 58 _ fun y hy => ?_
      simp only [List.mem_cons, List.not_mem_nil, or_false] at hy
      rcases hy with rfl | rfl | rfl | rfl
      · rfl
      · exact okD_good hg 58
      · rfl
      · rfl
  · rw [if_neg c]
    have h := tm (n - 1 - r) (by omega)
    refine ⟨okD_tup 59 _ fun d hd => ?_, fun s => l_kinds_c ⟨0, [], [], Tm ns n told (n - 1 - r), .non⟩ ⟨.inl rfl, h⟩ s⟩
    simp only [List.mem_cons, List.not_mem_nil, or_false] at hd
    rcases hd with rfl | rfl
    · exact okl _ h
    · rfl
theorem law_true : ∀ ns : List Int, ns.length ≤ 63 → law_ [.d (.inp (ns.map .int))] [] = .ok (.d (.bl true), []) := by
  intro ns hl
  have C0 := fun s => l_cell_at_c ns 0 (by decide) s
  have C3 := fun s => l_cell_at_c ns 3 (by decide) s
  have C4 := fun s => l_cell_at_c ns 4 (by decide) s
  have C5 := fun s => l_cell_at_c ns 5 (by decide) s
  generalize hm : (if cellAt ns 4 / 7 % 8 = 1 then 24 else 2 + cellAt ns 4 % 7) = m
  have hm2 : 2 ≤ m ∧ m ≤ 24 := by rw [← hm]; split <;> omega
  obtain ⟨n, hmn⟩ : ∃ n : Nat, m = (n : Nat) := ⟨m.toNat, by omega⟩
  subst hmn
  have hn : 2 ≤ n ∧ n ≤ 24 := by omega
  have nn : ((n : Nat) : Int).toNat = n := by omega
  have rngE : rng 0 n = (List.range n).map fun i => W.d (.int ((i : Nat) : Int)) := by rw [rng_map]; simp
  -- the parts
  have CP := fun (s : Sto) => comp_all (gN 8) law__c1 [8] [ed (.inp (ns.map .int)), ei (n : Nat), e_, e_, e_, e_, e_, e_, e_, e_, e_] s (fun i : Nat => .d (.int (i : Nat))) (fun i => ePart (pn ns i, rws ns n i)) (List.range n) fun i hi => by
    have hi := List.mem_range.mp hi
    have Pn := fun s => pn_c ns i (by omega) s
    have Rw := fun s => l_rows_c ns n i hn hi s
    generalize pn ns i = z at *
    generalize rws ns n i = L2 at *
    generalize cellAt ns 0 = c0 at *
    exact ⟨_, rfl, by simp only [ePart]; simp_all! only [law__c1, C0, Pn, Rw]⟩
  rw [← rngE] at CP
  have eP : ((List.range n).map fun k => ePart (pn ns k, rws ns n k)) = ePs (chain ns n) := by unfold ePs chain; rw [List.map_map]; rfl
  rw [eP] at CP
  -- what is told
  have hpw : oPow (.int 10) (.int 60) = .ok (.int (10 ^ 60)) := oPow_l 10 60 (by decide)
  have hp60 : (0 : Int) < 2 * 10 ^ 60 - 1 := by decide +kernel
  generalize hP60 : (10 : Int) ^ 60 = P60 at *
  generalize htold : cellAt ns 3 / 4 % (2 * P60 - 1) - P60 + 1 = told
  have eu : (((n - 1 : Nat)) : Int) = ((n : Nat) : Int) - 1 := by omega
  have Nu := fun s => l_number_c ns (n - 1) (by omega) s
  rw [eu] at Nu
  have hv : cellAt ns 3 % 2 = 0 → vl ns n told = told := fun h => if_pos h
  have hv2 : ¬ cellAt ns 3 % 2 = 0 → vl ns n told = num ns (n - 1) := fun h => if_neg h
  -- the names
  have CN := fun (w2 w3 w4 w5 : Option W) (s : Sto) => comp_all (gN 8) law__c2 [8] [ed (.inp (ns.map .int)), ei (n : Nat), w2, w3, w4, w5, e_, e_, e_, e_, e_] s (fun i : Nat => .d (.int (i : Nat))) (fun i => .str (pn ns i)) (List.range n) fun i hi => by
    have hi := List.mem_range.mp hi
    have Pn := fun s => pn_c ns i (by omega) s
    generalize pn ns i = z at *
    generalize cellAt ns 0 = c0 at *
    exact ⟨_, rfl, by simp_all! only [law__c2, C0, Pn]⟩
  rw [← rngE] at CN
  have ixn : ∀ (i : Int) (j : Nat), i = (j : Nat) → j < n → ∀ s, ixW (ws ((List.range n).map fun i => D.str (pn ns i))) (.d (.int i)) s = .ok (.d (.str (pn ns j)), s) := fun i j e hj s => by
    have := ixW_map 0 (fun i => D.str (pn ns i)) (List.range n) (i := i) ⟨by omega, by simp; omega⟩ s
    rw [this]
    have : (List.range n).getD i.toNat 0 = j := by
      rw [e, Int.toNat_natCast, List.getD_eq_getElem?_getD, List.getElem?_range hj]; rfl
    rw [this]
  have ixl := ixn (((n : Nat) : Int) - 1) (n - 1) (by omega) (by omega)
  generalize hNS : ((List.range n).map fun i => D.str (pn ns i)) = NS at *
  -- a root
  have hpos : (0 : Int) < ((n : Nat) : Int) := by omega
  have om : ∀ i : Int, oMod (.int i) (.int (n : Nat)) = .ok (.int (i % (n : Nat))) := fun i => oMod_i _ _ hpos
  have main : ∀ (P : List Part), Ch ns n P → ∀ (r : Nat), r < n → ∀ (w0 : Option W), w0 = ed (.inp (ns.map .int)) → ∀ w5,
      (loop (gN 8) law__b1 (rng 0 n) [ed (.inp (ns.map .int)), ei (n : Nat), el 0, ei told, ei (vl ns n told), w5, ed (.lst NS), el 1, e_, e_, e_] [.l (ePs P), .o 1 [([112, 97, 114, 116, 115], .d (.tup (ePs P)))]] = .ok (.nx [ed (.inp (ns.map .int)), ei (n : Nat), el 0, ei told, ei (vl ns n told), w5, ed (.lst NS), el 1, e_, e_, e_] [.l (ePs P), .o 1 [([112, 97, 114, 116, 115], .d (.tup (ePs P)))]])) ∧
      lstep (gN 8) law__b2 (.d (.int (r : Nat))) [ed (.inp (ns.map .int)), ei (n : Nat), el 0, ei told, ei (vl ns n told), w5, ed (.lst NS), el 1, e_, e_, e_] [.l (ePs P), .o 1 [([112, 97, 114, 116, 115], .d (.tup (ePs P)))]] = .ok (.nx [ed (.inp (ns.map .int)), ei (n : Nat), el 0, ei told, ei (vl ns n told), w5, ed (.lst NS), el 1, e_, e_, e_] [.l (ePs P), .o 1 [([112, 97, 114, 116, 115], .d (.tup (ePs P)))]]) := fun P C r hr w0 _ w5 => by
    have hX : SeqD (.tup (ePs P)) (ePs P) := .inl rfl
    have Wh := l_whole_i
    constructor
    · have L := loop_rngK (g := gN 8) (b := law__b1) (fun _ => [ed (.inp (ns.map .int)), ei (n : Nat), el 0, ei told, ei (vl ns n told), w5, ed (.lst NS), el 1, e_, e_, e_]) (fun _ => [.l (ePs P), .o 1 [([112, 97, 114, 116, 115], .d (.tup (ePs P)))]]) n 0 fun k _ hk => by
        have ixk := ixn ((k : Nat) : Int) k rfl (by omega)
        have Ow := fun s => l_own_c ns k (by omega) s
        have Ky := key_s (s0 := [.l (ePs P), .o 1 [([112, 97, 114, 116, 115], .d (.tup (ePs P)))]]) (a := 1) rfl rfl (fun s => maker_k hn C hX (show k < n by omega) s)
        have oo : objO 1 (.loc 1) [.l (ePs P), .o 1 [([112, 97, 114, 116, 115], .d (.tup (ePs P)))]] = .ok (1, [([112, 97, 114, 116, 115], .d (.tup (ePs P)))]) := rfl
        have hok : okD 60 (.tup [.str (pn ns (n - 1)), .int 2]) = true := okD_tup 59 _ fun y hy => by
          simp only [List.mem_cons, List.not_mem_nil, or_false] at hy
          rcases hy with rfl | rfl
          · exact okD_good (good_pn ns (by omega)) 59
          · rfl
        have ce := cNe_self hok
        clear ixn
        simp only [kSI] at Ky
        generalize ePs P = PP at *
        generalize pn ns (n - 1) = z at *
        generalize pn ns k = zk at *
        generalize own ns k = o at *
        generalize vl ns n told = v at *
        simp_all! only [lstep_n, law__b1, ob0, oo, lkP, ixk, Ow, Ky, ixl, ce, Wh, tyT]
      exact L
    · have ixk := ixn ((r : Nat) : Int) r rfl hr
      have R := fun s => run_c hn C told hX r hr s
      have Du := fun s => due_c ns hn told hv r hr s
      obtain ⟨f1, f2⟩ := fnd_ok ns hn told r hr
      have ce := cNe_self f1
      clear ixn
      generalize ePs P = PP at *
      generalize pn ns r = zk at *
      generalize vl ns n told = v at *
      generalize fnd ns n told r = F at *
      simp_all! only [lstep_n, law__b2, ixk, R, Du, f2, ce]
  have q1 := Int.emod_nonneg (cellAt ns 5) (b := ((n : Nat) : Int)) (by omega)
  have q2 := Int.emod_lt_of_pos (cellAt ns 5) hpos
  obtain ⟨r, hr⟩ : ∃ r : Nat, cellAt ns 5 % ((n : Nat) : Int) = (r : Nat) := ⟨(cellAt ns 5 % ((n : Nat) : Int)).toNat, by omega⟩
  have hrn : r < n := by omega
  have p1 := Int.emod_nonneg (((r : Nat) : Int) + 1) (b := ((n : Nat) : Int)) (by omega)
  have p2 := Int.emod_lt_of_pos (((r : Nat) : Int) + 1) hpos
  obtain ⟨r', hr'⟩ : ∃ r' : Nat, (((r : Nat) : Int) + 1) % ((n : Nat) : Int) = (r' : Nat) := ⟨((((r : Nat) : Int) + 1) % ((n : Nat) : Int)).toNat, by omega⟩
  have hrn' : r' < n := by omega
  have o1 := om (cellAt ns 5)
  have o2 := om (((r : Nat) : Int) + 1)
  rw [hr] at o1
  rw [hr'] at o2
  have fin : ∀ P, Ch ns n P → ∀ w5, w5 = ei (r : Nat) →
      (loop (gN 8) law__b1 (rng 0 n) [ed (.inp (ns.map .int)), ei (n : Nat), el 0, ei told, ei (vl ns n told), w5, ed (.lst NS), el 1, e_, e_, e_] [.l (ePs P), .o 1 [([112, 97, 114, 116, 115], .d (.tup (ePs P)))]] = .ok (.nx [ed (.inp (ns.map .int)), ei (n : Nat), el 0, ei told, ei (vl ns n told), w5, ed (.lst NS), el 1, e_, e_, e_] [.l (ePs P), .o 1 [([112, 97, 114, 116, 115], .d (.tup (ePs P)))]])) ∧
      loop (gN 8) law__b2 [.d (.int (r : Nat)), .d (.int (r' : Nat)), .d (.int (r : Nat))] [ed (.inp (ns.map .int)), ei (n : Nat), el 0, ei told, ei (vl ns n told), w5, ed (.lst NS), el 1, e_, e_, e_] [.l (ePs P), .o 1 [([112, 97, 114, 116, 115], .d (.tup (ePs P)))]] = .ok (.nx [ed (.inp (ns.map .int)), ei (n : Nat), el 0, ei told, ei (vl ns n told), w5, ed (.lst NS), el 1, e_, e_, e_] [.l (ePs P), .o 1 [([112, 97, 114, 116, 115], .d (.tup (ePs P)))]]) := fun P C w5 _ => by
    refine ⟨(main P C r hrn _ rfl w5).1, ?_⟩
    have A := (main P C r hrn _ rfl w5).2
    have B := (main P C r' hrn' _ rfl w5).2
    rw [loop_step, A, R.bind_ok, turn_nx, loop_step, B, R.bind_ok, turn_nx, loop_step, A, R.bind_ok, turn_nx]; rfl
  have F1 := fin _ (ch_fw ns n).1 (ei (r : Nat)) rfl
  have F2 := fin _ (ch_fw ns n).2 (ei (r : Nat)) rfl
  have eR : (ePs (chain ns n)).reverse = ePs (chain ns n).reverse := by unfold ePs; rw [List.map_reverse]
  have I := m_pinit_c
  have mkI : ∀ (X Y : D), m_PartsWalk___init__K [.loc 1, .d X] [.l [Y], .o 1 []] = .ok (.d .non, [.l [Y], .o 1 [([112, 97, 114, 116, 115], .d X)]]) := fun X Y => rfl
  have mkI : ∀ (X : D) (L : List D), m_PartsWalk___init__K [.loc 1, .d X] [.l L, .o 1 []] = .ok (.d .non, [.l L, .o 1 [([112, 97, 114, 116, 115], .d X)]]) := fun X L => rfl
  clear ixn ixl main fin om
  have h62 : (-4611686018427387904 ≤ ((n : Nat) : Int) ∧ ((n : Nat) : Int) < 4611686018427387904) := by omega
  obtain ⟨F1a, F1b⟩ := F1
  obtain ⟨F2a, F2b⟩ := F2
  have nl := fun s => newL_d (ePs (chain ns n)) s
  have pl : (ePs (chain ns n)).length ≤ 16777216 := by unfold ePs chain; simp; omega
  have pl2 : (ePs (chain ns n).reverse).length ≤ 16777216 := by unfold ePs chain; simp; omega
  generalize ePs (chain ns n) = PP at *
  generalize ePs (chain ns n).reverse = PR at *
  generalize cellAt ns 3 = c3 at *
  generalize cellAt ns 4 = c4 at *
  generalize cellAt ns 5 = c5 at *
  refine law_run ?_
  have goal : ∀ w1 : Int, w1 = ((n : Nat) : Int) → finC (outOf (law__r5 [ed (.inp (ns.map .int)), ei w1, e_, e_, e_, e_, e_, e_, e_, e_, e_] [])) [] = .ok (.d (.bl true), []) := fun w1 hw => by
    subst hw
    by_cases f : c3 % 2 = 0
    · have hv := hv f
      rw [hv] at F1a F1b F2a F2b
      by_cases d : c5 / 24 % 2 = 1
      · simp_all! only [law__r5, law__r4, law__r3, law__r2, law__r1, nn, h62, CP, nl, C3, C5, oMod_c, oDiv_c, f, d, htold, hP60, hpw, hp60, Nu, o1, o2, CN, ob0, Nat.zero_add, Nat.reduceAdd, mkI, eR, F2a, F2b, List.nil_append, List.length_cons, List.length_nil, List.cons_append]
      · simp_all! only [law__r5, law__r4, law__r3, law__r2, law__r1, nn, h62, CP, nl, C3, C5, oMod_c, oDiv_c, f, d, htold, hP60, hpw, hp60, Nu, o1, o2, CN, ob0, Nat.zero_add, Nat.reduceAdd, mkI, F1a, F1b, List.nil_append, List.length_cons, List.length_nil, List.cons_append]
    · have hv := hv2 f
      rw [hv] at F1a F1b F2a F2b
      by_cases d : c5 / 24 % 2 = 1
      · simp_all! only [law__r5, law__r4, law__r3, law__r2, law__r1, nn, h62, CP, nl, C3, C5, oMod_c, oDiv_c, f, d, htold, hP60, hpw, hp60, Nu, o1, o2, CN, ob0, Nat.zero_add, Nat.reduceAdd, mkI, eR, F2a, F2b, List.nil_append, List.length_cons, List.length_nil, List.cons_append]
      · simp_all! only [law__r5, law__r4, law__r3, law__r2, law__r1, nn, h62, CP, nl, C3, C5, oMod_c, oDiv_c, f, d, htold, hP60, hpw, hp60, Nu, o1, o2, CN, ob0, Nat.zero_add, Nat.reduceAdd, mkI, F1a, F1b, List.nil_append, List.length_cons, List.length_nil, List.cons_append]
  by_cases g : c4 / 7 % 8 = 1
  · rw [if_pos g] at hm
    have goal := goal 24 hm
    clear F1a F1b F2a F2b CP CN nl
    simp_all! only [C4, oMod_c, oDiv_c, g, goal]
  · rw [if_neg g] at hm
    have goal := goal _ hm
    clear F1a F1b F2a F2b CP CN nl
    simp_all! only [C4, oMod_c, oDiv_c, g, goal]
end
end B
namespace Rw_bundlehouse_k24_names_given_on
open PySem PySem.Spec PyProof.Rows L2 B
def top (i : Nat) : Stmt := PySem.Challenge.pw_bundlehouse_k24_names_given_on.main.body.getD i (.Pass ⟨0, 0, 0, 0⟩)
def mth (i j : Nat) : Stmt := (clsBody (top i)).getD j (.Pass ⟨0, 0, 0, 0⟩)
def fn : List He.DefD := [⟨("_law_cell_at", none), "_law_cell_at", "_law_cell_at", defArgs (top 19), defBody (top 19), defScope (top 19), [], []⟩,
  ⟨("_law_cell_of", none), "_law_cell_of", "_law_cell_of", defArgs (top 22), defBody (top 22), defScope (top 22), [], []⟩,
  ⟨("_law_number", none), "_law_number", "_law_number", defArgs (top 25), defBody (top 25), defScope (top 25), [], []⟩,
  ⟨("PartsWalk", some "__init__"), "__init__", "PartsWalk.__init__", defArgs (mth 16 0), defBody (mth 16 0), defScope (mth 16 0), [], []⟩,
  ⟨("_law_name", none), "_law_name", "_law_name", defArgs (top 21), defBody (top 21), defScope (top 21), [], []⟩,
  ⟨("rows_of", none), "rows_of", "rows_of", defArgs (top 4), defBody (top 4), defScope (top 4), [], []⟩,
  ⟨("made_by", none), "made_by", "made_by", defArgs (top 5), defBody (top 5), defScope (top 5), [], []⟩,
  ⟨("made_in", none), "made_in", "made_in", defArgs (top 6), defBody (top 6), defScope (top 6), [], []⟩,
  ⟨("brought_from", none), "brought_from", "brought_from", defArgs (top 7), defBody (top 7), defScope (top 7), [], []⟩,
  ⟨("given_as", none), "given_as", "given_as", defArgs (top 8), defBody (top 8), defScope (top 8), [], []⟩,
  ⟨("onward", none), "onward", "onward", defArgs (top 9), defBody (top 9), defScope (top 9), [], []⟩,
  ⟨("maker", none), "maker", "maker", defArgs (top 10), defBody (top 10), defScope (top 10), [], []⟩,
  ⟨("PartsWalk", some "key_of"), "key_of", "PartsWalk.key_of", defArgs (mth 16 2), defBody (mth 16 2), defScope (mth 16 2), [], []⟩,
  ⟨("Trail", some "__init__"), "__init__", "Trail.__init__", defArgs (mth 12 0), defBody (mth 12 0), defScope (mth 12 0), [], []⟩,
  ⟨("Trail", some "load"), "load", "Trail.load", defArgs (mth 12 2), defBody (mth 12 2), defScope (mth 12 2), [], []⟩,
  ⟨("PartsWalk", some "rows_of"), "rows_of", "PartsWalk.rows_of", defArgs (mth 16 1), defBody (mth 16 1), defScope (mth 16 1), [], []⟩,
  ⟨("when_of", none), "when_of", "when_of", defArgs (top 14), defBody (top 14), defScope (top 14), [], []⟩,
  ⟨("sum_names", none), "sum_names", "sum_names", defArgs (top 1), defBody (top 1), defScope (top 1), [], []⟩,
  ⟨("read_names", none), "read_names", "read_names", defArgs (top 2), defBody (top 2), defScope (top 2), [], []⟩,
  ⟨("PartsWalk", some "found_by"), "found_by", "Walk.found_by", defArgs (mth 15 6), defBody (mth 15 6), defScope (mth 15 6), [], []⟩,
  ⟨("value_of", none), "value_of", "value_of", defArgs (top 13), defBody (top 13), defScope (top 13), [], []⟩,
  ⟨("Trail", some "take"), "take", "Trail.take", defArgs (mth 12 1), defBody (mth 12 1), defScope (mth 12 1), [], []⟩,
  ⟨("PartsWalk", some "loads_of"), "loads_of", "Walk.loads_of", defArgs (mth 15 2), defBody (mth 15 2), defScope (mth 15 2), [], []⟩,
  ⟨("PartsWalk", some "done"), "done", "Walk.done", defArgs (mth 15 7), defBody (mth 15 7), defScope (mth 15 7), [], []⟩,
  ⟨("PartsWalk", some "begin"), "begin", "Walk.begin", defArgs (mth 15 5), defBody (mth 15 5), defScope (mth 15 5), [], []⟩,
  ⟨("PartsWalk", some "ahead_of"), "ahead_of", "Walk.ahead_of", defArgs (mth 15 3), defBody (mth 15 3), defScope (mth 15 3), [], []⟩,
  ⟨("PartsWalk", some "go"), "go", "Walk.go", defArgs (mth 15 4), defBody (mth 15 4), defScope (mth 15 4), [], []⟩,
  ⟨("run", none), "run", "run", defArgs (top 17), defBody (top 17), defScope (top 17), [], []⟩,
  ⟨("_law_own", none), "_law_own", "_law_own", defArgs (top 23), defBody (top 23), defScope (top 23), [], []⟩,
  ⟨("_law_given", none), "_law_given", "_law_given", defArgs (top 24), defBody (top 24), defScope (top 24), [], []⟩,
  ⟨("_law_rows", none), "_law_rows", "_law_rows", defArgs (top 26), defBody (top 26), defScope (top 26), [], []⟩,
  ⟨("_law_whole", none), "_law_whole", "_law_whole", defArgs (top 20), defBody (top 20), defScope (top 20), [], []⟩,
  ⟨("_law_kinds", none), "_law_kinds", "_law_kinds", defArgs (top 28), defBody (top 28), defScope (top 28), [], []⟩,
  ⟨("_law_due", none), "_law_due", "_law_due", defArgs (top 27), defBody (top 27), defScope (top 27), [], []⟩,
  ⟨("law", none), "law", "law", defArgs (top 29), defBody (top 29), defScope (top 29), [], []⟩]
def fa : List He.Fa := [.glo "_law_cell_at", .glo "_law_cell_of", .glo "_law_number", .glo "_law_name", .glo "rows_of", .glo "made_by", .glo "made_in", .glo "brought_from", .glo "given_as", .glo "onward", .glo "maker", .glo "when_of", .glo "sum_names", .glo "read_names", .glo "value_of", .glo "run", .glo "_law_own", .glo "_law_given", .glo "_law_rows", .glo "_law_whole", .glo "_law_kinds", .glo "_law_due", .glo "law", .free "len", .free "max", .free "enumerate", .free "range", .free "tuple", .free "isinstance", .free "str", .free "bool", .free "int", .glo "Trail", .glo "PartsWalk", .cls "PartsWalk", .cls "Trail", .noat "PartsWalk" "parts", .noat "Trail" "numbers", .noat "Trail" "taken", .noat "Trail" "known", .noat "Trail" "begun", .noat "Trail" "loaded", .noat "Trail" "trace", .noat "Trail" "fault", .meth "PartsWalk" "key_of", .meth "Trail" "take", .meth "Trail" "load", .meth "PartsWalk" "loads_of", .meth "PartsWalk" "begin", .meth "PartsWalk" "found_by", .meth "PartsWalk" "done", .meth "PartsWalk" "rows_of", .meth "PartsWalk" "ahead_of", .meth "PartsWalk" "go", .mkr "Trail", .mkr "PartsWalk"]
abbrev OC (K : PySem.W.Frag) : Nat → Addr := fun n => He.ga K (["Trail", "PartsWalk"].getD n "")
structure Tx (K : PySem.W.Frag) (mg : Str → Option Value) : Prop where
  g__law_cell_at : mg "_law_cell_at" = some (.ref (He.ga K "_law_cell_at"))
  d__law_cell_at : ∃ fd, FunD K "_law_cell_at" "_law_cell_at" (defArgs (top 19)) (defBody (top 19)) (defScope (top 19)) [] [] (He.ga K "_law_cell_at") fd
  g__law_cell_of : mg "_law_cell_of" = some (.ref (He.ga K "_law_cell_of"))
  d__law_cell_of : ∃ fd, FunD K "_law_cell_of" "_law_cell_of" (defArgs (top 22)) (defBody (top 22)) (defScope (top 22)) [] [] (He.ga K "_law_cell_of") fd
  g__law_number : mg "_law_number" = some (.ref (He.ga K "_law_number"))
  d__law_number : ∃ fd, FunD K "_law_number" "_law_number" (defArgs (top 25)) (defBody (top 25)) (defScope (top 25)) [] [] (He.ga K "_law_number") fd
  d_PartsWalk____init__ : ∃ fd, FunD K "__init__" "PartsWalk.__init__" (defArgs (mth 16 0)) (defBody (mth 16 0)) (defScope (mth 16 0)) [] [] (He.fAd K ("PartsWalk", some "__init__")) fd
  g__law_name : mg "_law_name" = some (.ref (He.ga K "_law_name"))
  d__law_name : ∃ fd, FunD K "_law_name" "_law_name" (defArgs (top 21)) (defBody (top 21)) (defScope (top 21)) [] [] (He.ga K "_law_name") fd
  g_rows_of : mg "rows_of" = some (.ref (He.ga K "rows_of"))
  d_rows_of : ∃ fd, FunD K "rows_of" "rows_of" (defArgs (top 4)) (defBody (top 4)) (defScope (top 4)) [] [] (He.ga K "rows_of") fd
  g_made_by : mg "made_by" = some (.ref (He.ga K "made_by"))
  d_made_by : ∃ fd, FunD K "made_by" "made_by" (defArgs (top 5)) (defBody (top 5)) (defScope (top 5)) [] [] (He.ga K "made_by") fd
  g_made_in : mg "made_in" = some (.ref (He.ga K "made_in"))
  d_made_in : ∃ fd, FunD K "made_in" "made_in" (defArgs (top 6)) (defBody (top 6)) (defScope (top 6)) [] [] (He.ga K "made_in") fd
  g_brought_from : mg "brought_from" = some (.ref (He.ga K "brought_from"))
  d_brought_from : ∃ fd, FunD K "brought_from" "brought_from" (defArgs (top 7)) (defBody (top 7)) (defScope (top 7)) [] [] (He.ga K "brought_from") fd
  g_given_as : mg "given_as" = some (.ref (He.ga K "given_as"))
  d_given_as : ∃ fd, FunD K "given_as" "given_as" (defArgs (top 8)) (defBody (top 8)) (defScope (top 8)) [] [] (He.ga K "given_as") fd
  g_onward : mg "onward" = some (.ref (He.ga K "onward"))
  d_onward : ∃ fd, FunD K "onward" "onward" (defArgs (top 9)) (defBody (top 9)) (defScope (top 9)) [] [] (He.ga K "onward") fd
  g_maker : mg "maker" = some (.ref (He.ga K "maker"))
  d_maker : ∃ fd, FunD K "maker" "maker" (defArgs (top 10)) (defBody (top 10)) (defScope (top 10)) [] [] (He.ga K "maker") fd
  d_PartsWalk__key_of : ∃ fd, FunD K "key_of" "PartsWalk.key_of" (defArgs (mth 16 2)) (defBody (mth 16 2)) (defScope (mth 16 2)) [] [] (He.fAd K ("PartsWalk", some "key_of")) fd
  d_Trail____init__ : ∃ fd, FunD K "__init__" "Trail.__init__" (defArgs (mth 12 0)) (defBody (mth 12 0)) (defScope (mth 12 0)) [] [] (He.fAd K ("Trail", some "__init__")) fd
  d_Trail__load : ∃ fd, FunD K "load" "Trail.load" (defArgs (mth 12 2)) (defBody (mth 12 2)) (defScope (mth 12 2)) [] [] (He.fAd K ("Trail", some "load")) fd
  d_PartsWalk__rows_of : ∃ fd, FunD K "rows_of" "PartsWalk.rows_of" (defArgs (mth 16 1)) (defBody (mth 16 1)) (defScope (mth 16 1)) [] [] (He.fAd K ("PartsWalk", some "rows_of")) fd
  g_when_of : mg "when_of" = some (.ref (He.ga K "when_of"))
  d_when_of : ∃ fd, FunD K "when_of" "when_of" (defArgs (top 14)) (defBody (top 14)) (defScope (top 14)) [] [] (He.ga K "when_of") fd
  g_sum_names : mg "sum_names" = some (.ref (He.ga K "sum_names"))
  d_sum_names : ∃ fd, FunD K "sum_names" "sum_names" (defArgs (top 1)) (defBody (top 1)) (defScope (top 1)) [] [] (He.ga K "sum_names") fd
  g_read_names : mg "read_names" = some (.ref (He.ga K "read_names"))
  d_read_names : ∃ fd, FunD K "read_names" "read_names" (defArgs (top 2)) (defBody (top 2)) (defScope (top 2)) [] [] (He.ga K "read_names") fd
  d_PartsWalk__found_by : ∃ fd, FunD K "found_by" "Walk.found_by" (defArgs (mth 15 6)) (defBody (mth 15 6)) (defScope (mth 15 6)) [] [] (He.fAd K ("PartsWalk", some "found_by")) fd
  g_value_of : mg "value_of" = some (.ref (He.ga K "value_of"))
  d_value_of : ∃ fd, FunD K "value_of" "value_of" (defArgs (top 13)) (defBody (top 13)) (defScope (top 13)) [] [] (He.ga K "value_of") fd
  d_Trail__take : ∃ fd, FunD K "take" "Trail.take" (defArgs (mth 12 1)) (defBody (mth 12 1)) (defScope (mth 12 1)) [] [] (He.fAd K ("Trail", some "take")) fd
  d_PartsWalk__loads_of : ∃ fd, FunD K "loads_of" "Walk.loads_of" (defArgs (mth 15 2)) (defBody (mth 15 2)) (defScope (mth 15 2)) [] [] (He.fAd K ("PartsWalk", some "loads_of")) fd
  d_PartsWalk__done : ∃ fd, FunD K "done" "Walk.done" (defArgs (mth 15 7)) (defBody (mth 15 7)) (defScope (mth 15 7)) [] [] (He.fAd K ("PartsWalk", some "done")) fd
  d_PartsWalk__begin : ∃ fd, FunD K "begin" "Walk.begin" (defArgs (mth 15 5)) (defBody (mth 15 5)) (defScope (mth 15 5)) [] [] (He.fAd K ("PartsWalk", some "begin")) fd
  d_PartsWalk__ahead_of : ∃ fd, FunD K "ahead_of" "Walk.ahead_of" (defArgs (mth 15 3)) (defBody (mth 15 3)) (defScope (mth 15 3)) [] [] (He.fAd K ("PartsWalk", some "ahead_of")) fd
  d_PartsWalk__go : ∃ fd, FunD K "go" "Walk.go" (defArgs (mth 15 4)) (defBody (mth 15 4)) (defScope (mth 15 4)) [] [] (He.fAd K ("PartsWalk", some "go")) fd
  g_run : mg "run" = some (.ref (He.ga K "run"))
  d_run : ∃ fd, FunD K "run" "run" (defArgs (top 17)) (defBody (top 17)) (defScope (top 17)) [] [] (He.ga K "run") fd
  g__law_own : mg "_law_own" = some (.ref (He.ga K "_law_own"))
  d__law_own : ∃ fd, FunD K "_law_own" "_law_own" (defArgs (top 23)) (defBody (top 23)) (defScope (top 23)) [] [] (He.ga K "_law_own") fd
  g__law_given : mg "_law_given" = some (.ref (He.ga K "_law_given"))
  d__law_given : ∃ fd, FunD K "_law_given" "_law_given" (defArgs (top 24)) (defBody (top 24)) (defScope (top 24)) [] [] (He.ga K "_law_given") fd
  g__law_rows : mg "_law_rows" = some (.ref (He.ga K "_law_rows"))
  d__law_rows : ∃ fd, FunD K "_law_rows" "_law_rows" (defArgs (top 26)) (defBody (top 26)) (defScope (top 26)) [] [] (He.ga K "_law_rows") fd
  g__law_whole : mg "_law_whole" = some (.ref (He.ga K "_law_whole"))
  d__law_whole : ∃ fd, FunD K "_law_whole" "_law_whole" (defArgs (top 20)) (defBody (top 20)) (defScope (top 20)) [] [] (He.ga K "_law_whole") fd
  g__law_kinds : mg "_law_kinds" = some (.ref (He.ga K "_law_kinds"))
  d__law_kinds : ∃ fd, FunD K "_law_kinds" "_law_kinds" (defArgs (top 28)) (defBody (top 28)) (defScope (top 28)) [] [] (He.ga K "_law_kinds") fd
  g__law_due : mg "_law_due" = some (.ref (He.ga K "_law_due"))
  d__law_due : ∃ fd, FunD K "_law_due" "_law_due" (defArgs (top 27)) (defBody (top 27)) (defScope (top 27)) [] [] (He.ga K "_law_due") fd
  g_law : mg "law" = some (.ref (He.ga K "law"))
  d_law : ∃ fd, FunD K "law" "law" (defArgs (top 29)) (defBody (top 29)) (defScope (top 29)) [] [] (He.ga K "law") fd
  fr_len : mg "len" = none
  fr_max : mg "max" = none
  fr_enumerate : mg "enumerate" = none
  fr_range : mg "range" = none
  fr_tuple : mg "tuple" = none
  fr_isinstance : mg "isinstance" = none
  fr_str : mg "str" = none
  fr_bool : mg "bool" = none
  fr_int : mg "int" = none
  g_Trail : mg "Trail" = some (.ref (He.ga K "Trail"))
  g_PartsWalk : mg "PartsWalk" = some (.ref (He.ga K "PartsWalk"))
  cl_PartsWalk : Cls K (He.ga K "PartsWalk")
  cl_Trail : Cls K (He.ga K "Trail")
  na_PartsWalk_parts : NoAttr K (He.ga K "PartsWalk") "parts"
  na_Trail_numbers : NoAttr K (He.ga K "Trail") "numbers"
  na_Trail_taken : NoAttr K (He.ga K "Trail") "taken"
  na_Trail_known : NoAttr K (He.ga K "Trail") "known"
  na_Trail_begun : NoAttr K (He.ga K "Trail") "begun"
  na_Trail_loaded : NoAttr K (He.ga K "Trail") "loaded"
  na_Trail_trace : NoAttr K (He.ga K "Trail") "trace"
  na_Trail_fault : NoAttr K (He.ga K "Trail") "fault"
  me_PartsWalk_key_of : Meth K (He.ga K "PartsWalk") "key_of" (He.fAd K ("PartsWalk", some "key_of"))
  me_Trail_take : Meth K (He.ga K "Trail") "take" (He.fAd K ("Trail", some "take"))
  me_Trail_load : Meth K (He.ga K "Trail") "load" (He.fAd K ("Trail", some "load"))
  me_PartsWalk_loads_of : Meth K (He.ga K "PartsWalk") "loads_of" (He.fAd K ("PartsWalk", some "loads_of"))
  me_PartsWalk_begin : Meth K (He.ga K "PartsWalk") "begin" (He.fAd K ("PartsWalk", some "begin"))
  me_PartsWalk_found_by : Meth K (He.ga K "PartsWalk") "found_by" (He.fAd K ("PartsWalk", some "found_by"))
  me_PartsWalk_done : Meth K (He.ga K "PartsWalk") "done" (He.fAd K ("PartsWalk", some "done"))
  me_PartsWalk_rows_of : Meth K (He.ga K "PartsWalk") "rows_of" (He.fAd K ("PartsWalk", some "rows_of"))
  me_PartsWalk_ahead_of : Meth K (He.ga K "PartsWalk") "ahead_of" (He.fAd K ("PartsWalk", some "ahead_of"))
  me_PartsWalk_go : Meth K (He.ga K "PartsWalk") "go" (He.fAd K ("PartsWalk", some "go"))
  mk_Trail : Mk K (He.ga K "Trail") (He.fAd K ("Trail", some "__init__"))
  mk_PartsWalk : Mk K (He.ga K "PartsWalk") (He.fAd K ("PartsWalk", some "__init__"))
theorem tx_of {K : PySem.W.Frag} {h : Heap} {mg : Str → Option Value} (X : K.In h) (G : h.Ns mainGlobals mg) (c : He.SaysD fa fn K) : Tx K mg where
  g__law_cell_at := He.glo_ok X G (c.fact 0 rfl)
  d__law_cell_at := c.def_ 0 rfl
  g__law_cell_of := He.glo_ok X G (c.fact 1 rfl)
  d__law_cell_of := c.def_ 1 rfl
  g__law_number := He.glo_ok X G (c.fact 2 rfl)
  d__law_number := c.def_ 2 rfl
  d_PartsWalk____init__ := c.def_ 3 rfl
  g__law_name := He.glo_ok X G (c.fact 3 rfl)
  d__law_name := c.def_ 4 rfl
  g_rows_of := He.glo_ok X G (c.fact 4 rfl)
  d_rows_of := c.def_ 5 rfl
  g_made_by := He.glo_ok X G (c.fact 5 rfl)
  d_made_by := c.def_ 6 rfl
  g_made_in := He.glo_ok X G (c.fact 6 rfl)
  d_made_in := c.def_ 7 rfl
  g_brought_from := He.glo_ok X G (c.fact 7 rfl)
  d_brought_from := c.def_ 8 rfl
  g_given_as := He.glo_ok X G (c.fact 8 rfl)
  d_given_as := c.def_ 9 rfl
  g_onward := He.glo_ok X G (c.fact 9 rfl)
  d_onward := c.def_ 10 rfl
  g_maker := He.glo_ok X G (c.fact 10 rfl)
  d_maker := c.def_ 11 rfl
  d_PartsWalk__key_of := c.def_ 12 rfl
  d_Trail____init__ := c.def_ 13 rfl
  d_Trail__load := c.def_ 14 rfl
  d_PartsWalk__rows_of := c.def_ 15 rfl
  g_when_of := He.glo_ok X G (c.fact 11 rfl)
  d_when_of := c.def_ 16 rfl
  g_sum_names := He.glo_ok X G (c.fact 12 rfl)
  d_sum_names := c.def_ 17 rfl
  g_read_names := He.glo_ok X G (c.fact 13 rfl)
  d_read_names := c.def_ 18 rfl
  d_PartsWalk__found_by := c.def_ 19 rfl
  g_value_of := He.glo_ok X G (c.fact 14 rfl)
  d_value_of := c.def_ 20 rfl
  d_Trail__take := c.def_ 21 rfl
  d_PartsWalk__loads_of := c.def_ 22 rfl
  d_PartsWalk__done := c.def_ 23 rfl
  d_PartsWalk__begin := c.def_ 24 rfl
  d_PartsWalk__ahead_of := c.def_ 25 rfl
  d_PartsWalk__go := c.def_ 26 rfl
  g_run := He.glo_ok X G (c.fact 15 rfl)
  d_run := c.def_ 27 rfl
  g__law_own := He.glo_ok X G (c.fact 16 rfl)
  d__law_own := c.def_ 28 rfl
  g__law_given := He.glo_ok X G (c.fact 17 rfl)
  d__law_given := c.def_ 29 rfl
  g__law_rows := He.glo_ok X G (c.fact 18 rfl)
  d__law_rows := c.def_ 30 rfl
  g__law_whole := He.glo_ok X G (c.fact 19 rfl)
  d__law_whole := c.def_ 31 rfl
  g__law_kinds := He.glo_ok X G (c.fact 20 rfl)
  d__law_kinds := c.def_ 32 rfl
  g__law_due := He.glo_ok X G (c.fact 21 rfl)
  d__law_due := c.def_ 33 rfl
  g_law := He.glo_ok X G (c.fact 22 rfl)
  d_law := c.def_ 34 rfl
  fr_len := He.free_ok X G (c.fact 23 rfl)
  fr_max := He.free_ok X G (c.fact 24 rfl)
  fr_enumerate := He.free_ok X G (c.fact 25 rfl)
  fr_range := He.free_ok X G (c.fact 26 rfl)
  fr_tuple := He.free_ok X G (c.fact 27 rfl)
  fr_isinstance := He.free_ok X G (c.fact 28 rfl)
  fr_str := He.free_ok X G (c.fact 29 rfl)
  fr_bool := He.free_ok X G (c.fact 30 rfl)
  fr_int := He.free_ok X G (c.fact 31 rfl)
  g_Trail := He.glo_ok X G (c.fact 32 rfl)
  g_PartsWalk := He.glo_ok X G (c.fact 33 rfl)
  cl_PartsWalk := He.cls_ok (c.fact 34 rfl)
  cl_Trail := He.cls_ok (c.fact 35 rfl)
  na_PartsWalk_parts := He.noat_ok (c.fact 36 rfl)
  na_Trail_numbers := He.noat_ok (c.fact 37 rfl)
  na_Trail_taken := He.noat_ok (c.fact 38 rfl)
  na_Trail_known := He.noat_ok (c.fact 39 rfl)
  na_Trail_begun := He.noat_ok (c.fact 40 rfl)
  na_Trail_loaded := He.noat_ok (c.fact 41 rfl)
  na_Trail_trace := He.noat_ok (c.fact 42 rfl)
  na_Trail_fault := He.noat_ok (c.fact 43 rfl)
  me_PartsWalk_key_of := He.meth_ok (c.fact 44 rfl)
  me_Trail_take := He.meth_ok (c.fact 45 rfl)
  me_Trail_load := He.meth_ok (c.fact 46 rfl)
  me_PartsWalk_loads_of := He.meth_ok (c.fact 47 rfl)
  me_PartsWalk_begin := He.meth_ok (c.fact 48 rfl)
  me_PartsWalk_found_by := He.meth_ok (c.fact 49 rfl)
  me_PartsWalk_done := He.meth_ok (c.fact 50 rfl)
  me_PartsWalk_rows_of := He.meth_ok (c.fact 51 rfl)
  me_PartsWalk_ahead_of := He.meth_ok (c.fact 52 rfl)
  me_PartsWalk_go := He.meth_ok (c.fact 53 rfl)
  mk_Trail := He.mkr_ok (c.fact 54 rfl)
  mk_PartsWalk := He.mkr_ok (c.fact 55 rfl)
section
variable {P : Program} {w : World} {K : PySem.W.Frag} {mg : Str → Option Value} {base : Heap} {xc : Nat → Value} {oc : Nat → Addr}
theorem sc_l_cell_at : FnScope ["_law_script", "_law_k"] ["_law_script", "_law_k"] (defScope (top 19)) := ⟨rfl, rfl, rfl, by decide +kernel, rfl, by decide +kernel, by decide +kernel⟩
theorem H_l_cell_at (T : Tx K mg) : FnB P w K mg base xc (OC K) 1 "_law_cell_at" ["_law_script", "_law_k"] l_cell_at := by
  obtain ⟨fd, F⟩ := T.d__law_cell_at
  refine fnF (k := 0) (N := ["_law_script", "_law_k"]) T.g__law_cell_at F (fun _ _ _ _ _ _ us hl => match us, hl with | [_, _], _ => rfl) sc_l_cell_at (by decide) fun cdv A outer s H E c => ?_
  have v0 := fun pos => kVar (z := zOf P w K mg base xc (OC K) ["_law_script", "_law_k"] "_law_cell_at" (defScope (top 19)) (He.ga K "_law_cell_at") cdv A outer s H E) 0 (x := "_law_script") rfl (.inl rfl) (by decide) (by decide) pos
  have v1 := fun pos => kVar (z := zOf P w K mg base xc (OC K) ["_law_script", "_law_k"] "_law_cell_at" (defScope (top 19)) (He.ga K "_law_cell_at") cdv A outer s H E) 1 (x := "_law_k") rfl (.inl rfl) (by decide) (by decide) pos
  exact (ssCons (sIfOk (B.tLt (v1 _) (kLen rfl T.fr_len (v0 _))) (ssOne (sRetOk (kIx c (v0 _) (v1 _)))) ssNil) (ssOne (sRetOk kInt)))
theorem sc_l_cell_of : FnScope ["_law_script", "_law_k"] ["_law_script", "_law_k"] (defScope (top 22)) := ⟨rfl, rfl, rfl, by decide +kernel, rfl, by decide +kernel, by decide +kernel⟩
theorem H_l_cell_of (T : Tx K mg) : FnB P w K mg base xc (OC K) 2 "_law_cell_of" ["_law_script", "_law_k"] l_cell_of := by
  obtain ⟨fd, F⟩ := T.d__law_cell_of
  refine fnF (k := 1) (N := ["_law_script", "_law_k"]) T.g__law_cell_of F (fun _ _ _ _ _ _ us hl => match us, hl with | [_, _], _ => rfl) sc_l_cell_of (by decide) fun cdv A outer s H E c => ?_
  have v0 := fun pos => kVar (z := zOf P w K mg base xc (OC K) ["_law_script", "_law_k"] "_law_cell_of" (defScope (top 22)) (He.ga K "_law_cell_of") cdv A outer s H E) 0 (x := "_law_script") rfl (.inl rfl) (by decide) (by decide) pos
  have v1 := fun pos => kVar (z := zOf P w K mg base xc (OC K) ["_law_script", "_law_k"] "_law_cell_of" (defScope (top 22)) (He.ga K "_law_cell_of") cdv A outer s H E) 1 (x := "_law_k") rfl (.inl rfl) (by decide) (by decide) pos
  have h_l_cell_at := H_l_cell_at (P := P) (w := w) (base := base) (xc := xc) T
  exact (ssOne (sRetOk (kAdd (kCall wP c h_l_cell_at (by decide) rfl (aCons (v0 _) (aCons (kAdd kInt (kMod (v1 _) (kMax2 c rfl T.fr_max kInt (kSub (kLen rfl T.fr_len (v0 _)) kInt)))) aNil))) (kMul (kMul kInt (v1 _)) (v1 _)))))
theorem sc_l_number : FnScope ["_law_script", "_law_k"] ["_law_script", "_law_k"] (defScope (top 25)) := ⟨rfl, rfl, rfl, by decide +kernel, rfl, by decide +kernel, by decide +kernel⟩
theorem H_l_number (T : Tx K mg) : FnB P w K mg base xc (OC K) 3 "_law_number" ["_law_script", "_law_k"] l_number := by
  obtain ⟨fd, F⟩ := T.d__law_number
  refine fnF (k := 2) (N := ["_law_script", "_law_k"]) T.g__law_number F (fun _ _ _ _ _ _ us hl => match us, hl with | [_, _], _ => rfl) sc_l_number (by decide) fun cdv A outer s H E c => ?_
  have v0 := fun pos => kVar (z := zOf P w K mg base xc (OC K) ["_law_script", "_law_k"] "_law_number" (defScope (top 25)) (He.ga K "_law_number") cdv A outer s H E) 0 (x := "_law_script") rfl (.inl rfl) (by decide) (by decide) pos
  have v1 := fun pos => kVar (z := zOf P w K mg base xc (OC K) ["_law_script", "_law_k"] "_law_number" (defScope (top 25)) (He.ga K "_law_number") cdv A outer s H E) 1 (x := "_law_k") rfl (.inl rfl) (by decide) (by decide) pos
  have h_l_cell_of := H_l_cell_of (P := P) (w := w) (base := base) (xc := xc) T
  exact (ssOne (sRetOk (kMod (kMul (kCall wP c h_l_cell_of (by decide) rfl (aCons (v0 _) (aCons (v1 _) aNil))) kInt) (kPow kInt kInt))))
theorem sc_m_PartsWalk___init__ : FnScope ["self", "parts"] ["self", "parts"] (defScope (mth 16 0)) := ⟨rfl, rfl, rfl, by decide +kernel, rfl, by decide +kernel, by decide +kernel⟩
theorem H_m_PartsWalk___init__K (T : Tx K mg) : FnM P w K mg base xc (OC K) 1 (He.fAd K ("PartsWalk", some "__init__")) ["self", "parts"] m_PartsWalk___init__K := by
  obtain ⟨fd, F⟩ := T.d_PartsWalk____init__
  refine fnMK (k := 0) (N := ["self", "parts"]) F (fun _ _ _ _ _ _ us hl => match us, hl with | [_, _], _ => rfl) sc_m_PartsWalk___init__ (by decide) fun cdv A outer s H E c => ?_
  have v0 := fun pos => kVar (z := zOf P w K mg base xc (OC K) ["self", "parts"] "PartsWalk.__init__" (defScope (mth 16 0)) (He.fAd K ("PartsWalk", some "__init__")) cdv A outer s H E) 0 (x := "self") rfl (.inl rfl) (by decide) (by decide) pos
  have v1 := fun pos => kVar (z := zOf P w K mg base xc (OC K) ["self", "parts"] "PartsWalk.__init__" (defScope (mth 16 0)) (He.fAd K ("PartsWalk", some "__init__")) cdv A outer s H E) 1 (x := "parts") rfl (.inl rfl) (by decide) (by decide) pos
  exact (ssOne (sFldOk [112, 97, 114, 116, 115] rfl T.cl_PartsWalk T.na_PartsWalk_parts (v0 _) (v1 _)))
theorem sc_l_name : FnScope ["_law_form", "_law_k", "_law_base", "_law_at"] ["_law_form", "_law_k"] (defScope (top 21)) := ⟨rfl, rfl, rfl, by decide +kernel, rfl, by decide +kernel, by decide +kernel⟩
theorem H_l_name (T : Tx K mg) : FnB P w K mg base xc (OC K) 1 "_law_name" ["_law_form", "_law_k"] l_name := by
  obtain ⟨fd, F⟩ := T.d__law_name
  refine fnF (k := 0) (N := ["_law_form", "_law_k", "_law_base", "_law_at"]) T.g__law_name F (fun _ _ _ _ _ _ us hl => match us, hl with | [_, _], _ => rfl) sc_l_name (by decide) fun cdv A outer s H E c => ?_
  have v0 := fun pos => kVar (z := zOf P w K mg base xc (OC K) ["_law_form", "_law_k", "_law_base", "_law_at"] "_law_name" (defScope (top 21)) (He.ga K "_law_name") cdv A outer s H E) 0 (x := "_law_form") rfl (.inl rfl) (by decide) (by decide) pos
  have v1 := fun pos => kVar (z := zOf P w K mg base xc (OC K) ["_law_form", "_law_k", "_law_base", "_law_at"] "_law_name" (defScope (top 21)) (He.ga K "_law_name") cdv A outer s H E) 1 (x := "_law_k") rfl (.inl rfl) (by decide) (by decide) pos
  have v2 := fun pos => kVar (z := zOf P w K mg base xc (OC K) ["_law_form", "_law_k", "_law_base", "_law_at"] "_law_name" (defScope (top 21)) (He.ga K "_law_name") cdv A outer s H E) 2 (x := "_law_base") rfl (.inl rfl) (by decide) (by decide) pos
  have v3 := fun pos => kVar (z := zOf P w K mg base xc (OC K) ["_law_form", "_law_k", "_law_base", "_law_at"] "_law_name" (defScope (top 21)) (He.ga K "_law_name") cdv A outer s H E) 3 (x := "_law_at") rfl (.inl rfl) (by decide) (by decide) pos
  exact (ssCons (sSetOk c 2 (kIx c (kLst (aCons (kStr []) (aCons (kStr [97, 115]) (aCons (kStr [110, 97, 109, 101]) (aCons (kStr [120, 49, 121]) (aCons (kStr [116, 97, 107, 101]) aNil)))))) (kMod (v0 _) kInt)) rfl (.inl rfl) (.inr rfl)) (ssCons (sSetOk c 3 (kMod (kDiv (v0 _) kInt) (kAdd (kLen rfl T.fr_len (v2 _)) kInt)) rfl (.inl rfl) (.inr rfl)) (ssOne (sRetOk (kAdd (kAdd (kSl (v2 _) oNone (oSome (v3 _))) (kIx c (kStr [97, 98, 99, 100, 101, 102, 103, 104, 105, 106, 107, 108, 109, 110, 111, 112, 113, 114, 115, 116, 117, 118, 119, 120, 121, 122]) (v1 _))) (kSl (v2 _) (oSome (v3 _)) oNone))))))
theorem sc_p_rows_of : FnScope ["parts", "part", "name", "rows"] ["parts", "part"] (defScope (top 4)) := ⟨rfl, rfl, rfl, by decide +kernel, rfl, by decide +kernel, by decide +kernel⟩
theorem H_p_rows_of (T : Tx K mg) : FnB P w K mg base xc (OC K) 1 "rows_of" ["parts", "part"] p_rows_of := by
  obtain ⟨fd, F⟩ := T.d_rows_of
  refine fnF (k := 0) (N := ["parts", "part", "name", "rows"]) T.g_rows_of F (fun _ _ _ _ _ _ us hl => match us, hl with | [_, _], _ => rfl) sc_p_rows_of (by decide) fun cdv A outer s H E c => ?_
  have v0 := fun pos => kVar (z := zOf P w K mg base xc (OC K) ["parts", "part", "name", "rows"] "rows_of" (defScope (top 4)) (He.ga K "rows_of") cdv A outer s H E) 0 (x := "parts") rfl (.inl rfl) (by decide) (by decide) pos
  have v1 := fun pos => kVar (z := zOf P w K mg base xc (OC K) ["parts", "part", "name", "rows"] "rows_of" (defScope (top 4)) (He.ga K "rows_of") cdv A outer s H E) 1 (x := "part") rfl (.inl rfl) (by decide) (by decide) pos
  have v2 := fun pos => kVar (z := zOf P w K mg base xc (OC K) ["parts", "part", "name", "rows"] "rows_of" (defScope (top 4)) (He.ga K "rows_of") cdv A outer s H E) 2 (x := "name") rfl (.inl rfl) (by decide) (by decide) pos
  have w2 := fun pos => gNameOk c 2 (x := "name") rfl (.inl rfl) (.inr rfl) pos
  have v3 := fun pos => kVar (z := zOf P w K mg base xc (OC K) ["parts", "part", "name", "rows"] "rows_of" (defScope (top 4)) (He.ga K "rows_of") cdv A outer s H E) 3 (x := "rows") rfl (.inl rfl) (by decide) (by decide) pos
  have w3 := fun pos => gNameOk c 3 (x := "rows") rfl (.inl rfl) (.inr rfl) pos
  exact (ssCons (sForOk c (iSeqOk (v0 _)) (gTupOk c (gsCons (w2 _) (gsCons (w3 _) gsNil))) (ssKill [2, 3] (ssOne (sIfOk (B.tEq c (v2 _) (v1 _)) (ssOne (sRetOk (v3 _))) ssNil)))) (ssOne (sRetOk (kTup aNil))))
theorem sc_p_made_by : FnScope ["row"] ["row"] (defScope (top 5)) := ⟨rfl, rfl, rfl, by decide +kernel, rfl, by decide +kernel, by decide +kernel⟩
theorem H_p_made_by (T : Tx K mg) : FnB P w K mg base xc (OC K) 1 "made_by" ["row"] p_made_by := by
  obtain ⟨fd, F⟩ := T.d_made_by
  refine fnF (k := 0) (N := ["row"]) T.g_made_by F (fun _ _ _ _ _ _ us hl => match us, hl with | [_], _ => rfl) sc_p_made_by (by decide) fun cdv A outer s H E c => ?_
  have v0 := fun pos => kVar (z := zOf P w K mg base xc (OC K) ["row"] "made_by" (defScope (top 5)) (He.ga K "made_by") cdv A outer s H E) 0 (x := "row") rfl (.inl rfl) (by decide) (by decide) pos
  exact (ssCons (sIfOk (tW (wOr (B.tEq c (kIx c (v0 _) kInt) (kStr [115, 101, 116])) (wOr1 (B.tEq c (kIx c (v0 _) kInt) (kStr [116, 97, 107, 101]))))) (ssOne (sRetOk (kIx c (v0 _) kInt))) ssNil) (ssOne (sRetOk kNon)))
theorem sc_p_made_in : FnScope ["parts", "part", "own", "number", "row"] ["parts", "part", "own"] (defScope (top 6)) := ⟨rfl, rfl, rfl, by decide +kernel, rfl, by decide +kernel, by decide +kernel⟩
theorem H_p_made_in (T : Tx K mg) : FnB P w K mg base xc (OC K) 2 "made_in" ["parts", "part", "own"] p_made_in := by
  obtain ⟨fd, F⟩ := T.d_made_in
  refine fnF (k := 1) (N := ["parts", "part", "own", "number", "row"]) T.g_made_in F (fun _ _ _ _ _ _ us hl => match us, hl with | [_, _, _], _ => rfl) sc_p_made_in (by decide) fun cdv A outer s H E c => ?_
  have v0 := fun pos => kVar (z := zOf P w K mg base xc (OC K) ["parts", "part", "own", "number", "row"] "made_in" (defScope (top 6)) (He.ga K "made_in") cdv A outer s H E) 0 (x := "parts") rfl (.inl rfl) (by decide) (by decide) pos
  have v1 := fun pos => kVar (z := zOf P w K mg base xc (OC K) ["parts", "part", "own", "number", "row"] "made_in" (defScope (top 6)) (He.ga K "made_in") cdv A outer s H E) 1 (x := "part") rfl (.inl rfl) (by decide) (by decide) pos
  have v2 := fun pos => kVar (z := zOf P w K mg base xc (OC K) ["parts", "part", "own", "number", "row"] "made_in" (defScope (top 6)) (He.ga K "made_in") cdv A outer s H E) 2 (x := "own") rfl (.inl rfl) (by decide) (by decide) pos
  have v3 := fun pos => kVar (z := zOf P w K mg base xc (OC K) ["parts", "part", "own", "number", "row"] "made_in" (defScope (top 6)) (He.ga K "made_in") cdv A outer s H E) 3 (x := "number") rfl (.inl rfl) (by decide) (by decide) pos
  have w3 := fun pos => gNameOk c 3 (x := "number") rfl (.inl rfl) (.inr rfl) pos
  have v4 := fun pos => kVar (z := zOf P w K mg base xc (OC K) ["parts", "part", "own", "number", "row"] "made_in" (defScope (top 6)) (He.ga K "made_in") cdv A outer s H E) 4 (x := "row") rfl (.inl rfl) (by decide) (by decide) pos
  have w4 := fun pos => gNameOk c 4 (x := "row") rfl (.inl rfl) (.inr rfl) pos
  have h_p_made_by := H_p_made_by (P := P) (w := w) (base := base) (xc := xc) T
  have h_p_rows_of := H_p_rows_of (P := P) (w := w) (base := base) (xc := xc) T
  exact (ssCons (sForWOk c (iEnOk c rfl T.fr_enumerate (kCall wP c h_p_rows_of (by decide) rfl (aCons (v0 _) (aCons (v1 _) aNil)))) (gTupOk c (gsCons (w3 _) (gsCons (w4 _) gsNil))) (ssKill [3, 4] (ssOne (sIfOk (B.tEq c (kCall wP c h_p_made_by (by decide) rfl (aCons (v4 _) aNil)) (v2 _)) (ssOne (sRetOk (v3 _))) ssNil)))) (ssOne (sRetOk kNon)))
theorem sc_p_brought_from : FnScope ["parts", "part", "own", "row", "given", "name"] ["parts", "part", "own"] (defScope (top 7)) := ⟨rfl, rfl, rfl, by decide +kernel, rfl, by decide +kernel, by decide +kernel⟩
theorem H_p_brought_from (T : Tx K mg) : FnB P w K mg base xc (OC K) 2 "brought_from" ["parts", "part", "own"] p_brought_from := by
  obtain ⟨fd, F⟩ := T.d_brought_from
  refine fnF (k := 1) (N := ["parts", "part", "own", "row", "given", "name"]) T.g_brought_from F (fun _ _ _ _ _ _ us hl => match us, hl with | [_, _, _], _ => rfl) sc_p_brought_from (by decide) fun cdv A outer s H E c => ?_
  have v0 := fun pos => kVar (z := zOf P w K mg base xc (OC K) ["parts", "part", "own", "row", "given", "name"] "brought_from" (defScope (top 7)) (He.ga K "brought_from") cdv A outer s H E) 0 (x := "parts") rfl (.inl rfl) (by decide) (by decide) pos
  have v1 := fun pos => kVar (z := zOf P w K mg base xc (OC K) ["parts", "part", "own", "row", "given", "name"] "brought_from" (defScope (top 7)) (He.ga K "brought_from") cdv A outer s H E) 1 (x := "part") rfl (.inl rfl) (by decide) (by decide) pos
  have v2 := fun pos => kVar (z := zOf P w K mg base xc (OC K) ["parts", "part", "own", "row", "given", "name"] "brought_from" (defScope (top 7)) (He.ga K "brought_from") cdv A outer s H E) 2 (x := "own") rfl (.inl rfl) (by decide) (by decide) pos
  have v3 := fun pos => kVar (z := zOf P w K mg base xc (OC K) ["parts", "part", "own", "row", "given", "name"] "brought_from" (defScope (top 7)) (He.ga K "brought_from") cdv A outer s H E) 3 (x := "row") rfl (.inl rfl) (by decide) (by decide) pos
  have w3 := fun pos => gNameOk c 3 (x := "row") rfl (.inl rfl) (.inr rfl) pos
  have v4 := fun pos => kVar (z := zOf P w K mg base xc (OC K) ["parts", "part", "own", "row", "given", "name"] "brought_from" (defScope (top 7)) (He.ga K "brought_from") cdv A outer s H E) 4 (x := "given") rfl (.inl rfl) (by decide) (by decide) pos
  have w4 := fun pos => gNameOk c 4 (x := "given") rfl (.inl rfl) (.inr rfl) pos
  have v5 := fun pos => kVar (z := zOf P w K mg base xc (OC K) ["parts", "part", "own", "row", "given", "name"] "brought_from" (defScope (top 7)) (He.ga K "brought_from") cdv A outer s H E) 5 (x := "name") rfl (.inl rfl) (by decide) (by decide) pos
  have w5 := fun pos => gNameOk c 5 (x := "name") rfl (.inl rfl) (.inr rfl) pos
  have h_p_rows_of := H_p_rows_of (P := P) (w := w) (base := base) (xc := xc) T
  exact (ssCons (sForOk c (iSeqOk (kCall wP c h_p_rows_of (by decide) rfl (aCons (v0 _) (aCons (v1 _) aNil)))) (w3 _) (ssKill [3, 4, 5] (ssOne (sIfOk (B.tEq c (kIx c (v3 _) kInt) (kStr [98, 114, 105, 110, 103])) (ssOne (sForOk c (iSeqOk (kIx c (v3 _) kInt)) (gTupOk c (gsCons (w4 _) (gsCons (w5 _) gsNil))) (ssKill [4, 5] (ssOne (sIfOk (B.tEq c (v5 _) (v2 _)) (ssOne (sRetOk (kTup (aCons (kIx c (v3 _) kInt) (aCons (v4 _) aNil))))) ssNil))))) ssNil)))) (ssOne (sRetOk kNon)))
theorem sc_p_given_as : FnScope ["parts", "part", "given", "row"] ["parts", "part", "given"] (defScope (top 8)) := ⟨rfl, rfl, rfl, by decide +kernel, rfl, by decide +kernel, by decide +kernel⟩
theorem H_p_given_as (T : Tx K mg) : FnB P w K mg base xc (OC K) 2 "given_as" ["parts", "part", "given"] p_given_as := by
  obtain ⟨fd, F⟩ := T.d_given_as
  refine fnF (k := 1) (N := ["parts", "part", "given", "row"]) T.g_given_as F (fun _ _ _ _ _ _ us hl => match us, hl with | [_, _, _], _ => rfl) sc_p_given_as (by decide) fun cdv A outer s H E c => ?_
  have v0 := fun pos => kVar (z := zOf P w K mg base xc (OC K) ["parts", "part", "given", "row"] "given_as" (defScope (top 8)) (He.ga K "given_as") cdv A outer s H E) 0 (x := "parts") rfl (.inl rfl) (by decide) (by decide) pos
  have v1 := fun pos => kVar (z := zOf P w K mg base xc (OC K) ["parts", "part", "given", "row"] "given_as" (defScope (top 8)) (He.ga K "given_as") cdv A outer s H E) 1 (x := "part") rfl (.inl rfl) (by decide) (by decide) pos
  have v2 := fun pos => kVar (z := zOf P w K mg base xc (OC K) ["parts", "part", "given", "row"] "given_as" (defScope (top 8)) (He.ga K "given_as") cdv A outer s H E) 2 (x := "given") rfl (.inl rfl) (by decide) (by decide) pos
  have v3 := fun pos => kVar (z := zOf P w K mg base xc (OC K) ["parts", "part", "given", "row"] "given_as" (defScope (top 8)) (He.ga K "given_as") cdv A outer s H E) 3 (x := "row") rfl (.inl rfl) (by decide) (by decide) pos
  have w3 := fun pos => gNameOk c 3 (x := "row") rfl (.inl rfl) (.inr rfl) pos
  have h_p_rows_of := H_p_rows_of (P := P) (w := w) (base := base) (xc := xc) T
  exact (ssCons (sForOk c (iSeqOk (kCall wP c h_p_rows_of (by decide) rfl (aCons (v0 _) (aCons (v1 _) aNil)))) (w3 _) (ssKill [3] (ssOne (sIfOk (tW (wAnd (B.tEq c (kIx c (v3 _) kInt) (kStr [103, 105, 118, 101])) (wAnd1 (B.tEq c (kIx c (v3 _) kInt) (v2 _))))) (ssOne (sRetOk (kIx c (v3 _) kInt))) ssNil)))) (ssOne (sRetOk kNon)))
theorem sc_p_onward : FnScope ["parts", "part", "own", "other", "given"] ["parts", "part", "own"] (defScope (top 9)) := ⟨rfl, rfl, rfl, by decide +kernel, rfl, by decide +kernel, by decide +kernel⟩
theorem H_p_onward (T : Tx K mg) : FnB P w K mg base xc (OC K) 3 "onward" ["parts", "part", "own"] p_onward := by
  obtain ⟨fd, F⟩ := T.d_onward
  refine fnF (k := 2) (N := ["parts", "part", "own", "other", "given"]) T.g_onward F (fun _ _ _ _ _ _ us hl => match us, hl with | [_, _, _], _ => rfl) sc_p_onward (by decide) fun cdv A outer s H E c => ?_
  have v0 := fun pos => kVar (z := zOf P w K mg base xc (OC K) ["parts", "part", "own", "other", "given"] "onward" (defScope (top 9)) (He.ga K "onward") cdv A outer s H E) 0 (x := "parts") rfl (.inl rfl) (by decide) (by decide) pos
  have v1 := fun pos => kVar (z := zOf P w K mg base xc (OC K) ["parts", "part", "own", "other", "given"] "onward" (defScope (top 9)) (He.ga K "onward") cdv A outer s H E) 1 (x := "part") rfl (.inl rfl) (by decide) (by decide) pos
  have v2 := fun pos => kVar (z := zOf P w K mg base xc (OC K) ["parts", "part", "own", "other", "given"] "onward" (defScope (top 9)) (He.ga K "onward") cdv A outer s H E) 2 (x := "own") rfl (.inl rfl) (by decide) (by decide) pos
  have v3 := fun pos => kVar (z := zOf P w K mg base xc (OC K) ["parts", "part", "own", "other", "given"] "onward" (defScope (top 9)) (He.ga K "onward") cdv A outer s H E) 3 (x := "other") rfl (.inl rfl) (by decide) (by decide) pos
  have w3 := fun pos => gNameOk c 3 (x := "other") rfl (.inl rfl) (.inr rfl) pos
  have v4 := fun pos => kVar (z := zOf P w K mg base xc (OC K) ["parts", "part", "own", "other", "given"] "onward" (defScope (top 9)) (He.ga K "onward") cdv A outer s H E) 4 (x := "given") rfl (.inl rfl) (by decide) (by decide) pos
  have w4 := fun pos => gNameOk c 4 (x := "given") rfl (.inl rfl) (.inr rfl) pos
  have h_p_brought_from := H_p_brought_from (P := P) (w := w) (base := base) (xc := xc) T
  have h_p_given_as := H_p_given_as (P := P) (w := w) (base := base) (xc := xc) T
  have h_p_made_in := H_p_made_in (P := P) (w := w) (base := base) (xc := xc) T
  exact (ssCons (sIfOk (B.tNotN (kCall wP c h_p_made_in (by decide) rfl (aCons (v0 _) (aCons (v1 _) (aCons (v2 _) aNil))))) (ssOne (sRetOk kNon)) ssNil) (ssCons (sAsgOk (kCall wP c h_p_brought_from (by decide) rfl (aCons (v0 _) (aCons (v1 _) (aCons (v2 _) aNil)))) (gTupOk c (gsCons (w3 _) (gsCons (w4 _) gsNil)))) (ssOne (sRetOk (kTup (aCons (v3 _) (aCons (kCall wP c h_p_given_as (by decide) rfl (aCons (v0 _) (aCons (v3 _) (aCons (v4 _) aNil)))) aNil)))))))
theorem sc_p_maker : FnScope ["parts", "part", "name"] ["parts", "part", "name"] (defScope (top 10)) := ⟨rfl, rfl, rfl, by decide +kernel, rfl, by decide +kernel, by decide +kernel⟩
theorem H_p_maker (T : Tx K mg) : FnB P w K mg base xc (OC K) 4 "maker" ["parts", "part", "name"] p_maker := by
  obtain ⟨fd, F⟩ := T.d_maker
  refine fnF (k := 3) (N := ["parts", "part", "name"]) T.g_maker F (fun _ _ _ _ _ _ us hl => match us, hl with | [_, _, _], _ => rfl) sc_p_maker (by decide) fun cdv A outer s H E c => ?_
  have v0 := fun pos => kVar (z := zOf P w K mg base xc (OC K) ["parts", "part", "name"] "maker" (defScope (top 10)) (He.ga K "maker") cdv A outer s H E) 0 (x := "parts") rfl (.inl rfl) (by decide) (by decide) pos
  have v1 := fun pos => kVar (z := zOf P w K mg base xc (OC K) ["parts", "part", "name"] "maker" (defScope (top 10)) (He.ga K "maker") cdv A outer s H E) 1 (x := "part") rfl (.inl rfl) (by decide) (by decide) pos
  have w1 := fun pos => gNameOk c 1 (x := "part") rfl (.inl rfl) (.inr rfl) pos
  have v2 := fun pos => kVar (z := zOf P w K mg base xc (OC K) ["parts", "part", "name"] "maker" (defScope (top 10)) (He.ga K "maker") cdv A outer s H E) 2 (x := "name") rfl (.inl rfl) (by decide) (by decide) pos
  have w2 := fun pos => gNameOk c 2 (x := "name") rfl (.inl rfl) (.inr rfl) pos
  have h_p_made_in := H_p_made_in (P := P) (w := w) (base := base) (xc := xc) T
  have h_p_onward := H_p_onward (P := P) (w := w) (base := base) (xc := xc) T
  exact (ssCons (sWhileOk c (B.tIsN (kCall wP c h_p_made_in (by decide) rfl (aCons (v0 _) (aCons (v1 _) (aCons (v2 _) aNil))))) (ssOne (sAsgOk (kCall wP c h_p_onward (by decide) rfl (aCons (v0 _) (aCons (v1 _) (aCons (v2 _) aNil)))) (gTupOk c (gsCons (w1 _) (gsCons (w2 _) gsNil)))))) (ssOne (sRetOk (kTup (aCons (v1 _) (aCons (kCall wP c h_p_made_in (by decide) rfl (aCons (v0 _) (aCons (v1 _) (aCons (v2 _) aNil)))) aNil))))))
theorem sc_m_PartsWalk_key_of : FnScope ["self", "part", "name"] ["self", "part", "name"] (defScope (mth 16 2)) := ⟨rfl, rfl, rfl, by decide +kernel, rfl, by decide +kernel, by decide +kernel⟩
theorem H_m_PartsWalk_key_of (T : Tx K mg) : FnM P w K mg base xc (OC K) 5 (He.fAd K ("PartsWalk", some "key_of")) ["self", "part", "name"] m_PartsWalk_key_of := by
  obtain ⟨fd, F⟩ := T.d_PartsWalk__key_of
  refine fnMF (k := 4) (N := ["self", "part", "name"]) F (fun _ _ _ _ _ _ us hl => match us, hl with | [_, _, _], _ => rfl) sc_m_PartsWalk_key_of (by decide) fun cdv A outer s H E c => ?_
  have v0 := fun pos => kVar (z := zOf P w K mg base xc (OC K) ["self", "part", "name"] "PartsWalk.key_of" (defScope (mth 16 2)) (He.fAd K ("PartsWalk", some "key_of")) cdv A outer s H E) 0 (x := "self") rfl (.inl rfl) (by decide) (by decide) pos
  have v1 := fun pos => kVar (z := zOf P w K mg base xc (OC K) ["self", "part", "name"] "PartsWalk.key_of" (defScope (mth 16 2)) (He.fAd K ("PartsWalk", some "key_of")) cdv A outer s H E) 1 (x := "part") rfl (.inl rfl) (by decide) (by decide) pos
  have v2 := fun pos => kVar (z := zOf P w K mg base xc (OC K) ["self", "part", "name"] "PartsWalk.key_of" (defScope (mth 16 2)) (He.fAd K ("PartsWalk", some "key_of")) cdv A outer s H E) 2 (x := "name") rfl (.inl rfl) (by decide) (by decide) pos
  have h_p_maker := H_p_maker (P := P) (w := w) (base := base) (xc := xc) T
  exact (ssOne (sRetOk (kCall wP c h_p_maker (by decide) rfl (aCons (kFld [112, 97, 114, 116, 115] rfl T.cl_PartsWalk T.na_PartsWalk_parts (v0 _)) (aCons (v1 _) (aCons (v2 _) aNil))))))
theorem sc_m_Trail___init__ : FnScope ["self", "numbers"] ["self", "numbers"] (defScope (mth 12 0)) := ⟨rfl, rfl, rfl, by decide +kernel, rfl, by decide +kernel, by decide +kernel⟩
theorem H_m_Trail___init__K (T : Tx K mg) : FnM P w K mg base xc (OC K) 1 (He.fAd K ("Trail", some "__init__")) ["self", "numbers"] m_Trail___init__K := by
  obtain ⟨fd, F⟩ := T.d_Trail____init__
  refine fnMK (k := 0) (N := ["self", "numbers"]) F (fun _ _ _ _ _ _ us hl => match us, hl with | [_, _], _ => rfl) sc_m_Trail___init__ (by decide) fun cdv A outer s H E c => ?_
  have v0 := fun pos => kVar (z := zOf P w K mg base xc (OC K) ["self", "numbers"] "Trail.__init__" (defScope (mth 12 0)) (He.fAd K ("Trail", some "__init__")) cdv A outer s H E) 0 (x := "self") rfl (.inl rfl) (by decide) (by decide) pos
  have v1 := fun pos => kVar (z := zOf P w K mg base xc (OC K) ["self", "numbers"] "Trail.__init__" (defScope (mth 12 0)) (He.fAd K ("Trail", some "__init__")) cdv A outer s H E) 1 (x := "numbers") rfl (.inl rfl) (by decide) (by decide) pos
  exact (ssCons (sFldOk [110, 117, 109, 98, 101, 114, 115] rfl T.cl_Trail T.na_Trail_numbers (v0 _) (v1 _)) (ssCons (sFldOk [116, 97, 107, 101, 110] rfl T.cl_Trail T.na_Trail_taken (v0 _) kInt) (ssCons (sFldOk [107, 110, 111, 119, 110] rfl T.cl_Trail T.na_Trail_known (v0 _) kDctT) (ssCons (sFldOk [98, 101, 103, 117, 110] rfl T.cl_Trail T.na_Trail_begun (v0 _) kDctK) (ssCons (sFldOk [108, 111, 97, 100, 101, 100] rfl T.cl_Trail T.na_Trail_loaded (v0 _) kDctK) (ssCons (sFldOk [116, 114, 97, 99, 101] rfl T.cl_Trail T.na_Trail_trace (v0 _) (kLstC aNil)) (ssOne (sFldOk [102, 97, 117, 108, 116] rfl T.cl_Trail T.na_Trail_fault (v0 _) kNon))))))))
theorem sc_m_Trail_load : FnScope ["self", "packs", "pack"] ["self", "packs"] (defScope (mth 12 2)) := ⟨rfl, rfl, rfl, by decide +kernel, rfl, by decide +kernel, by decide +kernel⟩
theorem H_m_Trail_load (T : Tx K mg) : FnM P w K mg base xc (OC K) 1 (He.fAd K ("Trail", some "load")) ["self", "packs"] m_Trail_load := by
  obtain ⟨fd, F⟩ := T.d_Trail__load
  refine fnMF (k := 0) (N := ["self", "packs", "pack"]) F (fun _ _ _ _ _ _ us hl => match us, hl with | [_, _], _ => rfl) sc_m_Trail_load (by decide) fun cdv A outer s H E c => ?_
  have v0 := fun pos => kVar (z := zOf P w K mg base xc (OC K) ["self", "packs", "pack"] "Trail.load" (defScope (mth 12 2)) (He.fAd K ("Trail", some "load")) cdv A outer s H E) 0 (x := "self") rfl (.inl rfl) (by decide) (by decide) pos
  have v1 := fun pos => kVar (z := zOf P w K mg base xc (OC K) ["self", "packs", "pack"] "Trail.load" (defScope (mth 12 2)) (He.fAd K ("Trail", some "load")) cdv A outer s H E) 1 (x := "packs") rfl (.inl rfl) (by decide) (by decide) pos
  have v2 := fun pos => kVar (z := zOf P w K mg base xc (OC K) ["self", "packs", "pack"] "Trail.load" (defScope (mth 12 2)) (He.fAd K ("Trail", some "load")) cdv A outer s H E) 2 (x := "pack") rfl (.inl rfl) (by decide) (by decide) pos
  have w2 := fun pos => gNameOk c 2 (x := "pack") rfl (.inl rfl) (.inr rfl) pos
  exact (ssOne (sForOk c (iSeqOk (v1 _)) (w2 _) (ssKill [2] (ssOne (sIfOk (B.tNin c (v2 _) (kFld [108, 111, 97, 100, 101, 100] rfl T.cl_Trail T.na_Trail_loaded (v0 _))) (ssCons (sAsgOk kBl (gSubOk c (kFld [108, 111, 97, 100, 101, 100] rfl T.cl_Trail T.na_Trail_loaded (v0 _)) (v2 _))) (ssOne (sXOk (kAppend (kFld [116, 114, 97, 99, 101] rfl T.cl_Trail T.na_Trail_trace (v0 _)) (kTup (aCons (kStr [108, 111, 97, 100]) (aCons (v2 _) aNil))))))) ssNil)))))
theorem sc_m_PartsWalk_rows_of : FnScope ["self", "part", "name", "rows", "number"] ["self", "part"] (defScope (mth 16 1)) := ⟨rfl, rfl, rfl, by decide +kernel, rfl, by decide +kernel, by decide +kernel⟩
theorem H_m_PartsWalk_rows_of (T : Tx K mg) : FnM P w K mg base xc (OC K) 1 (He.fAd K ("PartsWalk", some "rows_of")) ["self", "part"] m_PartsWalk_rows_of := by
  obtain ⟨fd, F⟩ := T.d_PartsWalk__rows_of
  refine fnMF (k := 0) (N := ["self", "part", "name", "rows", "number"]) F (fun _ _ _ _ _ _ us hl => match us, hl with | [_, _], _ => rfl) sc_m_PartsWalk_rows_of (by decide) fun cdv A outer s H E c => ?_
  have v0 := fun pos => kVar (z := zOf P w K mg base xc (OC K) ["self", "part", "name", "rows", "number"] "PartsWalk.rows_of" (defScope (mth 16 1)) (He.fAd K ("PartsWalk", some "rows_of")) cdv A outer s H E) 0 (x := "self") rfl (.inl rfl) (by decide) (by decide) pos
  have v1 := fun pos => kVar (z := zOf P w K mg base xc (OC K) ["self", "part", "name", "rows", "number"] "PartsWalk.rows_of" (defScope (mth 16 1)) (He.fAd K ("PartsWalk", some "rows_of")) cdv A outer s H E) 1 (x := "part") rfl (.inr (.inl rfl)) (by decide) (by decide) pos
  have v2 := fun pos => kVar (z := zOf P w K mg base xc (OC K) ["self", "part", "name", "rows", "number"] "PartsWalk.rows_of" (defScope (mth 16 1)) (He.fAd K ("PartsWalk", some "rows_of")) cdv A outer s H E) 2 (x := "name") rfl (.inl rfl) (by decide) (by decide) pos
  have w2 := fun pos => gNameOk c 2 (x := "name") rfl (.inl rfl) (.inr rfl) pos
  have v3 := fun pos => kVar (z := zOf P w K mg base xc (OC K) ["self", "part", "name", "rows", "number"] "PartsWalk.rows_of" (defScope (mth 16 1)) (He.fAd K ("PartsWalk", some "rows_of")) cdv A outer s H E) 3 (x := "rows") rfl (.inr (.inl rfl)) (by decide) (by decide) pos
  have w3 := fun pos => gNameOk c 3 (x := "rows") rfl (.inr rfl) (.inl rfl) pos
  exact (ssCons (sForOk c (iSeqOk (kFld [112, 97, 114, 116, 115] rfl T.cl_PartsWalk T.na_PartsWalk_parts (v0 _))) (gTupOk c (gsCons (w2 _) (gsCons (w3 _) gsNil))) (ssKill [2, 3] (ssOne (sIfOk (B.tEq c (v2 _) (v1 _)) (ssOne (sRetOk (kTuple rfl T.fr_tuple (kComp (own := [("number", 4)]) c (iR1Ok rfl T.fr_range (kLen rfl T.fr_len (v3 _))) { blk := blkOk_by (N := ["self", "part", "name", "rows", "number"]) (sc := defScope (mth 16 1)) (by decide +kernel), g := ⟨_, gw_name (by decide), fun _ _ _ _ _ => pg_name c.nd rfl (.inl rfl) (.inr rfl)⟩, t := ⟨_, st_yes, fun _ _ _ _ _ => pts_nil⟩, e := fun _ _ _ _ _ => (kTup (aCons (kVar 1 rfl (.inr (.inl rfl)) (by decide) (by decide) _) (aCons (kVar 4 rfl (.inl rfl) (by decide) (by decide) _) (aCons (kIx (c.blk _ _ _ _ _) (kVar 3 rfl (.inr (.inl rfl)) (by decide) (by decide) _) (kVar 4 rfl (.inl rfl) (by decide) (by decide) _)) aNil)))) })))) ssNil)))) (ssOne (sRetOk (kTup aNil))))
theorem sc_p_when_of : FnScope ["row"] ["row"] (defScope (top 14)) := ⟨rfl, rfl, rfl, by decide +kernel, rfl, by decide +kernel, by decide +kernel⟩
theorem H_p_when_of (T : Tx K mg) : FnB P w K mg base xc (OC K) 1 "when_of" ["row"] p_when_of := by
  obtain ⟨fd, F⟩ := T.d_when_of
  refine fnF (k := 0) (N := ["row"]) T.g_when_of F (fun _ _ _ _ _ _ us hl => match us, hl with | [_], _ => rfl) sc_p_when_of (by decide) fun cdv A outer s H E c => ?_
  have v0 := fun pos => kVar (z := zOf P w K mg base xc (OC K) ["row"] "when_of" (defScope (top 14)) (He.ga K "when_of") cdv A outer s H E) 0 (x := "row") rfl (.inl rfl) (by decide) (by decide) pos
  exact (ssCons (sIfOk (tW (wOr (B.tEq c (kIx c (v0 _) kInt) (kStr [115, 97, 121])) (wOr1 (B.tEq c (kIx c (v0 _) kInt) (kStr [97, 115, 107]))))) (ssOne (sRetOk (kIx c (v0 _) kInt))) ssNil) (ssOne (sRetOk kNon)))
theorem sc_p_sum_names : FnScope ["terms", "at", "found", "sign", "thing"] ["terms", "at"] (defScope (top 1)) := ⟨rfl, rfl, rfl, by decide +kernel, rfl, by decide +kernel, by decide +kernel⟩
theorem H_p_sum_names (T : Tx K mg) : FnB P w K mg base xc (OC K) 1 "sum_names" ["terms", "at"] p_sum_names := by
  obtain ⟨fd, F⟩ := T.d_sum_names
  refine fnF (k := 0) (N := ["terms", "at", "found", "sign", "thing"]) T.g_sum_names F (fun _ _ _ _ _ _ us hl => match us, hl with | [_, _], _ => rfl) sc_p_sum_names (by decide) fun cdv A outer s H E c => ?_
  have v0 := fun pos => kVar (z := zOf P w K mg base xc (OC K) ["terms", "at", "found", "sign", "thing"] "sum_names" (defScope (top 1)) (He.ga K "sum_names") cdv A outer s H E) 0 (x := "terms") rfl (.inl rfl) (by decide) (by decide) pos
  have v1 := fun pos => kVar (z := zOf P w K mg base xc (OC K) ["terms", "at", "found", "sign", "thing"] "sum_names" (defScope (top 1)) (He.ga K "sum_names") cdv A outer s H E) 1 (x := "at") rfl (.inl rfl) (by decide) (by decide) pos
  have v2 := fun pos => kVar (z := zOf P w K mg base xc (OC K) ["terms", "at", "found", "sign", "thing"] "sum_names" (defScope (top 1)) (He.ga K "sum_names") cdv A outer s H E) 2 (x := "found") rfl (.inl rfl) (by decide) (by decide) pos
  have w3 := fun pos => gNameOk c 3 (x := "sign") rfl (.inl rfl) (.inr rfl) pos
  have v4 := fun pos => kVar (z := zOf P w K mg base xc (OC K) ["terms", "at", "found", "sign", "thing"] "sum_names" (defScope (top 1)) (He.ga K "sum_names") cdv A outer s H E) 4 (x := "thing") rfl (.inl rfl) (by decide) (by decide) pos
  have w4 := fun pos => gNameOk c 4 (x := "thing") rfl (.inl rfl) (.inr rfl) pos
  exact (ssCons (sSetOk c 2 (kLstC aNil) rfl (.inl rfl) (.inr rfl)) (ssCons (sForOk c (iSeqOk (v0 _)) (gTupOk c (gsCons (w3 _) (gsCons (w4 _) gsNil))) (ssKill [3, 4] (ssCons (sIfOk (tVal (kIsI .str rfl rfl T.fr_isinstance rfl T.fr_str (v4 _))) (ssOne (sXOk (kAppend (v2 _) (kTup (aCons (v1 _) (aCons (v4 _) aNil)))))) ssNil) (ssOne (sSetOk c 1 (kAdd (v1 _) kInt) rfl (.inl rfl) (.inr rfl)))))) (ssOne (sRetOk (v2 _)))))
theorem sc_p_read_names : FnScope ["row", "found"] ["row"] (defScope (top 2)) := ⟨rfl, rfl, rfl, by decide +kernel, rfl, by decide +kernel, by decide +kernel⟩
theorem H_p_read_names (T : Tx K mg) : FnB P w K mg base xc (OC K) 2 "read_names" ["row"] p_read_names := by
  obtain ⟨fd, F⟩ := T.d_read_names
  refine fnF (k := 1) (N := ["row", "found"]) T.g_read_names F (fun _ _ _ _ _ _ us hl => match us, hl with | [_], _ => rfl) sc_p_read_names (by decide) fun cdv A outer s H E c => ?_
  have v0 := fun pos => kVar (z := zOf P w K mg base xc (OC K) ["row", "found"] "read_names" (defScope (top 2)) (He.ga K "read_names") cdv A outer s H E) 0 (x := "row") rfl (.inl rfl) (by decide) (by decide) pos
  have v1 := fun pos => kVar (z := zOf P w K mg base xc (OC K) ["row", "found"] "read_names" (defScope (top 2)) (He.ga K "read_names") cdv A outer s H E) 1 (x := "found") rfl (.inl rfl) (by decide) (by decide) pos
  have h_p_sum_names := H_p_sum_names (P := P) (w := w) (base := base) (xc := xc) T
  exact (ssCons (sIfOk (B.tEq c (kIx c (v0 _) kInt) (kStr [115, 101, 116])) (ssOne (sRetOk (kTuple rfl T.fr_tuple (kCall wP c h_p_sum_names (by decide) rfl (aCons (kIx c (v0 _) kInt) (aCons kInt aNil)))))) ssNil) (ssCons (sIfOk (B.tEq c (kIx c (v0 _) kInt) (kStr [110, 101, 101, 100])) (ssOne (sRetOk (kTuple rfl T.fr_tuple (kCall wP c h_p_sum_names (by decide) rfl (aCons (kIx c (v0 _) kInt) (aCons kInt aNil)))))) ssNil) (ssCons (sIfOk (B.tEq c (kIx c (v0 _) kInt) (kStr [115, 97, 121])) (ssCons (sSetOk c 1 (kCall wP c h_p_sum_names (by decide) rfl (aCons (kIx c (v0 _) kInt) (aCons kInt aNil))) rfl (.inl rfl) (.inr rfl)) (ssCons (sIfOk (B.tNotN (kIx c (v0 _) kInt)) (ssOne (sSetOk c 1 (kAdd (kLst (aCons (kTup (aCons (kAdd (kMul kInt (kLen rfl T.fr_len (kIx c (v0 _) kInt))) kInt) (aCons (kIx c (v0 _) kInt) aNil))) aNil)) (v1 _)) rfl (.inl rfl) (.inr rfl))) ssNil) (ssOne (sRetOk (kTuple rfl T.fr_tuple (v1 _)))))) ssNil) (ssCons (sIfOk (tW (wAnd (B.tEq c (kIx c (v0 _) kInt) (kStr [97, 115, 107])) (wAnd1 (B.tNotN (kIx c (v0 _) kInt))))) (ssOne (sRetOk (kTup (aCons (kTup (aCons kInt (aCons (kIx c (v0 _) kInt) aNil))) aNil)))) ssNil) (ssOne (sRetOk (kTup aNil)))))))
theorem sc_m_PartsWalk_found_by : FnScope ["self", "trail", "part", "spot", "row", "there", "when", "word", "name", "key"] ["self", "trail", "part", "spot", "row"] (defScope (mth 15 6)) := ⟨rfl, rfl, rfl, by decide +kernel, rfl, by decide +kernel, by decide +kernel⟩
theorem H_m_PartsWalk_found_by (T : Tx K mg) : FnM P w K mg base xc (OC K) 6 (He.fAd K ("PartsWalk", some "found_by")) ["self", "trail", "part", "spot", "row"] m_PartsWalk_found_by := by
  obtain ⟨fd, F⟩ := T.d_PartsWalk__found_by
  refine fnMF (k := 5) (N := ["self", "trail", "part", "spot", "row", "there", "when", "word", "name", "key"]) F (fun _ _ _ _ _ _ us hl => match us, hl with | [_, _, _, _, _], _ => rfl) sc_m_PartsWalk_found_by (by decide) fun cdv A outer s H E c => ?_
  have v0 := fun pos => kVar (z := zOf P w K mg base xc (OC K) ["self", "trail", "part", "spot", "row", "there", "when", "word", "name", "key"] "Walk.found_by" (defScope (mth 15 6)) (He.fAd K ("PartsWalk", some "found_by")) cdv A outer s H E) 0 (x := "self") rfl (.inl rfl) (by decide) (by decide) pos
  have v1 := fun pos => kVar (z := zOf P w K mg base xc (OC K) ["self", "trail", "part", "spot", "row", "there", "when", "word", "name", "key"] "Walk.found_by" (defScope (mth 15 6)) (He.fAd K ("PartsWalk", some "found_by")) cdv A outer s H E) 1 (x := "trail") rfl (.inl rfl) (by decide) (by decide) pos
  have v2 := fun pos => kVar (z := zOf P w K mg base xc (OC K) ["self", "trail", "part", "spot", "row", "there", "when", "word", "name", "key"] "Walk.found_by" (defScope (mth 15 6)) (He.fAd K ("PartsWalk", some "found_by")) cdv A outer s H E) 2 (x := "part") rfl (.inl rfl) (by decide) (by decide) pos
  have v3 := fun pos => kVar (z := zOf P w K mg base xc (OC K) ["self", "trail", "part", "spot", "row", "there", "when", "word", "name", "key"] "Walk.found_by" (defScope (mth 15 6)) (He.fAd K ("PartsWalk", some "found_by")) cdv A outer s H E) 3 (x := "spot") rfl (.inl rfl) (by decide) (by decide) pos
  have v4 := fun pos => kVar (z := zOf P w K mg base xc (OC K) ["self", "trail", "part", "spot", "row", "there", "when", "word", "name", "key"] "Walk.found_by" (defScope (mth 15 6)) (He.fAd K ("PartsWalk", some "found_by")) cdv A outer s H E) 4 (x := "row") rfl (.inl rfl) (by decide) (by decide) pos
  have v5 := fun pos => kVar (z := zOf P w K mg base xc (OC K) ["self", "trail", "part", "spot", "row", "there", "when", "word", "name", "key"] "Walk.found_by" (defScope (mth 15 6)) (He.fAd K ("PartsWalk", some "found_by")) cdv A outer s H E) 5 (x := "there") rfl (.inl rfl) (by decide) (by decide) pos
  have v6 := fun pos => kVar (z := zOf P w K mg base xc (OC K) ["self", "trail", "part", "spot", "row", "there", "when", "word", "name", "key"] "Walk.found_by" (defScope (mth 15 6)) (He.fAd K ("PartsWalk", some "found_by")) cdv A outer s H E) 6 (x := "when") rfl (.inl rfl) (by decide) (by decide) pos
  have v7 := fun pos => kVar (z := zOf P w K mg base xc (OC K) ["self", "trail", "part", "spot", "row", "there", "when", "word", "name", "key"] "Walk.found_by" (defScope (mth 15 6)) (He.fAd K ("PartsWalk", some "found_by")) cdv A outer s H E) 7 (x := "word") rfl (.inl rfl) (by decide) (by decide) pos
  have w7 := fun pos => gNameOk c 7 (x := "word") rfl (.inl rfl) (.inr rfl) pos
  have v8 := fun pos => kVar (z := zOf P w K mg base xc (OC K) ["self", "trail", "part", "spot", "row", "there", "when", "word", "name", "key"] "Walk.found_by" (defScope (mth 15 6)) (He.fAd K ("PartsWalk", some "found_by")) cdv A outer s H E) 8 (x := "name") rfl (.inl rfl) (by decide) (by decide) pos
  have w8 := fun pos => gNameOk c 8 (x := "name") rfl (.inl rfl) (.inr rfl) pos
  have v9 := fun pos => kVar (z := zOf P w K mg base xc (OC K) ["self", "trail", "part", "spot", "row", "there", "when", "word", "name", "key"] "Walk.found_by" (defScope (mth 15 6)) (He.fAd K ("PartsWalk", some "found_by")) cdv A outer s H E) 9 (x := "key") rfl (.inl rfl) (by decide) (by decide) pos
  have h_m_PartsWalk_key_of := H_m_PartsWalk_key_of (P := P) (w := w) (base := base) (xc := xc) T
  have h_p_read_names := H_p_read_names (P := P) (w := w) (base := base) (xc := xc) T
  have h_p_when_of := H_p_when_of (P := P) (w := w) (base := base) (xc := xc) T
  exact (ssCons (sSetOk c 5 kDctK rfl (.inl rfl) (.inr rfl)) (ssCons (sSetOk c 6 (kCall wP c h_p_when_of (by decide) rfl (aCons (v4 _) aNil)) rfl (.inl rfl) (.inr rfl)) (ssCons (sForOk c (iSeqOk (kCall wP c h_p_read_names (by decide) rfl (aCons (v4 _) aNil))) (gTupOk c (gsCons (w7 _) (gsCons (w8 _) gsNil))) (ssKill [7, 8, 9] (ssCons (sSetOk c 9 (kMeth c [107, 101, 121, 95, 111, 102] rfl T.cl_PartsWalk T.me_PartsWalk_key_of h_m_PartsWalk_key_of (by decide) (v0 _) (aCons (v2 _) (aCons (v8 _) aNil))) rfl (.inl rfl) (.inr rfl)) (ssCons (sIfOk (B.tNin c (v9 _) (kFld [107, 110, 111, 119, 110] rfl T.cl_Trail T.na_Trail_known (v1 _))) (ssCons (sFldOk [102, 97, 117, 108, 116] rfl T.cl_Trail T.na_Trail_fault (v1 _) (kTup (aCons (kStr [101, 97, 114, 108, 121]) (aCons (kIx c (v3 _) kInt) (aCons (kIx c (v3 _) kInt) (aCons (v7 _) aNil)))))) (ssOne (sRetOk kNon))) ssNil) (ssCons (sAsgOk (kIx c (kFld [107, 110, 111, 119, 110] rfl T.cl_Trail T.na_Trail_known (v1 _)) (v9 _)) (gSubOk c (v5 _) (v8 _))) (ssOne (sIfOk (tW (wAnd (B.tEq c (v8 _) (v6 _)) (wAnd1 (B.tLe (kIx c (v5 _) (v8 _)) kInt)))) (ssOne (sRetOk kNon)) ssNil))))))) (ssOne (sRetOk (v5 _))))))
theorem sc_p_value_of : FnScope ["terms", "there", "found", "sign", "thing"] ["terms", "there"] (defScope (top 13)) := ⟨rfl, rfl, rfl, by decide +kernel, rfl, by decide +kernel, by decide +kernel⟩
theorem H_p_value_of (T : Tx K mg) : FnB P w K mg base xc (OC K) 1 "value_of" ["terms", "there"] p_value_of := by
  obtain ⟨fd, F⟩ := T.d_value_of
  refine fnF (k := 0) (N := ["terms", "there", "found", "sign", "thing"]) T.g_value_of F (fun _ _ _ _ _ _ us hl => match us, hl with | [_, _], _ => rfl) sc_p_value_of (by decide) fun cdv A outer s H E c => ?_
  have v0 := fun pos => kVar (z := zOf P w K mg base xc (OC K) ["terms", "there", "found", "sign", "thing"] "value_of" (defScope (top 13)) (He.ga K "value_of") cdv A outer s H E) 0 (x := "terms") rfl (.inl rfl) (by decide) (by decide) pos
  have v1 := fun pos => kVar (z := zOf P w K mg base xc (OC K) ["terms", "there", "found", "sign", "thing"] "value_of" (defScope (top 13)) (He.ga K "value_of") cdv A outer s H E) 1 (x := "there") rfl (.inl rfl) (by decide) (by decide) pos
  have v2 := fun pos => kVar (z := zOf P w K mg base xc (OC K) ["terms", "there", "found", "sign", "thing"] "value_of" (defScope (top 13)) (He.ga K "value_of") cdv A outer s H E) 2 (x := "found") rfl (.inl rfl) (by decide) (by decide) pos
  have v3 := fun pos => kVar (z := zOf P w K mg base xc (OC K) ["terms", "there", "found", "sign", "thing"] "value_of" (defScope (top 13)) (He.ga K "value_of") cdv A outer s H E) 3 (x := "sign") rfl (.inl rfl) (by decide) (by decide) pos
  have w3 := fun pos => gNameOk c 3 (x := "sign") rfl (.inl rfl) (.inr rfl) pos
  have v4 := fun pos => kVar (z := zOf P w K mg base xc (OC K) ["terms", "there", "found", "sign", "thing"] "value_of" (defScope (top 13)) (He.ga K "value_of") cdv A outer s H E) 4 (x := "thing") rfl (.inl rfl) (by decide) (by decide) pos
  have w4 := fun pos => gNameOk c 4 (x := "thing") rfl (.inl rfl) (.inr rfl) pos
  exact (ssCons (sSetOk c 2 kInt rfl (.inl rfl) (.inr rfl)) (ssCons (sForOk c (iSeqOk (v0 _)) (gTupOk c (gsCons (w3 _) (gsCons (w4 _) gsNil))) (ssKill [3, 4] (ssOne (sIfOk (tVal (kIsI .str rfl rfl T.fr_isinstance rfl T.fr_str (v4 _))) (ssOne (sAddOk c 2 (kMul (v3 _) (kIx c (v1 _) (v4 _))) rfl (.inl rfl) (.inr rfl))) (ssOne (sAddOk c 2 (kMul (v3 _) (v4 _)) rfl (.inl rfl) (.inr rfl))))))) (ssOne (sRetOk (v2 _)))))
theorem sc_m_Trail_take : FnScope ["self"] ["self"] (defScope (mth 12 1)) := ⟨rfl, rfl, rfl, by decide +kernel, rfl, by decide +kernel, by decide +kernel⟩
theorem H_m_Trail_take (T : Tx K mg) : FnM P w K mg base xc (OC K) 1 (He.fAd K ("Trail", some "take")) ["self"] m_Trail_take := by
  obtain ⟨fd, F⟩ := T.d_Trail__take
  refine fnMF (k := 0) (N := ["self"]) F (fun _ _ _ _ _ _ us hl => match us, hl with | [_], _ => rfl) sc_m_Trail_take (by decide) fun cdv A outer s H E c => ?_
  have v0 := fun pos => kVar (z := zOf P w K mg base xc (OC K) ["self"] "Trail.take" (defScope (mth 12 1)) (He.fAd K ("Trail", some "take")) cdv A outer s H E) 0 (x := "self") rfl (.inl rfl) (by decide) (by decide) pos
  exact (ssCons (sIfOk (B.tGe (kFld [116, 97, 107, 101, 110] rfl T.cl_Trail T.na_Trail_taken (v0 _)) (kLen rfl T.fr_len (kFld [110, 117, 109, 98, 101, 114, 115] rfl T.cl_Trail T.na_Trail_numbers (v0 _)))) (ssOne (sRetOk kInt)) ssNil) (ssCons (sFldAOk [116, 97, 107, 101, 110] rfl T.cl_Trail T.na_Trail_taken (v0 _) kInt) (ssOne (sRetOk (kIx c (kFld [110, 117, 109, 98, 101, 114, 115] rfl T.cl_Trail T.na_Trail_numbers (v0 _)) (kSub (kFld [116, 97, 107, 101, 110] rfl T.cl_Trail T.na_Trail_taken (v0 _)) kInt))))))
theorem sc_m_PartsWalk_loads_of : FnScope ["self", "part"] ["self", "part"] (defScope (mth 15 2)) := ⟨rfl, rfl, rfl, by decide +kernel, rfl, by decide +kernel, by decide +kernel⟩
theorem H_m_PartsWalk_loads_of (T : Tx K mg) : FnM P w K mg base xc (OC K) 1 (He.fAd K ("PartsWalk", some "loads_of")) ["self", "part"] m_PartsWalk_loads_of := by
  obtain ⟨fd, F⟩ := T.d_PartsWalk__loads_of
  refine fnMF (k := 0) (N := ["self", "part"]) F (fun _ _ _ _ _ _ us hl => match us, hl with | [_, _], _ => rfl) sc_m_PartsWalk_loads_of (by decide) fun cdv A outer s H E c => ?_
  exact (ssOne (sRetOk (kTup aNil)))
theorem sc_m_PartsWalk_done : FnScope ["self", "trail", "part", "spot", "row", "there", "head", "value"] ["self", "trail", "part", "spot", "row", "there"] (defScope (mth 15 7)) := ⟨rfl, rfl, rfl, by decide +kernel, rfl, by decide +kernel, by decide +kernel⟩
theorem H_m_PartsWalk_done (T : Tx K mg) {hn : Fn} {k : Nat} (h_m_PartsWalk_begin : FnM P w K mg base xc (OC K) k (He.fAd K ("PartsWalk", some "begin")) ["self", "trail", "part"] hn) (hk : 7 ≤ k) : FnM P w K mg base xc (OC K) (k + 1) (He.fAd K ("PartsWalk", some "done")) ["self", "trail", "part", "spot", "row", "there"] (m_PartsWalk_done hn) := by
  obtain ⟨fd, F⟩ := T.d_PartsWalk__done
  refine fnMF (k := k) (N := ["self", "trail", "part", "spot", "row", "there", "head", "value"]) F (fun _ _ _ _ _ _ us hl => match us, hl with | [_, _, _, _, _, _], _ => rfl) sc_m_PartsWalk_done (by decide) fun cdv A outer s H E c => ?_
  have v0 := fun pos => kVar (z := zOf P w K mg base xc (OC K) ["self", "trail", "part", "spot", "row", "there", "head", "value"] "Walk.done" (defScope (mth 15 7)) (He.fAd K ("PartsWalk", some "done")) cdv A outer s H E) 0 (x := "self") rfl (.inl rfl) (by decide) (by decide) pos
  have v1 := fun pos => kVar (z := zOf P w K mg base xc (OC K) ["self", "trail", "part", "spot", "row", "there", "head", "value"] "Walk.done" (defScope (mth 15 7)) (He.fAd K ("PartsWalk", some "done")) cdv A outer s H E) 1 (x := "trail") rfl (.inl rfl) (by decide) (by decide) pos
  have v2 := fun pos => kVar (z := zOf P w K mg base xc (OC K) ["self", "trail", "part", "spot", "row", "there", "head", "value"] "Walk.done" (defScope (mth 15 7)) (He.fAd K ("PartsWalk", some "done")) cdv A outer s H E) 2 (x := "part") rfl (.inl rfl) (by decide) (by decide) pos
  have v3 := fun pos => kVar (z := zOf P w K mg base xc (OC K) ["self", "trail", "part", "spot", "row", "there", "head", "value"] "Walk.done" (defScope (mth 15 7)) (He.fAd K ("PartsWalk", some "done")) cdv A outer s H E) 3 (x := "spot") rfl (.inl rfl) (by decide) (by decide) pos
  have v4 := fun pos => kVar (z := zOf P w K mg base xc (OC K) ["self", "trail", "part", "spot", "row", "there", "head", "value"] "Walk.done" (defScope (mth 15 7)) (He.fAd K ("PartsWalk", some "done")) cdv A outer s H E) 4 (x := "row") rfl (.inl rfl) (by decide) (by decide) pos
  have v5 := fun pos => kVar (z := zOf P w K mg base xc (OC K) ["self", "trail", "part", "spot", "row", "there", "head", "value"] "Walk.done" (defScope (mth 15 7)) (He.fAd K ("PartsWalk", some "done")) cdv A outer s H E) 5 (x := "there") rfl (.inl rfl) (by decide) (by decide) pos
  have v6 := fun pos => kVar (z := zOf P w K mg base xc (OC K) ["self", "trail", "part", "spot", "row", "there", "head", "value"] "Walk.done" (defScope (mth 15 7)) (He.fAd K ("PartsWalk", some "done")) cdv A outer s H E) 6 (x := "head") rfl (.inl rfl) (by decide) (by decide) pos
  have v7 := fun pos => kVar (z := zOf P w K mg base xc (OC K) ["self", "trail", "part", "spot", "row", "there", "head", "value"] "Walk.done" (defScope (mth 15 7)) (He.fAd K ("PartsWalk", some "done")) cdv A outer s H E) 7 (x := "value") rfl (.inl rfl) (by decide) (by decide) pos
  have h_m_PartsWalk_key_of := H_m_PartsWalk_key_of (P := P) (w := w) (base := base) (xc := xc) T
  have h_m_PartsWalk_loads_of := H_m_PartsWalk_loads_of (P := P) (w := w) (base := base) (xc := xc) T
  have h_m_Trail_load := H_m_Trail_load (P := P) (w := w) (base := base) (xc := xc) T
  have h_m_Trail_take := H_m_Trail_take (P := P) (w := w) (base := base) (xc := xc) T
  have h_p_value_of := H_p_value_of (P := P) (w := w) (base := base) (xc := xc) T
  exact (ssCons (sSetOk c 6 (kIx c (v4 _) kInt) rfl (.inl rfl) (.inr rfl)) (ssOne (sIfOk (B.tEq c (v6 _) (kStr [115, 101, 116])) (ssOne (sAsgOk (kCall wP c h_p_value_of (by omega) rfl (aCons (kIx c (v4 _) kInt) (aCons (v5 _) aNil))) (gSubOk c (kFld [107, 110, 111, 119, 110] rfl T.cl_Trail T.na_Trail_known (v1 _)) (kMeth c [107, 101, 121, 95, 111, 102] rfl T.cl_PartsWalk T.me_PartsWalk_key_of h_m_PartsWalk_key_of (by omega) (v0 _) (aCons (v2 _) (aCons (kIx c (v4 _) kInt) aNil)))))) (ssOne (sIfOk (B.tEq c (v6 _) (kStr [116, 97, 107, 101])) (ssCons (sSetOk c 7 (kMeth0 c [116, 97, 107, 101] rfl T.cl_Trail T.me_Trail_take h_m_Trail_take (by omega) (v1 _)) rfl (.inl rfl) (.inr rfl)) (ssCons (sAsgOk (v7 _) (gSubOk c (kFld [107, 110, 111, 119, 110] rfl T.cl_Trail T.na_Trail_known (v1 _)) (kMeth c [107, 101, 121, 95, 111, 102] rfl T.cl_PartsWalk T.me_PartsWalk_key_of h_m_PartsWalk_key_of (by omega) (v0 _) (aCons (v2 _) (aCons (kIx c (v4 _) kInt) aNil))))) (ssOne (sXOk (kAppend (kFld [116, 114, 97, 99, 101] rfl T.cl_Trail T.na_Trail_trace (v1 _)) (kTup (aCons (kStr [116, 97, 107, 101]) (aCons (v7 _) (aCons (kIx c (v3 _) kInt) (aCons (kIx c (v3 _) kInt) aNil)))))))))) (ssOne (sIfOk (B.tEq c (v6 _) (kStr [115, 97, 121])) (ssOne (sXOk (kAppend (kFld [116, 114, 97, 99, 101] rfl T.cl_Trail T.na_Trail_trace (v1 _)) (kTup (aCons (kStr [115, 97, 121]) (aCons (kCall wP c h_p_value_of (by omega) rfl (aCons (kIx c (v4 _) kInt) (aCons (v5 _) aNil))) (aCons (kIx c (v3 _) kInt) (aCons (kIx c (v3 _) kInt) aNil)))))))) (ssOne (sIfOk (B.tEq c (v6 _) (kStr [110, 101, 101, 100])) (ssOne (sIfOk (B.tLe (kCall wP c h_p_value_of (by omega) rfl (aCons (kIx c (v4 _) kInt) (aCons (v5 _) aNil))) kInt) (ssOne (sFldOk [102, 97, 117, 108, 116] rfl T.cl_Trail T.na_Trail_fault (v1 _) (kTup (aCons (kStr [110, 101, 101, 100]) (aCons (kIx c (v3 _) kInt) (aCons (kIx c (v3 _) kInt) (aCons kInt aNil))))))) ssNil)) (ssOne (sIfOk (B.tEq c (v6 _) (kStr [97, 115, 107])) (ssCons (sIfOk (B.tNin c (kIx c (v4 _) kInt) (kFld [98, 101, 103, 117, 110] rfl T.cl_Trail T.na_Trail_begun (v1 _))) (ssOne (sXOk (kMeth c [108, 111, 97, 100] rfl T.cl_Trail T.me_Trail_load h_m_Trail_load (by omega) (v1 _) (aCons (kMeth c [108, 111, 97, 100, 115, 95, 111, 102] rfl T.cl_PartsWalk T.me_PartsWalk_loads_of h_m_PartsWalk_loads_of (by omega) (v0 _) (aCons (kIx c (v4 _) kInt) aNil)) aNil)))) ssNil) (ssOne (sXOk (kMeth c [98, 101, 103, 105, 110] rfl T.cl_PartsWalk T.me_PartsWalk_begin h_m_PartsWalk_begin (by omega) (v0 _) (aCons (v1 _) (aCons (kIx c (v4 _) kInt) aNil)))))) (ssOne (sIfOk (B.tIn c (v6 _) (kTup (aCons (kStr [98, 114, 105, 110, 103]) (aCons (kStr [100, 111]) aNil)))) (ssOne (sXOk (kMeth c [98, 101, 103, 105, 110] rfl T.cl_PartsWalk T.me_PartsWalk_begin h_m_PartsWalk_begin (by omega) (v0 _) (aCons (v1 _) (aCons (kIx c (v4 _) kInt) aNil))))) ssNil)))))))))))))
theorem sc_m_PartsWalk_begin : FnScope ["self", "trail", "part", "place", "number", "row", "there"] ["self", "trail", "part"] (defScope (mth 15 5)) := ⟨rfl, rfl, rfl, by decide +kernel, rfl, by decide +kernel, by decide +kernel⟩
theorem H_m_PartsWalk_begin (T : Tx K mg) : ∀ n, FnM P w K mg base xc (OC K) (7 + 2 * n) (He.fAd K ("PartsWalk", some "begin")) ["self", "trail", "part"] (m_PartsWalk_begin n) := by
  obtain ⟨fd, F⟩ := T.d_PartsWalk__begin
  intro n
  induction n with
  | zero => exact fnMF (k := 6) (b := sNever) (N := ["self", "trail", "part", "place", "number", "row", "there"]) F (fun _ _ _ _ _ _ us hl => match us, hl with | [_, _, _], _ => rfl) sc_m_PartsWalk_begin (by decide) fun cdv A outer s H E c => ssNever
  | succ n ih =>
    refine fnMF (k := 7 + 2 * n + 1) (N := ["self", "trail", "part", "place", "number", "row", "there"]) F (fun _ _ _ _ _ _ us hl => match us, hl with | [_, _, _], _ => rfl) sc_m_PartsWalk_begin (by decide) fun cdv A outer s H E c => ?_
    have h_m_PartsWalk_begin := ih
    have h_m_PartsWalk_done := H_m_PartsWalk_done (P := P) (w := w) (base := base) (xc := xc) T ih (by omega)
    have v0 := fun pos => kVar (z := zOf P w K mg base xc (OC K) ["self", "trail", "part", "place", "number", "row", "there"] "Walk.begin" (defScope (mth 15 5)) (He.fAd K ("PartsWalk", some "begin")) cdv A outer s H E) 0 (x := "self") rfl (.inl rfl) (by decide) (by decide) pos
    have v1 := fun pos => kVar (z := zOf P w K mg base xc (OC K) ["self", "trail", "part", "place", "number", "row", "there"] "Walk.begin" (defScope (mth 15 5)) (He.fAd K ("PartsWalk", some "begin")) cdv A outer s H E) 1 (x := "trail") rfl (.inl rfl) (by decide) (by decide) pos
    have v2 := fun pos => kVar (z := zOf P w K mg base xc (OC K) ["self", "trail", "part", "place", "number", "row", "there"] "Walk.begin" (defScope (mth 15 5)) (He.fAd K ("PartsWalk", some "begin")) cdv A outer s H E) 2 (x := "part") rfl (.inl rfl) (by decide) (by decide) pos
    have v3 := fun pos => kVar (z := zOf P w K mg base xc (OC K) ["self", "trail", "part", "place", "number", "row", "there"] "Walk.begin" (defScope (mth 15 5)) (He.fAd K ("PartsWalk", some "begin")) cdv A outer s H E) 3 (x := "place") rfl (.inl rfl) (by decide) (by decide) pos
    have w3 := fun pos => gNameOk c 3 (x := "place") rfl (.inl rfl) (.inr rfl) pos
    have v4 := fun pos => kVar (z := zOf P w K mg base xc (OC K) ["self", "trail", "part", "place", "number", "row", "there"] "Walk.begin" (defScope (mth 15 5)) (He.fAd K ("PartsWalk", some "begin")) cdv A outer s H E) 4 (x := "number") rfl (.inl rfl) (by decide) (by decide) pos
    have w4 := fun pos => gNameOk c 4 (x := "number") rfl (.inl rfl) (.inr rfl) pos
    have v5 := fun pos => kVar (z := zOf P w K mg base xc (OC K) ["self", "trail", "part", "place", "number", "row", "there"] "Walk.begin" (defScope (mth 15 5)) (He.fAd K ("PartsWalk", some "begin")) cdv A outer s H E) 5 (x := "row") rfl (.inl rfl) (by decide) (by decide) pos
    have w5 := fun pos => gNameOk c 5 (x := "row") rfl (.inl rfl) (.inr rfl) pos
    have v6 := fun pos => kVar (z := zOf P w K mg base xc (OC K) ["self", "trail", "part", "place", "number", "row", "there"] "Walk.begin" (defScope (mth 15 5)) (He.fAd K ("PartsWalk", some "begin")) cdv A outer s H E) 6 (x := "there") rfl (.inl rfl) (by decide) (by decide) pos
    have h_m_PartsWalk_found_by := H_m_PartsWalk_found_by (P := P) (w := w) (base := base) (xc := xc) T
    have h_m_PartsWalk_rows_of := H_m_PartsWalk_rows_of (P := P) (w := w) (base := base) (xc := xc) T
    exact (ssCons (sIfOk (B.tIn c (v2 _) (kFld [98, 101, 103, 117, 110] rfl T.cl_Trail T.na_Trail_begun (v1 _))) (ssOne sRetNOk) ssNil) (ssCons (sAsgOk kBl (gSubOk c (kFld [98, 101, 103, 117, 110] rfl T.cl_Trail T.na_Trail_begun (v1 _)) (v2 _))) (ssOne (sForOk c (iSeqOk (kMeth c [114, 111, 119, 115, 95, 111, 102] rfl T.cl_PartsWalk T.me_PartsWalk_rows_of h_m_PartsWalk_rows_of (by omega) (v0 _) (aCons (v2 _) aNil))) (gTupOk c (gsCons (w3 _) (gsCons (w4 _) (gsCons (w5 _) gsNil)))) (ssKill [3, 4, 5, 6] (ssCons (sSetOk c 6 (kMeth c [102, 111, 117, 110, 100, 95, 98, 121] rfl T.cl_PartsWalk T.me_PartsWalk_found_by h_m_PartsWalk_found_by (by omega) (v0 _) (aCons (v1 _) (aCons (v2 _) (aCons (kTup (aCons (v3 _) (aCons (v4 _) aNil))) (aCons (v5 _) aNil))))) rfl (.inl rfl) (.inr rfl)) (ssCons (sIfOk (B.tNotN (v6 _)) (ssOne (sXOk (kMeth c [100, 111, 110, 101] rfl T.cl_PartsWalk T.me_PartsWalk_done h_m_PartsWalk_done (by omega) (v0 _) (aCons (v1 _) (aCons (v2 _) (aCons (kTup (aCons (v3 _) (aCons (v4 _) aNil))) (aCons (v5 _) (aCons (v6 _) aNil)))))))) ssNil) (ssOne (sIfOk (B.tNotN (kFld [102, 97, 117, 108, 116] rfl T.cl_Trail T.na_Trail_fault (v1 _))) (ssOne sRetNOk) ssNil)))))))))
theorem sc_m_PartsWalk_ahead_of : FnScope ["self", "root"] ["self", "root"] (defScope (mth 15 3)) := ⟨rfl, rfl, rfl, by decide +kernel, rfl, by decide +kernel, by decide +kernel⟩
theorem H_m_PartsWalk_ahead_of (T : Tx K mg) : FnM P w K mg base xc (OC K) 1 (He.fAd K ("PartsWalk", some "ahead_of")) ["self", "root"] m_PartsWalk_ahead_of := by
  obtain ⟨fd, F⟩ := T.d_PartsWalk__ahead_of
  refine fnMF (k := 0) (N := ["self", "root"]) F (fun _ _ _ _ _ _ us hl => match us, hl with | [_, _], _ => rfl) sc_m_PartsWalk_ahead_of (by decide) fun cdv A outer s H E c => ?_
  exact (ssOne (sRetOk (kTup aNil)))
theorem sc_m_PartsWalk_go : FnScope ["self", "root", "numbers", "trail"] ["self", "root", "numbers"] (defScope (mth 15 4)) := ⟨rfl, rfl, rfl, by decide +kernel, rfl, by decide +kernel, by decide +kernel⟩
theorem H_m_PartsWalk_go (T : Tx K mg) : FnM P w K mg base xc (OC K) 68 (He.fAd K ("PartsWalk", some "go")) ["self", "root", "numbers"] m_PartsWalk_go := by
  obtain ⟨fd, F⟩ := T.d_PartsWalk__go
  refine fnMF (k := 67) (N := ["self", "root", "numbers", "trail"]) F (fun _ _ _ _ _ _ us hl => match us, hl with | [_, _, _], _ => rfl) sc_m_PartsWalk_go (by decide) fun cdv A outer s H E c => ?_
  have v0 := fun pos => kVar (z := zOf P w K mg base xc (OC K) ["self", "root", "numbers", "trail"] "Walk.go" (defScope (mth 15 4)) (He.fAd K ("PartsWalk", some "go")) cdv A outer s H E) 0 (x := "self") rfl (.inl rfl) (by decide) (by decide) pos
  have v1 := fun pos => kVar (z := zOf P w K mg base xc (OC K) ["self", "root", "numbers", "trail"] "Walk.go" (defScope (mth 15 4)) (He.fAd K ("PartsWalk", some "go")) cdv A outer s H E) 1 (x := "root") rfl (.inl rfl) (by decide) (by decide) pos
  have v2 := fun pos => kVar (z := zOf P w K mg base xc (OC K) ["self", "root", "numbers", "trail"] "Walk.go" (defScope (mth 15 4)) (He.fAd K ("PartsWalk", some "go")) cdv A outer s H E) 2 (x := "numbers") rfl (.inl rfl) (by decide) (by decide) pos
  have v3 := fun pos => kVar (z := zOf P w K mg base xc (OC K) ["self", "root", "numbers", "trail"] "Walk.go" (defScope (mth 15 4)) (He.fAd K ("PartsWalk", some "go")) cdv A outer s H E) 3 (x := "trail") rfl (.inl rfl) (by decide) (by decide) pos
  have h_m_PartsWalk_ahead_of := H_m_PartsWalk_ahead_of (P := P) (w := w) (base := base) (xc := xc) T
  have h_m_PartsWalk_begin := H_m_PartsWalk_begin (P := P) (w := w) (base := base) (xc := xc) T 30
  have h_m_PartsWalk_loads_of := H_m_PartsWalk_loads_of (P := P) (w := w) (base := base) (xc := xc) T
  have h_m_Trail___init__K := H_m_Trail___init__K (P := P) (w := w) (base := base) (xc := xc) T
  have h_m_Trail_load := H_m_Trail_load (P := P) (w := w) (base := base) (xc := xc) T
  exact (ssCons (sSetOk c 3 (kMake c T.mk_Trail h_m_Trail___init__K (by decide) rfl T.g_Trail (aCons (v2 _) aNil)) rfl (.inl rfl) (.inr rfl)) (ssCons (sXOk (kMeth c [108, 111, 97, 100] rfl T.cl_Trail T.me_Trail_load h_m_Trail_load (by decide) (v3 _) (aCons (kMeth c [108, 111, 97, 100, 115, 95, 111, 102] rfl T.cl_PartsWalk T.me_PartsWalk_loads_of h_m_PartsWalk_loads_of (by decide) (v0 _) (aCons (v1 _) aNil)) aNil))) (ssCons (sXOk (kMeth c [108, 111, 97, 100] rfl T.cl_Trail T.me_Trail_load h_m_Trail_load (by decide) (v3 _) (aCons (kMeth c [97, 104, 101, 97, 100, 95, 111, 102] rfl T.cl_PartsWalk T.me_PartsWalk_ahead_of h_m_PartsWalk_ahead_of (by decide) (v0 _) (aCons (v1 _) aNil)) aNil))) (ssCons (sXOk (kMeth c [98, 101, 103, 105, 110] rfl T.cl_PartsWalk T.me_PartsWalk_begin h_m_PartsWalk_begin (by decide) (v0 _) (aCons (v3 _) (aCons (v1 _) aNil)))) (ssOne (sRetOk (kTup (aCons (kTuple rfl T.fr_tuple (kFld [116, 114, 97, 99, 101] rfl T.cl_Trail T.na_Trail_trace (v3 _))) (aCons (kFld [102, 97, 117, 108, 116] rfl T.cl_Trail T.na_Trail_fault (v3 _)) aNil)))))))))
theorem sc_p_run : FnScope ["parts", "root", "numbers"] ["parts", "root", "numbers"] (defScope (top 17)) := ⟨rfl, rfl, rfl, by decide +kernel, rfl, by decide +kernel, by decide +kernel⟩
theorem H_p_run (T : Tx K mg) : FnB P w K mg base xc (OC K) 69 "run" ["parts", "root", "numbers"] p_run := by
  obtain ⟨fd, F⟩ := T.d_run
  refine fnF (k := 68) (N := ["parts", "root", "numbers"]) T.g_run F (fun _ _ _ _ _ _ us hl => match us, hl with | [_, _, _], _ => rfl) sc_p_run (by decide) fun cdv A outer s H E c => ?_
  have v0 := fun pos => kVar (z := zOf P w K mg base xc (OC K) ["parts", "root", "numbers"] "run" (defScope (top 17)) (He.ga K "run") cdv A outer s H E) 0 (x := "parts") rfl (.inl rfl) (by decide) (by decide) pos
  have v1 := fun pos => kVar (z := zOf P w K mg base xc (OC K) ["parts", "root", "numbers"] "run" (defScope (top 17)) (He.ga K "run") cdv A outer s H E) 1 (x := "root") rfl (.inl rfl) (by decide) (by decide) pos
  have v2 := fun pos => kVar (z := zOf P w K mg base xc (OC K) ["parts", "root", "numbers"] "run" (defScope (top 17)) (He.ga K "run") cdv A outer s H E) 2 (x := "numbers") rfl (.inl rfl) (by decide) (by decide) pos
  have h_m_PartsWalk___init__K := H_m_PartsWalk___init__K (P := P) (w := w) (base := base) (xc := xc) T
  have h_m_PartsWalk_go := H_m_PartsWalk_go (P := P) (w := w) (base := base) (xc := xc) T
  exact (ssOne (sRetOk (kMeth c [103, 111] rfl T.cl_PartsWalk T.me_PartsWalk_go h_m_PartsWalk_go (by decide) (kMake c T.mk_PartsWalk h_m_PartsWalk___init__K (by decide) rfl T.g_PartsWalk (aCons (v0 _) aNil)) (aCons (v1 _) (aCons (v2 _) aNil)))))
theorem sc_l_own : FnScope ["_law_script", "_law_k"] ["_law_script", "_law_k"] (defScope (top 23)) := ⟨rfl, rfl, rfl, by decide +kernel, rfl, by decide +kernel, by decide +kernel⟩
theorem H_l_own (T : Tx K mg) : FnB P w K mg base xc (OC K) 3 "_law_own" ["_law_script", "_law_k"] l_own := by
  obtain ⟨fd, F⟩ := T.d__law_own
  refine fnF (k := 2) (N := ["_law_script", "_law_k"]) T.g__law_own F (fun _ _ _ _ _ _ us hl => match us, hl with | [_, _], _ => rfl) sc_l_own (by decide) fun cdv A outer s H E c => ?_
  have v0 := fun pos => kVar (z := zOf P w K mg base xc (OC K) ["_law_script", "_law_k"] "_law_own" (defScope (top 23)) (He.ga K "_law_own") cdv A outer s H E) 0 (x := "_law_script") rfl (.inl rfl) (by decide) (by decide) pos
  have v1 := fun pos => kVar (z := zOf P w K mg base xc (OC K) ["_law_script", "_law_k"] "_law_own" (defScope (top 23)) (He.ga K "_law_own") cdv A outer s H E) 1 (x := "_law_k") rfl (.inl rfl) (by decide) (by decide) pos
  have h_l_cell_at := H_l_cell_at (P := P) (w := w) (base := base) (xc := xc) T
  have h_l_cell_of := H_l_cell_of (P := P) (w := w) (base := base) (xc := xc) T
  have h_l_name := H_l_name (P := P) (w := w) (base := base) (xc := xc) T
  exact (ssOne (sRetOk (kCall wP c h_l_name (by decide) rfl (aCons (kCall wP c h_l_cell_at (by decide) rfl (aCons (v0 _) (aCons kInt aNil))) (aCons (kMod (kCall wP c h_l_cell_of (by decide) rfl (aCons (v0 _) (aCons (v1 _) aNil))) (kIx c (kLst (aCons kInt (aCons kInt aNil))) (kMod (kCall wP c h_l_cell_at (by decide) rfl (aCons (v0 _) (aCons kInt aNil))) kInt))) aNil)))))
theorem sc_l_given : FnScope ["_law_script", "_law_k"] ["_law_script", "_law_k"] (defScope (top 24)) := ⟨rfl, rfl, rfl, by decide +kernel, rfl, by decide +kernel, by decide +kernel⟩
theorem H_l_given (T : Tx K mg) : FnB P w K mg base xc (OC K) 3 "_law_given" ["_law_script", "_law_k"] l_given := by
  obtain ⟨fd, F⟩ := T.d__law_given
  refine fnF (k := 2) (N := ["_law_script", "_law_k"]) T.g__law_given F (fun _ _ _ _ _ _ us hl => match us, hl with | [_, _], _ => rfl) sc_l_given (by decide) fun cdv A outer s H E c => ?_
  have v0 := fun pos => kVar (z := zOf P w K mg base xc (OC K) ["_law_script", "_law_k"] "_law_given" (defScope (top 24)) (He.ga K "_law_given") cdv A outer s H E) 0 (x := "_law_script") rfl (.inl rfl) (by decide) (by decide) pos
  have v1 := fun pos => kVar (z := zOf P w K mg base xc (OC K) ["_law_script", "_law_k"] "_law_given" (defScope (top 24)) (He.ga K "_law_given") cdv A outer s H E) 1 (x := "_law_k") rfl (.inl rfl) (by decide) (by decide) pos
  have h_l_cell_at := H_l_cell_at (P := P) (w := w) (base := base) (xc := xc) T
  have h_l_cell_of := H_l_cell_of (P := P) (w := w) (base := base) (xc := xc) T
  have h_l_name := H_l_name (P := P) (w := w) (base := base) (xc := xc) T
  exact (ssOne (sRetOk (kCall wP c h_l_name (by decide) rfl (aCons (kCall wP c h_l_cell_at (by decide) rfl (aCons (v0 _) (aCons kInt aNil))) (aCons (kMod (kDiv (kCall wP c h_l_cell_of (by decide) rfl (aCons (v0 _) (aCons (v1 _) aNil))) kInt) (kIx c (kLst (aCons kInt (aCons kInt aNil))) (kMod (kCall wP c h_l_cell_at (by decide) rfl (aCons (v0 _) (aCons kInt aNil))) kInt))) aNil)))))
theorem sc_l_rows : FnScope ["_law_script", "_law_k", "_law_many", "_law_own_here", "_law_number_here", "_law_say", "_law_give", "_law_made"] ["_law_script", "_law_k", "_law_many"] (defScope (top 26)) := ⟨rfl, rfl, rfl, by decide +kernel, rfl, by decide +kernel, by decide +kernel⟩
theorem H_l_rows (T : Tx K mg) : FnB P w K mg base xc (OC K) 4 "_law_rows" ["_law_script", "_law_k", "_law_many"] l_rows := by
  obtain ⟨fd, F⟩ := T.d__law_rows
  refine fnF (k := 3) (N := ["_law_script", "_law_k", "_law_many", "_law_own_here", "_law_number_here", "_law_say", "_law_give", "_law_made"]) T.g__law_rows F (fun _ _ _ _ _ _ us hl => match us, hl with | [_, _, _], _ => rfl) sc_l_rows (by decide) fun cdv A outer s H E c => ?_
  have v0 := fun pos => kVar (z := zOf P w K mg base xc (OC K) ["_law_script", "_law_k", "_law_many", "_law_own_here", "_law_number_here", "_law_say", "_law_give", "_law_made"] "_law_rows" (defScope (top 26)) (He.ga K "_law_rows") cdv A outer s H E) 0 (x := "_law_script") rfl (.inl rfl) (by decide) (by decide) pos
  have v1 := fun pos => kVar (z := zOf P w K mg base xc (OC K) ["_law_script", "_law_k", "_law_many", "_law_own_here", "_law_number_here", "_law_say", "_law_give", "_law_made"] "_law_rows" (defScope (top 26)) (He.ga K "_law_rows") cdv A outer s H E) 1 (x := "_law_k") rfl (.inl rfl) (by decide) (by decide) pos
  have v2 := fun pos => kVar (z := zOf P w K mg base xc (OC K) ["_law_script", "_law_k", "_law_many", "_law_own_here", "_law_number_here", "_law_say", "_law_give", "_law_made"] "_law_rows" (defScope (top 26)) (He.ga K "_law_rows") cdv A outer s H E) 2 (x := "_law_many") rfl (.inl rfl) (by decide) (by decide) pos
  have v3 := fun pos => kVar (z := zOf P w K mg base xc (OC K) ["_law_script", "_law_k", "_law_many", "_law_own_here", "_law_number_here", "_law_say", "_law_give", "_law_made"] "_law_rows" (defScope (top 26)) (He.ga K "_law_rows") cdv A outer s H E) 3 (x := "_law_own_here") rfl (.inl rfl) (by decide) (by decide) pos
  have v4 := fun pos => kVar (z := zOf P w K mg base xc (OC K) ["_law_script", "_law_k", "_law_many", "_law_own_here", "_law_number_here", "_law_say", "_law_give", "_law_made"] "_law_rows" (defScope (top 26)) (He.ga K "_law_rows") cdv A outer s H E) 4 (x := "_law_number_here") rfl (.inl rfl) (by decide) (by decide) pos
  have v5 := fun pos => kVar (z := zOf P w K mg base xc (OC K) ["_law_script", "_law_k", "_law_many", "_law_own_here", "_law_number_here", "_law_say", "_law_give", "_law_made"] "_law_rows" (defScope (top 26)) (He.ga K "_law_rows") cdv A outer s H E) 5 (x := "_law_say") rfl (.inl rfl) (by decide) (by decide) pos
  have v6 := fun pos => kVar (z := zOf P w K mg base xc (OC K) ["_law_script", "_law_k", "_law_many", "_law_own_here", "_law_number_here", "_law_say", "_law_give", "_law_made"] "_law_rows" (defScope (top 26)) (He.ga K "_law_rows") cdv A outer s H E) 6 (x := "_law_give") rfl (.inl rfl) (by decide) (by decide) pos
  have v7 := fun pos => kVar (z := zOf P w K mg base xc (OC K) ["_law_script", "_law_k", "_law_many", "_law_own_here", "_law_number_here", "_law_say", "_law_give", "_law_made"] "_law_rows" (defScope (top 26)) (He.ga K "_law_rows") cdv A outer s H E) 7 (x := "_law_made") rfl (.inl rfl) (by decide) (by decide) pos
  have h_l_cell_at := H_l_cell_at (P := P) (w := w) (base := base) (xc := xc) T
  have h_l_given := H_l_given (P := P) (w := w) (base := base) (xc := xc) T
  have h_l_name := H_l_name (P := P) (w := w) (base := base) (xc := xc) T
  have h_l_number := H_l_number (P := P) (w := w) (base := base) (xc := xc) T
  have h_l_own := H_l_own (P := P) (w := w) (base := base) (xc := xc) T
  exact (ssCons (sSetOk c 3 (kCall wP c h_l_own (by decide) rfl (aCons (v0 _) (aCons (v1 _) aNil))) rfl (.inl rfl) (.inr rfl)) (ssCons (sSetOk c 4 (kCall wP c h_l_number (by decide) rfl (aCons (v0 _) (aCons (v1 _) aNil))) rfl (.inl rfl) (.inr rfl)) (ssCons (sSetOk c 5 (kTup (aCons (kStr [115, 97, 121]) (aCons (kTup (aCons (kTup (aCons kInt (aCons (v3 _) aNil))) (aCons (kTup (aCons kInt (aCons (v4 _) aNil))) (aCons (kTup (aCons (kNeg kInt) (aCons (v4 _) aNil))) aNil)))) (aCons kNon aNil)))) rfl (.inl rfl) (.inr rfl)) (ssCons (sSetOk c 6 (kTup (aCons (kStr [103, 105, 118, 101]) (aCons (v3 _) (aCons (kCall wP c h_l_given (by decide) rfl (aCons (v0 _) (aCons (v1 _) aNil))) aNil)))) rfl (.inl rfl) (.inr rfl)) (ssCons (sIfOk (B.tLt (v1 _) (kSub (v2 _) kInt)) (ssOne (sRetOk (kTup (aCons (kTup (aCons (kStr [98, 114, 105, 110, 103]) (aCons (kCall wP c h_l_name (by decide) rfl (aCons (kCall wP c h_l_cell_at (by decide) rfl (aCons (v0 _) (aCons kInt aNil))) (aCons (kAdd (v1 _) kInt) aNil))) (aCons (kTup (aCons (kTup (aCons (kCall wP c h_l_given (by decide) rfl (aCons (v0 _) (aCons (kAdd (v1 _) kInt) aNil))) (aCons (v3 _) aNil))) aNil)) aNil)))) (aCons (v5 _) (aCons (v6 _) aNil)))))) ssNil) (ssCons (sSetOk c 7 (kTup (aCons (kStr [115, 101, 116]) (aCons (v3 _) (aCons (kTup (aCons (kTup (aCons kInt (aCons (v4 _) aNil))) aNil)) aNil)))) rfl (.inl rfl) (.inr rfl)) (ssCons (sIfOk (B.tEq c (kMod (kCall wP c h_l_cell_at (by decide) rfl (aCons (v0 _) (aCons kInt aNil))) kInt) kInt) (ssOne (sSetOk c 7 (kTup (aCons (kStr [116, 97, 107, 101]) (aCons (v3 _) aNil))) rfl (.inl rfl) (.inr rfl))) ssNil) (ssCons (sIfOk (B.tEq c (kMod (kDiv (kCall wP c h_l_cell_at (by decide) rfl (aCons (v0 _) (aCons kInt aNil))) kInt) kInt) kInt) (ssOne (sRetOk (kTup (aCons (kTup (aCons (kStr [98, 114, 105, 110, 103]) (aCons (kCall wP c h_l_name (by decide) rfl (aCons (kCall wP c h_l_cell_at (by decide) rfl (aCons (v0 _) (aCons kInt aNil))) (aCons kInt aNil))) (aCons (kTup aNil) aNil)))) (aCons (v6 _) (aCons (v7 _) (aCons (v5 _) aNil))))))) ssNil) (ssOne (sRetOk (kTup (aCons (v6 _) (aCons (kTup (aCons (kStr [115, 97, 121]) (aCons (kTup (aCons (kTup (aCons kInt (aCons kInt aNil))) aNil)) (aCons kNon aNil)))) (aCons (v7 _) (aCons (v5 _) aNil)))))))))))))))
theorem sc_l_whole : FnScope ["_law_found"] ["_law_found"] (defScope (top 20)) := ⟨rfl, rfl, rfl, by decide +kernel, rfl, by decide +kernel, by decide +kernel⟩
theorem H_l_whole (T : Tx K mg) : FnB P w K mg base xc (OC K) 1 "_law_whole" ["_law_found"] l_whole := by
  obtain ⟨fd, F⟩ := T.d__law_whole
  refine fnF (k := 0) (N := ["_law_found"]) T.g__law_whole F (fun _ _ _ _ _ _ us hl => match us, hl with | [_], _ => rfl) sc_l_whole (by decide) fun cdv A outer s H E c => ?_
  have v0 := fun pos => kVar (z := zOf P w K mg base xc (OC K) ["_law_found"] "_law_whole" (defScope (top 20)) (He.ga K "_law_whole") cdv A outer s H E) 0 (x := "_law_found") rfl (.inl rfl) (by decide) (by decide) pos
  exact (ssOne (sRetOk (kAnd (kIsI .int rfl rfl T.fr_isinstance rfl T.fr_int (v0 _)) (kOne (kNot (kIsI .bool rfl rfl T.fr_isinstance rfl T.fr_bool (v0 _)))))))
theorem sc_l_kinds : FnScope ["_law_found", "_law_deed"] ["_law_found"] (defScope (top 28)) := ⟨rfl, rfl, rfl, by decide +kernel, rfl, by decide +kernel, by decide +kernel⟩
theorem H_l_kinds (T : Tx K mg) : FnB P w K mg base xc (OC K) 2 "_law_kinds" ["_law_found"] l_kinds := by
  obtain ⟨fd, F⟩ := T.d__law_kinds
  refine fnF (k := 1) (N := ["_law_found", "_law_deed"]) T.g__law_kinds F (fun _ _ _ _ _ _ us hl => match us, hl with | [_], _ => rfl) sc_l_kinds (by decide) fun cdv A outer s H E c => ?_
  have v0 := fun pos => kVar (z := zOf P w K mg base xc (OC K) ["_law_found", "_law_deed"] "_law_kinds" (defScope (top 28)) (He.ga K "_law_kinds") cdv A outer s H E) 0 (x := "_law_found") rfl (.inl rfl) (by decide) (by decide) pos
  have v1 := fun pos => kVar (z := zOf P w K mg base xc (OC K) ["_law_found", "_law_deed"] "_law_kinds" (defScope (top 28)) (He.ga K "_law_kinds") cdv A outer s H E) 1 (x := "_law_deed") rfl (.inl rfl) (by decide) (by decide) pos
  have w1 := fun pos => gNameOk c 1 (x := "_law_deed") rfl (.inl rfl) (.inr rfl) pos
  have h_l_whole := H_l_whole (P := P) (w := w) (base := base) (xc := xc) T
  exact (ssCons (sIfOk (tW (wOr (tNotT (tVal (kIsI .tuple rfl rfl T.fr_isinstance rfl T.fr_tuple (v0 _)))) (wOr (B.tNe c (kLen rfl T.fr_len (v0 _)) kInt) (wOr1 (tNotT (tVal (kIsI .tuple rfl rfl T.fr_isinstance rfl T.fr_tuple (kIx c (v0 _) kInt)))))))) (ssOne (sRetOk kBl)) ssNil) (ssCons (sForOk c (iSeqOk (kIx c (v0 _) kInt)) (w1 _) (ssKill [1] (ssOne (sIfOk (tW (wOr (tNotT (tVal (kIsI .tuple rfl rfl T.fr_isinstance rfl T.fr_tuple (v1 _)))) (wOr (B.tNe c (kLen rfl T.fr_len (v1 _)) kInt) (wOr (tNotT (tVal (kCall wP c h_l_whole (by decide) rfl (aCons (kIx c (v1 _) kInt) aNil)))) (wOr1 (tNotT (tVal (kCall wP c h_l_whole (by decide) rfl (aCons (kIx c (v1 _) kInt) aNil))))))))) (ssOne (sRetOk kBl)) ssNil)))) (ssCons (sIfOk (B.tIsN (kIx c (v0 _) kInt)) (ssOne (sRetOk kBl)) ssNil) (ssOne (sRetOk (kAnd (kIsI .tuple rfl rfl T.fr_isinstance rfl T.fr_tuple (kIx c (v0 _) kInt)) (kAnd (kEq c (kLen rfl T.fr_len (kIx c (v0 _) kInt)) kInt) (kAnd (kCall wP c h_l_whole (by decide) rfl (aCons (kIx c (kIx c (v0 _) kInt) kInt) aNil)) (kOne (kCall wP c h_l_whole (by decide) rfl (aCons (kIx c (kIx c (v0 _) kInt) kInt) aNil)))))))))))
theorem sc_l_due : FnScope ["_law_script", "_law_root", "_law_many", "_law_value", "_law_names", "_law_due_here", "_law_k"] ["_law_script", "_law_root", "_law_many", "_law_value"] (defScope (top 27)) := ⟨rfl, rfl, rfl, by decide +kernel, rfl, by decide +kernel, by decide +kernel⟩
theorem H_l_due (T : Tx K mg) : FnB P w K mg base xc (OC K) 2 "_law_due" ["_law_script", "_law_root", "_law_many", "_law_value"] l_due := by
  obtain ⟨fd, F⟩ := T.d__law_due
  refine fnF (k := 1) (N := ["_law_script", "_law_root", "_law_many", "_law_value", "_law_names", "_law_due_here", "_law_k"]) T.g__law_due F (fun _ _ _ _ _ _ us hl => match us, hl with | [_, _, _, _], _ => rfl) sc_l_due (by decide) fun cdv A outer s H E c => ?_
  have v0 := fun pos => kVar (z := zOf P w K mg base xc (OC K) ["_law_script", "_law_root", "_law_many", "_law_value", "_law_names", "_law_due_here", "_law_k"] "_law_due" (defScope (top 27)) (He.ga K "_law_due") cdv A outer s H E) 0 (x := "_law_script") rfl (.inr (.inl rfl)) (by decide) (by decide) pos
  have v1 := fun pos => kVar (z := zOf P w K mg base xc (OC K) ["_law_script", "_law_root", "_law_many", "_law_value", "_law_names", "_law_due_here", "_law_k"] "_law_due" (defScope (top 27)) (He.ga K "_law_due") cdv A outer s H E) 1 (x := "_law_root") rfl (.inl rfl) (by decide) (by decide) pos
  have v2 := fun pos => kVar (z := zOf P w K mg base xc (OC K) ["_law_script", "_law_root", "_law_many", "_law_value", "_law_names", "_law_due_here", "_law_k"] "_law_due" (defScope (top 27)) (He.ga K "_law_due") cdv A outer s H E) 2 (x := "_law_many") rfl (.inl rfl) (by decide) (by decide) pos
  have v3 := fun pos => kVar (z := zOf P w K mg base xc (OC K) ["_law_script", "_law_root", "_law_many", "_law_value", "_law_names", "_law_due_here", "_law_k"] "_law_due" (defScope (top 27)) (He.ga K "_law_due") cdv A outer s H E) 3 (x := "_law_value") rfl (.inl rfl) (by decide) (by decide) pos
  have v4 := fun pos => kVar (z := zOf P w K mg base xc (OC K) ["_law_script", "_law_root", "_law_many", "_law_value", "_law_names", "_law_due_here", "_law_k"] "_law_due" (defScope (top 27)) (He.ga K "_law_due") cdv A outer s H E) 4 (x := "_law_names") rfl (.inl rfl) (by decide) (by decide) pos
  have v5 := fun pos => kVar (z := zOf P w K mg base xc (OC K) ["_law_script", "_law_root", "_law_many", "_law_value", "_law_names", "_law_due_here", "_law_k"] "_law_due" (defScope (top 27)) (He.ga K "_law_due") cdv A outer s H E) 5 (x := "_law_due_here") rfl (.inl rfl) (by decide) (by decide) pos
  have v6 := fun pos => kVar (z := zOf P w K mg base xc (OC K) ["_law_script", "_law_root", "_law_many", "_law_value", "_law_names", "_law_due_here", "_law_k"] "_law_due" (defScope (top 27)) (He.ga K "_law_due") cdv A outer s H E) 6 (x := "_law_k") rfl (.inl rfl) (by decide) (by decide) pos
  have w6 := fun pos => gNameOk c 6 (x := "_law_k") rfl (.inl rfl) (.inr rfl) pos
  have h_l_cell_at := H_l_cell_at (P := P) (w := w) (base := base) (xc := xc) T
  have h_l_name := H_l_name (P := P) (w := w) (base := base) (xc := xc) T
  exact (ssCons (sComp (own := [("_law_k", 6)]) 4 c (iR1Ok rfl T.fr_range (v2 _)) { blk := blkOk_by (N := ["_law_script", "_law_root", "_law_many", "_law_value", "_law_names", "_law_due_here", "_law_k"]) (sc := defScope (top 27)) (by decide +kernel), g := ⟨_, gw_name (by decide), fun _ _ _ _ _ => pg_name c.nd rfl (.inl rfl) (.inr rfl)⟩, t := ⟨_, st_yes, fun _ _ _ _ _ => pts_nil⟩, e := fun _ _ _ _ _ => (kCall wP (c.blk _ _ _ _ _) h_l_name (by decide) rfl (aCons (kCall wP (c.blk _ _ _ _ _) h_l_cell_at (by decide) rfl (aCons (kVar 0 rfl (.inr (.inl rfl)) (by decide) (by decide) _) (aCons kInt aNil))) (aCons (kVar 6 rfl (.inl rfl) (by decide) (by decide) _) aNil))) } rfl rfl (sw_true rfl rfl rfl (by decide +kernel))) (ssCons (sIfOk (tW (wAnd (B.tEq c (kMod (kDiv (kCall wP c h_l_cell_at (by decide) rfl (aCons (v0 _) (aCons kInt aNil))) kInt) kInt) kInt) (wAnd1 (B.tGt (v1 _) kInt)))) (ssOne (sRetOk (kTup (aCons (kTup aNil) (aCons (kTup (aCons (kStr [101, 97, 114, 108, 121]) (aCons (kIx c (v4 _) (kSub (v1 _) kInt)) (aCons kInt (aCons kInt aNil))))) aNil))))) ssNil) (ssCons (sSetOk c 5 (kLstC aNil) rfl (.inl rfl) (.inr rfl)) (ssCons (sIfOk (B.tEq c (kMod (kDiv (kCall wP c h_l_cell_at (by decide) rfl (aCons (v0 _) (aCons kInt aNil))) kInt) kInt) kInt) (ssOne (sXOk (kAppend (v5 _) (kTup (aCons (kStr [115, 97, 121]) (aCons kInt (aCons (kIx c (v4 _) (kSub (v2 _) kInt)) (aCons kInt aNil)))))))) ssNil) (ssCons (sIfOk (B.tEq c (kMod (kCall wP c h_l_cell_at (by decide) rfl (aCons (v0 _) (aCons kInt aNil))) kInt) kInt) (ssOne (sXOk (kAppend (v5 _) (kTup (aCons (kStr [116, 97, 107, 101]) (aCons (v3 _) (aCons (kIx c (v4 _) (kSub (v2 _) kInt)) (aCons kInt aNil)))))))) ssNil) (ssCons (sXOk (kAppend (v5 _) (kTup (aCons (kStr [115, 97, 121]) (aCons (v3 _) (aCons (kIx c (v4 _) (kSub (v2 _) kInt)) (aCons kInt aNil))))))) (ssCons (sForOk c (iR2Ok rfl T.fr_range (v1 _) (kSub (v2 _) kInt)) (w6 _) (ssKill [6] (ssOne (sXOk (kAppend (v5 _) (kTup (aCons (kStr [115, 97, 121]) (aCons (v3 _) (aCons (kIx c (v4 _) (kSub (kSub (kAdd (v1 _) (v2 _)) kInt) (v6 _))) (aCons kInt aNil)))))))))) (ssOne (sRetOk (kTup (aCons (kTuple rfl T.fr_tuple (v5 _)) (aCons kNon aNil))))))))))))
theorem sc_law_ : FnScope ["_law_script", "_law_many", "_law_parts", "_law_told", "_law_value", "_law_root", "_law_names", "_law_walk", "_law_k", "_law_key", "_law_found"] ["_law_script"] (defScope (top 29)) := ⟨rfl, rfl, rfl, by decide +kernel, rfl, by decide +kernel, by decide +kernel⟩
theorem H_law_ (T : Tx K mg) : FnB P w K mg base xc (OC K) 70 "law" ["_law_script"] law_ := by
  obtain ⟨fd, F⟩ := T.d_law
  refine fnF (k := 69) (N := ["_law_script", "_law_many", "_law_parts", "_law_told", "_law_value", "_law_root", "_law_names", "_law_walk", "_law_k", "_law_key", "_law_found"]) T.g_law F (fun _ _ _ _ _ _ us hl => match us, hl with | [_], _ => rfl) sc_law_ (by decide) fun cdv A outer s H E c => ?_
  have v0 := fun pos => kVar (z := zOf P w K mg base xc (OC K) ["_law_script", "_law_many", "_law_parts", "_law_told", "_law_value", "_law_root", "_law_names", "_law_walk", "_law_k", "_law_key", "_law_found"] "law" (defScope (top 29)) (He.ga K "law") cdv A outer s H E) 0 (x := "_law_script") rfl (.inr (.inl rfl)) (by decide) (by decide) pos
  have v1 := fun pos => kVar (z := zOf P w K mg base xc (OC K) ["_law_script", "_law_many", "_law_parts", "_law_told", "_law_value", "_law_root", "_law_names", "_law_walk", "_law_k", "_law_key", "_law_found"] "law" (defScope (top 29)) (He.ga K "law") cdv A outer s H E) 1 (x := "_law_many") rfl (.inr (.inl rfl)) (by decide) (by decide) pos
  have v2 := fun pos => kVar (z := zOf P w K mg base xc (OC K) ["_law_script", "_law_many", "_law_parts", "_law_told", "_law_value", "_law_root", "_law_names", "_law_walk", "_law_k", "_law_key", "_law_found"] "law" (defScope (top 29)) (He.ga K "law") cdv A outer s H E) 2 (x := "_law_parts") rfl (.inl rfl) (by decide) (by decide) pos
  have v3 := fun pos => kVar (z := zOf P w K mg base xc (OC K) ["_law_script", "_law_many", "_law_parts", "_law_told", "_law_value", "_law_root", "_law_names", "_law_walk", "_law_k", "_law_key", "_law_found"] "law" (defScope (top 29)) (He.ga K "law") cdv A outer s H E) 3 (x := "_law_told") rfl (.inl rfl) (by decide) (by decide) pos
  have v4 := fun pos => kVar (z := zOf P w K mg base xc (OC K) ["_law_script", "_law_many", "_law_parts", "_law_told", "_law_value", "_law_root", "_law_names", "_law_walk", "_law_k", "_law_key", "_law_found"] "law" (defScope (top 29)) (He.ga K "law") cdv A outer s H E) 4 (x := "_law_value") rfl (.inl rfl) (by decide) (by decide) pos
  have v5 := fun pos => kVar (z := zOf P w K mg base xc (OC K) ["_law_script", "_law_many", "_law_parts", "_law_told", "_law_value", "_law_root", "_law_names", "_law_walk", "_law_k", "_law_key", "_law_found"] "law" (defScope (top 29)) (He.ga K "law") cdv A outer s H E) 5 (x := "_law_root") rfl (.inl rfl) (by decide) (by decide) pos
  have v6 := fun pos => kVar (z := zOf P w K mg base xc (OC K) ["_law_script", "_law_many", "_law_parts", "_law_told", "_law_value", "_law_root", "_law_names", "_law_walk", "_law_k", "_law_key", "_law_found"] "law" (defScope (top 29)) (He.ga K "law") cdv A outer s H E) 6 (x := "_law_names") rfl (.inl rfl) (by decide) (by decide) pos
  have v7 := fun pos => kVar (z := zOf P w K mg base xc (OC K) ["_law_script", "_law_many", "_law_parts", "_law_told", "_law_value", "_law_root", "_law_names", "_law_walk", "_law_k", "_law_key", "_law_found"] "law" (defScope (top 29)) (He.ga K "law") cdv A outer s H E) 7 (x := "_law_walk") rfl (.inl rfl) (by decide) (by decide) pos
  have v8 := fun pos => kVar (z := zOf P w K mg base xc (OC K) ["_law_script", "_law_many", "_law_parts", "_law_told", "_law_value", "_law_root", "_law_names", "_law_walk", "_law_k", "_law_key", "_law_found"] "law" (defScope (top 29)) (He.ga K "law") cdv A outer s H E) 8 (x := "_law_k") rfl (.inl rfl) (by decide) (by decide) pos
  have w8 := fun pos => gNameOk c 8 (x := "_law_k") rfl (.inl rfl) (.inr rfl) pos
  have v9 := fun pos => kVar (z := zOf P w K mg base xc (OC K) ["_law_script", "_law_many", "_law_parts", "_law_told", "_law_value", "_law_root", "_law_names", "_law_walk", "_law_k", "_law_key", "_law_found"] "law" (defScope (top 29)) (He.ga K "law") cdv A outer s H E) 9 (x := "_law_key") rfl (.inl rfl) (by decide) (by decide) pos
  have v10 := fun pos => kVar (z := zOf P w K mg base xc (OC K) ["_law_script", "_law_many", "_law_parts", "_law_told", "_law_value", "_law_root", "_law_names", "_law_walk", "_law_k", "_law_key", "_law_found"] "law" (defScope (top 29)) (He.ga K "law") cdv A outer s H E) 10 (x := "_law_found") rfl (.inl rfl) (by decide) (by decide) pos
  have h_m_PartsWalk___init__K := H_m_PartsWalk___init__K (P := P) (w := w) (base := base) (xc := xc) T
  have h_m_PartsWalk_key_of := H_m_PartsWalk_key_of (P := P) (w := w) (base := base) (xc := xc) T
  have h_l_cell_at := H_l_cell_at (P := P) (w := w) (base := base) (xc := xc) T
  have h_l_due := H_l_due (P := P) (w := w) (base := base) (xc := xc) T
  have h_l_kinds := H_l_kinds (P := P) (w := w) (base := base) (xc := xc) T
  have h_l_name := H_l_name (P := P) (w := w) (base := base) (xc := xc) T
  have h_l_number := H_l_number (P := P) (w := w) (base := base) (xc := xc) T
  have h_l_own := H_l_own (P := P) (w := w) (base := base) (xc := xc) T
  have h_l_rows := H_l_rows (P := P) (w := w) (base := base) (xc := xc) T
  have h_l_whole := H_l_whole (P := P) (w := w) (base := base) (xc := xc) T
  have h_p_run := H_p_run (P := P) (w := w) (base := base) (xc := xc) T
  exact (ssCons (sSetOk c 1 (kAdd kInt (kMod (kCall wP c h_l_cell_at (by decide) rfl (aCons (v0 _) (aCons kInt aNil))) kInt)) rfl (.inr rfl) (.inl rfl)) (ssCons (sIfOk (B.tEq c (kMod (kDiv (kCall wP c h_l_cell_at (by decide) rfl (aCons (v0 _) (aCons kInt aNil))) kInt) kInt) kInt) (ssOne (sSetOk c 1 kInt rfl (.inr rfl) (.inl rfl))) ssNil) (ssCons (sCompC (own := [("_law_k", 8)]) 2 c (iR1Ok rfl T.fr_range (v1 _)) { blk := blkOk_by (N := ["_law_script", "_law_many", "_law_parts", "_law_told", "_law_value", "_law_root", "_law_names", "_law_walk", "_law_k", "_law_key", "_law_found"]) (sc := defScope (top 29)) (by decide +kernel), g := ⟨_, gw_name (by decide), fun _ _ _ _ _ => pg_name c.nd rfl (.inl rfl) (.inr rfl)⟩, t := ⟨_, st_yes, fun _ _ _ _ _ => pts_nil⟩, e := fun _ _ _ _ _ => (kTup (aCons (kCall wP (c.blk _ _ _ _ _) h_l_name (by decide) rfl (aCons (kCall wP (c.blk _ _ _ _ _) h_l_cell_at (by decide) rfl (aCons (kVar 0 rfl (.inr (.inl rfl)) (by decide) (by decide) _) (aCons kInt aNil))) (aCons (kVar 8 rfl (.inl rfl) (by decide) (by decide) _) aNil))) (aCons (kCall wP (c.blk _ _ _ _ _) h_l_rows (by decide) rfl (aCons (kVar 0 rfl (.inr (.inl rfl)) (by decide) (by decide) _) (aCons (kVar 8 rfl (.inl rfl) (by decide) (by decide) _) (aCons (kVar 1 rfl (.inr (.inl rfl)) (by decide) (by decide) _) aNil)))) aNil))) } rfl rfl (sw_true rfl rfl rfl (by decide +kernel))) (ssCons (sSetOk c 3 (kAdd (kSub (kMod (kDiv (kCall wP c h_l_cell_at (by decide) rfl (aCons (v0 _) (aCons kInt aNil))) kInt) (kSub (kMul kInt (kPow kInt kInt)) kInt)) (kPow kInt kInt)) kInt) rfl (.inl rfl) (.inr rfl)) (ssCons (sSetOk c 4 (kCall wP c h_l_number (by decide) rfl (aCons (v0 _) (aCons (kSub (v1 _) kInt) aNil))) rfl (.inl rfl) (.inr rfl)) (ssCons (sIfOk (B.tEq c (kMod (kCall wP c h_l_cell_at (by decide) rfl (aCons (v0 _) (aCons kInt aNil))) kInt) kInt) (ssOne (sSetOk c 4 (v3 _) rfl (.inl rfl) (.inr rfl))) ssNil) (ssCons (sSetOk c 5 (kMod (kCall wP c h_l_cell_at (by decide) rfl (aCons (v0 _) (aCons kInt aNil))) (v1 _)) rfl (.inl rfl) (.inr rfl)) (ssCons (sIfOk (B.tEq c (kMod (kDiv (kCall wP c h_l_cell_at (by decide) rfl (aCons (v0 _) (aCons kInt aNil))) kInt) kInt) kInt) (ssOne (sXOk (kReverse (v2 _)))) ssNil) (ssCons (sComp (own := [("_law_k", 8)]) 6 c (iR1Ok rfl T.fr_range (v1 _)) { blk := blkOk_by (N := ["_law_script", "_law_many", "_law_parts", "_law_told", "_law_value", "_law_root", "_law_names", "_law_walk", "_law_k", "_law_key", "_law_found"]) (sc := defScope (top 29)) (by decide +kernel), g := ⟨_, gw_name (by decide), fun _ _ _ _ _ => pg_name c.nd rfl (.inl rfl) (.inr rfl)⟩, t := ⟨_, st_yes, fun _ _ _ _ _ => pts_nil⟩, e := fun _ _ _ _ _ => (kCall wP (c.blk _ _ _ _ _) h_l_name (by decide) rfl (aCons (kCall wP (c.blk _ _ _ _ _) h_l_cell_at (by decide) rfl (aCons (kVar 0 rfl (.inr (.inl rfl)) (by decide) (by decide) _) (aCons kInt aNil))) (aCons (kVar 8 rfl (.inl rfl) (by decide) (by decide) _) aNil))) } rfl rfl (sw_true rfl rfl rfl (by decide +kernel))) (ssCons (sSetOk c 7 (kMake c T.mk_PartsWalk h_m_PartsWalk___init__K (by decide) rfl T.g_PartsWalk (aCons (kTuple rfl T.fr_tuple (v2 _)) aNil)) rfl (.inl rfl) (.inr rfl)) (ssCons (sForOk c (iR1Ok rfl T.fr_range (v1 _)) (w8 _) (ssKill [8, 9] (ssCons (sSetOk c 9 (kMeth c [107, 101, 121, 95, 111, 102] rfl T.cl_PartsWalk T.me_PartsWalk_key_of h_m_PartsWalk_key_of (by decide) (v7 _) (aCons (kIx c (v6 _) (v8 _)) (aCons (kCall wP c h_l_own (by decide) rfl (aCons (v0 _) (aCons (v8 _) aNil))) aNil))) rfl (.inl rfl) (.inr rfl)) (ssOne (sIfOk (tW (wOr (tNotT (tVal (kIsI .tuple rfl rfl T.fr_isinstance rfl T.fr_tuple (v9 _)))) (wOr (B.tNe c (v9 _) (kTup (aCons (kIx c (v6 _) (kSub (v1 _) kInt)) (aCons kInt aNil)))) (wOr1 (tNotT (tVal (kCall wP c h_l_whole (by decide) rfl (aCons (kIx c (v9 _) kInt) aNil)))))))) (ssOne (sRetOk kBl)) ssNil))))) (ssCons (sForOk c (iSeqOk (kLst (aCons (v5 _) (aCons (kMod (kAdd (v5 _) kInt) (v1 _)) (aCons (v5 _) aNil))))) (w8 _) (ssKill [8, 10] (ssCons (sSetOk c 10 (kCall wP c h_p_run (by decide) rfl (aCons (kTuple rfl T.fr_tuple (v2 _)) (aCons (kIx c (v6 _) (v8 _)) (aCons (kTup (aCons (v3 _) (aCons kInt aNil))) aNil)))) rfl (.inl rfl) (.inr rfl)) (ssOne (sIfOk (tW (wOr (tNotT (tVal (kCall wP c h_l_kinds (by decide) rfl (aCons (v10 _) aNil)))) (wOr1 (B.tNe c (v10 _) (kCall wP c h_l_due (by decide) rfl (aCons (v0 _) (aCons (v8 _) (aCons (v1 _) (aCons (v4 _) aNil))))))))) (ssOne (sRetOk kBl)) ssNil))))) (ssOne (sRetOk kBl))))))))))))))
end
abbrev R : PySem.W.OpenRow := PySem.W.OpenLaw.row PySem.Challenge.rw_bundlehouse_k24_names_given_on
abbrev hk : PySem.W.Hook := He.hookD 6 fa fn
def ob (s : PySem.W.SharedT) : He.AlD := He.obsDG 6 fa fn (HandSHeadRun.getT s)
theorem ob_eq (s : PySem.W.SharedT) : ob s = hk.obs s.abs := He.obsDG_eq (HandSHeadRun.getT_eq s)
def names0 : List PySem.Str := ["sum_names", "read_names", "rows_of", "made_by", "made_in", "brought_from", "given_as", "onward", "maker", "Trail", "value_of", "when_of", "Walk", "PartsWalk", "run", "_law_cell_at", "_law_whole", "_law_name", "_law_cell_of", "_law_own", "_law_given", "_law_number", "_law_rows", "_law_due", "_law_kinds"]
def names : List PySem.Str := names0
theorem run (w : World) : HandSHeadRun.RunEq R (PySem.W.view R.prog [29]) hk ob 6000 names w := by
  intro os
  kernel_rfl
end Rw_bundlehouse_k24_names_given_on
open PySem PySem.W PySem.Calls PyProof.Rows
set_option maxRecDepth 100000 in
set_option maxHeartbeats 8000000 in
theorem PySem.Challenge.cw_bundlehouse_k24_names_given_on_holds : PySem.Challenge.rw_bundlehouse_k24_names_given_on.Holds := by
  w_on; o_law
  refine HandSHeadRun.head_any (r := OpenLaw.row PySem.Challenge.rw_bundlehouse_k24_names_given_on) (q := view (OpenLaw.row PySem.Challenge.rw_bundlehouse_k24_names_given_on).prog [29]) (H := Rw_bundlehouse_k24_names_given_on.hk) (ob := Rw_bundlehouse_k24_names_given_on.ob) (M := 6000) (loose := Rw_bundlehouse_k24_names_given_on.names) (d := HandSHeadRun.topDef (OpenLaw.row PySem.Challenge.rw_bundlehouse_k24_names_given_on).prog 29) (kwd := []) Rw_bundlehouse_k24_names_given_on.ob_eq
    (by kernel_rfl) (fun s => by kernel_rfl) Rw_bundlehouse_k24_names_given_on.run (by kernel_rfl) (by kernel_rfl) (by kernel_rfl) (by rfl) (by first | assumption | decide +kernel) (by decide +kernel) ⟨rfl, rfl, rfl, rfl, rfl, by decide +kernel⟩ ?hw ?hc
  case hw => w_witness2
  case hc =>
    refine L2.walk_ofE (l := PySem.Challenge.rw_bundlehouse_k24_names_given_on) (n := 63) (k := 70) (x := "_law_script") (CX := L2.CX0) rfl (by decide) (by kernel_rfl) ⟨rfl, by decide, by decide⟩ ?F (fun _ _ _ _ z => z)
    intro w mg fa h Y G hmg0
    obtain ⟨K, KX, c⟩ := Y
    have hmg : mg ("law" : PySem.Str) = some (.ref fa) := by
      have e : (HandSHeadRun.topDef (OpenLaw.row PySem.Challenge.rw_bundlehouse_k24_names_given_on).prog 29).name = ("law" : PySem.Str) := by kernel_rfl
      rw [← e]
      exact hmg0
    exact B.law_endO (fun _ _ => .none) Rw_bundlehouse_k24_names_given_on.OC KX G hmg c Rw_bundlehouse_k24_names_given_on.tx_of (fun T => T.d_law) (fun T => T.g_law) (fun _ _ _ _ _ _ us hl => match us, hl with | [_], _ => rfl) (fun T base => Rw_bundlehouse_k24_names_given_on.H_law_ (xc := fun _ => .none) (base := base) T) B.law_true
